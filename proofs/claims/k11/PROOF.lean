import PyProof.Rows.All
import Wide.All
import OpenK.AllK
import Wide.FinOn
import HandS.List
import HandS.Comp
import HandS.Dict
import HandS.Iter
import HandS.Text
import HandS.Words
import HandS.WordsList
import KE.KDictKeyed
import HandS.Exc
import HandS.Wide
import HandS.IsInst
import HandS.TupAny
import HandS.Deep
import HandS.Style
import HandS.Flow
import HandS.Strs
import HandS.SetKeys
import HandS.More
import HandS.StrMore
import HandS.RaiseMore
import HandS.Zip
import KE.GoesEnum
import HandS.Ends
import HandS.Conv
import KE.KEqNest
import HandS.TupSets
import PyProof.Rows.StrMeet
import HandS.SortOrd
import HandS.TupMul
import KE.KDictZip
import HandS.CallLocal
import HandS.WrittenGet
import HandS.SortInts
import HandS.TryOnly
import KE.KDictDisplayH
import HandS.Rev
import KE.SortData
import KE.DataMinMax
import PyProof.Rows.RowBridgeK
import HandS.ListItems
import KE.KDictPairs
import HandS.ExcInit
import HandS.ExcOwn
import HandS.ExcIs
import HandS.WordsExc
import HandS.ExcValue
import HandS.ExcField
import PyProof.ReprReads
import PyProof.ListStr
import PyProof.Rows.StrOver
import PyProof.StrOps2
import PyProof.ReprBulk
import KE.IntTextLaws
import PySem.Challenge.RW_calledroom_k11_bounds_of_worlds
set_option Elab.async false
set_option linter.all false
set_option maxRecDepth 100000
set_option autoImplicit false
namespace Mw
open PySem PySem.Spec L2
inductive Ty where
  | int | bool | str | tup | lst | dic
  deriving DecidableEq
def Ty.name : Ty → String
  | .int => "int" | .bool => "bool" | .str => "str" | .tup => "tuple" | .lst => "list" | .dic => "dict"
inductive PV where
  | non | bl (b : Bool) | int (i : Int) | str (x : Str) | tup (xs : List PV) | lst (xs : List PV) | dic (kvs : List (Key × PV)) | scr (ns : List Int) | ref (n : Nat) | glo (x : Str) | ty (t : Ty) | dik (kvs : List (Key × PV))
inductive Slot where
  | no | val (p : PV) | own (p : PV)
inductive Cell where
  | dead | lst (xs : List PV) | dic (ks : List (Key × PV)) | ins (c : Str) (fs : List (Str × PV)) | potO (k n : Nat) | potI | inv (P : List V → Prop) | nd (kvs : List (PV × PV)) | exc (c : Str) (fs : List (Str × Int)) | td (hs : NestedKey → Int) (kvs : List (PV × PV))
mutual
def nh : NestedKey → Int
  | .none => reduceHash 0xFCA86420
  | .num i => hashInt i
  | .text _ => 0
  | .tup ks => reduceHash (Builtin.Tuple.tupleHashOf (nhs ks))
def nhs : List NestedKey → List Int
  | [] => []
  | k :: ks => nh k :: nhs ks
end
mutual
def nlow : NestedKey → Bool
  | .none => true
  | .num _ => true
  | .text _ => false
  | .tup ks => nlows ks
def nlows : List NestedKey → Bool
  | [] => true
  | k :: ks => nlow k && nlows ks
end
mutual
def nkP : PV → Option NestedKey
  | .non => some .none
  | .bl b => some (.num (if b = true then 1 else 0))
  | .int i => some (.num i)
  | .str x => some (.text x)
  | .tup xs => (nkPs xs).map .tup
  | _ => none
def nkPs : List PV → Option (List NestedKey)
  | [] => some []
  | x :: xs => (nkP x).bind fun k => (nkPs xs).map fun ks => k :: ks
end
def DN (a : Addr) (es : List (NestedKey × Addr × V)) : HO := .ext fun h => (a == sysModules) = false ∧ es.length ≤ sizeLine ∧ (es.map (·.1)).Nodup ∧
  ∃ (xs : List (NestedKey × Addr × Value)) (o : Obj) (ds : Array DictEntry) (ep : Nat), Paired (fun (p : NestedKey × Addr × V) (q : NestedKey × Addr × Value) => p.1 = q.1 ∧ p.2.1 = q.2.1 ∧ RelV p.2.2 q.2.2) es xs ∧
    h.get? a = some o ∧ o.ExactDict ∧ o.data = .dict ds ep ∧ ds.toList = xs.map fun x => ⟨nh x.1, .ref x.2.1, x.2.2⟩
def DT (hs : NestedKey → Int) (a : Addr) (es : List (NestedKey × Addr × V)) : HO := .ext fun h => (a == sysModules) = false ∧ es.length ≤ sizeLine ∧ (es.map (·.1)).Nodup ∧
  ∃ (xs : List (NestedKey × Addr × Value)) (o : Obj) (ds : Array DictEntry) (ep : Nat), Paired (fun (p : NestedKey × Addr × V) (q : NestedKey × Addr × Value) => p.1 = q.1 ∧ p.2.1 = q.2.1 ∧ RelV p.2.2 q.2.2) es xs ∧
    h.get? a = some o ∧ o.ExactDict ∧ o.data = .dict ds ep ∧ ds.toList = xs.map fun x => ⟨hs x.1, .ref x.2.1, x.2.2⟩
abbrev En := List Slot
abbrev Hi := List Cell
structure Wd where
  fz : Addr → Prop
  mu : List Addr
def ExcH (cls : Value) (d : Option Addr) (a : Addr) : HO := .ext fun h => ∃ (oe : Obj) (vs : Array Value), h.get? a = some oe ∧ Zc cls d oe ∧ oe.data = .fields vs
section
variable (K : PySem.W.Frag) (mg : Str → Option Value) (W : Wd) (H : Hp)
def XTup (o : Obj) : Prop := o.cls = .type "tuple" ∧ o.dict = none
def SqX (a : Addr) (xs : List V) : Prop := (∃ o, XTup o ∧ H a = some (.frz o (.tup xs))) ∨ ∃ (o : Obj) (its : Array Value) (n : Nat), K.lookup a = some o ∧ o.cls = .type "tuple" ∧ o.dict = none ∧ o.data = .seq its n ∧ its.size ≤ sizeLine ∧ Vals xs its.toList
theorem SqX.sq {K : PySem.W.Frag} {H : Hp} {a : Addr} {xs : List V} (h : SqX K H a xs) : SqT K H a xs := by
  rcases h with ⟨o, _, h⟩ | ⟨o, its, n, h1, h2, _, h3⟩
  · exact .inl (.inr ⟨o, h⟩)
  · exact .inr ⟨o, its, n, h1, h2, h3⟩
instance sqxCoe {K : PySem.W.Frag} {H : Hp} {a : Addr} {xs : List V} : Coe (SqX K H a xs) (SqT K H a xs) := ⟨SqX.sq⟩
def Scr (a : Addr) (xs : List V) : Prop := (∃ o, H a = some (.frz o (.lst xs))) ∨ ∃ (o : Obj) (its : Array Value) (n : Nat), K.lookup a = some o ∧ o.cls = .type "list" ∧ o.dict = none ∧ o.data = .seq its n ∧ its.size ≤ sizeLine ∧ Vals xs its.toList
mutual
def VR : PV → V → Prop
  | .non, v => v = .non
  | .bl b, v => v = .bl b
  | .int i, v => v = .int i
  | .str x, v => v = .str x
  | .tup xs, v => ∃ a vs, v = .ref a ∧ SqX K H a vs ∧ VRs xs vs
  | .lst xs, v => ∃ a vs, v = .ref a ∧ W.fz a ∧ H a = some (.lst vs) ∧ VRs xs vs
  | .dic kvs, v => ∃ a ks, v = .ref a ∧ W.fz a ∧ H a = some (.dK ks) ∧ VRk kvs ks
  | .scr ns, v => ∃ a, v = .ref a ∧ Scr K H a (ns.map V.int)
  | .ref n, v => ∃ a, v = .ref a ∧ W.mu[n]? = some a
  | .glo x, v => ∃ u, mg x = some u ∧ RelV v u
  | .ty t, v => v = .ty t.name
  | .dik kvs, v => ∃ a o ks, v = .ref a ∧ H a = some (.frz o (.dK ks)) ∧ VRk kvs ks
def VRs : List PV → List V → Prop
  | [], vs => vs = []
  | p :: ps, vs => ∃ v r, vs = v :: r ∧ VR p v ∧ VRs ps r
def VRk : List (Key × PV) → List (Key × V) → Prop
  | [], vs => vs = []
  | (k, p) :: ps, vs => ∃ v r, vs = (k, v) :: r ∧ VR p v ∧ VRk ps r
end
def VRf : List (Str × PV) → List (Str × V) → Prop
  | [], vs => vs = []
  | (k, p) :: ps, vs => ∃ v r, vs = (k, v) :: r ∧ VR K mg W H p v ∧ VRf ps r
def VRn : List (PV × PV) → List (NestedKey × Addr × V) → Prop
  | [], vs => vs = []
  | (p, q) :: ps, vs => ∃ k b v r, vs = (k, b, v) :: r ∧ nkP p = some k ∧ nlow k = true ∧ k.depth ≤ 8 ∧ VR K mg W H p (.ref b) ∧ VR K mg W H q v ∧ VRn ps r
def VRt : List (PV × PV) → List (NestedKey × Addr × V) → Prop
  | [], vs => vs = []
  | (p, q) :: ps, vs => ∃ k b v r, vs = (k, b, v) :: r ∧ nkP p = some k ∧ k.depth ≤ 8 ∧ VR K mg W H p (.ref b) ∧ VR K mg W H q v ∧ VRt ps r
def OwnAt : PV → Addr → Prop
  | .lst xs, a => ∃ vs, H a = some (.lst vs) ∧ VRs K mg W H xs vs
  | .dic ks, a => ∃ vs, H a = some (.dK vs) ∧ VRk K mg W H ks vs
  | _, _ => False
def CellOk : Cell → Addr → Prop
  | .dead, _ => True
  | .lst xs, a => ∃ vs, H a = some (.lst vs) ∧ VRs K mg W H xs vs
  | .dic xs, a => ∃ vs, H a = some (.dK vs) ∧ VRk K mg W H xs vs
  | .potO k n, a => ∃ b sd ct, W.mu[k]? = some b ∧ H a = some (.lst [.ref b, .int sd, .int ct]) ∧ 0 ≤ sd ∧ sd < 2305843009213693951 ∧ 0 ≤ ct ∧ ct + (n : Int) ≤ 1099511627776
  | .potI, a => ∃ is : List Int, H a = some (.lst (is.map V.int)) ∧ ∀ i ∈ is, 0 ≤ i
  | .inv P, a => ∃ vs, H a = some (.lst vs) ∧ P vs
  | .ins c fs, a => ∃ C dx gs, mg c = some (.ref C) ∧ H a = some (.ins C dx gs) ∧ VRf K mg W H fs gs
  | .exc c fs, a => ∃ C d, mg c = some (.ref C) ∧ H a = some (ExcH (.ref C) d a) ∧ ((fs = [] ∧ d = none) ∨ ∃ dd, d = some dd ∧ H dd = some (.xd (fs.map fun x => (x.1, V.int x.2))))
  | .nd kvs, a => (kvs = [] ∧ H a = some (.dK [])) ∨ ∃ es, H a = some (DN a es) ∧ VRn K mg W H kvs es
  | .td hs kvs, a => (kvs = [] ∧ H a = some (.dK [])) ∨ ∃ es, H a = some (DT hs a es) ∧ VRt K mg W H kvs es
end
def Live (et : Hi) (W : Wd) (a : Addr) : Prop := ∃ (i : Nat) (c : Cell), et[i]? = some c ∧ c ≠ Cell.dead ∧ W.mu[i]? = some a
def Own (ep : En) (sg : L2.St) (a : Addr) : Prop := ∃ (i : Nat) (p : PV), ep[i]? = some (Slot.own p) ∧ sg[i]? = some (some (V.ref a))
structure Cel (K : PySem.W.Frag) (mg : Str → Option Value) (H : Hp) (et : Hi) (W : Wd) : Prop where
  len : et.length = W.mu.length
  ok : ∀ (i : Nat) (c : Cell) (a : Addr), et[i]? = some c → W.mu[i]? = some a → CellOk K mg W H c a
  inj : ∀ (i j : Nat) (c d : Cell) (a : Addr), et[i]? = some c → et[j]? = some d → c ≠ .dead → d ≠ .dead → W.mu[i]? = some a → W.mu[j]? = some a → i = j
  fzl : ∀ a, W.fz a → ¬ Live et W a
  fzh : ∀ a, W.fz a → H a ≠ none
def SlotOk (K : PySem.W.Frag) (mg : Str → Option Value) (W : Wd) (H : Hp) : Slot → Option V → Prop
  | .no, _ => True
  | .val p, o => ∃ v, o = some v ∧ VR K mg W H p v
  | .own p, o => ∃ a, o = some (.ref a) ∧ OwnAt K mg W H p a
structure Slt (K : PySem.W.Frag) (mg : Str → Option Value) (sg : L2.St) (ep : En) (H : Hp) (et : Hi) (W : Wd) : Prop where
  len : ep.length = sg.length
  ok : ∀ (i : Nat) (s : Slot) (o : Option V), ep[i]? = some s → sg[i]? = some o → SlotOk K mg W H s o
  inj : ∀ (i j : Nat) (p q : PV) (a : Addr), ep[i]? = some (Slot.own p) → ep[j]? = some (Slot.own q) → sg[i]? = some (some (V.ref a)) → sg[j]? = some (some (V.ref a)) → i = j
  ofz : ∀ a, Own ep sg a → ¬ W.fz a
  oli : ∀ a, Own ep sg a → ¬ Live et W a
structure Ext (O : Addr → Prop) (H : Hp) (et : Hi) (W : Wd) (H' : Hp) (et' : Hi) (W' : Wd) : Prop where
  fz : ∀ a, W.fz a → W'.fz a
  nfz : ∀ a, W'.fz a → W.fz a ∨ H a = none ∨ O a
  mu : ∃ m, W'.mu = W.mu ++ m
  live : ∀ a, Live et' W' a → Live et W a ∨ H a = none
  keep : ∀ a o, H a = some o → ¬ Live et W a → ¬ O a → H' a = some o
  there : ∀ a, H a ≠ none → H' a ≠ none
def NoO : Addr → Prop := fun _ => False
theorem Ext.refl (O : Addr → Prop) (H : Hp) (et : Hi) (W : Wd) : Ext O H et W H et W :=
  ⟨fun _ h => h, fun _ h => .inl h, ⟨[], by simp⟩, fun _ h => .inl h, fun _ _ h _ _ => h, fun _ h => h⟩
theorem Ext.trans {O O' : Addr → Prop} {H H1 H2 : Hp} {et et1 et2 : Hi} {W W1 W2 : Wd} (x : Ext O H et W H1 et1 W1) (y : Ext O' H1 et1 W1 H2 et2 W2) (ho : ∀ a, O' a → O a ∨ H a = none) : Ext O H et W H2 et2 W2 where
  fz := fun a h => y.fz a (x.fz a h)
  nfz := fun a h => by
    have back : H1 a = none → H a = none := fun e => by
      cases q : H a with
      | none => rfl
      | some o => exact absurd e (x.there a (by rw [q]; simp))
    rcases y.nfz a h with h | h | h
    · exact x.nfz a h
    · exact .inr (.inl (back h))
    · rcases ho a h with h | h
      · exact .inr (.inr h)
      · exact .inr (.inl h)
  mu := by
    obtain ⟨m, e⟩ := x.mu
    obtain ⟨m', e'⟩ := y.mu
    exact ⟨m ++ m', by rw [e', e, List.append_assoc]⟩
  live := fun a h => by
    rcases y.live a h with h | h
    · exact x.live a h
    · refine .inr ?_
      cases q : H a with
      | none => rfl
      | some o => exact absurd h (x.there a (by rw [q]; simp))
  keep := fun a o h hl hO => by
    have h1 := x.keep a o h hl hO
    refine y.keep a o h1 (fun z => ?_) (fun z => ?_)
    · rcases x.live a z with z | z
      · exact hl z
      · rw [h] at z; cases z
    · rcases ho a z with z | z
      · exact hO z
      · rw [h] at z; cases z
  there := fun a h => y.there a (x.there a h)
theorem Ext.mono {O O' : Addr → Prop} {H H1 : Hp} {et et1 : Hi} {W W1 : Wd} (x : Ext O H et W H1 et1 W1) (ho : ∀ a, O a → O' a) : Ext O' H et W H1 et1 W1 :=
  ⟨x.fz, fun a h => (x.nfz a h).imp_right fun h => h.imp_right (ho a), x.mu, x.live, fun a o h hl hO => x.keep a o h hl fun z => hO (ho a z), x.there⟩
theorem Ext.mu_get {O : Addr → Prop} {H H1 : Hp} {et et1 : Hi} {W W1 : Wd} (x : Ext O H et W H1 et1 W1) {n : Nat} {a : Addr} (h : W.mu[n]? = some a) : W1.mu[n]? = some a := by
  obtain ⟨m, e⟩ := x.mu
  rw [e, List.getElem?_append_left (by exact (List.getElem?_eq_some_iff.mp h).1)]
  exact h
structure Stays (O : Addr → Prop) (H : Hp) (et : Hi) (W : Wd) : Prop where
  fz : ∀ a, W.fz a → ¬ Live et W a ∧ ¬ O a
  tup : ∀ a xs, H a = some (.tup xs) → ¬ Live et W a ∧ ¬ O a
  frz : ∀ a o u, H a = some (.frz o u) → ¬ Live et W a ∧ ¬ O a
  xd : ∀ a fs, H a = some (.xd fs) → ¬ Live et W a ∧ ¬ O a
theorem Rd.ext {O : Addr → Prop} {H H1 : Hp} {et et1 : Hi} {W W1 : Wd} (x : Ext O H et W H1 et1 W1) (s : Stays O H et W) {a : Addr} {xs : List V} (h : Rd H a (.tup xs)) : Rd H1 a (.tup xs) := by
  rcases h with h | ⟨o, h⟩
  · exact .inl (x.keep a _ h (s.tup a xs h).1 (s.tup a xs h).2)
  · exact .inr ⟨o, x.keep a _ h (s.frz a o _ h).1 (s.frz a o _ h).2⟩
theorem SqT.ext {K : PySem.W.Frag} {O : Addr → Prop} {H H1 : Hp} {et et1 : Hi} {W W1 : Wd} (x : Ext O H et W H1 et1 W1) (s : Stays O H et W) {a : Addr} {xs : List V} (h : SqT K H a xs) : SqT K H1 a xs := by
  rcases h with h | h
  · exact .inl (Rd.ext x s h)
  · exact .inr h
theorem SqX.ext {K : PySem.W.Frag} {O : Addr → Prop} {H H1 : Hp} {et et1 : Hi} {W W1 : Wd} (x : Ext O H et W H1 et1 W1) (s : Stays O H et W) {a : Addr} {xs : List V} (h : SqX K H a xs) : SqX K H1 a xs := by
  rcases h with ⟨o, ho, h⟩ | h
  · exact .inl ⟨o, ho, x.keep a _ h (s.frz a o _ h).1 (s.frz a o _ h).2⟩
  · exact .inr h
section
variable {K : PySem.W.Frag} {mg : Str → Option Value} {O : Addr → Prop} {H H1 : Hp} {et et1 : Hi} {W W1 : Wd}
mutual
theorem VR.ext (x : Ext O H et W H1 et1 W1) (s : Stays O H et W) : ∀ (p : PV) (v : V), VR K mg W H p v → VR K mg W1 H1 p v
  | .non, v, h => by unfold VR at *; exact h
  | .bl b, v, h => by unfold VR at *; exact h
  | .int i, v, h => by unfold VR at *; exact h
  | .str z, v, h => by unfold VR at *; exact h
  | .tup xs, v, h => by
    unfold VR at *
    obtain ⟨a, vs, e, h1, h2⟩ := h
    exact ⟨a, vs, e, SqX.ext x s h1, VRs.ext x s xs vs h2⟩
  | .lst xs, v, h => by
    unfold VR at *
    obtain ⟨a, vs, e, h1, h2, h3⟩ := h
    exact ⟨a, vs, e, x.fz a h1, x.keep a _ h2 (s.fz a h1).1 (s.fz a h1).2, VRs.ext x s xs vs h3⟩
  | .dic ks, v, h => by
    unfold VR at *
    obtain ⟨a, vs, e, h1, h2, h3⟩ := h
    exact ⟨a, vs, e, x.fz a h1, x.keep a _ h2 (s.fz a h1).1 (s.fz a h1).2, VRk.ext x s ks vs h3⟩
  | .scr ns, v, h => by
    unfold VR at *
    obtain ⟨a, e, h⟩ := h
    refine ⟨a, e, ?_⟩
    rcases h with ⟨o, h⟩ | h
    · exact .inl ⟨o, x.keep a _ h (s.frz a o _ h).1 (s.frz a o _ h).2⟩
    · exact .inr h
  | .ref n, v, h => by
    unfold VR at *
    obtain ⟨a, e, h⟩ := h
    exact ⟨a, e, x.mu_get h⟩
  | .glo z, v, h => by unfold VR at *; exact h
  | .ty t, v, h => by unfold VR at *; exact h
  | .dik ks, v, h => by
    unfold VR at *
    obtain ⟨a, o, vs, e, h2, h3⟩ := h
    exact ⟨a, o, vs, e, x.keep a _ h2 (s.frz a o _ h2).1 (s.frz a o _ h2).2, VRk.ext x s ks vs h3⟩
theorem VRs.ext (x : Ext O H et W H1 et1 W1) (s : Stays O H et W) : ∀ (p : List PV) (v : List V), VRs K mg W H p v → VRs K mg W1 H1 p v
  | [], v, h => by unfold VRs at *; exact h
  | p :: ps, vs, h => by
    unfold VRs at *
    obtain ⟨v, r, e, h1, h2⟩ := h
    exact ⟨v, r, e, VR.ext x s p v h1, VRs.ext x s ps r h2⟩
theorem VRk.ext (x : Ext O H et W H1 et1 W1) (s : Stays O H et W) : ∀ (p : List (Key × PV)) (v : List (Key × V)), VRk K mg W H p v → VRk K mg W1 H1 p v
  | [], v, h => by unfold VRk at *; exact h
  | (k, p) :: ps, vs, h => by
    unfold VRk at *
    obtain ⟨v, r, e, h1, h2⟩ := h
    exact ⟨v, r, e, VR.ext x s p v h1, VRk.ext x s ps r h2⟩
end
theorem VRf.ext (x : Ext O H et W H1 et1 W1) (s : Stays O H et W) : ∀ (p : List (Str × PV)) (v : List (Str × V)), VRf K mg W H p v → VRf K mg W1 H1 p v
  | [], v, h => by unfold VRf at *; exact h
  | (k, p) :: ps, vs, h => by
    unfold VRf at *
    obtain ⟨v, r, e, h1, h2⟩ := h
    exact ⟨v, r, e, VR.ext x s p v h1, VRf.ext x s ps r h2⟩
theorem VRn.ext (x : Ext O H et W H1 et1 W1) (s : Stays O H et W) : ∀ (p : List (PV × PV)) (v : List (NestedKey × Addr × V)), VRn K mg W H p v → VRn K mg W1 H1 p v
  | [], v, h => by unfold VRn at *; exact h
  | (p, q) :: ps, vs, h => by
    unfold VRn at *
    obtain ⟨k, b, v, r, e, h1, h2, h3, h4, h5, h6⟩ := h
    exact ⟨k, b, v, r, e, h1, h2, h3, VR.ext x s p _ h4, VR.ext x s q v h5, VRn.ext x s ps r h6⟩
theorem VRt.ext (x : Ext O H et W H1 et1 W1) (s : Stays O H et W) : ∀ (p : List (PV × PV)) (v : List (NestedKey × Addr × V)), VRt K mg W H p v → VRt K mg W1 H1 p v
  | [], v, h => by unfold VRt at *; exact h
  | (p, q) :: ps, vs, h => by
    unfold VRt at *
    obtain ⟨k, b, v, r, e, h1, h3, h4, h5, h6⟩ := h
    exact ⟨k, b, v, r, e, h1, h3, VR.ext x s p _ h4, VR.ext x s q v h5, VRt.ext x s ps r h6⟩
def Chg : HO → Prop
  | .lst _ => True
  | .dK _ => True
  | .ins _ _ _ => True
  | .ext _ => True
  | _ => False
theorem Cel.live_is (c : Cel K mg H et W) {a : Addr} (h : Live et W a) : ∃ o, H a = some o ∧ Chg o := by
  obtain ⟨i, d, e1, e2, e3⟩ := h
  have q := c.ok i d a e1 e3
  cases d with
  | dead => exact absurd rfl e2
  | lst xs => obtain ⟨vs, h, _⟩ := q; exact ⟨_, h, trivial⟩
  | dic xs => obtain ⟨vs, h, _⟩ := q; exact ⟨_, h, trivial⟩
  | potO k n => obtain ⟨b, sd, ct, _, h, _⟩ := q; exact ⟨_, h, trivial⟩
  | potI => obtain ⟨is, h, _⟩ := q; exact ⟨_, h, trivial⟩
  | inv P => obtain ⟨vs, h, _⟩ := q; exact ⟨_, h, trivial⟩
  | nd kvs => rcases q with ⟨_, h⟩ | ⟨es, h, _⟩ <;> exact ⟨_, h, trivial⟩
  | td hs kvs => rcases q with ⟨_, h⟩ | ⟨es, h, _⟩ <;> exact ⟨_, h, trivial⟩
  | exc k fs => obtain ⟨C, d, _, h, _⟩ := q; exact ⟨_, h, trivial⟩
  | ins k fs => obtain ⟨C, dx, gs, _, h, _⟩ := q; exact ⟨_, h, trivial⟩
theorem Cel.stays0 (c : Cel K mg H et W) : Stays NoO H et W where
  fz := fun a h => ⟨c.fzl a h, id⟩
  tup := fun a xs h => ⟨fun z => by obtain ⟨o, q, k⟩ := c.live_is z; rw [h] at q; cases q; exact k, id⟩
  frz := fun a o u h => ⟨fun z => by obtain ⟨o, q, k⟩ := c.live_is z; rw [h] at q; cases q; exact k, id⟩
  xd := fun a fs h => ⟨fun z => by obtain ⟨o, q, k⟩ := c.live_is z; rw [h] at q; cases q; exact k, id⟩
theorem own_is {sg : L2.St} {ep : En} (s : Slt K mg sg ep H et W) {a : Addr} (h : Own ep sg a) : (∃ vs, H a = some (.lst vs)) ∨ ∃ ks, H a = some (.dK ks) := by
  obtain ⟨i, p, e1, e2⟩ := h
  obtain ⟨b, e, q⟩ := s.ok i _ _ e1 e2
  cases e
  unfold OwnAt at q
  split at q
  · obtain ⟨vs, h, _⟩ := q; exact .inl ⟨vs, h⟩
  · obtain ⟨vs, h, _⟩ := q; exact .inr ⟨vs, h⟩
  · cases q
theorem Slt.stays (c : Cel K mg H et W) {sg : L2.St} {ep : En} (s : Slt K mg sg ep H et W) : Stays (Own ep sg) H et W where
  fz := fun a h => ⟨c.fzl a h, fun z => s.ofz a z h⟩
  tup := fun a xs h => ⟨(c.stays0.tup a xs h).1, fun z => by rcases own_is s z with ⟨_, q⟩ | ⟨_, q⟩ <;> (rw [h] at q; cases q)⟩
  frz := fun a o u h => ⟨(c.stays0.frz a o u h).1, fun z => by rcases own_is s z with ⟨_, q⟩ | ⟨_, q⟩ <;> (rw [h] at q; cases q)⟩
  xd := fun a fs h => ⟨(c.stays0.xd a fs h).1, fun z => by rcases own_is s z with ⟨_, q⟩ | ⟨_, q⟩ <;> (rw [h] at q; cases q)⟩
theorem OwnAt.ext (x : Ext NoO H et W H1 et1 W1) (c : Cel K mg H et W) {p : PV} {a : Addr} (h : OwnAt K mg W H p a) (hl : ¬ Live et W a) : OwnAt K mg W1 H1 p a := by
  unfold OwnAt at *
  split at h
  · obtain ⟨vs, h1, h2⟩ := h; exact ⟨vs, x.keep a _ h1 hl id, VRs.ext x c.stays0 _ _ h2⟩
  · obtain ⟨vs, h1, h2⟩ := h; exact ⟨vs, x.keep a _ h1 hl id, VRk.ext x c.stays0 _ _ h2⟩
  · cases h
theorem OwnAt.there {p : PV} {a : Addr} (h : OwnAt K mg W H p a) : H a ≠ none := by
  unfold OwnAt at h
  split at h
  · obtain ⟨vs, h1, _⟩ := h; rw [h1]; simp
  · obtain ⟨vs, h1, _⟩ := h; rw [h1]; simp
  · cases h
theorem Slt.own_there {sg : L2.St} {ep : En} (s : Slt K mg sg ep H et W) {a : Addr} (h : Own ep sg a) : H a ≠ none := by
  rcases own_is s h with ⟨_, q⟩ | ⟨_, q⟩ <;> (rw [q]; simp)
theorem Slt.ext {sg : L2.St} {ep : En} (s : Slt K mg sg ep H et W) (c : Cel K mg H et W) (x : Ext NoO H et W H1 et1 W1) : Slt K mg sg ep H1 et1 W1 where
  len := s.len
  ok := fun i t o e1 e2 => by
    have q := s.ok i t o e1 e2
    cases t with
    | no => trivial
    | val p => obtain ⟨v, e, q⟩ := q; exact ⟨v, e, VR.ext x c.stays0 p v q⟩
    | own p => obtain ⟨a, e, q⟩ := q; exact ⟨a, e, OwnAt.ext x c q (s.oli a ⟨i, p, e1, by rw [e2, e]⟩)⟩
  inj := s.inj
  ofz := fun a h z => by
    rcases x.nfz a z with z | z | z
    · exact s.ofz a h z
    · exact s.own_there h z
    · exact z
  oli := fun a h z => by
    rcases x.live a z with z | z
    · exact s.oli a h z
    · exact s.own_there h z
end
end Mw
namespace Mw
open PySem PySem.Spec L2
def Pk (K : PySem.W.Frag) (mg : Str → Option Value) (p : PV) (v : V) (H : Hp) (et : Hi) (W : Wd) : Prop := VR K mg W H p v ∨ ∃ a, v = .ref a ∧ ¬ Live et W a ∧ OwnAt K mg W H p a
abbrev EM (α : Type) := En → Hi → (α → Hi → Prop) → Prop
inductive Fl where
  | nx | rt (p : PV) | bk | ct
abbrev SM := En → Hi → (Fl → En → Hi → Prop) → Prop
abbrev Post (α : Type) := α → V → Hp → Hi → Wd → Hp → Hi → Wd → Prop
def pV (K : PySem.W.Frag) (mg : Str → Option Value) : Post PV := fun p v _ _ _ H' _ W' => VR K mg W' H' p v
def pP (K : PySem.W.Frag) (mg : Str → Option Value) : Post PV := fun p v _ _ _ H' et' W' => Pk K mg p v H' et' W'
def pN (K : PySem.W.Frag) (mg : Str → Option Value) : Post PV := fun p v H _ _ H' et' W' => ∃ a, v = .ref a ∧ H a = none ∧ ¬ W'.fz a ∧ ¬ Live et' W' a ∧ OwnAt K mg W' H' p a
section
variable {K : PySem.W.Frag} {mg : Str → Option Value} {H H1 : Hp} {et et1 : Hi} {W W1 : Wd}
theorem Pk.ext (x : Ext NoO H et W H1 et1 W1) (c : Cel K mg H et W) {p : PV} {v : V} (h : Pk K mg p v H et W) : Pk K mg p v H1 et1 W1 := by
  rcases h with h | ⟨a, e, hl, h⟩
  · exact .inl (VR.ext x c.stays0 p v h)
  · refine .inr ⟨a, e, fun z => ?_, OwnAt.ext x c h hl⟩
    rcases x.live a z with z | z
    · exact hl z
    · exact h.there z
theorem Ext.new {p : Addr} {o : HO} (hp : H p = none) (W' : Wd) (hm : W'.mu = W.mu) (h1 : ∀ a, W.fz a → W'.fz a) (h2 : ∀ a, W'.fz a → W.fz a ∨ a = p) : Ext NoO H et W (upd H p o) et W' where
  fz := h1
  nfz := fun a h => (h2 a h).imp_right fun e => .inl (by rw [e]; exact hp)
  mu := ⟨[], by rw [hm]; simp⟩
  live := fun a ⟨i, c, e1, e2, e3⟩ => .inl ⟨i, c, e1, e2, by rw [hm] at e3; exact e3⟩
  keep := fun a o' h _ _ => by rw [upd_ne (ne_of_none h hp)]; exact h
  there := fun a h => by
    by_cases e : a = p
    · rw [e, upd_same]; simp
    · rw [upd_ne e]; exact h
theorem Cel.not_live (c : Cel K mg H et W) {p : Addr} (hp : H p = none) : ¬ Live et W p := fun z => by
  obtain ⟨o, q, _⟩ := c.live_is z; rw [hp] at q; cases q
theorem CellOk.ext (x : Ext NoO H et W H1 et1 W1) (s : Stays NoO H et W) {d : Cell} {a : Addr} (h : CellOk K mg W H d a) (hk : d ≠ .dead → H1 a = H a) : CellOk K mg W1 H1 d a := by
  cases d with
  | dead => trivial
  | lst xs =>
    obtain ⟨vs, h1, h2⟩ := h
    exact ⟨vs, by rw [hk (by simp)]; exact h1, VRs.ext x s _ _ h2⟩
  | dic xs =>
    obtain ⟨vs, h1, h2⟩ := h
    exact ⟨vs, by rw [hk (by simp)]; exact h1, VRk.ext x s _ _ h2⟩
  | potO k n =>
    obtain ⟨b, sd, ct, h0, h1, h2⟩ := h
    exact ⟨b, sd, ct, x.mu_get h0, by rw [hk (by simp)]; exact h1, h2⟩
  | potI =>
    obtain ⟨is, h1, h2⟩ := h
    exact ⟨is, by rw [hk (by simp)]; exact h1, h2⟩
  | inv P =>
    obtain ⟨vs, h1, h2⟩ := h
    exact ⟨vs, by rw [hk (by simp)]; exact h1, h2⟩
  | nd kvs =>
    rcases h with ⟨h0, h1⟩ | ⟨es, h1, h2⟩
    · exact .inl ⟨h0, by rw [hk (by simp)]; exact h1⟩
    · exact .inr ⟨es, by rw [hk (by simp)]; exact h1, VRn.ext x s _ _ h2⟩
  | td hs kvs =>
    rcases h with ⟨h0, h1⟩ | ⟨es, h1, h2⟩
    · exact .inl ⟨h0, by rw [hk (by simp)]; exact h1⟩
    · exact .inr ⟨es, by rw [hk (by simp)]; exact h1, VRt.ext x s _ _ h2⟩
  | exc c fs =>
    obtain ⟨C, d, h0, h1, h2⟩ := h
    exact ⟨C, d, h0, by rw [hk (by simp)]; exact h1, h2.imp_right fun ⟨dd, e, q⟩ => ⟨dd, e, x.keep dd _ q (s.xd dd _ q).1 (s.xd dd _ q).2⟩⟩
  | ins k fs =>
    obtain ⟨C, dx, gs, h0, h1, h2⟩ := h
    exact ⟨C, dx, gs, h0, by rw [hk (by simp)]; exact h1, VRf.ext x s _ _ h2⟩
theorem Cel.new (c : Cel K mg H et W) {p : Addr} {o : HO} (hp : H p = none) (W' : Wd) (hm : W'.mu = W.mu) (h1 : ∀ a, W.fz a → W'.fz a) (h2 : ∀ a, W'.fz a → W.fz a ∨ a = p) : Cel K mg (upd H p o) et W' := by
  have x : Ext NoO H et W (upd H p o) et W' := Ext.new hp W' hm h1 h2
  have lv : ∀ a, Live et W' a → Live et W a := fun a ⟨i, d, e1, e2, e3⟩ => ⟨i, d, e1, e2, by rw [hm] at e3; exact e3⟩
  refine ⟨by rw [hm]; exact c.len, fun i d a e1 e2 => ?_, fun i j d d' a e1 e2 e3 e4 e5 e6 => c.inj i j d d' a e1 e2 e3 e4 (by rw [hm] at e5; exact e5) (by rw [hm] at e6; exact e6), fun a h z => ?_, fun a h => ?_⟩
  · rw [hm] at e2
    refine CellOk.ext x c.stays0 (c.ok i d a e1 e2) fun hd => upd_ne fun e => ?_
    exact c.not_live hp ⟨i, d, e1, hd, by rw [← e]; exact e2⟩
  · rcases h2 a h with h | h
    · exact c.fzl a h (lv a z)
    · exact c.not_live hp (h ▸ lv a z)
  · rcases h2 a h with h | h
    · exact x.there a (c.fzh a h)
    · rw [h, upd_same]; simp
abbrev Wd.add (W : Wd) (p : Addr) : Wd := ⟨fun a => W.fz a ∨ a = p, W.mu⟩
theorem VRs.len : ∀ {ps : List PV} {vs : List V}, VRs K mg W H ps vs → ps.length = vs.length
  | [], vs, h => by unfold VRs at h; rw [h]; rfl
  | p :: ps, vs, h => by
    unfold VRs at h
    obtain ⟨v, r, e, _, h2⟩ := h
    rw [e, List.length_cons, List.length_cons, VRs.len h2]
theorem VRs.get : ∀ {ps : List PV} {vs : List V} {i : Nat} {p : PV}, VRs K mg W H ps vs → ps[i]? = some p → ∃ v, vs[i]? = some v ∧ VR K mg W H p v
  | [], vs, i, p, _, e => by simp at e
  | q :: ps, vs, 0, p, h, e => by
    unfold VRs at h
    obtain ⟨v, r, e1, h1, h2⟩ := h
    simp at e; subst e
    exact ⟨v, by rw [e1]; rfl, h1⟩
  | q :: ps, vs, i + 1, p, h, e => by
    unfold VRs at h
    obtain ⟨v, r, e1, h1, h2⟩ := h
    obtain ⟨u, e2, h3⟩ := VRs.get h2 (i := i) (p := p) (by simpa using e)
    exact ⟨u, by rw [e1]; simpa using e2, h3⟩
theorem VRs.cons {p : PV} {ps : List PV} {v : V} {vs : List V} (h : VR K mg W H p v) (r : VRs K mg W H ps vs) : VRs K mg W H (p :: ps) (v :: vs) := by
  unfold VRs; exact ⟨v, vs, rfl, h, r⟩
theorem VRs.nil : VRs K mg W H [] [] := by unfold VRs; rfl
theorem VRs.append : ∀ {ps qs : List PV} {vs ws : List V}, VRs K mg W H ps vs → VRs K mg W H qs ws → VRs K mg W H (ps ++ qs) (vs ++ ws)
  | [], qs, vs, ws, h, r => by unfold VRs at h; rw [h]; exact r
  | p :: ps, qs, vs, ws, h, r => by
    unfold VRs at h
    obtain ⟨v, t, e, h1, h2⟩ := h
    rw [e]
    exact VRs.cons h1 (VRs.append h2 r)
theorem VRs.take : ∀ (n : Nat) {ps : List PV} {vs : List V}, VRs K mg W H ps vs → VRs K mg W H (ps.take n) (vs.take n)
  | 0, _, _, _ => by simpa using VRs.nil
  | n + 1, [], vs, h => by unfold VRs at h; rw [h]; simpa using VRs.nil
  | n + 1, p :: ps, vs, h => by
    unfold VRs at h
    obtain ⟨v, t, e, h1, h2⟩ := h
    rw [e]
    exact VRs.cons h1 (VRs.take n h2)
theorem VRs.drop : ∀ (n : Nat) {ps : List PV} {vs : List V}, VRs K mg W H ps vs → VRs K mg W H (ps.drop n) (vs.drop n)
  | 0, _, _, h => by simpa using h
  | n + 1, [], vs, h => by unfold VRs at h; rw [h]; simpa using VRs.nil
  | n + 1, p :: ps, vs, h => by
    unfold VRs at h
    obtain ⟨v, t, e, h1, h2⟩ := h
    rw [e]
    exact VRs.drop n h2
theorem VRs.set : ∀ (i : Nat) {ps : List PV} {vs : List V} {p : PV} {v : V}, VRs K mg W H ps vs → VR K mg W H p v → VRs K mg W H (ps.set i p) (vs.set i v)
  | _, [], vs, p, v, h, _ => by unfold VRs at h; rw [h]; simpa using VRs.nil
  | 0, q :: ps, vs, p, v, h, r => by
    unfold VRs at h
    obtain ⟨u, t, e, h1, h2⟩ := h
    rw [e]
    exact VRs.cons r h2
  | i + 1, q :: ps, vs, p, v, h, r => by
    unfold VRs at h
    obtain ⟨u, t, e, h1, h2⟩ := h
    rw [e]
    exact VRs.cons h1 (VRs.set i h2 r)
theorem VRs.erase : ∀ (i : Nat) {ps : List PV} {vs : List V}, VRs K mg W H ps vs → VRs K mg W H (ps.eraseIdx i) (vs.eraseIdx i)
  | _, [], vs, h => by unfold VRs at h; rw [h]; simpa using VRs.nil
  | 0, q :: ps, vs, h => by
    unfold VRs at h
    obtain ⟨u, t, e, h1, h2⟩ := h
    rw [e]
    exact h2
  | i + 1, q :: ps, vs, h => by
    unfold VRs at h
    obtain ⟨u, t, e, h1, h2⟩ := h
    rw [e]
    exact VRs.cons h1 (VRs.erase i h2)
theorem VRs.reverse : ∀ {ps : List PV} {vs : List V}, VRs K mg W H ps vs → VRs K mg W H ps.reverse vs.reverse
  | [], vs, h => by unfold VRs at h; rw [h]; simpa using VRs.nil
  | q :: ps, vs, h => by
    unfold VRs at h
    obtain ⟨u, t, e, h1, h2⟩ := h
    rw [e, List.reverse_cons, List.reverse_cons]
    exact VRs.append (VRs.reverse h2) (VRs.cons h1 VRs.nil)
theorem VRs.rep {ps : List PV} {vs : List V} (h : VRs K mg W H ps vs) : ∀ n : Nat, VRs K mg W H (List.replicate n ps).flatten (List.replicate n vs).flatten
  | 0 => by simpa using VRs.nil
  | n + 1 => by
    rw [List.replicate_succ, List.replicate_succ, List.flatten_cons, List.flatten_cons]
    exact VRs.append h (VRs.rep h n)
theorem tup_push (h : Heap) (its : Array Value) : ∃ o, XTup o ∧ (h.push { cls := .type "tuple", data := .seq its }).get? h.objs.size = some o := ⟨{ cls := .type "tuple", data := .seq its }, ⟨rfl, rfl⟩, Heap.get?_push_size _ rfl⟩
theorem new_tup (c : Cel K mg H et W) {p : Addr} (hp : H p = none) {o : Obj} (ho : XTup o) {ps : List PV} {vs : List V} (h : VRs K mg W H ps vs) :
    Ext NoO H et W (upd H p (.frz o (.tup vs))) et W ∧ Cel K mg (upd H p (.frz o (.tup vs))) et W ∧ VR K mg W (upd H p (.frz o (.tup vs))) (.tup ps) (.ref p) := by
  have x : Ext NoO H et W (upd H p (.frz o (.tup vs))) et W := Ext.new hp W rfl (fun _ h => h) fun _ h => .inl h
  refine ⟨x, c.new hp W rfl (fun _ h => h) fun _ h => .inl h, ?_⟩
  unfold VR
  exact ⟨p, vs, rfl, .inl ⟨o, ho, upd_same⟩, VRs.ext x c.stays0 _ _ h⟩
theorem new_lst (c : Cel K mg H et W) {p : Addr} (hp : H p = none) {ps : List PV} {vs : List V} (h : VRs K mg W H ps vs) :
    Ext NoO H et W (upd H p (.lst vs)) et (W.add p) ∧ Cel K mg (upd H p (.lst vs)) et (W.add p) ∧ VR K mg (W.add p) (upd H p (.lst vs)) (.lst ps) (.ref p) := by
  have x : Ext NoO H et W (upd H p (.lst vs)) et (W.add p) := Ext.new hp (W.add p) rfl (fun _ h => .inl h) fun _ h => h
  refine ⟨x, c.new hp _ rfl (fun _ h => .inl h) fun _ h => h, ?_⟩
  unfold VR
  exact ⟨p, vs, rfl, .inr rfl, upd_same, VRs.ext x c.stays0 _ _ h⟩
theorem new_own (c : Cel K mg H et W) {p : Addr} (hp : H p = none) {ps : List PV} {vs : List V} (h : VRs K mg W H ps vs) :
    Ext NoO H et W (upd H p (.lst vs)) et W ∧ Cel K mg (upd H p (.lst vs)) et W ∧ pN K mg (.lst ps) (.ref p) H et W (upd H p (.lst vs)) et W := by
  have x : Ext NoO H et W (upd H p (.lst vs)) et W := Ext.new hp W rfl (fun _ h => h) fun _ h => .inl h
  refine ⟨x, c.new hp W rfl (fun _ h => h) fun _ h => .inl h, p, rfl, hp, fun z => c.fzh p z hp, ?_, ?_⟩
  · exact c.not_live hp
  · exact ⟨vs, upd_same, VRs.ext x c.stays0 _ _ h⟩
theorem OwnAt.kind {p : PV} {a : Addr} (h : OwnAt K mg W H p a) : (∃ vs, H a = some (.lst vs)) ∨ ∃ ks, H a = some (.dK ks) := by
  unfold OwnAt at h
  split at h
  · obtain ⟨vs, h, _⟩ := h; exact .inl ⟨vs, h⟩
  · obtain ⟨vs, h, _⟩ := h; exact .inr ⟨vs, h⟩
  · cases h
theorem Cel.freeze (c : Cel K mg H et W) {a : Addr} {q : PV} (hl : ¬ Live et W a) (hf : ¬ W.fz a) (hq : OwnAt K mg W H q a) :
    Cel K mg H et (W.add a) ∧ (∀ p v, VR K mg W H p v → VR K mg (W.add a) H p v) ∧ VR K mg (W.add a) H q (.ref a) := by
  have x : Ext (fun b => b = a) H et W H et (W.add a) := ⟨fun _ h => .inl h, fun b h => h.imp_right fun h => .inr h, ⟨[], by simp⟩, fun _ h => .inl h, fun _ _ h _ _ => h, fun _ h => h⟩
  have s : Stays (fun b => b = a) H et W := ⟨fun b h => ⟨c.fzl b h, fun e => hf (e ▸ h)⟩, fun b xs h => ⟨(c.stays0.tup b xs h).1, fun e => by
    rcases hq.kind with ⟨_, k⟩ | ⟨_, k⟩ <;> (rw [← e, h] at k; cases k)⟩, fun b o u h => ⟨(c.stays0.frz b o u h).1, fun e => by
    rcases hq.kind with ⟨_, k⟩ | ⟨_, k⟩ <;> (rw [← e, h] at k; cases k)⟩, fun b fs h => ⟨(c.stays0.xd b fs h).1, fun e => by
    rcases hq.kind with ⟨_, k⟩ | ⟨_, k⟩ <;> (rw [← e, h] at k; cases k)⟩⟩
  refine ⟨⟨c.len, fun i d b e1 e2 => ?_, c.inj, fun b h z => ?_, fun b h => ?_⟩, fun p v h => VR.ext x s p v h, ?_⟩
  · have k := c.ok i d b e1 e2
    cases d with
    | dead => trivial
    | lst xs => obtain ⟨vs, h1, h2⟩ := k; exact ⟨vs, h1, VRs.ext x s _ _ h2⟩
    | dic xs => obtain ⟨vs, h1, h2⟩ := k; exact ⟨vs, h1, VRk.ext x s _ _ h2⟩
    | potO t n => exact k
    | potI => exact k
    | inv P => exact k
    | nd kvs => exact k.imp_right fun ⟨es, h1, h2⟩ => ⟨es, h1, VRn.ext x s _ _ h2⟩
    | td hs kvs => exact k.imp_right fun ⟨es, h1, h2⟩ => ⟨es, h1, VRt.ext x s _ _ h2⟩
    | exc _ _ => exact k
    | ins t fs => obtain ⟨C, dx, gs, h0, h1, h2⟩ := k; exact ⟨C, dx, gs, h0, h1, VRf.ext x s _ _ h2⟩
  · rcases h with h | h
    · exact c.fzl b h z
    · exact hl (h ▸ z)
  · rcases h with h | h
    · exact c.fzh b h
    · rw [h]; exact hq.there
  · unfold OwnAt at hq
    split at hq
    · obtain ⟨vs, h1, h2⟩ := hq
      unfold VR
      exact ⟨a, vs, rfl, .inr rfl, h1, VRs.ext x s _ _ h2⟩
    · obtain ⟨vs, h1, h2⟩ := hq
      unfold VR
      exact ⟨a, vs, rfl, .inr rfl, h1, VRk.ext x s _ _ h2⟩
    · cases hq
end
end Mw
namespace Mw
open PySem PySem.Spec L2
section
variable (K : PySem.W.Frag) (mg : Str → Option Value)
def tI (P : Post PV) (m : EM PV) : TE := fun sg H Q => ∃ ep et W R, Cel K mg H et W ∧ Slt K mg sg ep H et W ∧ m ep et R ∧
  ∀ a et', R a et' → ∀ v H' W', Ext NoO H et W H' et' W' → Cel K mg H' et' W' → P a v H et W H' et' W' → Q v H'
def tT (m : EM Bool) : TT := fun sg H Q => ∃ ep et W R, Cel K mg H et W ∧ Slt K mg sg ep H et W ∧ m ep et R ∧
  ∀ b et', R b et' → ∀ H' W', Ext NoO H et W H' et' W' → Cel K mg H' et' W' → Q b H'
def Pks : List PV → List V → Hp → Hi → Wd → Prop
  | [], vs, _, _, _ => vs = []
  | p :: ps, vs, H, et, W => ∃ v r, vs = v :: r ∧ Pk K mg p v H et W ∧ Pks ps r H et W
def tL (m : EM (List PV)) : TA := fun sg H Q => ∃ ep et W R, Cel K mg H et W ∧ Slt K mg sg ep H et W ∧ m ep et R ∧
  ∀ a et', R a et' → ∀ vs H' W', Ext NoO H et W H' et' W' → Cel K mg H' et' W' → VRs K mg W' H' a vs → Q vs H'
def tLP (m : EM (List PV)) : TA := fun sg H Q => ∃ ep et W R, Cel K mg H et W ∧ Slt K mg sg ep H et W ∧ m ep et R ∧
  ∀ a et', R a et' → ∀ vs H' W', Ext NoO H et W H' et' W' → Cel K mg H' et' W' → Pks K mg a vs H' et' W' → Q vs H'
def FlEnd (D : Ends) (ep : En) (sg : L2.St) (H : Hp) : Fl → En → L2.St → Hp → Hi → Wd → Prop
  | .nx, ep', sg', H', et', W' => Slt K mg sg' ep' H' et' W' → (∀ a, Own ep' sg' a → Own ep sg a ∨ H a = none) → D.nx sg' H'
  | .bk, ep', sg', H', et', W' => Slt K mg sg' ep' H' et' W' → (∀ a, Own ep' sg' a → Own ep sg a ∨ H a = none) → D.bk sg' H'
  | .ct, ep', sg', H', et', W' => Slt K mg sg' ep' H' et' W' → (∀ a, Own ep' sg' a → Own ep sg a ∨ H a = none) → D.ct sg' H'
  | .rt p, _, _, H', _, W' => ∀ v, VR K mg W' H' p v → D.rt v H'
def tS (m : SM) : TS := fun D sg H => ∃ ep et W R, Cel K mg H et W ∧ Slt K mg sg ep H et W ∧ m ep et R ∧
  ∀ f ep' et', R f ep' et' → ∀ sg' H' W', Ext (Own ep sg) H et W H' et' W' → Cel K mg H' et' W' → FlEnd K mg D ep sg H f ep' sg' H' et' W'
end
abbrev SimE (X : Cx) (e : Expr) (m : EM PV) : Prop := PE X e (tI X.K X.mg (pV X.K X.mg) m)
abbrev SimP (X : Cx) (e : Expr) (m : EM PV) : Prop := PE X e (tI X.K X.mg (pP X.K X.mg) m)
abbrev SimN (X : Cx) (e : Expr) (m : EM PV) : Prop := PE X e (tI X.K X.mg (pN X.K X.mg) m)
abbrev SimT (X : Cx) (e : Expr) (m : EM Bool) : Prop := PT X e (tT X.K X.mg m)
abbrev SimW (X : Cx) (e : Expr) (m : EM Bool) : Prop := PW X e (tT X.K X.mg m)
abbrev SimA (X : Cx) (es : List Expr) (m : EM (List PV)) : Prop := PA X es (tL X.K X.mg m)
abbrev SimAP (X : Cx) (es : List Expr) (m : EM (List PV)) : Prop := PA X es (tLP X.K X.mg m)
abbrev SimS (X : Cx) (st : Stmt) (m : SM) : Prop := PS X st (tS X.K X.mg m)
abbrev SimSs (X : Cx) (st : List Stmt) (m : SM) : Prop := PSs X st (tS X.K X.mg m)
theorem weakE {X : Cx} {e : Expr} {t u : TE} (h : PE X e t) (w : ∀ σ H Q, u σ H Q → t σ H Q) : PE X e u := ⟨fun pins s σ H Q I q => h.run pins s σ H Q I (w σ H Q q)⟩
theorem weakT {X : Cx} {e : Expr} {t u : TT} (h : PT X e t) (w : ∀ σ H Q, u σ H Q → t σ H Q) : PT X e u := ⟨fun pins s σ H Q I q => h.run pins s σ H Q I (w σ H Q q)⟩
theorem weakW {X : Cx} {e : Expr} {t u : TT} (h : PW X e t) (w : ∀ σ H Q, u σ H Q → t σ H Q) : PW X e u := ⟨fun wh pins s σ H Q I q => h.run wh pins s σ H Q I (w σ H Q q)⟩
theorem weakA {X : Cx} {e : List Expr} {t u : TA} (h : PA X e t) (w : ∀ σ H Q, u σ H Q → t σ H Q) : PA X e u := ⟨fun pos pins s σ H Q I q => h.run pos pins s σ H Q I (w σ H Q q)⟩
theorem weakS {X : Cx} {e : Stmt} {t u : TS} (h : PS X e t) (w : ∀ D σ H, u D σ H → t D σ H) : PS X e u := ⟨fun pins s σ H D I q => h.run pins s σ H D I (w D σ H q)⟩
theorem weakSs {X : Cx} {e : List Stmt} {t u : TS} (h : PSs X e t) (w : ∀ D σ H, u D σ H → t D σ H) : PSs X e u := ⟨fun pins s σ H D I q => h.run pins s σ H D I (w D σ H q)⟩
section
variable {K : PySem.W.Frag} {mg : Str → Option Value} {H H1 : Hp} {et et1 : Hi} {W W1 : Wd}
theorem Pks.ext (x : Ext NoO H et W H1 et1 W1) (c : Cel K mg H et W) : ∀ {ps : List PV} {vs : List V}, Pks K mg ps vs H et W → Pks K mg ps vs H1 et1 W1
  | [], _, h => h
  | _ :: _, _, ⟨v, r, e, h, t⟩ => ⟨v, r, e, Pk.ext x c h, Pks.ext x c t⟩
theorem Pks.of : ∀ {ps : List PV} {vs : List V}, VRs K mg W H ps vs → Pks K mg ps vs H et W
  | [], vs, h => by unfold VRs at h; exact h
  | p :: ps, vs, h => by
    unfold VRs at h
    obtain ⟨v, r, e, h1, h2⟩ := h
    exact ⟨v, r, e, .inl h1, Pks.of h2⟩
def deref (et : Hi) : PV → PV
  | .ref n => match et[n]? with
    | some (.lst xs) => .lst xs
    | some (.dic ks) => .dic ks
    | _ => .ref n
  | p => p
def Cont (K : PySem.W.Frag) (mg : Str → Option Value) (W : Wd) (H : Hp) : PV → HO → Prop
  | .lst xs, .lst vs => VRs K mg W H xs vs
  | .dic ks, .dK vs => VRk K mg W H ks vs
  | _, _ => False
theorem Pk.der (c : Cel K mg H et W) {p : PV} {v : V} (h : Pk K mg p v H et W) : Pk K mg p v H et W ∧ (Mw.deref et p = p ∨ ∃ a o n, p = .ref n ∧ v = .ref a ∧ W.mu[n]? = some a ∧ H a = some o ∧ Cont K mg W H (Mw.deref et p) o) := by
  refine ⟨h, ?_⟩
  cases p with
  | ref n =>
    rcases h with h | ⟨a, _, _, h⟩
    · unfold VR at h
      obtain ⟨a, e, hm⟩ := h
      cases q : et[n]? with
      | none => exact .inl (by simp only [Mw.deref, q])
      | some d =>
        cases d with
        | lst xs =>
          obtain ⟨vs, h1, h2⟩ := c.ok n _ a q hm
          exact .inr ⟨a, _, n, rfl, e, hm, h1, by simp only [Mw.deref, q]; exact h2⟩
        | dic xs =>
          obtain ⟨vs, h1, h2⟩ := c.ok n _ a q hm
          exact .inr ⟨a, _, n, rfl, e, hm, h1, by simp only [Mw.deref, q]; exact h2⟩
        | _ => exact .inl (by simp only [Mw.deref, q])
    · unfold OwnAt at h; cases h
  | _ => exact .inl rfl
theorem Pk.lst (c : Cel K mg H et W) {p : PV} {v : V} (h : Pk K mg p v H et W) {xs : List PV} (e : Mw.deref et p = .lst xs) : ∃ a vs, v = .ref a ∧ H a = some (.lst vs) ∧ VRs K mg W H xs vs := by
  rcases (h.der c).2 with d | ⟨a, o, n, _, ev, _, ho, hc⟩
  · rw [d] at e
    subst e
    rcases h with h | ⟨a, ev, _, h⟩
    · unfold VR at h
      obtain ⟨a, vs, ev, _, h1, h2⟩ := h
      exact ⟨a, vs, ev, h1, h2⟩
    · obtain ⟨vs, h1, h2⟩ := h
      exact ⟨a, vs, ev, h1, h2⟩
  · rw [e] at hc
    cases o with
    | lst vs => exact ⟨a, vs, ev, ho, hc⟩
    | _ => exact hc.elim
theorem Pk.dic (c : Cel K mg H et W) {p : PV} {v : V} (h : Pk K mg p v H et W) {xs : List (Key × PV)} (e : Mw.deref et p = .dic xs) : ∃ a vs, v = .ref a ∧ H a = some (.dK vs) ∧ VRk K mg W H xs vs := by
  rcases (h.der c).2 with d | ⟨a, o, n, _, ev, _, ho, hc⟩
  · rw [d] at e
    subst e
    rcases h with h | ⟨a, ev, _, h⟩
    · unfold VR at h
      obtain ⟨a, vs, ev, _, h1, h2⟩ := h
      exact ⟨a, vs, ev, h1, h2⟩
    · obtain ⟨vs, h1, h2⟩ := h
      exact ⟨a, vs, ev, h1, h2⟩
  · rw [e] at hc
    cases o with
    | dK vs => exact ⟨a, vs, ev, ho, hc⟩
    | _ => exact hc.elim
def Plain : PV → Bool
  | .lst _ => false
  | .dic _ => false
  | .ref _ => false
  | _ => true
theorem deref_plain {p q : PV} (e : Mw.deref et p = q) (hq : Plain q = true) : p = q := by
  cases p with
  | ref n =>
    unfold Mw.deref at e
    simp only at e
    split at e <;> (subst e; cases hq)
  | _ => exact e
theorem Pk.val {p : PV} {v : V} (h : Pk K mg p v H et W) {q : PV} (e : Mw.deref et p = q) (hq : Plain q = true) : VR K mg W H q v := by
  have e' := deref_plain e hq
  subst e'
  rcases h with h | ⟨a, _, _, h⟩
  · exact h
  · unfold OwnAt at h
    split at h
    · cases hq
    · cases hq
    · cases h
theorem Pk.tup {p : PV} {v : V} (h : Pk K mg p v H et W) {xs : List PV} (e : Mw.deref et p = .tup xs) : ∃ a vs, v = .ref a ∧ SqX K H a vs ∧ VRs K mg W H xs vs := by
  have q := h.val e rfl
  unfold VR at q; exact q
theorem Pk.int {p : PV} {v : V} (h : Pk K mg p v H et W) {i : Int} (e : Mw.deref et p = .int i) : v = .int i := by
  have q := h.val e rfl
  unfold VR at q; exact q
theorem Pk.str {p : PV} {v : V} (h : Pk K mg p v H et W) {i : Str} (e : Mw.deref et p = .str i) : v = .str i := by
  have q := h.val e rfl
  unfold VR at q; exact q
theorem Pk.bl {p : PV} {v : V} (h : Pk K mg p v H et W) {i : Bool} (e : Mw.deref et p = .bl i) : v = .bl i := by
  have q := h.val e rfl
  unfold VR at q; exact q
theorem Pk.non {p : PV} {v : V} (h : Pk K mg p v H et W) (e : Mw.deref et p = .non) : v = .non := by
  have q := h.val e rfl
  unfold VR at q; exact q
theorem Pk.scr {p : PV} {v : V} (h : Pk K mg p v H et W) {ns : List Int} (e : Mw.deref et p = .scr ns) : ∃ a, v = .ref a ∧ Scr K H a (ns.map V.int) := by
  have q := h.val e rfl
  unfold VR at q; exact q
theorem Scr.sq {a : Addr} {xs : List V} (h : Scr K H a xs) : SqL K H a xs := by
  rcases h with h | h
  · exact .inl (.inr h)
  · exact .inr h
end
section
variable {X : Cx} {ex : Expr} {m : EM PV}
theorem SimE.p (h : SimE X ex m) : SimP X ex m := weakE h fun σ H Q ⟨ep, et, W, R, c, s, e, q⟩ => ⟨ep, et, W, R, c, s, e, fun a et' r v H' W' x c' p => q a et' r v H' W' x c' (.inl p)⟩
theorem SimN.p (h : SimN X ex m) : SimP X ex m := weakE h fun σ H Q ⟨ep, et, W, R, c, s, e, q⟩ => ⟨ep, et, W, R, c, s, e, fun a et' r v H' W' x c' p => by
  obtain ⟨b, e1, _, _, h2, h3⟩ := p
  exact q a et' r v H' W' x c' (.inr ⟨b, e1, h2, h3⟩)⟩
theorem SimN.e (h : SimN X ex m) : SimE X ex m := weakE h fun σ H Q ⟨ep, et, W, R, c, s, e, q⟩ => ⟨ep, et, W, R, c, s, e, fun a et' r v H' W' x c' p => by
  obtain ⟨b, e1, h0, hf, h2, h3⟩ := p
  obtain ⟨c2, _, r2⟩ := c'.freeze h2 hf h3
  subst e1
  refine q a et' r _ H' (W'.add b) ⟨fun a h => .inl (x.fz a h), fun a h => ?_, x.mu, x.live, x.keep, x.there⟩ c2 r2
  rcases h with h | h
  · exact x.nfz a h
  · exact .inr (.inl (h ▸ h0))⟩
def mVar (i : Nat) : EM PV := fun ep et R => ∃ p, ep[i]? = some (.val p) ∧ R p et
def slotV : Option Slot → Option PV
  | some (.val p) => some p
  | some (.own p) => some p
  | _ => none
def mPeek (i : Nat) : EM PV := fun ep et R => ∃ p, slotV ep[i]? = some p ∧ R p et
def mC (p : PV) : EM PV := fun _ et R => R p et
theorem sE_var {i : Nat} (h : PE X ex (tVar i)) : SimE X ex (mVar i) := weakE h fun σ H Q ⟨ep, et, W, R, c, s, ⟨p, e, r⟩, q⟩ => by
  have hl : i < σ.length := by rw [← s.len]; exact (List.getElem?_eq_some_iff.mp e).1
  obtain ⟨v, ev, hv⟩ := s.ok i _ _ e (List.getElem?_eq_getElem hl)
  exact ⟨v, by rw [List.getElem?_eq_getElem hl, ev], q p et r v H W (Ext.refl ..) c hv⟩
theorem sP_var {i : Nat} (h : PE X ex (tVar i)) : SimP X ex (mPeek i) := weakE h fun σ H Q ⟨ep, et, W, R, c, s, ⟨p, e, r⟩, q⟩ => by
  unfold slotV at e
  split at e
  · rename_i t hp
    cases e
    have hl : i < σ.length := by rw [← s.len]; exact (List.getElem?_eq_some_iff.mp hp).1
    obtain ⟨v, ev, hv⟩ := s.ok i _ _ hp (List.getElem?_eq_getElem hl)
    exact ⟨v, by rw [List.getElem?_eq_getElem hl, ev], q p et r v H W (Ext.refl ..) c (.inl hv)⟩
  · rename_i t hp
    cases e
    have hl : i < σ.length := by rw [← s.len]; exact (List.getElem?_eq_some_iff.mp hp).1
    obtain ⟨a, ev, hv⟩ := s.ok i _ _ hp (List.getElem?_eq_getElem hl)
    have hσ : σ[i]? = some (some (.ref a)) := by rw [List.getElem?_eq_getElem hl, ev]
    exact ⟨.ref a, hσ, q p et r _ H W (Ext.refl ..) c (.inr ⟨a, rfl, s.oli a ⟨i, p, hp, hσ⟩, hv⟩)⟩
  · cases e
theorem sE_c {v : V} {p : PV} (h : PE X ex (tC v)) (hv : ∀ W H, VR X.K X.mg W H p v) : SimE X ex (mC p) := weakE h fun σ H Q ⟨ep, et, W, R, c, s, r, q⟩ =>
  q p et r v H W (Ext.refl ..) c (hv W H)
theorem sE_int {i j pos} : SimE X (.Constant (.int i) j pos) (mC (.int i)) := sE_c pe_int fun _ _ => by unfold VR; rfl
theorem sE_bl {i j pos} : SimE X (.Constant (.bool i) j pos) (mC (.bl i)) := sE_c pe_bl fun _ _ => by unfold VR; rfl
theorem sE_str {i j pos} : SimE X (.Constant (.str i) j pos) (mC (.str i)) := sE_c pe_str fun _ _ => by unfold VR; rfl
theorem sE_non {j pos} : SimE X (.Constant .none j pos) (mC .non) := sE_c pe_non fun _ _ => by unfold VR; rfl
theorem sE_glob {x : Str} {p : PV} {v : V} {u : Value} {pos : Pos} (hg : Gl X x) (hm : X.mg x = some u) (r : RelV v u) (hv : ∀ W H, VR X.K X.mg W H p v) (hd : (x == ("__debug__" : Str)) = false := by decide) : SimE X (.Name x pos) (mC p) :=
  sE_c (pe_glob hg hm r hd) hv
def Op2 (K : PySem.W.Frag) (mg : Str → Option Value) (R : R2) (g : PV → PV → Option PV) (P : Post PV) : Prop :=
  ∀ (x y : V) (H : Hp) (et : Hi) (W : Wd) (p q z : PV) (Q : VK), Cel K mg H et W → Pk K mg p x H et W → Pk K mg q y H et W → g (deref et p) (deref et q) = some z →
    (∀ v H' W', Ext NoO H et W H' et W' → Cel K mg H' et W' → P z v H et W H' et W' → Q v H') → R x y H Q
def Op1 (K : PySem.W.Frag) (mg : Str → Option Value) (R : V → Hp → VK → Prop) (g : PV → Option PV) (P : Post PV) : Prop :=
  ∀ (x : V) (H : Hp) (et : Hi) (W : Wd) (p z : PV) (Q : VK), Cel K mg H et W → Pk K mg p x H et W → g (deref et p) = some z →
    (∀ v H' W', Ext NoO H et W H' et W' → Cel K mg H' et W' → P z v H et W H' et W' → Q v H') → R x H Q
def OpA (K : PySem.W.Frag) (mg : Str → Option Value) (R : List V → Hp → VK → Prop) (g : List PV → Option PV) (P : Post PV) : Prop :=
  ∀ (xs : List V) (H : Hp) (et : Hi) (W : Wd) (ps : List PV) (z : PV) (Q : VK), Cel K mg H et W → Pks K mg ps xs H et W → g (ps.map (deref et)) = some z →
    (∀ v H' W', Ext NoO H et W H' et W' → Cel K mg H' et W' → P z v H et W H' et W' → Q v H') → R xs H Q
def Early (P : Post PV) : Prop := ∀ p v H0 et0 W0 H et W H' et' W', Ext NoO H0 et0 W0 H et W → P p v H et W H' et' W' → P p v H0 et0 W0 H' et' W'
theorem early_V {K : PySem.W.Frag} {mg : Str → Option Value} : Early (pV K mg) := fun _ _ _ _ _ _ _ _ _ _ _ _ h => h
theorem early_N {K : PySem.W.Frag} {mg : Str → Option Value} : Early (pN K mg) := fun p v H0 et0 W0 H et W H' et' W' x h => by
  obtain ⟨a, e, h0, r⟩ := h
  refine ⟨a, e, ?_, r⟩
  cases q : H0 a with
  | none => rfl
  | some o => exact absurd h0 (x.there a (by rw [q]; simp))
def mBin (g : PV → PV → Option PV) (ma mb : EM PV) : EM PV := fun ep et R => ma ep et fun a et1 => mb ep et1 fun b et2 => ∃ z, g (deref et2 a) (deref et2 b) = some z ∧ R z et2
def mUn (g : PV → Option PV) (ma : EM PV) : EM PV := fun ep et R => ma ep et fun a et1 => ∃ z, g (deref et1 a) = some z ∧ R z et1
def mArg (g : List PV → Option PV) (ma : EM (List PV)) : EM PV := fun ep et R => ma ep et fun a et1 => ∃ z, g (a.map (deref et1)) = some z ∧ R z et1
theorem Ext.NoO_trans {H H1 H2 : Hp} {et et1 et2 : Hi} {W W1 W2 : Wd} (x : Ext NoO H et W H1 et1 W1) (y : Ext NoO H1 et1 W1 H2 et2 W2) : Ext NoO H et W H2 et2 W2 := x.trans y fun _ h => .inl h
theorem bin_weak {a b : Expr} {ma mb : EM PV} {R : R2} {g : PV → PV → Option PV} {P : Post PV} (he : Early P) (h : PE X ex (tOp R (tI X.K X.mg (pP X.K X.mg) ma) (tI X.K X.mg (pP X.K X.mg) mb))) (hg : Op2 X.K X.mg R g P) :
    PE X ex (tI X.K X.mg P (mBin g ma mb)) := weakE h fun σ H Q ⟨ep, et, W, R0, c, s, e, q⟩ => by
  refine ⟨ep, et, W, _, c, s, e, fun p et1 r1 v H1 W1 x1 c1 p1 => ⟨ep, et1, W1, _, c1, s.ext c x1, r1, fun p' et2 r2 u H2 W2 x2 c2 p2 => ?_⟩⟩
  obtain ⟨z, hz, r3⟩ := r2
  refine hg v u H2 et2 W2 p p' z Q c2 (Pk.ext x2 c1 p1) p2 hz fun w H3 W3 x3 c3 p3 => ?_
  have x12 := x1.NoO_trans x2
  exact q z et2 r3 w H3 W3 (x12.NoO_trans x3) c3 (he _ _ _ _ _ _ _ _ _ _ _ x12 p3)
theorem un_weak {ma : EM PV} {R : V → Hp → VK → Prop} {g : PV → Option PV} {P : Post PV} (he : Early P) (h : PE X ex (tUn R (tI X.K X.mg (pP X.K X.mg) ma))) (hg : Op1 X.K X.mg R g P) :
    PE X ex (tI X.K X.mg P (mUn g ma)) := weakE h fun σ H Q ⟨ep, et, W, R0, c, s, e, q⟩ => by
  refine ⟨ep, et, W, _, c, s, e, fun p et1 r1 v H1 W1 x1 c1 p1 => ?_⟩
  obtain ⟨z, hz, r3⟩ := r1
  refine hg v H1 et1 W1 p z Q c1 p1 hz fun w H3 W3 x3 c3 p3 => ?_
  exact q z et1 r3 w H3 W3 (x1.NoO_trans x3) c3 (he _ _ _ _ _ _ _ _ _ _ _ x1 p3)
theorem arg_weak {ma : EM (List PV)} {R : List V → Hp → VK → Prop} {g : List PV → Option PV} {P : Post PV} (he : Early P) (h : PE X ex (tCB R (tLP X.K X.mg ma))) (hg : OpA X.K X.mg R g P) :
    PE X ex (tI X.K X.mg P (mArg g ma)) := weakE h fun σ H Q ⟨ep, et, W, R0, c, s, e, q⟩ => by
  refine ⟨ep, et, W, _, c, s, e, fun p et1 r1 v H1 W1 x1 c1 p1 => ?_⟩
  obtain ⟨z, hz, r3⟩ := r1
  refine hg v H1 et1 W1 p z Q c1 p1 hz fun w H3 W3 x3 c3 p3 => ?_
  exact q z et1 r3 w H3 W3 (x1.NoO_trans x3) c3 (he _ _ _ _ _ _ _ _ _ _ _ x1 p3)
theorem sE_op {a b : Expr} {op : Operator} {pos : Pos} {ma mb : EM PV} {R : R2} {g : PV → PV → Option PV} (ho : OpR X (binaryOp op) R) (hg : Op2 X.K X.mg R g (pV X.K X.mg)) (ha : SimP X a ma) (hb : SimP X b mb) : SimE X (.BinOp a op b pos) (mBin g ma mb) :=
  bin_weak (a := a) (b := b) early_V (pe_op ho ha hb) hg
theorem sN_op {a b : Expr} {op : Operator} {pos : Pos} {ma mb : EM PV} {R : R2} {g : PV → PV → Option PV} (ho : OpR X (binaryOp op) R) (hg : Op2 X.K X.mg R g (pN X.K X.mg)) (ha : SimP X a ma) (hb : SimP X b mb) : SimN X (.BinOp a op b pos) (mBin g ma mb) :=
  bin_weak (a := a) (b := b) early_N (pe_op ho ha hb) hg
theorem sE_cmp {a b : Expr} {op : CmpOp} {pos : Pos} {ma mb : EM PV} {R : R2} {g : PV → PV → Option PV} (ho : OpR X (compareOp op) R) (hg : Op2 X.K X.mg R g (pV X.K X.mg)) (ha : SimP X a ma) (hb : SimP X b mb) (hm : behindInMarks op b = false) : SimE X (.Compare a [op] [b] pos) (mBin g ma mb) :=
  bin_weak (a := a) (b := b) early_V (pe_cmpR ho ha hb hm) hg
def mBinT (g : PV → PV → Option PV) (ma mb : EM PV) : EM Bool := fun ep et R => ma ep et fun a et1 => mb ep et1 fun b et2 => ∃ z, g (deref et2 a) (deref et2 b) = some (.bl z) ∧ R z et2
theorem sT_cmp {a b : Expr} {op : CmpOp} {pos : Pos} {ma mb : EM PV} {R : R2} {g : PV → PV → Option PV} (ho : OpR X (compareOp op) R) (hg : Op2 X.K X.mg R g (pV X.K X.mg)) (ha : SimP X a ma) (hb : SimP X b mb) (hm : behindInMarks op b = false) : SimT X (.Compare a [op] [b] pos) (mBinT g ma mb) :=
  weakT (pt_cmpR ho ha hb hm) fun σ H Q ⟨ep, et, W, R0, c, s, e, q⟩ => by
  refine ⟨ep, et, W, _, c, s, e, fun p et1 r1 v H1 W1 x1 c1 p1 => ⟨ep, et1, W1, _, c1, s.ext c x1, r1, fun p' et2 r2 u H2 W2 x2 c2 p2 => ?_⟩⟩
  obtain ⟨z, hz, r3⟩ := r2
  refine hg v u H2 et2 W2 p p' _ _ c2 (Pk.ext x2 c1 p1) p2 hz fun w H3 W3 x3 c3 p3 => ?_
  have p4 : VR X.K X.mg W3 H3 (.bl z) w := p3
  unfold VR at p4
  exact ⟨z, p4, q z et2 r3 H3 W3 ((x1.NoO_trans x2).NoO_trans x3) c3⟩
def mAsT (m : EM PV) : EM Bool := fun ep et R => m ep et fun a et1 => ∃ z, a = .bl z ∧ R z et1
theorem sT_val (h : SimE X ex m) (he : ∀ whole, isTrue ex X.env whole = (do let v ← whole; standAt ex.pos; holding [v] (truthy v)) := by intro _; rfl) : SimT X ex (mAsT m) := weakT (pt_val h he) fun σ H Q ⟨ep, et, W, R0, c, s, e, q⟩ => by
  refine ⟨ep, et, W, _, c, s, e, fun p et1 r1 v H1 W1 x1 c1 p1 => ?_⟩
  obtain ⟨z, hz, r3⟩ := r1
  have p4 : VR X.K X.mg W1 H1 p v := p1
  subst hz
  unfold VR at p4
  exact ⟨z, p4, q z et1 r3 H1 W1 x1 c1⟩
def mNotT (m : EM Bool) : EM Bool := fun ep et R => m ep et fun b et1 => R (!b) et1
def mAndT (m n : EM Bool) : EM Bool := fun ep et R => m ep et fun b et1 => if b = true then n ep et1 R else R false et1
def mOrT (m n : EM Bool) : EM Bool := fun ep et R => m ep et fun b et1 => if b = true then R true et1 else n ep et1 R
theorem sT_not {a : Expr} {pos : Pos} {m : EM Bool} (h : SimT X a m) : SimT X (.UnaryOp .Not a pos) (mNotT m) := weakT (pt_not h) fun σ H Q ⟨ep, et, W, R0, c, s, e, q⟩ =>
  ⟨ep, et, W, _, c, s, e, fun b et1 r1 H1 W1 x1 c1 => q _ et1 r1 H1 W1 x1 c1⟩
theorem sW_and1 {a : Expr} {pos : Pos} {m : EM Bool} (h : SimT X a m) : SimW X (.BoolOp .And [a] pos) m := pw_and1 h
theorem sW_or1 {a : Expr} {pos : Pos} {m : EM Bool} (h : SimT X a m) : SimW X (.BoolOp .Or [a] pos) m := pw_or1 h
theorem sW_and {a b : Expr} {rest : List Expr} {pos : Pos} {m n : EM Bool} (h : SimT X a m) (g : SimW X (.BoolOp .And (b :: rest) pos) n) : SimW X (.BoolOp .And (a :: b :: rest) pos) (mAndT m n) := weakW (pw_and h g) fun σ H Q ⟨ep, et, W, R0, c, s, e, q⟩ => by
  refine ⟨ep, et, W, _, c, s, e, fun b et1 r1 H1 W1 x1 c1 => ?_⟩
  cases b with
  | true => exact ⟨ep, et1, W1, _, c1, s.ext c x1, by simpa using r1, fun b' et2 r2 H2 W2 x2 c2 => q b' et2 r2 H2 W2 (x1.NoO_trans x2) c2⟩
  | false => exact q false et1 (by simpa using r1) H1 W1 x1 c1
theorem sW_or {a b : Expr} {rest : List Expr} {pos : Pos} {m n : EM Bool} (h : SimT X a m) (g : SimW X (.BoolOp .Or (b :: rest) pos) n) : SimW X (.BoolOp .Or (a :: b :: rest) pos) (mOrT m n) := weakW (pw_or h g) fun σ H Q ⟨ep, et, W, R0, c, s, e, q⟩ => by
  refine ⟨ep, et, W, _, c, s, e, fun b et1 r1 H1 W1 x1 c1 => ?_⟩
  cases b with
  | false => exact ⟨ep, et1, W1, _, c1, s.ext c x1, by simpa using r1, fun b' et2 r2 H2 W2 x2 c2 => q b' et2 r2 H2 W2 (x1.NoO_trans x2) c2⟩
  | true => exact q true et1 (by simpa using r1) H1 W1 x1 c1
def mAndE (m n : EM PV) : EM PV := fun ep et R => m ep et fun p et1 => ∃ b, p = .bl b ∧ if b = true then n ep et1 R else R (.bl false) et1
def mOrE (m n : EM PV) : EM PV := fun ep et R => m ep et fun p et1 => ∃ b, p = .bl b ∧ if b = true then R (.bl true) et1 else n ep et1 R
def mNotE (m : EM PV) : EM PV := fun ep et R => m ep et fun p et1 => ∃ b, p = .bl b ∧ R (.bl (!b)) et1
theorem VR.bl {K : PySem.W.Frag} {mg : Str → Option Value} {W : Wd} {H : Hp} {b : Bool} : VR K mg W H (.bl b) (.bl b) := by unfold VR; rfl
theorem VR.int {K : PySem.W.Frag} {mg : Str → Option Value} {W : Wd} {H : Hp} {b : Int} : VR K mg W H (.int b) (.int b) := by unfold VR; rfl
theorem VR.str {K : PySem.W.Frag} {mg : Str → Option Value} {W : Wd} {H : Hp} {b : Str} : VR K mg W H (.str b) (.str b) := by unfold VR; rfl
theorem VR.non {K : PySem.W.Frag} {mg : Str → Option Value} {W : Wd} {H : Hp} : VR K mg W H .non .non := by unfold VR; rfl
theorem sE_one {op} {a : Expr} {pos : Pos} (h : SimE X a m) : SimE X (.BoolOp op [a] pos) m := pe_one h
theorem sE_and {a b : Expr} {rest : List Expr} {pos : Pos} {n : EM PV} (h : SimE X a m) (g : SimE X (.BoolOp .And (b :: rest) pos) n) : SimE X (.BoolOp .And (a :: b :: rest) pos) (mAndE m n) := weakE (pe_and h g) fun σ H Q ⟨ep, et, W, R0, c, s, e, q⟩ => by
  refine ⟨ep, et, W, _, c, s, e, fun p et1 r1 v H1 W1 x1 c1 p1 => ?_⟩
  obtain ⟨b, hb, r1⟩ := r1
  have p4 : VR X.K X.mg W1 H1 p v := p1
  subst hb
  unfold VR at p4
  refine ⟨b, p4, ?_⟩
  cases b with
  | true => exact ⟨ep, et1, W1, _, c1, s.ext c x1, by simpa using r1, fun b' et2 r2 v2 H2 W2 x2 c2 p2 => q b' et2 r2 v2 H2 W2 (x1.NoO_trans x2) c2 p2⟩
  | false => exact q _ et1 (by simpa using r1) _ H1 W1 x1 c1 VR.bl
theorem sE_or {a b : Expr} {rest : List Expr} {pos : Pos} {n : EM PV} (h : SimE X a m) (g : SimE X (.BoolOp .Or (b :: rest) pos) n) : SimE X (.BoolOp .Or (a :: b :: rest) pos) (mOrE m n) := weakE (pe_or h g) fun σ H Q ⟨ep, et, W, R0, c, s, e, q⟩ => by
  refine ⟨ep, et, W, _, c, s, e, fun p et1 r1 v H1 W1 x1 c1 p1 => ?_⟩
  obtain ⟨b, hb, r1⟩ := r1
  have p4 : VR X.K X.mg W1 H1 p v := p1
  subst hb
  unfold VR at p4
  refine ⟨b, p4, ?_⟩
  cases b with
  | false => exact ⟨ep, et1, W1, _, c1, s.ext c x1, by simpa using r1, fun b' et2 r2 v2 H2 W2 x2 c2 p2 => q b' et2 r2 v2 H2 W2 (x1.NoO_trans x2) c2 p2⟩
  | true => exact q _ et1 (by simpa using r1) _ H1 W1 x1 c1 VR.bl
theorem sE_not {a : Expr} {pos : Pos} (h : SimE X a m) : SimE X (.UnaryOp .Not a pos) (mNotE m) := weakE (pe_not h) fun σ H Q ⟨ep, et, W, R0, c, s, e, q⟩ => by
  refine ⟨ep, et, W, _, c, s, e, fun p et1 r1 v H1 W1 x1 c1 p1 => ?_⟩
  obtain ⟨b, hb, r1⟩ := r1
  have p4 : VR X.K X.mg W1 H1 p v := p1
  subst hb
  unfold VR at p4
  exact ⟨b, p4, q _ et1 r1 _ H1 W1 x1 c1 VR.bl⟩
def mIfE (t : EM Bool) (m n : EM PV) : EM PV := fun ep et R => t ep et fun b et1 => if b = true then m ep et1 R else n ep et1 R
def mChain (g g' : PV → PV → Option PV) (ma mb mc : EM PV) : EM PV := fun ep et R => ma ep et fun a et1 => mb ep et1 fun b et2 => ∃ z, g (deref et2 a) (deref et2 b) = some (.bl z) ∧
  if z = true then mc ep et2 fun d et3 => ∃ y, g' (deref et3 b) (deref et3 d) = some y ∧ R y et3 else R (.bl false) et2
theorem sE_chain {a b d : Expr} {op op' : CmpOp} {pos : Pos} {ma mb mc : EM PV} {R R' : R2} {g g' : PV → PV → Option PV} (ho : OpR X (compareOp op) R) (ho' : OpR X (compareOp op') R') (hg : Op2 X.K X.mg R g (pV X.K X.mg)) (hg' : Op2 X.K X.mg R' g' (pV X.K X.mg))
    (ha : SimP X a ma) (hb : SimP X b mb) (hc : SimP X d mc) (hm : lastMarks [op, op'] [b, d] = false := by with_unfolding_all rfl) : SimE X (.Compare a [op, op'] [b, d] pos) (mChain g g' ma mb mc) := weakE (pe_chain ho ho' ha hb hc hm) fun σ H Q ⟨ep, et, W, R0, c, s, e, q⟩ => by
  refine ⟨ep, et, W, _, c, s, e, fun p et1 r1 v H1 W1 x1 c1 p1 => ⟨ep, et1, W1, _, c1, s.ext c x1, r1, fun p' et2 r2 u H2 W2 x2 c2 p2 => ?_⟩⟩
  obtain ⟨z, hz, r3⟩ := r2
  refine hg v u H2 et2 W2 p p' _ _ c2 (Pk.ext x2 c1 p1) p2 hz fun w H3 W3 x3 c3 p3 => ?_
  have p4 : VR X.K X.mg W3 H3 (.bl z) w := p3
  unfold VR at p4
  refine ⟨z, p4, ?_⟩
  have x13 := (x1.NoO_trans x2).NoO_trans x3
  cases z with
  | false => exact q _ et2 (by simpa using r3) _ H3 W3 x13 c3 VR.bl
  | true =>
    refine ⟨ep, et2, W3, _, c3, s.ext c x13, by simpa using r3, fun p5 et4 r4 v4 H4 W4 x4 c4 p6 => ?_⟩
    obtain ⟨y, hy, r5⟩ := r4
    refine hg' u v4 H4 et4 W4 p' p5 y Q c4 (Pk.ext (x3.NoO_trans x4) c2 p2) p6 hy fun w5 H5 W5 x5 c5 p7 => ?_
    exact q y et4 r5 w5 H5 W5 ((x13.NoO_trans x4).NoO_trans x5) c5 p7
end
end Mw
namespace Mw
open PySem PySem.Spec L2
mutual
def dat : PV → Option PyData
  | .non => some .none
  | .bl b => some (.bool b)
  | .int i => some (.int i)
  | .str x => some (.str x)
  | .tup xs => (dats xs).map .tuple
  | .lst xs => (dats xs).map .list
  | _ => none
def dats : List PV → Option (List PyData)
  | [] => some []
  | x :: xs => (dat x).bind fun d => (dats xs).map fun ds => d :: ds
end
section
variable {K : PySem.W.Frag} {mg : Str → Option Value} {H : Hp} {et : Hi} {W : Wd}
mutual
theorem VR.dp : ∀ (p : PV) (v : V) (d : PyData), VR K mg W H p v → dat p = some d → Dp K H v d
  | .non, v, d, h, e => by unfold VR at h; unfold dat at e; cases e; subst h; exact .non
  | .bl b, v, d, h, e => by unfold VR at h; unfold dat at e; cases e; subst h; exact .bl b
  | .int b, v, d, h, e => by unfold VR at h; unfold dat at e; cases e; subst h; exact .int b
  | .str b, v, d, h, e => by unfold VR at h; unfold dat at e; cases e; subst h; exact .str b
  | .tup xs, v, d, h, e => by
    unfold VR at h; unfold dat at e
    obtain ⟨a, vs, rfl, h1, h2⟩ := h
    cases q : dats xs with
    | none => rw [q] at e; cases e
    | some ds => rw [q] at e; cases e; exact .tup h1 (VRs.dp xs vs ds h2 q)
  | .lst xs, v, d, h, e => by
    unfold VR at h; unfold dat at e
    obtain ⟨a, vs, rfl, _, h1, h2⟩ := h
    cases q : dats xs with
    | none => rw [q] at e; cases e
    | some ds => rw [q] at e; cases e; exact .lst (SqL.of h1) (VRs.dp xs vs ds h2 q)
  | .dic _, v, d, h, e => by unfold dat at e; cases e
  | .scr _, v, d, h, e => by unfold dat at e; cases e
  | .ref _, v, d, h, e => by unfold dat at e; cases e
  | .glo _, v, d, h, e => by unfold dat at e; cases e
  | .ty _, v, d, h, e => by unfold dat at e; cases e
  | .dik _, v, d, h, e => by unfold dat at e; cases e
theorem VRs.dp : ∀ (p : List PV) (v : List V) (d : List PyData), VRs K mg W H p v → dats p = some d → DpAll K H v d
  | [], v, d, h, e => by unfold VRs at h; unfold dats at e; cases e; subst h; exact .nil
  | p :: ps, v, d, h, e => by
    unfold VRs at h; unfold dats at e
    obtain ⟨u, r, rfl, h1, h2⟩ := h
    cases q : dat p with
    | none => rw [q] at e; cases e
    | some d1 =>
      rw [q] at e
      simp only [Option.bind_some] at e
      cases q2 : dats ps with
      | none => rw [q2] at e; cases e
      | some ds => rw [q2] at e; cases e; exact .cons (VR.dp p u d1 h1 q) (VRs.dp ps r ds h2 q2)
end
theorem Pk.dp (c : Cel K mg H et W) {p : PV} {v : V} {d : PyData} (h : Pk K mg p v H et W) (e : dat (deref et p) = some d) : Dp K H v d := by
  cases q : deref et p with
  | lst xs =>
    rw [q] at e
    obtain ⟨a, vs, rfl, h1, h2⟩ := h.lst c q
    unfold dat at e
    cases q2 : dats xs with
    | none => rw [q2] at e; cases e
    | some ds => rw [q2] at e; cases e; exact .lst (SqL.of h1) (VRs.dp xs vs ds h2 q2)
  | dic xs => rw [q] at e; unfold dat at e; cases e
  | ref n => rw [q] at e; unfold dat at e; cases e
  | _ => rw [q] at e; exact VR.dp _ _ _ (h.val q rfl) e
end
def gAdd : PV → PV → Option PV
  | .int i, .int j => some (.int (i + j))
  | .str x, .str y => if x.length + y.length ≤ sizeLine then some (.str (x ++ y)) else none
  | .tup xs, .tup ys => if xs.length + ys.length ≤ sizeLine then some (.tup (xs ++ ys)) else none
  | .lst xs, .lst ys => if xs.length + ys.length ≤ sizeLine then some (.lst (xs ++ ys)) else none
  | _, _ => none
def gCat : PV → PV → Option PV
  | .lst xs, .lst ys => if xs.length + ys.length ≤ sizeLine then some (.lst (xs ++ ys)) else none
  | _, _ => none
def gSubI : PV → PV → Option PV
  | .int i, .int j => some (.int (i - j))
  | _, _ => none
def gMul : PV → PV → Option PV
  | .int i, .int j => if (-(2 ^ 64) < i ∧ i < 2 ^ 64) ∨ (-(2 ^ 64) < j ∧ j < 2 ^ 64) then some (.int (i * j)) else none
  | _, _ => none
def gRep : PV → PV → Option PV
  | .lst xs, .int k => if 0 ≤ k ∧ k < 2 ^ 63 ∧ xs.length * k.toNat ≤ sizeLine then some (.lst (List.replicate k.toNat xs).flatten) else none
  | _, _ => none
def gDiv : PV → PV → Option PV
  | .int i, .int j => if 0 < j ∧ j < 1073741824 then some (.int (i / j)) else none
  | _, _ => none
def gMod : PV → PV → Option PV
  | .int i, .int j => if 0 < j then some (.int (i % j)) else none
  | _, _ => none
def gPow : PV → PV → Option PV
  | .int i, .int j => if 0 ≤ j ∧ j ≤ 1000000 ∧ i.natAbs < 2 ^ 64 then some (.int (i ^ j.toNat)) else none
  | _, _ => none
section
variable {K : PySem.W.Frag} {mg : Str → Option Value}
def rCatX (K : PySem.W.Frag) : R2 := fun x y H Q => ∃ a b xs ys, x = .ref a ∧ y = .ref b ∧ SqT K H a xs ∧ SqT K H b ys ∧ xs.length + ys.length ≤ sizeLine ∧
  (xs = [] → Q (.ref b) H) ∧ (xs ≠ [] → ys = [] → Q (.ref a) H) ∧ (xs ≠ [] → ys ≠ [] → ∀ p o, H p = none → XTup o → Q (.ref p) (upd H p (.frz o (.tup (xs ++ ys)))))
theorem op_catX {X : Cx} : OpR X (binaryOp .Add) (rCatX X.K) := by
  intro pins s σ H x y v u Q I rx ry ⟨a, b, xs, ys, ea, eb, ha, hb, hz, q0, q1, q2⟩
  by_cases hx : xs = []
  · exact op_catA pins s σ H x y v u Q I rx ry ⟨a, b, xs, ys, ea, eb, ha, hb, hz, q0, q1, fun n => absurd hx n⟩
  by_cases hy : ys = []
  · exact op_catA pins s σ H x y v u Q I rx ry ⟨a, b, xs, ys, ea, eb, ha, hb, hz, q0, q1, fun _ n => absurd hy n⟩
  subst ea
  subst eb
  cases rx
  cases ry
  obtain ⟨i1, r1, p1, _⟩ := I.tuple ha
  obtain ⟨i2, r2, p2, _⟩ := I.tuple hb
  have n1 : i1 ≠ [] := fun z => hx (r1.nil_iff.mp z)
  have n2 : i2 ≠ [] := fun z => hy (r2.nil_iff.mp z)
  refine HT.cat_tup p1 p2 n1 (fun z => absurd z n2) (fun _ => ?_) (by rw [← r1.length, ← r2.length]; exact hz)
  obtain ⟨o, ho, hg⟩ := tup_push s.heap (i1 ++ i2).toArray
  refine ⟨.ref s.heap.objs.size, _, I.laid (t' := s.toks) (o := .frz o (.tup (xs ++ ys))) (fun b ob q => Heap.get?_push_of_some _ q) (Nat.le_refl _) ?_, rfl, q2 hx hy _ o (I.hok.fresh (Nat.le_refl _)) ho⟩
  exact ⟨hg, by rw [List.length_append]; exact hz, _, r1.append r2, PyProof.Rows.IsTup.new _ _⟩
def rAdd (K : PySem.W.Frag) : R2 := fun x y H Q => rI0 (fun i j => .int (i + j)) x y H Q ∨ (∃ i j, x = .str i ∧ y = .str j ∧ i.length + j.length ≤ sizeLine ∧ Q (.str (i ++ j)) H) ∨ rCatX K x y H Q ∨ rCat x y H Q
theorem op_addA {X : Cx} : OpR X (binaryOp .Add) (rAdd X.K) := op_add.or (op_add_str.or (op_catX.or op_cat))
theorem VRs.empty_iff {W : Wd} {H : Hp} {ps : List PV} {vs : List V} (h : VRs K mg W H ps vs) : vs = [] ↔ ps = [] := by
  have e := h.len
  constructor
  · intro z; rw [z] at e; exact List.eq_nil_of_length_eq_zero e
  · intro z; rw [z] at e; exact List.eq_nil_of_length_eq_zero e.symm
theorem o2_add : Op2 K mg (rAdd K) gAdd (pV K mg) := by
  intro x y H et W p q z Q c hp hq hz k
  unfold gAdd at hz
  split at hz
  · rename_i i j e1 e2
    cases hz
    exact .inl ⟨i, j, hp.int e1, hq.int e2, k _ H W (Ext.refl ..) c VR.int⟩
  · rename_i i j e1 e2
    split at hz
    · rename_i hl; cases hz
      exact .inr (.inl ⟨i, j, hp.str e1, hq.str e2, hl, k _ H W (Ext.refl ..) c VR.str⟩)
    · cases hz
  · rename_i xs ys e1 e2
    split at hz
    · rename_i hl; cases hz
      obtain ⟨a, vs, rfl, h1, h2⟩ := hp.tup e1
      obtain ⟨b, ws, rfl, h3, h4⟩ := hq.tup e2
      refine .inr (.inr (.inl ⟨a, b, vs, ws, rfl, rfl, h1, h3, by rw [← h2.len, ← h4.len]; exact hl, fun z => ?_, fun z z2 => ?_, fun z z2 t o ht ho => ?_⟩))
      · have := h2.empty_iff.mp z; subst this
        refine k _ H W (Ext.refl ..) c ?_
        show VR K mg W H (.tup ([] ++ ys)) _
        unfold VR; exact ⟨b, ws, rfl, h3, h4⟩
      · have := h4.empty_iff.mp z2; subst this
        refine k _ H W (Ext.refl ..) c ?_
        show VR K mg W H (.tup (xs ++ [])) _
        rw [List.append_nil]
        unfold VR; exact ⟨a, vs, rfl, h1, h2⟩
      · obtain ⟨x1, c1, r1⟩ := new_tup c ht ho (VRs.append h2 h4)
        exact k _ _ W x1 c1 r1
    · cases hz
  · rename_i xs ys e1 e2
    split at hz
    · rename_i hl; cases hz
      obtain ⟨a, vs, rfl, h1, h2⟩ := hp.lst c e1
      obtain ⟨b, ws, rfl, h3, h4⟩ := hq.lst c e2
      refine .inr (.inr (.inr ⟨a, b, vs, ws, rfl, rfl, h1, h3, by rw [← h2.len, ← h4.len]; exact hl, fun t ht => ?_⟩))
      obtain ⟨x1, c1, r1⟩ := new_lst c ht (VRs.append h2 h4)
      exact k _ _ _ x1 c1 r1
    · cases hz
  · cases hz
theorem o2_cat : Op2 K mg rCat gCat (pN K mg) := by
  intro x y H et W p q z Q c hp hq hz k
  unfold gCat at hz
  split at hz
  · rename_i xs ys e1 e2
    split at hz
    · rename_i hl; cases hz
      obtain ⟨a, vs, rfl, h1, h2⟩ := hp.lst c e1
      obtain ⟨b, ws, rfl, h3, h4⟩ := hq.lst c e2
      refine ⟨a, b, vs, ws, rfl, rfl, h1, h3, by rw [← h2.len, ← h4.len]; exact hl, fun t ht => ?_⟩
      obtain ⟨x1, c1, r1⟩ := new_own c ht (VRs.append h2 h4)
      exact k _ _ _ x1 c1 r1
    · cases hz
  · cases hz
theorem o2_sub : Op2 K mg (rI0 fun i j => .int (i - j)) gSubI (pV K mg) := by
  intro x y H et W p q z Q c hp hq hz k
  unfold gSubI at hz
  split at hz
  · rename_i i j e1 e2
    cases hz
    exact ⟨i, j, hp.int e1, hq.int e2, k _ H W (Ext.refl ..) c VR.int⟩
  · cases hz
theorem o2_mul : Op2 K mg (rI CMul fun i j => .int (i * j)) gMul (pV K mg) := by
  intro x y H et W p q z Q c hp hq hz k
  unfold gMul at hz
  split at hz
  · rename_i i j e1 e2
    split at hz
    · rename_i hl; cases hz
      exact ⟨i, j, hp.int e1, hq.int e2, hl, k _ H W (Ext.refl ..) c VR.int⟩
    · cases hz
  · cases hz
theorem o2_div : Op2 K mg (rI CDiv fun i j => .int (i / j)) gDiv (pV K mg) := by
  intro x y H et W p q z Q c hp hq hz k
  unfold gDiv at hz
  split at hz
  · rename_i i j e1 e2
    split at hz
    · rename_i hl; cases hz
      exact ⟨i, j, hp.int e1, hq.int e2, hl, k _ H W (Ext.refl ..) c VR.int⟩
    · cases hz
  · cases hz
theorem o2_mod : Op2 K mg (rI (fun _ j => 0 < j) fun i j => .int (i % j)) gMod (pV K mg) := by
  intro x y H et W p q z Q c hp hq hz k
  unfold gMod at hz
  split at hz
  · rename_i i j e1 e2
    split at hz
    · rename_i hl; cases hz
      exact ⟨i, j, hp.int e1, hq.int e2, hl, k _ H W (Ext.refl ..) c VR.int⟩
    · cases hz
  · cases hz
theorem o2_pow : Op2 K mg (rI CPow fun i j => .int (i ^ j.toNat)) gPow (pV K mg) := by
  intro x y H et W p q z Q c hp hq hz k
  unfold gPow at hz
  split at hz
  · rename_i i j e1 e2
    split at hz
    · rename_i hl; cases hz
      exact ⟨i, j, hp.int e1, hq.int e2, hl, k _ H W (Ext.refl ..) c VR.int⟩
    · cases hz
  · cases hz
def eqB : PV → PV → Option Bool
  | .int i, .int j => some (decide (i = j))
  | .str x, .str y => some (decide (x = y))
  | .bl x, .bl y => some (decide (x = y))
  | .non, .non => some true
  | .int _, .str _ => some false
  | .str _, .int _ => some false
  | .int _, .non => some false
  | .non, .int _ => some false
  | .str _, .non => some false
  | .non, .str _ => some false
  | p, q => match dat p, dat q with
    | some d, some e => if SeqAt.shaped d = true ∧ SeqAt.shaped e = true then some (PyData.eqv d e) else none
    | _, _ => none
def gEq (p q : PV) : Option PV := (eqB p q).map .bl
def gNe (p q : PV) : Option PV := (eqB p q).map fun b => .bl (!b)
def rEqA (K : PySem.W.Frag) : R2 := fun x y H Q => rEq x y H Q ∨ rEqD K x y H Q
def rNeA (K : PySem.W.Frag) : R2 := fun x y H Q => rNe x y H Q ∨ rNeD K x y H Q
theorem op_eqA {X : Cx} (hu : X.A.units + 64 < cLine) : OpR X (compareOp .Eq) (rEqA X.K) := op_eq.or (op_eqD hu)
theorem op_neA {X : Cx} (hu : X.A.units + 64 < cLine) : OpR X (compareOp .NotEq) (rNeA X.K) := op_ne.or (op_neD hu)
theorem eqB_ok {x y : V} {H : Hp} {et : Hi} {W : Wd} {p q : PV} {b : Bool} (c : Cel K mg H et W) (hp : Pk K mg p x H et W) (hq : Pk K mg q y H et W) (h : eqB (deref et p) (deref et q) = some b) :
    (scal x y = true ∧ decide (x = y) = b) ∨ ∃ d e, Dp K H x d ∧ Dp K H y e ∧ SeqAt.shaped d = true ∧ SeqAt.shaped e = true ∧ PyData.eqv d e = b := by
  unfold eqB at h
  split at h
  · rename_i i j e1 e2; cases h; rw [hp.int e1, hq.int e2]; exact .inl ⟨rfl, by simp⟩
  · rename_i i j e1 e2; cases h; rw [hp.str e1, hq.str e2]; exact .inl ⟨rfl, by simp⟩
  · rename_i i j e1 e2; cases h; rw [hp.bl e1, hq.bl e2]; exact .inl ⟨rfl, by simp⟩
  · rename_i e1 e2; cases h; rw [hp.non e1, hq.non e2]; exact .inl ⟨rfl, by simp⟩
  · rename_i i j e1 e2; cases h; rw [hp.int e1, hq.str e2]; exact .inl ⟨rfl, by simp⟩
  · rename_i i j e1 e2; cases h; rw [hp.str e1, hq.int e2]; exact .inl ⟨rfl, by simp⟩
  · rename_i i e1 e2; cases h; rw [hp.int e1, hq.non e2]; exact .inl ⟨rfl, by simp⟩
  · rename_i i e1 e2; cases h; rw [hp.non e1, hq.int e2]; exact .inl ⟨rfl, by simp⟩
  · rename_i i e1 e2; cases h; rw [hp.str e1, hq.non e2]; exact .inl ⟨rfl, by simp⟩
  · rename_i i e1 e2; cases h; rw [hp.non e1, hq.str e2]; exact .inl ⟨rfl, by simp⟩
  · split at h
    · rename_i d e hd he
      split at h
      · rename_i hs; cases h
        exact .inr ⟨d, e, hp.dp c hd, hq.dp c he, hs.1, hs.2, rfl⟩
      · cases h
    · cases h
theorem o2_eq : Op2 K mg (rEqA K) gEq (pV K mg) := by
  intro x y H et W p q z Q c hp hq hz k
  unfold gEq at hz
  cases e : eqB (deref et p) (deref et q) with
  | none => rw [e] at hz; cases hz
  | some b =>
    rw [e] at hz; cases hz
    have qd := k _ H W (Ext.refl ..) c VR.bl
    rcases eqB_ok c hp hq e with ⟨h1, h2⟩ | ⟨d, e', h1, h2, h3, h4, h5⟩
    · exact .inl ⟨h1, by rw [h2]; exact qd⟩
    · exact .inr ⟨d, e', h1, h2, h3, h4, by rw [h5]; exact qd⟩
theorem o2_ne : Op2 K mg (rNeA K) gNe (pV K mg) := by
  intro x y H et W p q z Q c hp hq hz k
  unfold gNe at hz
  cases e : eqB (deref et p) (deref et q) with
  | none => rw [e] at hz; cases hz
  | some b =>
    rw [e] at hz; cases hz
    have qd := k _ H W (Ext.refl ..) c VR.bl
    rcases eqB_ok c hp hq e with ⟨h1, h2⟩ | ⟨d, e', h1, h2, h3, h4, h5⟩
    · exact .inl ⟨h1, by rw [h2]; exact qd⟩
    · exact .inr ⟨d, e', h1, h2, h3, h4, by rw [h5]; exact qd⟩
def gLt : PV → PV → Option PV
  | .int i, .int j => some (.bl (decide (i < j)))
  | .str i, .str j => some (.bl (decide (i.cps.toList < j.cps.toList)))
  | _, _ => none
def gLe : PV → PV → Option PV
  | .int i, .int j => some (.bl (decide (i ≤ j)))
  | _, _ => none
def gGt : PV → PV → Option PV
  | .int i, .int j => some (.bl (decide (j < i)))
  | _, _ => none
def gGe : PV → PV → Option PV
  | .int i, .int j => some (.bl (decide (j ≤ i)))
  | _, _ => none
def rLtA : R2 := fun x y H Q => rI0 (fun i j => .bl (decide (i < j))) x y H Q ∨ ∃ i j, x = .str i ∧ y = .str j ∧ Q (.bl (decide (i.cps.toList < j.cps.toList))) H
theorem op_ltA {X : Cx} : OpR X (compareOp .Lt) rLtA := op_lt.or op_lt_str
theorem o2_lt : Op2 K mg rLtA gLt (pV K mg) := by
  intro x y H et W p q z Q c hp hq hz k
  unfold gLt at hz
  split at hz
  · rename_i i j e1 e2
    cases hz
    exact .inl ⟨i, j, hp.int e1, hq.int e2, k _ H W (Ext.refl ..) c VR.bl⟩
  · rename_i i j e1 e2
    cases hz
    exact .inr ⟨i, j, hp.str e1, hq.str e2, k _ H W (Ext.refl ..) c VR.bl⟩
  · cases hz
theorem o2_le : Op2 K mg (rI0 fun i j => .bl (decide (i ≤ j))) gLe (pV K mg) := by
  intro x y H et W p q z Q c hp hq hz k
  unfold gLe at hz
  split at hz
  · rename_i i j e1 e2
    cases hz
    exact ⟨i, j, hp.int e1, hq.int e2, k _ H W (Ext.refl ..) c VR.bl⟩
  · cases hz
theorem o2_gt : Op2 K mg (rI0 fun i j => .bl (decide (j < i))) gGt (pV K mg) := by
  intro x y H et W p q z Q c hp hq hz k
  unfold gGt at hz
  split at hz
  · rename_i i j e1 e2
    cases hz
    exact ⟨i, j, hp.int e1, hq.int e2, k _ H W (Ext.refl ..) c VR.bl⟩
  · cases hz
theorem o2_ge : Op2 K mg (rI0 fun i j => .bl (decide (j ≤ i))) gGe (pV K mg) := by
  intro x y H et W p q z Q c hp hq hz k
  unfold gGe at hz
  split at hz
  · rename_i i j e1 e2
    cases hz
    exact ⟨i, j, hp.int e1, hq.int e2, k _ H W (Ext.refl ..) c VR.bl⟩
  · cases hz
def gIs : PV → PV → Option PV
  | .non, .non => some (.bl true)
  | .bl _, .non => some (.bl false)
  | .int _, .non => some (.bl false)
  | .str _, .non => some (.bl false)
  | .tup _, .non => some (.bl false)
  | .lst _, .non => some (.bl false)
  | .dic _, .non => some (.bl false)
  | .scr _, .non => some (.bl false)
  | .ref _, .non => some (.bl false)
  | .bl a, .bl b => some (.bl (decide (a = b)))
  | _, _ => none
def gIsNot (p q : PV) : Option PV := match gIs p q with
  | some (.bl b) => some (.bl (!b))
  | _ => none
def rIsA : R2 := fun x y H Q => (y = .non ∧ Q (.bl (decide (x = .non))) H) ∨ rIsB x y H Q
def rIsNotA : R2 := fun x y H Q => (y = .non ∧ Q (.bl (!decide (x = .non))) H) ∨ rNotB x y H Q
theorem op_isA {X : Cx} : OpR X (compareOp .Is) rIsA := op_isN.or op_isBl
theorem op_isNotA {X : Cx} : OpR X (compareOp .IsNot) rIsNotA := op_notN.or op_notBl
theorem Pk.nn {x : V} {H : Hp} {et : Hi} {W : Wd} {p : PV} (h : Pk K mg p x H et W) (hp : deref et p ≠ .non) (hg : ∀ z, p ≠ .glo z) : x ≠ .non := by
  intro e
  subst e
  rcases h with h | ⟨a, e, _⟩
  · cases p with
    | non => exact hp rfl
    | glo z => exact hg z rfl
    | bl b => unfold VR at h; cases h
    | int b => unfold VR at h; cases h
    | str b => unfold VR at h; cases h
    | tup b => unfold VR at h; obtain ⟨_, _, e, _⟩ := h; cases e
    | lst b => unfold VR at h; obtain ⟨_, _, e, _⟩ := h; cases e
    | dic b => unfold VR at h; obtain ⟨_, _, e, _⟩ := h; cases e
    | scr b => unfold VR at h; obtain ⟨_, e, _⟩ := h; cases e
    | ref b => unfold VR at h; obtain ⟨_, e, _⟩ := h; cases e
    | ty b => unfold VR at h; cases h
    | dik b => unfold VR at h; obtain ⟨_, _, _, e, _⟩ := h; cases e
  · cases e
theorem deref_glo {et : Hi} {z : Str} : deref et (.glo z) = .glo z := rfl
theorem gIs_ok {x y : V} {H : Hp} {et : Hi} {W : Wd} {p q : PV} {z : PV} (c : Cel K mg H et W) (hp : Pk K mg p x H et W) (hq : Pk K mg q y H et W) (h : gIs (deref et p) (deref et q) = some z) :
    ∃ b, z = .bl b ∧ ((y = .non ∧ decide (x = .non) = b) ∨ ∃ a d : Bool, x = .bl a ∧ y = .bl d ∧ decide (a = d) = b) := by
  unfold gIs at h
  have nn : ∀ {w : PV}, deref et p = w → w ≠ .non → (∀ z, w ≠ .glo z) → decide (x = .non) = false := fun {w} e1 e2 e3 => decide_eq_false (hp.nn (by rw [e1]; exact e2) fun z e => by
    subst e; rw [deref_glo] at e1; exact e3 z e1.symm)
  split at h
  · rename_i e1 e2; cases h; exact ⟨_, rfl, .inl ⟨hq.non e2, by rw [hp.non e1]; rfl⟩⟩
  · rename_i e1 e2; cases h; exact ⟨_, rfl, .inl ⟨hq.non e2, nn e1 (by simp) (by simp)⟩⟩
  · rename_i e1 e2; cases h; exact ⟨_, rfl, .inl ⟨hq.non e2, nn e1 (by simp) (by simp)⟩⟩
  · rename_i e1 e2; cases h; exact ⟨_, rfl, .inl ⟨hq.non e2, nn e1 (by simp) (by simp)⟩⟩
  · rename_i e1 e2; cases h; exact ⟨_, rfl, .inl ⟨hq.non e2, nn e1 (by simp) (by simp)⟩⟩
  · rename_i e1 e2; cases h; exact ⟨_, rfl, .inl ⟨hq.non e2, nn e1 (by simp) (by simp)⟩⟩
  · rename_i e1 e2; cases h; exact ⟨_, rfl, .inl ⟨hq.non e2, nn e1 (by simp) (by simp)⟩⟩
  · rename_i e1 e2; cases h; exact ⟨_, rfl, .inl ⟨hq.non e2, nn e1 (by simp) (by simp)⟩⟩
  · rename_i e1 e2; cases h; exact ⟨_, rfl, .inl ⟨hq.non e2, nn e1 (by simp) (by simp)⟩⟩
  · rename_i a d e1 e2; cases h; exact ⟨_, rfl, .inr ⟨a, d, hp.bl e1, hq.bl e2, rfl⟩⟩
  · cases h
theorem o2_is : Op2 K mg rIsA gIs (pV K mg) := by
  intro x y H et W p q z Q c hp hq hz k
  obtain ⟨b, rfl, h⟩ := gIs_ok c hp hq hz
  have qd := k _ H W (Ext.refl ..) c VR.bl
  rcases h with ⟨h1, h2⟩ | ⟨a, d, h1, h2, h3⟩
  · exact .inl ⟨h1, by rw [h2]; exact qd⟩
  · exact .inr ⟨a, d, h1, h2, by rw [h3]; exact qd⟩
theorem o2_isNot : Op2 K mg rIsNotA gIsNot (pV K mg) := by
  intro x y H et W p q z Q c hp hq hz k
  unfold gIsNot at hz
  cases e : gIs (deref et p) (deref et q) with
  | none => rw [e] at hz; cases hz
  | some w =>
    obtain ⟨b, rfl, h⟩ := gIs_ok c hp hq e
    rw [e] at hz; cases hz
    have qd := k _ H W (Ext.refl ..) c VR.bl
    rcases h with ⟨h1, h2⟩ | ⟨a, d, h1, h2, h3⟩
    · exact .inl ⟨h1, by rw [h2]; exact qd⟩
    · exact .inr ⟨a, d, h1, h2, by rw [h3]; exact qd⟩
end
end Mw
namespace Mw
open PySem PySem.Spec L2
section
variable {X : Cx} {e : Expr} {es : List Expr} {m : EM PV} {ms : EM (List PV)} {pos : Pos}
def mNil : EM (List PV) := fun _ et R => R [] et
def mCons (m : EM PV) (ms : EM (List PV)) : EM (List PV) := fun ep et R => m ep et fun p et1 => ms ep et1 fun ps et2 => R (p :: ps) et2
theorem sA_nil : SimA X [] mNil := weakA pa_nil fun σ H Q ⟨ep, et, W, R, c, s, e, q⟩ => q [] et e [] H W (Ext.refl ..) c VRs.nil
theorem sAP_nil : SimAP X [] mNil := weakA pa_nil fun σ H Q ⟨ep, et, W, R, c, s, e, q⟩ => q [] et e [] H W (Ext.refl ..) c rfl
theorem sA_cons (he : SimE X e m) (hr : SimA X es ms) (hs : starEach (e :: es) X.env = (false, eval e X.env) :: starEach es X.env := by rfl) : SimA X (e :: es) (mCons m ms) :=
  weakA (pa_cons he hr hs) fun σ H Q ⟨ep, et, W, R, c, s, e, q⟩ => by
  refine ⟨ep, et, W, _, c, s, e, fun p et1 r1 v H1 W1 x1 c1 p1 => ⟨ep, et1, W1, _, c1, s.ext c x1, r1, fun ps et2 r2 vs H2 W2 x2 c2 p2 => ?_⟩⟩
  exact q (p :: ps) et2 r2 (v :: vs) H2 W2 (x1.NoO_trans x2) c2 (VRs.cons (VR.ext x2 c1.stays0 _ _ p1) p2)
theorem sAP_cons (he : SimP X e m) (hr : SimAP X es ms) (hs : starEach (e :: es) X.env = (false, eval e X.env) :: starEach es X.env := by rfl) : SimAP X (e :: es) (mCons m ms) :=
  weakA (pa_cons he hr hs) fun σ H Q ⟨ep, et, W, R, c, s, e, q⟩ => by
  refine ⟨ep, et, W, _, c, s, e, fun p et1 r1 v H1 W1 x1 c1 p1 => ⟨ep, et1, W1, _, c1, s.ext c x1, r1, fun ps et2 r2 vs H2 W2 x2 c2 p2 => ?_⟩⟩
  exact q (p :: ps) et2 r2 (v :: vs) H2 W2 (x1.NoO_trans x2) c2 ⟨v, vs, rfl, Pk.ext x2 c1 p1, p2⟩
section
variable {x : Str} {id T : String} {p : Pos} {R : List V → Hp → VK → Prop} {g : List PV → Option PV}
theorem sE_callB (hc : CallR X (.builtin id) R) (hg : OpA X.K X.mg R g (pV X.K X.mg)) (hx : Gl X x) (hm : X.mg x = none) (hv : bootBuiltins x = some (.builtin id)) (ha : SimAP X (e :: es) ms) (hn : x ≠ "__name__" := by decide) (hdb : (x == ("__debug__" : Str)) = false := by decide)
    (he : starEach (e :: es) X.env = (false, eval e X.env) :: starEach es X.env := by rfl) (hpl : (backTo pos (starEach es X.env)).any (·.1) = false := by rfl) : SimE X (.Call (.Name x p) (e :: es) [] pos) (mArg g ms) :=
  arg_weak early_V (pe_callB hc hx hm hv ha hn hdb he hpl) hg
theorem sN_callB (hc : CallR X (.builtin id) R) (hg : OpA X.K X.mg R g (pN X.K X.mg)) (hx : Gl X x) (hm : X.mg x = none) (hv : bootBuiltins x = some (.builtin id)) (ha : SimAP X (e :: es) ms) (hn : x ≠ "__name__" := by decide) (hdb : (x == ("__debug__" : Str)) = false := by decide)
    (he : starEach (e :: es) X.env = (false, eval e X.env) :: starEach es X.env := by rfl) (hpl : (backTo pos (starEach es X.env)).any (·.1) = false := by rfl) : SimN X (.Call (.Name x p) (e :: es) [] pos) (mArg g ms) :=
  arg_weak early_N (pe_callB hc hx hm hv ha hn hdb he hpl) hg
theorem sE_callTy (hc : CallR X (.type T) R) (hg : OpA X.K X.mg R g (pV X.K X.mg)) (hx : Gl X x) (hm : X.mg x = none) (hv : bootBuiltins x = some (.type T)) (ha : SimAP X (e :: es) ms) (hn : x ≠ "__name__" := by decide) (hdb : (x == ("__debug__" : Str)) = false := by decide)
    (he : starEach (e :: es) X.env = (false, eval e X.env) :: starEach es X.env := by rfl) (hpl : (backTo pos (starEach es X.env)).any (·.1) = false := by rfl) : SimE X (.Call (.Name x p) (e :: es) [] pos) (mArg g ms) :=
  arg_weak early_V (pe_callTy hc hx hm hv ha hn hdb he hpl) hg
theorem sE_ty {t : Ty} (hx : Gl X x) (hm : X.mg x = none) (hv : bootBuiltins x = some (.type t.name)) (hn : x ≠ "__name__" := by decide) (hd : (x == ("__debug__" : Str)) = false := by decide) : SimE X (.Name x pos) (mC (.ty t)) :=
  sE_c (pe_bltn (v := .ty t.name) hx hm hv rfl hn hd) fun _ _ => by unfold VR; rfl
end
end
section
variable {K : PySem.W.Frag} {mg : Str → Option Value}
theorem Pks.one {H : Hp} {et : Hi} {W : Wd} {p : PV} {vs : List V} (h : Pks K mg [p] vs H et W) : ∃ v, vs = [v] ∧ Pk K mg p v H et W := by
  obtain ⟨v, r, e, h1, h2⟩ := h
  have : r = [] := h2
  subst this
  exact ⟨v, e, h1⟩
theorem Pks.two {H : Hp} {et : Hi} {W : Wd} {p q : PV} {vs : List V} (h : Pks K mg [p, q] vs H et W) : ∃ v u, vs = [v, u] ∧ Pk K mg p v H et W ∧ Pk K mg q u H et W := by
  obtain ⟨v, r, e, h1, h2⟩ := h
  obtain ⟨u, rfl, h3⟩ := Pks.one h2
  exact ⟨v, u, e, h1, h3⟩
theorem map1 {f : PV → PV} {ps : List PV} {q : PV} (h : ps.map f = [q]) : ∃ p, ps = [p] ∧ f p = q := by
  match ps, h with
  | [p], h => exact ⟨p, rfl, by simpa using h⟩
theorem map2 {f : PV → PV} {ps : List PV} {q r : PV} (h : ps.map f = [q, r]) : ∃ p p', ps = [p, p'] ∧ f p = q ∧ f p' = r := by
  match ps, h with
  | [p, p'], h => exact ⟨p, p', rfl, by simpa using h⟩
def gLen : List PV → Option PV
  | [.lst xs] => some (.int xs.length)
  | [.tup xs] => some (.int xs.length)
  | [.scr xs] => some (.int xs.length)
  | [.str x] => if x.length ≤ sizeLine then some (.int x.length) else none
  | _ => none
theorem oA_len : OpA K mg (fun xs H Q => ∃ x n, xs = [x] ∧ LenV K x H n ∧ Q (.int n) H) gLen (pV K mg) := by
  intro xs H et W ps z Q c hp hz k
  unfold gLen at hz
  split at hz
  · rename_i ys e
    cases hz
    obtain ⟨p, rfl, e'⟩ := map1 e
    obtain ⟨v, rfl, h⟩ := hp.one
    obtain ⟨a, vs, rfl, h1, h2⟩ := h.lst c e'
    exact ⟨_, _, rfl, .inl ⟨vs, SqL.of h1, rfl⟩, by rw [← h2.len]; exact k _ H W (Ext.refl ..) c VR.int⟩
  · rename_i ys e
    cases hz
    obtain ⟨p, rfl, e'⟩ := map1 e
    obtain ⟨v, rfl, h⟩ := hp.one
    obtain ⟨a, vs, rfl, h1, h2⟩ := h.tup e'
    exact ⟨_, _, rfl, .inr ⟨vs, h1, rfl⟩, by rw [← h2.len]; exact k _ H W (Ext.refl ..) c VR.int⟩
  · rename_i ys e
    cases hz
    obtain ⟨p, rfl, e'⟩ := map1 e
    obtain ⟨v, rfl, h⟩ := hp.one
    obtain ⟨a, rfl, h1⟩ := h.scr e'
    exact ⟨_, _, rfl, .inl ⟨_, h1.sq, rfl⟩, by rw [List.length_map]; exact k _ H W (Ext.refl ..) c VR.int⟩
  · rename_i ys e
    split at hz
    · rename_i hl
      cases hz
      obtain ⟨p, rfl, e'⟩ := map1 e
      obtain ⟨v, rfl, h⟩ := hp.one
      rw [h.str e']
      exact ⟨_, _, rfl, ⟨hl, rfl⟩, k _ H W (Ext.refl ..) c VR.int⟩
    · cases hz
  · cases hz
def tyB : PV → Option String
  | .non => some "NoneType"
  | .bl _ => some "bool"
  | .int _ => some "int"
  | .str _ => some "str"
  | .tup _ => some "tuple"
  | .lst _ => some "list"
  | .scr _ => some "list"
  | .dic _ => some "dict"
  | _ => none
def isiB : PV → Ty → Option Bool
  | .non, _ => some false
  | .bl _, .bool => some true
  | .bl _, .int => some true
  | .bl _, _ => some false
  | .int _, .int => some true
  | .int _, _ => some false
  | .str _, .str => some true
  | .str _, _ => some false
  | .tup _, .tup => some true
  | .tup _, _ => some false
  | .lst _, .lst => some true
  | .lst _, _ => some false
  | .scr _, .lst => some true
  | .scr _, _ => some false
  | .dic _, .dic => some true
  | .dic _, _ => some false
  | _, _ => none
theorem isiB_ok {p : PV} {t : Ty} {b : Bool} (h : isiB p t = some b) : ∃ s, tyB p = some s ∧ kitB s t.name = some b := by
  cases p <;> cases t <;> first | (cases h; done) | (cases h; exact ⟨_, rfl, by decide +kernel⟩)
def gIsi : List PV → Option PV
  | [p, .ty t] => (isiB p t).map .bl
  | _ => none
theorem Pk.tyx {H : Hp} {et : Hi} {W : Wd} {p : PV} {v : V} {s : String} (c : Cel K mg H et W) (h : Pk K mg p v H et W) (e : tyB (deref et p) = some s) : TyX K H v (.type s) := by
  cases q : deref et p with
  | non => rw [q] at e; cases e; rw [h.non q]; exact .base .non
  | bl b => rw [q] at e; cases e; rw [h.bl q]; exact .base (.bl b)
  | int b => rw [q] at e; cases e; rw [h.int q]; exact .base (.int b)
  | str b => rw [q] at e; cases e; rw [h.str q]; exact .base (.str b)
  | tup xs =>
    rw [q] at e; cases e
    obtain ⟨a, vs, rfl, h1, h2⟩ := h.tup q
    rcases h1.sq with (h1 | ⟨o, h1⟩) | ⟨o, its, n, h1, h3, _⟩
    · exact .base (.tup h1)
    · exact .fTuple h1
    · exact .kTuple h1 h3
  | lst xs =>
    rw [q] at e; cases e
    obtain ⟨a, vs, rfl, h1, h2⟩ := h.lst c q
    exact .base (.lst h1)
  | scr xs =>
    rw [q] at e; cases e
    obtain ⟨a, rfl, h1⟩ := h.scr q
    rcases h1 with ⟨o, h1⟩ | ⟨o, its, n, h1, h3, _⟩
    · exact .base (.frz h1)
    · exact .kList h1 h3
  | dic xs =>
    rw [q] at e; cases e
    obtain ⟨a, vs, rfl, h1, h2⟩ := h.dic c q
    exact .base (.dK h1)
  | ref n => rw [q] at e; cases e
  | glo n => rw [q] at e; cases e
  | ty n => rw [q] at e; cases e
  | dik n => rw [q] at e; cases e
theorem oA_isi : OpA K mg (rIsi K) gIsi (pV K mg) := by
  intro xs H et W ps z Q c hp hz k
  unfold gIsi at hz
  split at hz
  · rename_i q t e
    obtain ⟨p, p', rfl, e1, e2⟩ := map2 e
    obtain ⟨v, u, rfl, h1, h2⟩ := hp.two
    cases e3 : isiB q t with
    | none => rw [e3] at hz; cases hz
    | some b =>
      rw [e3] at hz; cases hz
      obtain ⟨s, h3, h4⟩ := isiB_ok e3
      have h5 := h2.val e2 rfl
      unfold VR at h5
      subst h5
      exact ⟨v, _, _, _, b, rfl, .ty _, h1.tyx c (by rw [e1]; exact h3), kit_ty h4, k _ H W (Ext.refl ..) c VR.bl⟩
  · cases hz
def bls : List PV → Option (List Bool)
  | [] => some []
  | .bl b :: r => (bls r).map (b :: ·)
  | _ => none
theorem VRs.bls {H : Hp} {W : Wd} : ∀ {ps : List PV} {vs : List V} {bs : List Bool}, VRs K mg W H ps vs → bls ps = some bs → vs = bs.map V.bl
  | [], vs, bs, h, e => by unfold VRs at h; cases e; exact h
  | .bl b :: ps, vs, bs, h, e => by
    unfold VRs at h; unfold Mw.bls at e
    obtain ⟨v, r, rfl, h1, h2⟩ := h
    cases q : Mw.bls ps with
    | none => rw [q] at e; cases e
    | some bs' =>
      rw [q] at e; cases e
      unfold VR at h1
      rw [h1, VRs.bls h2 q]; rfl
  | .non :: ps, vs, bs, h, e => by cases e
  | .int _ :: ps, vs, bs, h, e => by cases e
  | .str _ :: ps, vs, bs, h, e => by cases e
  | .tup _ :: ps, vs, bs, h, e => by cases e
  | .lst _ :: ps, vs, bs, h, e => by cases e
  | .dic _ :: ps, vs, bs, h, e => by cases e
  | .scr _ :: ps, vs, bs, h, e => by cases e
  | .ref _ :: ps, vs, bs, h, e => by cases e
  | .glo _ :: ps, vs, bs, h, e => by cases e
  | .ty _ :: ps, vs, bs, h, e => by cases e
  | .dik _ :: ps, vs, bs, h, e => by cases e
def gAll : List PV → Option PV
  | [.lst xs] => (bls xs).map fun bs => .bl (bs.all id)
  | _ => none
def gAny : List PV → Option PV
  | [.lst xs] => (bls xs).map fun bs => .bl (bs.any id)
  | _ => none
theorem oA_all : OpA K mg (rAll K) gAll (pV K mg) := by
  intro xs H et W ps z Q c hp hz k
  unfold gAll at hz
  split at hz
  · rename_i ys e
    obtain ⟨p, rfl, e'⟩ := map1 e
    obtain ⟨v, rfl, h⟩ := hp.one
    obtain ⟨a, vs, rfl, h1, h2⟩ := h.lst c e'
    cases q : bls ys with
    | none => rw [q] at hz; cases hz
    | some bs => rw [q] at hz; cases hz; rw [h2.bls q] at h1; exact ⟨a, bs, rfl, SqL.of h1, k _ H W (Ext.refl ..) c VR.bl⟩
  · cases hz
theorem oA_any : OpA K mg (rAny K) gAny (pV K mg) := by
  intro xs H et W ps z Q c hp hz k
  unfold gAny at hz
  split at hz
  · rename_i ys e
    obtain ⟨p, rfl, e'⟩ := map1 e
    obtain ⟨v, rfl, h⟩ := hp.one
    obtain ⟨a, vs, rfl, h1, h2⟩ := h.lst c e'
    cases q : bls ys with
    | none => rw [q] at hz; cases hz
    | some bs => rw [q] at hz; cases hz; rw [h2.bls q] at h1; exact ⟨a, bs, rfl, SqL.of h1, k _ H W (Ext.refl ..) c VR.bl⟩
  · cases hz
def gMin2 : List PV → Option PV
  | [.int i, .int j] => some (.int (if j < i then j else i))
  | _ => none
def gMax2 : List PV → Option PV
  | [.int i, .int j] => some (.int (if j > i then j else i))
  | _ => none
def gInt : List PV → Option PV
  | [.int i] => some (.int i)
  | [.bl b] => some (.int (if b then 1 else 0))
  | _ => none
def gTuple : List PV → Option PV
  | [.lst xs] => some (.tup xs)
  | [.tup xs] => some (.tup xs)
  | _ => none
def rTupX (K : PySem.W.Frag) : List V → Hp → VK → Prop := fun xs H Q => ∃ p ys, xs = [.ref p] ∧ ((SqL K H p ys ∧ ∀ l o, H l = none → XTup o → Q (.ref l) (upd H l (.frz o (.tup ys)))) ∨ (SqT K H p ys ∧ Q (.ref p) H))
theorem call_tupleX {X : Cx} : CallR X (.type "tuple") (rTupX X.K) := by
  intro pins s σ H xs us Q I r ⟨p, ys, ex, h⟩
  rcases h with ⟨hq, q⟩ | h
  · subst ex
    obtain ⟨u, eu, rx⟩ := vals1 r
    subst eu
    cases rx
    obtain ⟨its, r', pl, hz⟩ := I.list hq
    have hlen := r'.length
    refine call_tuple_list pl.isList (fun h' kp => ?_) (by simp only [List.size_toArray] <;> omega)
    have I1 : Inv X pins σ H { s with heap := h' } := I.kept (t' := s.toks) kp
    obtain ⟨o, ho, hg⟩ := tup_push h' its.toArray
    refine ⟨.ref h'.objs.size, _, I1.laid (t' := s.toks) (o := .frz o (.tup ys)) (fun b o e => Heap.get?_push_of_some _ e) (Nat.le_refl _) ?_, rfl, q _ o (I1.hok.fresh (Nat.le_refl _)) ho⟩
    exact ⟨hg, hz, its, r', PyProof.Rows.IsTup.new _ _⟩
  · exact call_tuple_of pins s σ H xs us Q I r ⟨p, ys, ex, .inr h⟩
theorem oA_tuple : OpA K mg (rTupX K) gTuple (pV K mg) := by
  intro xs H et W ps z Q c hp hz k
  unfold gTuple at hz
  split at hz
  · rename_i ys e
    cases hz
    obtain ⟨p, rfl, e'⟩ := map1 e
    obtain ⟨v, rfl, h⟩ := hp.one
    obtain ⟨a, vs, rfl, h1, h2⟩ := h.lst c e'
    refine ⟨a, vs, rfl, .inl ⟨SqL.of h1, fun l o hl ho => ?_⟩⟩
    obtain ⟨x1, c1, r1⟩ := new_tup c hl ho h2
    exact k _ _ _ x1 c1 r1
  · rename_i ys e
    cases hz
    obtain ⟨p, rfl, e'⟩ := map1 e
    obtain ⟨v, rfl, h⟩ := hp.one
    obtain ⟨a, vs, rfl, h1, h2⟩ := h.tup e'
    refine ⟨a, vs, rfl, .inr ⟨h1, k _ H W (Ext.refl ..) c ?_⟩⟩
    show VR K mg W H (.tup ys) _
    unfold VR; exact ⟨a, vs, rfl, h1, h2⟩
  · cases hz
def eqP : PV → PV → Bool
  | .non, .non => true
  | .bl a, .bl b => a == b
  | .bl a, .int b => (if a then 1 else 0) == b
  | .int a, .bl b => a == (if b then 1 else 0)
  | .int a, .int b => a == b
  | .str a, .str b => decide (a = b)
  | _, _ => false
def flatP : PV → Bool
  | .non => true
  | .bl _ => true
  | .int _ => true
  | .str _ => true
  | _ => false
theorem VR.flat {W : Wd} {H : Hp} {p : PV} {v : V} (h : VR K mg W H p v) (f : flatP p = true) : flatV v = true := by
  cases p <;> first | (cases f; done) | (unfold VR at h; subst h; rfl)
theorem VR.eqP {W : Wd} {H : Hp} {p q : PV} {v u : V} (h : VR K mg W H p v) (h' : VR K mg W H q u) (f : flatP p = true) (f' : flatP q = true) : eqV v u = eqP p q := by
  cases p <;> first | (cases f; done) | (cases q <;> first | (cases f'; done) | (unfold VR at h h'; subst h; subst h'; first | rfl | (unfold eqV Mw.eqP; rw [Bool.eq_iff_iff]; simp)))
theorem VRs.flat {W : Wd} {H : Hp} : ∀ {ps : List PV} {vs : List V}, VRs K mg W H ps vs → ps.all flatP = true → vs.all flatV = true
  | [], vs, h, f => by unfold VRs at h; rw [h]; rfl
  | p :: ps, vs, h, f => by
    unfold VRs at h
    obtain ⟨v, r, rfl, h1, h2⟩ := h
    simp only [List.all_cons, Bool.and_eq_true] at f ⊢
    exact ⟨h1.flat f.1, VRs.flat h2 f.2⟩
theorem VRs.inV {W : Wd} {H : Hp} {q : PV} {u : V} (h' : VR K mg W H q u) (f' : flatP q = true) : ∀ {ps : List PV} {vs : List V}, VRs K mg W H ps vs → ps.all flatP = true → L2.inV u vs = ps.any fun y => eqP y q
  | [], vs, h, f => by unfold VRs at h; rw [h]; rfl
  | p :: ps, vs, h, f => by
    unfold VRs at h
    obtain ⟨v, r, rfl, h1, h2⟩ := h
    simp only [List.all_cons, Bool.and_eq_true] at f
    have ih := VRs.inV h' f' h2 f.2
    unfold L2.inV at ih ⊢
    rw [List.any_cons, List.any_cons, ih, h1.eqP h' f.1 f']
def inB : PV → PV → Option Bool
  | x, .lst xs => if flatP x = true ∧ xs.all flatP = true then some (xs.any fun y => eqP y x) else
    match dat x, dats xs with
    | some d, some ds => if SeqAt.shaped d = true ∧ SeqAt.shaped (.list ds) = true then some (ds.any fun z => PyData.eqv z d) else none
    | _, _ => none
  | x, .tup xs => if flatP x = true ∧ xs.all flatP = true then some (xs.any fun y => eqP y x) else none
  | .str x, .str y => if x.cps.size = 1 then some (decide (x.cps.getD 0 0 ∈ y.cps.toList)) else none
  | _, _ => none
def gIn (p q : PV) : Option PV := (inB p q).map .bl
def gNotIn (p q : PV) : Option PV := (inB p q).map fun b => .bl (!b)
def rInA (K : PySem.W.Frag) : R2 := fun x y H Q => rIn K false x y H Q ∨ rInD K x y H Q ∨ ∃ (c : Nat) (z : Str), x = .str ⟨#[c]⟩ ∧ y = .str z ∧ Q (.bl (decide (c ∈ z.cps.toList))) H
def rNotInA (K : PySem.W.Frag) : R2 := fun x y H Q => rIn K true x y H Q ∨ rNotInD K x y H Q ∨ ∃ (c : Nat) (z : Str), x = .str ⟨#[c]⟩ ∧ y = .str z ∧ Q (.bl (!decide (c ∈ z.cps.toList))) H
theorem op_inA {X : Cx} (hu : X.A.units + 65 < cLine) : OpR X (compareOp .In) (rInA X.K) := op_in_seq.or ((op_inD hu).or op_in_sign)
theorem op_notInA {X : Cx} (hu : X.A.units + 65 < cLine) : OpR X (compareOp .NotIn) (rNotInA X.K) := op_notIn_seq.or ((op_notInD hu).or op_notIn_sign)
theorem inB_ok {x y : V} {H : Hp} {et : Hi} {W : Wd} {p q : PV} {b : Bool} (c : Cel K mg H et W) (hp : Pk K mg p x H et W) (hq : Pk K mg q y H et W) (h : inB (deref et p) (deref et q) = some b) :
    (∃ p xs, y = .ref p ∧ (SqL K H p xs ∨ SqT K H p xs) ∧ flatV x = true ∧ xs.all flatV = true ∧ L2.inV x xs = b) ∨ (∃ d ds, Dp K H x d ∧ Dp K H y (.list ds) ∧ SeqAt.shaped d = true ∧ SeqAt.shaped (.list ds) = true ∧ (ds.any fun z => PyData.eqv z d) = b) ∨
    ∃ (c : Nat) (z : Str), x = .str ⟨#[c]⟩ ∧ y = .str z ∧ decide (c ∈ z.cps.toList) = b := by
  have vx : flatP (deref et p) = true → VR K mg W H (deref et p) x := fun f => hp.val rfl (by cases e : deref et p <;> rw [e] at f <;> first | rfl | (cases f; done))
  unfold inB at h
  split at h
  · rename_i w xs e
    obtain ⟨a, vs, rfl, h1, h2⟩ := hq.lst c e
    split at h
    · rename_i hf
      cases h
      have hx := vx hf.1
      exact .inl ⟨a, vs, rfl, .inl (SqL.of h1), hx.flat hf.1, h2.flat hf.2, VRs.inV hx hf.1 h2 hf.2⟩
    · split at h
      · rename_i d ds hd hds
        split at h
        · rename_i hs; cases h
          exact .inr (.inl ⟨d, ds, hp.dp c hd, .lst (SqL.of h1) (VRs.dp _ _ _ h2 hds), hs.1, hs.2, rfl⟩)
        · cases h
      · cases h
  · rename_i w xs e
    obtain ⟨a, vs, rfl, h1, h2⟩ := hq.tup e
    split at h
    · rename_i hf
      cases h
      have hx := vx hf.1
      exact .inl ⟨a, vs, rfl, .inr h1, hx.flat hf.1, h2.flat hf.2, VRs.inV hx hf.1 h2 hf.2⟩
    · cases h
  · rename_i s t e1 e2
    split at h
    · rename_i hs
      cases h
      refine .inr (.inr ⟨s.cps.getD 0 0, t, ?_, hq.str e2, rfl⟩)
      rw [hp.str e1]
      obtain ⟨⟨l⟩⟩ := s
      match l, hs with
      | [c], _ => rfl
    · cases h
  · cases h
theorem o2_in : Op2 K mg (rInA K) gIn (pV K mg) := by
  intro x y H et W p q z Q c hp hq hz k
  unfold gIn at hz
  cases e : inB (deref et p) (deref et q) with
  | none => rw [e] at hz; cases hz
  | some b =>
    rw [e] at hz; cases hz
    have qd := k _ H W (Ext.refl ..) c VR.bl
    rcases inB_ok c hp hq e with ⟨a, vs, h1, h2, h3, h4, h5⟩ | ⟨d, ds, h1, h2, h3, h4, h5⟩ | ⟨n, s, h1, h2, h3⟩
    · exact .inl ⟨a, vs, h1, h2, h3, h4, by rw [h5]; exact qd⟩
    · exact .inr (.inl ⟨d, ds, h1, h2, h3, h4, by rw [h5]; exact qd⟩)
    · exact .inr (.inr ⟨n, s, h1, h2, by rw [h3]; exact qd⟩)
theorem o2_notIn : Op2 K mg (rNotInA K) gNotIn (pV K mg) := by
  intro x y H et W p q z Q c hp hq hz k
  unfold gNotIn at hz
  cases e : inB (deref et p) (deref et q) with
  | none => rw [e] at hz; cases hz
  | some b =>
    rw [e] at hz; cases hz
    have qd := k _ H W (Ext.refl ..) c VR.bl
    rcases inB_ok c hp hq e with ⟨a, vs, h1, h2, h3, h4, h5⟩ | ⟨d, ds, h1, h2, h3, h4, h5⟩ | ⟨n, s, h1, h2, h3⟩
    · exact .inl ⟨a, vs, h1, h2, h3, h4, by rw [h5]; exact qd⟩
    · exact .inr (.inl ⟨d, ds, h1, h2, h3, h4, by rw [h5]; exact qd⟩)
    · exact .inr (.inr ⟨n, s, h1, h2, by rw [h3]; exact qd⟩)
end
end Mw
namespace Mw
open PySem PySem.Spec L2
def gIx : PV → PV → Option PV
  | .lst xs, .int i => atI xs i
  | .tup xs, .int i => atI xs i
  | .scr xs, .int i => (atI xs i).map .int
  | .str x, .int i => if x.length ≤ sizeLine then (atI x.cps.toList i).map fun c => .str ⟨#[c]⟩ else none
  | _, _ => none
section
variable {K : PySem.W.Frag} {mg : Str → Option Value} {X : Cx}
theorem VRs.at {H : Hp} {W : Wd} {ps : List PV} {vs : List V} {i : Int} {p : PV} (h : VRs K mg W H ps vs) (e : atI ps i = some p) : ∃ v, atI vs i = some v ∧ VR K mg W H p v := by
  unfold atI at e ⊢
  rw [← h.len]
  cases q : ixN ps.length i with
  | none => rw [q] at e; cases e
  | some j => rw [q] at e; exact VRs.get h e
theorem o2_ix : Op2 K mg (rIx K) gIx (pV K mg) := by
  intro x y H et W p q z Q c hp hq hz k
  unfold gIx at hz
  split at hz
  · rename_i xs i e1 e2
    obtain ⟨a, vs, rfl, h1, h2⟩ := hp.lst c e1
    obtain ⟨v, h3, h4⟩ := h2.at hz
    exact .inl ⟨a, vs, i, v, rfl, hq.int e2, SqL.of h1, h3, k _ H W (Ext.refl ..) c h4⟩
  · rename_i xs i e1 e2
    obtain ⟨a, vs, rfl, h1, h2⟩ := hp.tup e1
    obtain ⟨v, h3, h4⟩ := h2.at hz
    exact .inr (.inl ⟨a, vs, i, v, rfl, hq.int e2, h1, h3, k _ H W (Ext.refl ..) c h4⟩)
  · rename_i xs i e1 e2
    obtain ⟨a, rfl, h1⟩ := hp.scr e1
    cases e3 : atI xs i with
    | none => rw [e3] at hz; cases hz
    | some n =>
      rw [e3] at hz; cases hz
      refine .inl ⟨a, _, i, .int n, rfl, hq.int e2, h1.sq, ?_, k _ H W (Ext.refl ..) c VR.int⟩
      unfold atI at e3 ⊢
      rw [List.length_map]
      cases e4 : ixN xs.length i with
      | none => rw [e4] at e3; cases e3
      | some j => rw [e4] at e3; simp only [Option.bind_some] at e3 ⊢; rw [List.getElem?_map, e3]; rfl
  · rename_i s i e1 e2
    split at hz
    · rename_i hl
      cases e3 : atI s.cps.toList i with
      | none => rw [e3] at hz; cases hz
      | some n => rw [e3] at hz; cases hz; exact .inr (.inr ⟨s, i, n, hp.str e1, hq.int e2, hl, e3, k _ H W (Ext.refl ..) c VR.str⟩)
    · cases hz
  · cases hz
theorem sE_ix {a b : Expr} {pos : Pos} {ma mb : EM PV} (ha : SimP X a ma) (hb : SimP X b mb) (hs : PlainIx b := by exact fun _ _ => rfl) : SimE X (.Subscript a b pos) (mBin gIx ma mb) :=
  bin_weak (a := a) (b := b) early_V (pe_ix ix_seq ha hb hs) o2_ix
def tO (K : PySem.W.Frag) (mg : Str → Option Value) (m : EM (Option Int)) : TO := fun sg H Q => ∃ ep et W R, Cel K mg H et W ∧ Slt K mg sg ep H et W ∧ m ep et R ∧
  ∀ b et', R b et' → ∀ H' W', Ext NoO H et W H' et' W' → Cel K mg H' et' W' → Q b H'
abbrev SimO (X : Cx) (e : Option Expr) (m : EM (Option Int)) : Prop := PO X e (tO X.K X.mg m)
theorem weakO {X : Cx} {e : Option Expr} {t u : TO} (h : PO X e t) (w : ∀ σ H Q, u σ H Q → t σ H Q) : PO X e u := ⟨fun pins s σ H Q I q => h.run pins s σ H Q I (w σ H Q q)⟩
def mO0 : EM (Option Int) := fun _ et R => R none et
def mO1 (m : EM PV) : EM (Option Int) := fun ep et R => m ep et fun p et1 => ∃ i, p = .int i ∧ R (some i) et1
theorem sO_none : SimO X none mO0 := weakO po_none fun σ H Q ⟨ep, et, W, R, c, s, e, q⟩ => q none et e H W (Ext.refl ..) c
theorem sO_some {e : Expr} {m : EM PV} (h : SimE X e m) : SimO X (some e) (mO1 m) := weakO (po_some h) fun σ H Q ⟨ep, et, W, R, c, s, e, q⟩ => by
  refine ⟨ep, et, W, _, c, s, e, fun p et1 r1 v H1 W1 x1 c1 p1 => ?_⟩
  obtain ⟨i, hi, r2⟩ := r1
  subst hi
  have p2 : VR X.K X.mg W1 H1 (.int i) v := p1
  unfold VR at p2
  exact ⟨i, p2, q _ et1 r2 H1 W1 x1 c1⟩
def cutP {α : Type} (xs : List α) (lo hi : Option Int) : List α := (xs.drop (HT.sIx xs.length 0 lo)).take (HT.sIx xs.length xs.length hi - HT.sIx xs.length 0 lo)
theorem VRs.cut {H : Hp} {W : Wd} {ps : List PV} {vs : List V} (h : VRs K mg W H ps vs) (lo hi : Option Int) : VRs K mg W H (cutP ps lo hi) (cutV vs lo hi) := by
  unfold cutP cutV
  rw [← h.len]
  exact VRs.take _ (VRs.drop _ h)
def gSl (p : PV) (lo hi : Option Int) : Option PV := match p with
  | .tup xs => some (.tup (cutP xs lo hi))
  | .str x => if x.length ≤ sizeLine then some (.str (cutS x lo hi)) else none
  | _ => none
def mSl (g : PV → Option Int → Option Int → Option PV) (m : EM PV) (l h : EM (Option Int)) : EM PV := fun ep et R => m ep et fun p et1 => l ep et1 fun lo et2 => h ep et2 fun hi et3 => ∃ z, g (deref et3 p) lo hi = some z ∧ R z et3
def OpSl (K : PySem.W.Frag) (mg : Str → Option Value) (R : V → Option Int → Option Int → Hp → VK → Prop) (g : PV → Option Int → Option Int → Option PV) (P : Post PV) : Prop :=
  ∀ (x : V) (lo hi : Option Int) (H : Hp) (et : Hi) (W : Wd) (p z : PV) (Q : VK), Cel K mg H et W → Pk K mg p x H et W → g (deref et p) lo hi = some z →
    (∀ v H' W', Ext NoO H et W H' et W' → Cel K mg H' et W' → P z v H et W H' et W' → Q v H') → R x lo hi H Q
theorem sl_weak {a : Expr} {lo hi : Option Expr} {p2 pos : Pos} {ma : EM PV} {ml mh : EM (Option Int)} {R : V → Option Int → Option Int → Hp → VK → Prop} {g : PV → Option Int → Option Int → Option PV} {P : Post PV} (he : Early P) (hr : SlR X R) (hg : OpSl X.K X.mg R g P) (ha : SimP X a ma) (hl : SimO X lo ml) (hh : SimO X hi mh) :
    PE X (.Subscript a (.Slice lo hi none p2) pos) (tI X.K X.mg P (mSl g ma ml mh)) := weakE (pe_slice hr ha hl hh) fun σ H Q ⟨ep, et, W, R0, c, s, e, q⟩ => by
  refine ⟨ep, et, W, _, c, s, e, fun p et1 r1 v H1 W1 x1 c1 p1 => ⟨ep, et1, W1, _, c1, s.ext c x1, r1, fun lo et2 r2 H2 W2 x2 c2 => ⟨ep, et2, W2, _, c2, s.ext c (x1.NoO_trans x2), r2, fun hi et3 r3 H3 W3 x3 c3 => ?_⟩⟩⟩
  obtain ⟨z, hz, r4⟩ := r3
  have x13 := (x1.NoO_trans x2).NoO_trans x3
  refine hg v lo hi H3 et3 W3 p z Q c3 (Pk.ext (x2.NoO_trans x3) c1 p1) hz fun w H4 W4 x4 c4 p4 => ?_
  exact q z et3 r4 w H4 W4 (x13.NoO_trans x4) c4 (he _ _ _ _ _ _ _ _ _ _ _ x13 p4)
def rSlX (K : PySem.W.Frag) : V → Option Int → Option Int → Hp → VK → Prop := fun x lo hi H Q => ∃ a xs, x = .ref a ∧ SqT K H a xs ∧
  (HT.sIx xs.length 0 lo = 0 ∧ HT.sIx xs.length xs.length hi = xs.length → Q (.ref a) H) ∧ (¬ (HT.sIx xs.length 0 lo = 0 ∧ HT.sIx xs.length xs.length hi = xs.length) → ∀ p o, H p = none → XTup o → Q (.ref p) (upd H p (.frz o (.tup (cutV xs lo hi)))))
theorem sl_tupX {X : Cx} : SlR X (rSlX X.K) := by
  intro pins s σ H x v vl vu lo hi sl Q I rx hs pl pu ⟨a, xs, ex, hx, q1, q2⟩
  by_cases hw : HT.sIx xs.length 0 lo = 0 ∧ HT.sIx xs.length xs.length hi = xs.length
  · exact sl_tupA pins s σ H x v vl vu lo hi sl Q I rx hs pl pu ⟨a, xs, ex, hx, q1, fun n => absurd hw n⟩
  · subst ex
    cases rx
    obtain ⟨its, r, ht, hz⟩ := I.tuple hx
    have hlen : its.toArray.size = xs.length := by rw [List.size_toArray]; exact r.length.symm
    refine ⟨"tuple", _, PyProof.Rows.slot_tuple_getitem.lookup, ht.typeIs, HT.getItem_tuple_cut ht hs pl pu (by rw [hlen]; exact hw) ?_ (by rw [hlen]; exact hz)⟩
    rw [hlen]
    obtain ⟨o, ho, hg⟩ := tup_push s.heap ((its.drop (HT.sIx xs.length 0 lo)).take (HT.sIx xs.length xs.length hi - HT.sIx xs.length 0 lo)).toArray
    refine ⟨.ref s.heap.objs.size, _, I.laid (t' := s.toks) (o := .frz o (.tup (cutV xs lo hi))) (fun b ob q => Heap.get?_push_of_some _ q) (Nat.le_refl _) ?_, rfl, q2 hw _ o (I.hok.fresh (Nat.le_refl _)) ho⟩
    exact ⟨hg, Nat.le_trans (cutV_length xs lo hi) hz, _, (r.drop (HT.sIx xs.length 0 lo)).take (HT.sIx xs.length xs.length hi - HT.sIx xs.length 0 lo), PyProof.Rows.IsTup.new _ _⟩
def rSlTS (K : PySem.W.Frag) : V → Option Int → Option Int → Hp → VK → Prop := fun x lo hi H Q => rSlX K x lo hi H Q ∨ rSlS x lo hi H Q
theorem cutP_whole {α : Type} {xs : List α} {lo hi : Option Int} (h : HT.sIx xs.length 0 lo = 0 ∧ HT.sIx xs.length xs.length hi = xs.length) : cutP xs lo hi = xs := by
  unfold cutP
  rw [h.1, h.2, List.drop_zero, Nat.sub_zero, List.take_length]
theorem oS_ts : OpSl K mg (rSlTS K) gSl (pV K mg) := by
  intro x lo hi H et W p z Q c hp hz k
  unfold gSl at hz
  split at hz
  · rename_i xs e
    cases hz
    obtain ⟨a, vs, rfl, h1, h2⟩ := hp.tup e
    refine .inl ⟨a, vs, rfl, h1, fun hw => ?_, fun _ t o ht ho => ?_⟩
    · rw [← h2.len] at hw
      refine k _ H W (Ext.refl ..) c ?_
      show VR K mg W H (.tup (cutP xs lo hi)) _
      rw [cutP_whole hw]
      unfold VR; exact ⟨a, vs, rfl, h1, h2⟩
    · obtain ⟨x1, c1, r1⟩ := new_tup c ht ho (h2.cut lo hi)
      exact k _ _ W x1 c1 r1
  · rename_i s e
    split at hz
    · rename_i hl; cases hz
      exact .inr ⟨s, hp.str e, hl, k _ H W (Ext.refl ..) c VR.str⟩
    · cases hz
  · cases hz
theorem VRs.ints {W : Wd} {H : Hp} : ∀ ns : List Int, VRs K mg W H (ns.map .int) (ns.map .int)
  | [] => VRs.nil
  | n :: ns => VRs.cons VR.int (VRs.ints ns)
theorem cutV_map (ns : List Int) (lo hi : Option Int) : cutV (ns.map V.int) lo hi = (cutP ns lo hi).map V.int := by
  unfold cutV cutP
  rw [List.length_map, List.map_take, List.map_drop]
def gRevL : PV → Option PV
  | .lst xs => some (.lst xs.reverse)
  | _ => none
theorem sN_revL {a : Expr} {k : Nat} {p1 p2 p3 pos : Pos} {ma : EM PV} (ha : SimP X a ma) : SimN X (.Subscript a (.Slice none none (some (.UnaryOp .USub (.Constant (.int 1) k p1) p2)) p3) pos) (mUn gRevL ma) :=
  un_weak (R := fun x H Q => ∃ a xs, x = .ref a ∧ SqL X.K H a xs ∧ ∀ p, H p = none → Q (.ref p) (upd H p (.lst xs.reverse))) early_N (pe_revL ha) (by
    intro x H et W p z Q c hp hz k
    unfold gRevL at hz
    split at hz
    · rename_i xs e
      cases hz
      obtain ⟨a, vs, rfl, h1, h2⟩ := hp.lst c e
      refine ⟨a, vs, rfl, SqL.of h1, fun t ht => ?_⟩
      obtain ⟨x1, c1, r1⟩ := new_own c ht (VRs.reverse h2)
      exact k _ _ _ x1 c1 r1
    · cases hz)
def mTup (ms : EM (List PV)) : EM PV := fun ep et R => ms ep et fun ps et1 => ps.length ≤ sizeLine ∧ R (.tup ps) et1
def mLst (ms : EM (List PV)) : EM PV := fun ep et R => ms ep et fun ps et1 => ps.length ≤ sizeLine ∧ R (.lst ps) et1
def tTupX (t : TA) : TE := fun σ H Q => t σ H fun xs H1 => xs.length ≤ sizeLine ∧ ∀ p o, H1 p = none → XTup o → Q (.ref p) (upd H1 p (.frz o (.tup xs)))
theorem pe_tupX {X : Cx} {es : List Expr} {t : TA} {pos : Pos} {x1} (h : PA X es t) : PE X (.Tuple es x1 pos) (tTupX t) := by
  refine ⟨fun pins s σ H Q I hq => wpAny_Tuple_spliced (thn (h.run pos pins s σ H _ I hq) fun us s1 ⟨xs, H1, I1, r, z, q⟩ => ⟨by rw [← r.length]; exact z, ?_⟩)⟩
  have hf : H1 s1.heap.objs.size = none := I1.hok.fresh (Nat.le_refl _)
  obtain ⟨o, ho, hg⟩ := tup_push s1.heap us.toArray
  refine ⟨.ref s1.heap.objs.size, _, I1.laid (t' := s1.toks) (o := .frz o (.tup xs)) (fun b u e => Heap.get?_push_of_some _ e) (Nat.le_refl _) ?_, rfl, q _ o hf ho⟩
  exact ⟨hg, z, us, r, ⟨_, Heap.get?_push_size _ rfl, rfl, _, rfl⟩⟩
theorem sE_tup {es : List Expr} {ms : EM (List PV)} {x1 pos} (h : SimA X es ms) : SimE X (.Tuple es x1 pos) (mTup ms) := weakE (pe_tupX h) fun σ H Q ⟨ep, et, W, R, c, s, e, q⟩ => by
  refine ⟨ep, et, W, _, c, s, e, fun ps et1 r1 vs H1 W1 x1 c1 p1 => ⟨by rw [← p1.len]; exact r1.1, fun t o ht ho => ?_⟩⟩
  obtain ⟨x2, c2, r2⟩ := new_tup c1 ht ho p1
  exact q _ et1 r1.2 _ _ W1 (x1.NoO_trans x2) c2 r2
theorem sN_lst {es : List Expr} {ms : EM (List PV)} {pos} (h : SimA X es ms) : SimN X (.List es pos) (mLst ms) := weakE (pe_lst h) fun σ H Q ⟨ep, et, W, R, c, s, e, q⟩ => by
  refine ⟨ep, et, W, _, c, s, e, fun ps et1 r1 vs H1 W1 x1 c1 p1 => ⟨by rw [← p1.len]; exact r1.1, fun t ht => ?_⟩⟩
  obtain ⟨x2, c2, r2⟩ := new_own c1 ht p1
  exact q _ et1 r1.2 _ _ W1 (x1.NoO_trans x2) c2 (early_N _ _ _ _ _ _ _ _ _ _ _ x1 r2)
def keyP : PV → Option Key
  | .int i => some (.inl i)
  | .str x => some (.inr x)
  | _ => none
def valP (ks : List (Key × PV)) (k : Key) : Option PV := (ks.find? fun kv => decide (kv.1 = k)).map (·.2)
def putP (ks : List (Key × PV)) (k : Key) (p : PV) : List (Key × PV) :=
  if (ks.any fun kv => decide (kv.1 = k)) = true then ks.map (fun kv => if kv.1 = k then (kv.1, p) else kv) else ks ++ [(k, p)]
def mergeP (ks more : List (Key × PV)) : List (Key × PV) := more.foldl (fun acc kv => putP acc kv.1 kv.2) ks
theorem VR.key {W : Wd} {H : Hp} {p : PV} {v : V} {k : Key} (h : VR K mg W H p v) (e : keyP p = some k) : v = kV k := by
  cases p <;> first | (cases e; done) | (cases e; unfold VR at h; exact h)
theorem VRk.len {W : Wd} {H : Hp} : ∀ {ks : List (Key × PV)} {vs : List (Key × V)}, VRk K mg W H ks vs → ks.length = vs.length
  | [], vs, h => by unfold VRk at h; rw [h]; rfl
  | (k, p) :: r, vs, h => by
    unfold VRk at h
    obtain ⟨v, t, e, _, h2⟩ := h
    rw [e, List.length_cons, List.length_cons, VRk.len h2]
theorem VRk.val {W : Wd} {H : Hp} {k : Key} : ∀ {ks : List (Key × PV)} {vs : List (Key × V)}, VRk K mg W H ks vs → (∀ p, valP ks k = some p → ∃ v, valV vs k = some v ∧ VR K mg W H p v) ∧ (valP ks k = none → valV vs k = none)
  | [], vs, h => by
    unfold VRk at h; subst h
    exact ⟨fun p e => by simp [valP] at e, fun _ => rfl⟩
  | (k', p) :: r, vs, h => by
    unfold VRk at h
    obtain ⟨v, t, rfl, h1, h2⟩ := h
    obtain ⟨i1, i2⟩ := VRk.val (k := k) h2
    by_cases e : k' = k
    · refine ⟨fun q hq => ⟨v, valV_pos e, ?_⟩, fun hq => ?_⟩
      · have : valP ((k', p) :: r) k = some p := by simp [valP, List.find?_cons, e]
        rw [this] at hq; cases hq; exact h1
      · have : valP ((k', p) :: r) k = some p := by simp [valP, List.find?_cons, e]
        rw [this] at hq; cases hq
    · have e1 : valP ((k', p) :: r) k = valP r k := by simp [valP, List.find?_cons, e]
      have e2 : valV ((k', v) :: t) k = valV t k := valV_neg e
      rw [e1, e2]
      exact ⟨i1, i2⟩
theorem VRk.app {W : Wd} {H : Hp} {k : Key} {p : PV} {v : V} (hv : VR K mg W H p v) : ∀ {ks : List (Key × PV)} {vs : List (Key × V)}, VRk K mg W H ks vs → VRk K mg W H (ks ++ [(k, p)]) (vs ++ [(k, v)])
  | [], vs, h => by unfold VRk at h; subst h; show VRk K mg W H [(k, p)] [(k, v)]; unfold VRk; exact ⟨v, [], rfl, hv, by unfold VRk; rfl⟩
  | (k', q) :: r, vs, h => by
    unfold VRk at h
    obtain ⟨u, t, rfl, h1, h2⟩ := h
    show VRk K mg W H ((k', q) :: (r ++ [(k, p)])) _
    unfold VRk
    exact ⟨u, t ++ [(k, v)], rfl, h1, VRk.app hv h2⟩
theorem VRk.any {W : Wd} {H : Hp} {k : Key} : ∀ {ks : List (Key × PV)} {vs : List (Key × V)}, VRk K mg W H ks vs → (ks.any fun kv => decide (kv.1 = k)) = vs.any fun kv => decide (kv.1 = k)
  | [], vs, h => by unfold VRk at h; subst h; rfl
  | (k', q) :: r, vs, h => by
    unfold VRk at h
    obtain ⟨u, t, rfl, h1, h2⟩ := h
    rw [List.any_cons, List.any_cons, VRk.any h2]
theorem VRk.over {W : Wd} {H : Hp} {k : Key} {p : PV} {v : V} (hv : VR K mg W H p v) : ∀ {ks : List (Key × PV)} {vs : List (Key × V)}, VRk K mg W H ks vs →
    VRk K mg W H (ks.map fun kv => if kv.1 = k then (kv.1, p) else kv) (vs.map fun kv => if kv.1 = k then (kv.1, v) else kv)
  | [], vs, h => by unfold VRk at h; subst h; show VRk K mg W H [] []; unfold VRk; rfl
  | (k', q) :: r, vs, h => by
    unfold VRk at h
    obtain ⟨u, t, rfl, h1, h2⟩ := h
    have ih := VRk.over (k := k) hv h2
    rw [List.map_cons, List.map_cons]
    by_cases e : k' = k
    · simp only [e, if_true]; unfold VRk; exact ⟨v, _, rfl, hv, ih⟩
    · simp only [e, if_false]; unfold VRk; exact ⟨u, _, rfl, h1, ih⟩
theorem VRk.put {W : Wd} {H : Hp} {k : Key} {p : PV} {v : V} (hv : VR K mg W H p v) {ks : List (Key × PV)} {vs : List (Key × V)} (h : VRk K mg W H ks vs) : VRk K mg W H (putP ks k p) (putK vs k v) := by
  unfold putP putK
  rw [h.any]
  split
  · exact VRk.over hv h
  · exact VRk.app hv h
theorem new_ownD {H : Hp} {et : Hi} {W : Wd} (c : Cel K mg H et W) {p : Addr} (hp : H p = none) {ps : List (Key × PV)} {vs : List (Key × V)} (h : VRk K mg W H ps vs) :
    Ext NoO H et W (upd H p (.dK vs)) et W ∧ Cel K mg (upd H p (.dK vs)) et W ∧ pN K mg (.dic ps) (.ref p) H et W (upd H p (.dK vs)) et W := by
  have x : Ext NoO H et W (upd H p (.dK vs)) et W := Ext.new hp W rfl (fun _ h => h) fun _ h => .inl h
  refine ⟨x, c.new hp W rfl (fun _ h => h) fun _ h => .inl h, p, rfl, hp, fun z => c.fzh p z hp, ?_, ?_⟩
  · exact c.not_live hp
  · exact ⟨vs, upd_same, VRk.ext x c.stays0 _ _ h⟩
def mDic0 : EM PV := fun _ et R => R (.dic []) et
theorem sN_dic0 {pos} : SimN X (.Dict [] [] pos) mDic0 := weakE pe_dnewK fun σ H Q ⟨ep, et, W, R, c, s, e, q⟩ => fun p hp => by
  obtain ⟨x1, c1, r1⟩ := new_ownD c hp (show VRk X.K X.mg W H [] [] by unfold VRk; rfl)
  exact q _ et e _ _ W x1 c1 r1
end
end Mw
namespace Mw
open PySem PySem.Spec L2
section
variable {K : PySem.W.Frag} {mg : Str → Option Value} {H H1 : Hp} {et et1 : Hi} {W W1 : Wd} {sg : L2.St} {ep : En}
theorem getset {α : Type} {l : List α} {i j : Nat} {a b : α} (h : (l.set i a)[j]? = some b) : (j = i ∧ b = a ∧ i < l.length) ∨ (j ≠ i ∧ l[j]? = some b) := by
  by_cases e : j = i
  · subst e
    have hl : j < l.length := by
      have := (List.getElem?_eq_some_iff.mp h).1
      rwa [List.length_set] at this
    rw [List.getElem?_set_self hl] at h
    cases h
    exact .inl ⟨rfl, rfl, hl⟩
  · rw [List.getElem?_set_ne (Ne.symm e)] at h
    exact .inr ⟨e, h⟩
theorem own_set_sub {i : Nat} {p : PV} {v : V} {a : Addr} (h : Own (ep.set i (.val p)) (sg.set i (some v)) a) : Own ep sg a := by
  obtain ⟨j, q, h1, h2⟩ := h
  rcases getset h1 with ⟨_, e, _⟩ | ⟨hj, h1⟩
  · cases e
  · rcases getset h2 with ⟨e, _⟩ | ⟨_, h2⟩
    · exact absurd e hj
    · exact ⟨j, q, h1, h2⟩
theorem Slt.set_val (s : Slt K mg sg ep H et W) {i : Nat} {p : PV} {v : V} (hv : VR K mg W H p v) : Slt K mg (sg.set i (some v)) (ep.set i (.val p)) H et W where
  len := by rw [List.length_set, List.length_set, s.len]
  ok := fun j t o h1 h2 => by
    rcases getset h1 with ⟨rfl, rfl, _⟩ | ⟨hj, h1⟩
    · rcases getset h2 with ⟨_, rfl, _⟩ | ⟨e, _⟩
      · exact ⟨v, rfl, hv⟩
      · exact absurd rfl e
    · rcases getset h2 with ⟨e, _⟩ | ⟨_, h2⟩
      · exact absurd e hj
      · exact s.ok j t o h1 h2
  inj := fun a b p q x h1 h2 h3 h4 => by
    rcases getset h1 with ⟨_, e, _⟩ | ⟨ha, h1⟩
    · cases e
    · rcases getset h2 with ⟨_, e, _⟩ | ⟨hb, h2⟩
      · cases e
      · rcases getset h3 with ⟨e, _⟩ | ⟨_, h3⟩
        · exact absurd e ha
        · rcases getset h4 with ⟨e, _⟩ | ⟨_, h4⟩
          · exact absurd e hb
          · exact s.inj a b p q x h1 h2 h3 h4
  ofz := fun a h => s.ofz a (own_set_sub h)
  oli := fun a h => s.oli a (own_set_sub h)
theorem own_set_own {i : Nat} {p : PV} {b a : Addr} (h : Own (ep.set i (.own p)) (sg.set i (some (.ref b))) a) : Own ep sg a ∨ a = b := by
  obtain ⟨j, q, h1, h2⟩ := h
  rcases getset h1 with ⟨e, _, _⟩ | ⟨hj, h1⟩
  · subst e
    rcases getset h2 with ⟨_, e, _⟩ | ⟨e, _⟩
    · cases e; exact .inr rfl
    · exact absurd rfl e
  · rcases getset h2 with ⟨e, _⟩ | ⟨_, h2⟩
    · exact absurd e hj
    · exact .inl ⟨j, q, h1, h2⟩
theorem Slt.set_own (s : Slt K mg sg ep H et W) {i : Nat} {p : PV} {b : Addr} (hn : ¬ Own ep sg b) (hf : ¬ W.fz b) (hl : ¬ Live et W b) (ho : OwnAt K mg W H p b) : Slt K mg (sg.set i (some (.ref b))) (ep.set i (.own p)) H et W where
  len := by rw [List.length_set, List.length_set, s.len]
  ok := fun j t o h1 h2 => by
    rcases getset h1 with ⟨rfl, rfl, _⟩ | ⟨hj, h1⟩
    · rcases getset h2 with ⟨_, rfl, _⟩ | ⟨e, _⟩
      · exact ⟨b, rfl, ho⟩
      · exact absurd rfl e
    · rcases getset h2 with ⟨e, _⟩ | ⟨_, h2⟩
      · exact absurd e hj
      · exact s.ok j t o h1 h2
  inj := fun a c p' q x h1 h2 h3 h4 => by
    rcases getset h1 with ⟨ea, _, _⟩ | ⟨ha, g1⟩
    · rcases getset h3 with ⟨_, e, _⟩ | ⟨e, _⟩
      · rcases getset h2 with ⟨ec, _, _⟩ | ⟨hc, g2⟩
        · exact ea.trans ec.symm
        · rcases getset h4 with ⟨e, _⟩ | ⟨_, g4⟩
          · exact absurd e hc
          · cases e; exact absurd ⟨c, q, g2, g4⟩ hn
      · exact absurd ea e
    · rcases getset h3 with ⟨e, _⟩ | ⟨_, g3⟩
      · exact absurd e ha
      · rcases getset h2 with ⟨ec, _, _⟩ | ⟨hc, g2⟩
        · rcases getset h4 with ⟨_, e, _⟩ | ⟨e, _⟩
          · cases e; exact absurd ⟨a, p', g1, g3⟩ hn
          · exact absurd ec e
        · rcases getset h4 with ⟨e, _⟩ | ⟨_, g4⟩
          · exact absurd e hc
          · exact s.inj a c p' q x g1 g2 g3 g4
  ofz := fun a h => by
    rcases own_set_own h with h | rfl
    · exact s.ofz a h
    · exact hf
  oli := fun a h => by
    rcases own_set_own h with h | rfl
    · exact s.oli a h
    · exact hl
theorem Slt.set_no (s : Slt K mg sg ep H et W) {i : Nat} {o : Option V} : Slt K mg (sg.set i o) (ep.set i .no) H et W := by
  have sub : ∀ {a}, Own (ep.set i .no) (sg.set i o) a → Own ep sg a := fun {a} h => by
    obtain ⟨j, q, h1, h2⟩ := h
    rcases getset h1 with ⟨_, e, _⟩ | ⟨hj, h1⟩
    · cases e
    · rcases getset h2 with ⟨e, _⟩ | ⟨_, h2⟩
      · exact absurd e hj
      · exact ⟨j, q, h1, h2⟩
  refine ⟨by rw [List.length_set, List.length_set, s.len], fun j t o' h1 h2 => ?_, fun a b p q x h1 h2 h3 h4 => ?_, fun a h => s.ofz a (sub h), fun a h => s.oli a (sub h)⟩
  · rcases getset h1 with ⟨rfl, rfl, _⟩ | ⟨hj, h1⟩
    · trivial
    · rcases getset h2 with ⟨e, _⟩ | ⟨_, h2⟩
      · exact absurd e hj
      · exact s.ok j t o' h1 h2
  · rcases getset h1 with ⟨_, e, _⟩ | ⟨ha, h1⟩
    · cases e
    · rcases getset h2 with ⟨_, e, _⟩ | ⟨hb, h2⟩
      · cases e
      · rcases getset h3 with ⟨e, _⟩ | ⟨_, h3⟩
        · exact absurd e ha
        · rcases getset h4 with ⟨e, _⟩ | ⟨_, h4⟩
          · exact absurd e hb
          · exact s.inj a b p q x h1 h2 h3 h4
def frzS (ep : En) (i : Nat) : En := match ep[i]? with
  | some (.own p) => ep.set i (.val p)
  | _ => ep
theorem Slt.frz (s : Slt K mg sg ep H et W) (c : Cel K mg H et W) (i : Nat) : ∃ W', Ext (Own ep sg) H et W H et W' ∧ Cel K mg H et W' ∧ Slt K mg sg (frzS ep i) H et W' ∧ ∀ a, Own (frzS ep i) sg a → Own ep sg a := by
  unfold frzS
  split
  · rename_i p hp
    have hl : i < sg.length := by rw [← s.len]; exact (List.getElem?_eq_some_iff.mp hp).1
    obtain ⟨a, ev, hv⟩ := s.ok i _ _ hp (List.getElem?_eq_getElem hl)
    have hσ : sg[i]? = some (some (.ref a)) := by rw [List.getElem?_eq_getElem hl, ev]
    have ow : Own ep sg a := ⟨i, p, hp, hσ⟩
    obtain ⟨c2, st, vr⟩ := c.freeze (s.oli a ow) (s.ofz a ow) hv
    have sub : ∀ {b}, Own (ep.set i (.val p)) sg b → Own ep sg b ∧ b ≠ a := fun {b} h => by
      obtain ⟨j, q, h1, h2⟩ := h
      rcases getset h1 with ⟨_, e, _⟩ | ⟨hj, h1⟩
      · cases e
      · refine ⟨⟨j, q, h1, h2⟩, fun e => ?_⟩
        subst e
        exact hj (s.inj j i q p b h1 hp h2 hσ)
    refine ⟨W.add a, ⟨fun b h => .inl h, fun b h => h.imp_right fun e => .inr (by rw [e]; exact ow), ⟨[], by simp⟩, fun b h => .inl h, fun b o h _ _ => h, fun b h => h⟩, c2, ⟨by rw [List.length_set]; exact s.len, fun j t o h1 h2 => ?_, fun x y q r z h1 h2 h3 h4 => ?_, fun b h z => ?_, fun b h => s.oli b (sub h).1⟩, fun b h => (sub h).1⟩
    · rcases getset h1 with ⟨rfl, rfl, _⟩ | ⟨hj, h1⟩
      · rw [hσ] at h2; cases h2; exact ⟨_, rfl, vr⟩
      · have k := s.ok j t o h1 h2
        cases t with
        | no => trivial
        | val q => obtain ⟨v, e, h⟩ := k; exact ⟨v, e, st q v h⟩
        | own q =>
          obtain ⟨b, e, h⟩ := k
          refine ⟨b, e, ?_⟩
          have x : Ext (fun b => b = a) H et W H et (W.add a) := ⟨fun _ h => .inl h, fun b h => h.imp_right fun h => .inr h, ⟨[], by simp⟩, fun _ h => .inl h, fun _ _ h _ _ => h, fun _ h => h⟩
          have sy : Stays (fun b => b = a) H et W := ⟨fun b h => ⟨c.fzl b h, fun e => s.ofz a ow (e ▸ h)⟩, fun b xs h => ⟨(c.stays0.tup b xs h).1, fun e => by
            rcases hv.kind with ⟨_, k⟩ | ⟨_, k⟩ <;> (rw [← e, h] at k; cases k)⟩, fun b o u h => ⟨(c.stays0.frz b o u h).1, fun e => by
            rcases hv.kind with ⟨_, k⟩ | ⟨_, k⟩ <;> (rw [← e, h] at k; cases k)⟩, fun b fs h => ⟨(c.stays0.xd b fs h).1, fun e => by
            rcases hv.kind with ⟨_, k⟩ | ⟨_, k⟩ <;> (rw [← e, h] at k; cases k)⟩⟩
          unfold OwnAt at h ⊢
          split at h
          · obtain ⟨vs, h1, h2⟩ := h; exact ⟨vs, h1, VRs.ext x sy _ _ h2⟩
          · obtain ⟨vs, h1, h2⟩ := h; exact ⟨vs, h1, VRk.ext x sy _ _ h2⟩
          · cases h
    · rcases getset h1 with ⟨_, e, _⟩ | ⟨_, h1⟩
      · cases e
      · rcases getset h2 with ⟨_, e, _⟩ | ⟨_, h2⟩
        · cases e
        · exact s.inj x y q r z h1 h2 h3 h4
    · obtain ⟨o1, o2⟩ := sub h
      rcases z with z | z
      · exact s.ofz b o1 z
      · exact o2 z
  · exact ⟨W, Ext.refl .., c, s, fun a h => h⟩
theorem own_write (c : Cel K mg H et W) (s : Slt K mg sg ep H et W) {i : Nat} {p p' : PV} {a : Addr} {o : HO} (hi : ep[i]? = some (.own p)) (hσ : sg[i]? = some (some (.ref a))) (ho : Cont K mg W H p' o) :
    Ext (Own ep sg) H et W (upd H a o) et W ∧ Cel K mg (upd H a o) et W ∧ Slt K mg sg (ep.set i (.own p')) (upd H a o) et W ∧ (∀ b, Own (ep.set i (.own p')) sg b → Own ep sg b) ∧ (∀ q v, VR K mg W H q v → VR K mg W (upd H a o) q v) := by
  have ow : Own ep sg a := ⟨i, p, hi, hσ⟩
  have x : Ext (Own ep sg) H et W (upd H a o) et W := ⟨fun _ h => h, fun _ h => .inl h, ⟨[], by simp⟩, fun _ h => .inl h, fun b u h _ hO => by
    have ne : b ≠ a := fun e => hO (by rw [e]; exact ow)
    rw [upd_ne ne]; exact h, fun b h => by
      by_cases e : b = a
      · rw [e, upd_same]; simp
      · rw [upd_ne e]; exact h⟩
  have sy : Stays (Own ep sg) H et W := Slt.stays c s
  have hat : OwnAt K mg W (upd H a o) p' a := by
    unfold Cont at ho
    split at ho
    · exact ⟨_, upd_same, VRs.ext x sy _ _ ho⟩
    · exact ⟨_, upd_same, VRk.ext x sy _ _ ho⟩
    · cases ho
  have sub : ∀ b, Own (ep.set i (.own p')) sg b → Own ep sg b := fun b ⟨j, q, h1, h2⟩ => by
    rcases getset h1 with ⟨e, _, _⟩ | ⟨_, h1⟩
    · subst e; rw [hσ] at h2; cases h2; exact ow
    · exact ⟨j, q, h1, h2⟩
  refine ⟨x, ⟨c.len, fun j d b h1 h2 => ?_, c.inj, c.fzl, fun b h => x.there b (c.fzh b h)⟩, ⟨by rw [List.length_set]; exact s.len, fun j t u h1 h2 => ?_, fun j l q r b h1 h2 h3 h4 => ?_, fun b h => s.ofz b (sub b h), fun b h => s.oli b (sub b h)⟩, sub, fun q v h => VR.ext x sy q v h⟩
  · have k := c.ok j d b h1 h2
    have keep : d ≠ .dead → upd H a o b = H b := fun hd => upd_ne fun e => s.oli a ow ⟨j, d, h1, hd, e ▸ h2⟩
    cases d with
    | dead => trivial
    | lst xs => obtain ⟨vs, k1, k2⟩ := k; exact ⟨vs, by rw [keep (by simp)]; exact k1, VRs.ext x sy _ _ k2⟩
    | dic xs => obtain ⟨vs, k1, k2⟩ := k; exact ⟨vs, by rw [keep (by simp)]; exact k1, VRk.ext x sy _ _ k2⟩
    | potO t n => obtain ⟨b', sd, ct, k0, k1, k2⟩ := k; exact ⟨b', sd, ct, k0, by rw [keep (by simp)]; exact k1, k2⟩
    | potI => obtain ⟨is, k1, k2⟩ := k; exact ⟨is, by rw [keep (by simp)]; exact k1, k2⟩
    | inv P => obtain ⟨is, k1, k2⟩ := k; exact ⟨is, by rw [keep (by simp)]; exact k1, k2⟩
    | exc c fs => obtain ⟨C, d', k0, k1, k2⟩ := k; exact ⟨C, d', k0, by rw [keep (by simp)]; exact k1, k2.imp_right fun ⟨dd, e, q⟩ => ⟨dd, e, x.keep dd _ q (sy.xd dd _ q).1 (sy.xd dd _ q).2⟩⟩
    | nd kvs => rcases k with ⟨k0, k1⟩ | ⟨es, k1, k2⟩; exact .inl ⟨k0, by rw [keep (by simp)]; exact k1⟩; exact .inr ⟨es, by rw [keep (by simp)]; exact k1, VRn.ext x sy _ _ k2⟩
    | td hs kvs => rcases k with ⟨k0, k1⟩ | ⟨es, k1, k2⟩; exact .inl ⟨k0, by rw [keep (by simp)]; exact k1⟩; exact .inr ⟨es, by rw [keep (by simp)]; exact k1, VRt.ext x sy _ _ k2⟩
    | ins t fs => obtain ⟨C, dx, gs, k0, k1, k2⟩ := k; exact ⟨C, dx, gs, k0, by rw [keep (by simp)]; exact k1, VRf.ext x sy _ _ k2⟩
  · rcases getset h1 with ⟨rfl, rfl, _⟩ | ⟨hj, h1⟩
    · rw [hσ] at h2; cases h2; exact ⟨a, rfl, hat⟩
    · have k := s.ok j t u h1 h2
      cases t with
      | no => trivial
      | val q => obtain ⟨v, e, h⟩ := k; exact ⟨v, e, VR.ext x sy q v h⟩
      | own q =>
        obtain ⟨b, e, h⟩ := k
        subst e
        have ne : b ≠ a := fun e => hj (s.inj j i q p a h1 hi (e ▸ h2) hσ)
        refine ⟨b, rfl, ?_⟩
        unfold OwnAt at h ⊢
        split at h
        · obtain ⟨vs, k1, k2⟩ := h; exact ⟨vs, by rw [upd_ne ne]; exact k1, VRs.ext x sy _ _ k2⟩
        · obtain ⟨vs, k1, k2⟩ := h; exact ⟨vs, by rw [upd_ne ne]; exact k1, VRk.ext x sy _ _ k2⟩
        · cases h
  · rcases getset h1 with ⟨ej, eq, _⟩ | ⟨hj, g1⟩
    · have h3' : sg[i]? = some (some (.ref b)) := by rw [← ej]; exact h3
      rcases getset h2 with ⟨el, _, _⟩ | ⟨hl, g2⟩
      · exact ej.trans el.symm
      · exact ej.trans (s.inj i l p r b hi g2 h3' h4)
    · rcases getset h2 with ⟨el, _, _⟩ | ⟨hl, g2⟩
      · have h4' : sg[i]? = some (some (.ref b)) := by rw [← el]; exact h4
        exact (s.inj j i q p b g1 hi h3 h4').trans el.symm
      · exact s.inj j l q r b g1 g2 h3 h4
def cellP : PV → Option Cell
  | .lst xs => some (.lst xs)
  | .dic ks => some (.dic ks)
  | _ => none
theorem cell_write (c : Cel K mg H et W) {n : Nat} {d d' : Cell} {a : Addr} {o : HO} (hn : et[n]? = some d) (hd : d ≠ .dead) (hd' : d' ≠ .dead) (hm : W.mu[n]? = some a)
    (ho : ∀ H1 et1, Ext NoO H et W H1 et1 W → H1 a = some o → CellOk K mg W H1 d' a) :
    Ext NoO H et W (upd H a o) (et.set n d') W ∧ Cel K mg (upd H a o) (et.set n d') W ∧ (∀ q v, VR K mg W H q v → VR K mg W (upd H a o) q v) := by
  have lv : Live et W a := ⟨n, d, hn, hd, hm⟩
  have hl : ∀ b, Live (et.set n d') W b → Live et W b := fun b ⟨j, u, h1, h2, h3⟩ => by
    rcases getset h1 with ⟨e, _, _⟩ | ⟨_, h1⟩
    · subst e; exact ⟨j, d, hn, hd, h3⟩
    · exact ⟨j, u, h1, h2, h3⟩
  have x : Ext NoO H et W (upd H a o) (et.set n d') W := ⟨fun _ h => h, fun _ h => .inl h, ⟨[], by simp⟩, fun b h => .inl (hl b h), fun b u h hb _ => by
    have ne : b ≠ a := fun e => hb (by rw [e]; exact lv)
    rw [upd_ne ne]; exact h, fun b h => by
      by_cases e : b = a
      · rw [e, upd_same]; simp
      · rw [upd_ne e]; exact h⟩
  refine ⟨x, ⟨by rw [List.length_set]; exact c.len, fun j u b h1 h2 => ?_, fun i j u w b h1 h2 h3 h4 h5 h6 => ?_, fun b h z => c.fzl b h (hl b z), fun b h => x.there b (c.fzh b h)⟩, fun q v h => VR.ext x c.stays0 q v h⟩
  · rcases getset h1 with ⟨rfl, rfl, _⟩ | ⟨hj, h1⟩
    · rw [hm] at h2; cases h2; exact ho _ _ x upd_same
    · refine CellOk.ext x c.stays0 (c.ok j u b h1 h2) fun hu => upd_ne fun e => ?_
      subst e
      exact hj (c.inj j n u d b h1 hn hu hd h2 hm)
  · have g : ∀ {k : Nat} {u : Cell}, (et.set n d')[k]? = some u → u ≠ .dead → ∃ u', et[k]? = some u' ∧ u' ≠ .dead := fun {k u} h hu => by
      rcases getset h with ⟨e, _, _⟩ | ⟨_, h⟩
      · exact ⟨d, e ▸ hn, hd⟩
      · exact ⟨u, h, hu⟩
    obtain ⟨u1, g1, g2⟩ := g h1 h3
    obtain ⟨u2, g3, g4⟩ := g h2 h4
    exact c.inj i j u1 u2 b g1 g3 g2 g4 h5 h6
end
end Mw
namespace Mw
open PySem PySem.Spec L2
section
variable {X : Cx} {st : Stmt} {rest : List Stmt} {m n : SM} {e : Expr} {me : EM PV} {pos : Pos}
theorem Ext.to {O : Addr → Prop} {H H1 : Hp} {et et1 : Hi} {W W1 : Wd} (x : Ext NoO H et W H1 et1 W1) : Ext O H et W H1 et1 W1 := x.mono fun _ h => h.elim
theorem Ext.pre {O : Addr → Prop} {H H1 H2 : Hp} {et et1 et2 : Hi} {W W1 W2 : Wd} (x : Ext NoO H et W H1 et1 W1) (y : Ext O H1 et1 W1 H2 et2 W2) : Ext O H et W H2 et2 W2 := (Ext.to x).trans y fun _ h => .inl h
theorem Ext.back {O : Addr → Prop} {H H1 : Hp} {et et1 : Hi} {W W1 : Wd} (x : Ext O H et W H1 et1 W1) {a : Addr} (h : H1 a = none) : H a = none := by
  cases q : H a with
  | none => rfl
  | some o => exact absurd h (x.there a (by rw [q]; simp))
def mNext : SM := fun ep et R => R .nx ep et
def mSeq (m n : SM) : SM := fun ep et R => m ep et fun f ep1 et1 => match f with
  | .nx => n ep1 et1 R
  | f => R f ep1 et1
theorem FlEnd.pre {K : PySem.W.Frag} {mg : Str → Option Value} {D : Ends} {ep ep0 : En} {sg sg0 : L2.St} {H H0 : Hp} {f : Fl} {ep' : En} {sg' : L2.St} {H' : Hp} {et' : Hi} {W' : Wd} (h : FlEnd K mg D ep0 sg0 H0 f ep' sg' H' et' W')
    (g : ∀ a, Own ep sg a ∨ H a = none → Own ep0 sg0 a ∨ H0 a = none) : FlEnd K mg D ep sg H f ep' sg' H' et' W' := by
  cases f with
  | nx => exact fun s o => h s fun a z => g a (o a z)
  | bk => exact fun s o => h s fun a z => g a (o a z)
  | ct => exact fun s o => h s fun a z => g a (o a z)
  | rt p => exact h
theorem ss_nil : SimSs X [] mNext := weakSs pss_nil fun D σ H ⟨ep, et, W, R, c, s, e, q⟩ => q .nx ep et e σ H W (Ext.refl ..) c s fun a h => .inl h
theorem ss_one (h : SimS X st m) : SimSs X [st] m := pss_one h
theorem ss_cons (h : SimS X st m) (g : SimSs X rest n) : SimSs X (st :: rest) (mSeq m n) := weakSs (pss_cons h g) fun D σ H ⟨ep, et, W, R, c, s, e, q⟩ => by
  refine ⟨ep, et, W, _, c, s, e, fun f ep1 et1 r1 σ1 H1 W1 x1 c1 => ?_⟩
  cases f with
  | nx =>
    intro s1 o1
    refine ⟨ep1, et1, W1, R, c1, s1, r1, fun f2 ep2 et2 r2 σ2 H2 W2 x2 c2 => ?_⟩
    have k := q f2 ep2 et2 r2 σ2 H2 W2 (x1.trans x2 o1) c2
    exact k.pre fun a h => h.elim (o1 a) fun z => .inr (x1.back z)
  | bk => exact q .bk ep1 et1 r1 σ1 H1 W1 x1 c1
  | ct => exact q .ct ep1 et1 r1 σ1 H1 W1 x1 c1
  | rt p => exact q (.rt p) ep1 et1 r1 σ1 H1 W1 x1 c1
def mPass : SM := fun ep et R => R .nx ep et
def mBrk : SM := fun ep et R => R .bk ep et
def mCnt : SM := fun ep et R => R .ct ep et
def mExpr (me : EM PV) : SM := fun ep et R => me ep et fun _ et1 => R .nx ep et1
theorem s_expr (h : SimE X e me) (hs : swapsWith e none pos.line X.env = pure false := by rfl) : SimS X (.Expr e pos) (mExpr me) := weakS (ps_expr h hs) fun D σ H ⟨ep, et, W, R, c, s, e, q⟩ =>
  ⟨ep, et, W, _, c, s, e, fun p et1 r1 v H1 W1 x1 c1 p1 => q .nx ep et1 r1 σ H1 W1 (Ext.to x1) c1 (s.ext c x1) fun a h => .inl h⟩
def mRet (me : EM PV) : SM := fun ep et R => me ep et fun p et1 => R (.rt p) ep et1
theorem s_ret (h : SimE X e me) : SimS X (.Return (some e) pos) (mRet me) := weakS (ps_ret h) fun D σ H ⟨ep, et, W, R, c, s, e, q⟩ =>
  ⟨ep, et, W, _, c, s, e, fun p et1 r1 v H1 W1 x1 c1 p1 => q (.rt p) ep et1 r1 σ H1 W1 (Ext.to x1) c1 v p1⟩
def mRetN : SM := fun ep et R => R (.rt .non) ep et
def mIf (t : EM Bool) (m n : SM) : SM := fun ep et R => t ep et fun b et1 => if b = true then m ep et1 R else n ep et1 R
theorem s_if {a b : List Stmt} {t : EM Bool} (h : SimT X e t) (ha : SimSs X a m) (hb : SimSs X b n) : SimS X (.If e a b pos) (mIf t m n) := weakS (ps_if h ha hb) fun D σ H ⟨ep, et, W, R, c, s, e, q⟩ => by
  refine ⟨ep, et, W, _, c, s, e, fun b et1 r1 H1 W1 x1 c1 => ?_⟩
  have fin : ∀ {m : SM}, m ep et1 R → tS X.K X.mg m D σ H1 := fun {m} r => ⟨ep, et1, W1, R, c1, s.ext c x1, r, fun f ep2 et2 r2 σ2 H2 W2 x2 c2 => by
    have k := q f ep2 et2 r2 σ2 H2 W2 (x1.pre x2) c2
    exact k.pre fun a h => h.imp_right fun z => x1.back z⟩
  cases b with
  | true => exact fin (by simpa using r1)
  | false => exact fin (by simpa using r1)
def mFrz (is : List Nat) (m : SM) : SM := fun ep et R => m (is.foldl frzS ep) et R
theorem s_frz1 {t : TS} {i : Nat} {D : Ends} {σ : L2.St} {H : Hp} {m : SM} (h : tS X.K X.mg (fun ep et R => m (frzS ep i) et R) D σ H) : tS X.K X.mg m D σ H := by
  obtain ⟨ep, et, W, R, c, s, e, q⟩ := h
  obtain ⟨W', x1, c1, s1, o1⟩ := s.frz c i
  exact ⟨frzS ep i, et, W', R, c1, s1, e, fun f ep2 et2 r2 σ2 H2 W2 x2 c2 => by
    have k := q f ep2 et2 r2 σ2 H2 W2 (x1.trans x2 fun a h => .inl (o1 a h)) c2
    exact k.pre fun a h => h.imp_left (o1 a)⟩
theorem frz_all {D : Ends} {σ : L2.St} {H : Hp} : ∀ (is : List Nat) (m : SM), tS X.K X.mg (mFrz is m) D σ H → tS X.K X.mg m D σ H
  | [], _, h => h
  | i :: is, m, h => frz_all is m (s_frz1 (t := fun _ _ _ => True) (i := i) (m := mFrz is m) h)
theorem s_frz (is : List Nat) (h : SimS X st m) : SimS X st (mFrz is m) := weakS h fun D σ H => frz_all is m
def mSet (i : Nat) (me : EM PV) : SM := fun ep et R => me ep et fun p et1 => R .nx (ep.set i (.val p)) et1
def mSetN (i : Nat) (me : EM PV) : SM := fun ep et R => me ep et fun p et1 => R .nx (ep.set i (.own p)) et1
def GOk (K : PySem.W.Frag) (mg : Str → Option Value) (is : List Nat) (g : TG) (tg : PV → En → Option En) : Prop :=
  ∀ (v : V) (p : PV) (σ : L2.St) (H : Hp) (ep ep' : En) (et : Hi) (W : Wd) (Q : L2.St → Hp → Prop), Cel K mg H et W → Slt K mg σ ep H et W → VR K mg W H p v → tg p ep = some ep' →
    (∀ σ', Slt K mg σ' ep' H et W → (∀ a, Own ep' σ' a → Own ep σ a) → (σ'.length = σ.length ∧ ∀ j, j ∉ is → σ'[j]? = σ[j]?) → Q σ' H) → g v σ H Q
def tgN (i : Nat) (p : PV) (ep : En) : Option En := some (ep.set i (.val p))
def tgNs : List (PV → En → Option En) → List PV → En → Option En
  | [], [], ep => some ep
  | t :: ts, p :: ps, ep => (t p ep).bind fun ep1 => tgNs ts ps ep1
  | _, _, _ => none
def tgT (ts : List (PV → En → Option En)) (p : PV) (ep : En) : Option En := match p with
  | .tup ps => tgNs ts ps ep
  | _ => none
def GsOk (K : PySem.W.Frag) (mg : Str → Option Value) (is : List Nat) (g : TGs) (ts : List (PV → En → Option En)) : Prop :=
  ∀ (vs : List V) (ps : List PV) (σ : L2.St) (H : Hp) (ep ep' : En) (et : Hi) (W : Wd) (Q : L2.St → Hp → Prop), Cel K mg H et W → Slt K mg σ ep H et W → VRs K mg W H ps vs → tgNs ts ps ep = some ep' →
    (∀ σ', Slt K mg σ' ep' H et W → (∀ a, Own ep' σ' a → Own ep σ a) → (σ'.length = σ.length ∧ ∀ j, j ∉ is → σ'[j]? = σ[j]?) → Q σ' H) → g vs σ H Q
theorem g_name {K : PySem.W.Frag} {mg : Str → Option Value} (i : Nat) : GOk K mg [i] (gName i) (tgN i) := fun v p σ H ep ep' et W Q c s hv e q => by
  cases e
  exact q _ (s.set_val hv) (fun a h => own_set_sub h) ⟨List.length_set, fun j hj => List.getElem?_set_ne (fun e => hj (by rw [e]; exact List.mem_singleton.mpr rfl))⟩
theorem g_nil {K : PySem.W.Frag} {mg : Str → Option Value} : GsOk K mg [] gNil [] := fun vs ps σ H ep ep' et W Q c s hv e q => by
  cases ps with
  | nil => cases e; unfold VRs at hv; exact ⟨hv, q σ s (fun a h => h) ⟨rfl, fun j hj => rfl⟩⟩
  | cons p ps => cases e
theorem g_cons {K : PySem.W.Frag} {mg : Str → Option Value} {t : TG} {u : TGs} {tg : PV → En → Option En} {ts : List (PV → En → Option En)} {is js : List Nat} (h : GOk K mg is t tg) (hs : GsOk K mg js u ts) : GsOk K mg (is ++ js) (gCons t u) (tg :: ts) := fun vs ps σ H ep ep' et W Q c s hv e q => by
  cases ps with
  | nil => cases e
  | cons p ps =>
    unfold VRs at hv
    obtain ⟨v, r, rfl, h1, h2⟩ := hv
    unfold tgNs at e
    cases e1 : tg p ep with
    | none => rw [e1] at e; cases e
    | some ep1 =>
      rw [e1] at e
      exact ⟨v, r, rfl, h v p σ H ep ep1 et W _ c s h1 e1 fun σ1 s1 o1 k1 => hs r ps σ1 H ep1 ep' et W Q c s1 h2 e fun σ2 s2 o2 k2 => q σ2 s2 (fun a h => o1 a (o2 a h)) ⟨k2.1.trans k1.1, fun j hj => (k2.2 j fun z => hj (List.mem_append_right _ z)).trans (k1.2 j fun z => hj (List.mem_append_left _ z))⟩⟩
theorem tgNs_len : ∀ {ts : List (PV → En → Option En)} {ps : List PV} {ep ep' : En}, tgNs ts ps ep = some ep' → ps.length = ts.length
  | [], [], _, _, _ => rfl
  | t :: ts, p :: ps, ep, ep', h => by
    unfold tgNs at h
    cases e : t p ep with
    | none => rw [e] at h; cases h
    | some ep1 => rw [e] at h; rw [List.length_cons, List.length_cons, tgNs_len h]
  | [], _ :: _, _, _, h => by cases h
  | _ :: _, [], _, _, h => by cases h
theorem g_tup {K : PySem.W.Frag} {mg : Str → Option Value} {u : TGs} {ts : List (PV → En → Option En)} {k : Nat} {is : List Nat} (hk : ts.length = k) (hs : GsOk K mg is u ts) : GOk K mg is (gTup K k u) (tgT ts) := fun v p σ H ep ep' et W Q c s hv e q => by
  unfold tgT at e
  split at e
  · rename_i ps
    unfold VR at hv
    obtain ⟨a, vs, rfl, h1, h2⟩ := hv
    exact ⟨a, vs, rfl, h1, by rw [← h2.len, tgNs_len e, hk], hs vs ps σ H ep ep' et W Q c s h2 e q⟩
  · cases e
def mAsg (tg : PV → En → Option En) (me : EM PV) : SM := fun ep et R => me ep et fun p et1 => ∃ ep', tg p ep = some ep' ∧ R .nx ep' et1
theorem asg_weak {g : TG} {is : List Nat} {tg : PV → En → Option En} (hg : GOk X.K X.mg is g tg) : ∀ D σ H, tS X.K X.mg (mAsg tg me) D σ H → tAsg (tI X.K X.mg (pV X.K X.mg) me) g D σ H := fun D σ H ⟨ep, et, W, R, c, s, e, q⟩ => by
  refine ⟨ep, et, W, _, c, s, e, fun p et1 r1 v H1 W1 x1 c1 p1 => ?_⟩
  obtain ⟨ep', h1, r2⟩ := r1
  exact hg v p σ H1 ep ep' et1 W1 _ c1 (s.ext c x1) p1 h1 fun σ' s' o' _ => q .nx ep' et1 r2 σ' H1 W1 (Ext.to x1) c1 s' fun a h => .inl (o' a h)
theorem s_asg {t : Expr} {g : TG} {is : List Nat} {tg : PV → En → Option En} (h : SimE X e me) (hp : PG X t g) (hg : GOk X.K X.mg is g tg) (hs : swapsWithSole [t] e pos.line X.env = pure false := by rfl) (hw : swappedStores [t] e X.env = pure none := by rfl) (h1 : (assignEach [t] X.env).map (·.2) = [assign t X.env] := by rfl) : SimS X (.Assign [t] e pos) (mAsg tg me) :=
  weakS (ps_asg h hp hs hw h1) (asg_weak hg)
theorem set_weak {i : Nat} : ∀ D σ H, tS X.K X.mg (mSet i me) D σ H → tAsg (tI X.K X.mg (pV X.K X.mg) me) (gName i) D σ H := fun D σ H ⟨ep, et, W, R, c, s, e, q⟩ =>
  ⟨ep, et, W, _, c, s, e, fun p et1 r1 v H1 W1 x1 c1 p1 => q .nx _ et1 r1 _ H1 W1 (Ext.to x1) c1 ((s.ext c x1).set_val p1) fun a h => .inl (own_set_sub h)⟩
theorem setN_weak {i : Nat} : ∀ D σ H, tS X.K X.mg (mSetN i me) D σ H → tAsg (tI X.K X.mg (pN X.K X.mg) me) (gName i) D σ H := fun D σ H ⟨ep, et, W, R, c, s, e, q⟩ => by
  refine ⟨ep, et, W, _, c, s, e, fun p et1 r1 v H1 W1 x1 c1 p1 => ?_⟩
  obtain ⟨b, rfl, h0, hf, hl, ho⟩ := p1
  refine q .nx _ et1 r1 _ H1 W1 (Ext.to x1) c1 ((s.ext c x1).set_own (fun z => s.own_there z h0) hf hl ho) fun a h => ?_
  rcases own_set_own h with h | rfl
  · exact .inl h
  · exact .inr h0
section
variable {i : Nat} {x : Str} {pos' : Pos}
theorem s_set (hN : X.N.Nodup) (hi : X.N[i]? = some x) (hx : Loc X.env.scope x) (he : SimE X e me) (hs : swapsWith e (some (.Name x pos')) pos.line X.env = pure false := by rfl) (hf : X.fn x = true ∨ X.env.scope.names.lookup x = some .local := by first | exact .inl rfl | exact .inr rfl | assumption) :
    SimS X (.Assign [.Name x pos'] e pos) (mSet i me) := weakS (ps_set hN hi hx he hs hf) set_weak
theorem s_setN (hN : X.N.Nodup) (hi : X.N[i]? = some x) (hx : Loc X.env.scope x) (he : SimN X e me) (hs : swapsWith e (some (.Name x pos')) pos.line X.env = pure false := by rfl) (hf : X.fn x = true ∨ X.env.scope.names.lookup x = some .local := by first | exact .inl rfl | exact .inr rfl | assumption) :
    SimS X (.Assign [.Name x pos'] e pos) (mSetN i me) := weakS (ps_set hN hi hx he hs hf) setN_weak
def mAug (i : Nat) (f : Int → Int → Int) (me : EM PV) : SM := fun ep et R => ∃ a, ep[i]? = some (.val (.int a)) ∧ me ep et fun p et1 => ∃ b, p = .int b ∧ R .nx (ep.set i (.val (.int (f a b)))) et1
end
def mPar (i j : Nat) (ms : EM (List PV)) : SM := fun ep et R => ms ep et fun ps et1 => ∃ p q, ps = [p, q] ∧ R .nx ((ep.set i (.val p)).set j (.val q)) et1
theorem s_par {i j : Nat} {x y : Str} {a b : Expr} {ms : EM (List PV)} {px py pt : Pos} {kt k2 pt2} (hc : X.calm = true) (hN : X.N.Nodup) (hi : X.N[i]? = some x) (hj : X.N[j]? = some y) (hij : i ≠ j)
    (h : PA X [a, b] (tL X.K X.mg ms)) (hp : ∀ {ta : TA}, PA X [a, b] ta → PS X (.Assign [.Tuple [.Name x px, .Name y py] kt pt] (.Tuple [a, b] k2 pt2) pos) (tPar i j ta)) :
    SimS X (.Assign [.Tuple [.Name x px, .Name y py] kt pt] (.Tuple [a, b] k2 pt2) pos) (mPar i j ms) := weakS (hp h) fun D σ H ⟨ep, et, W, R, c, s, e, q⟩ => by
  refine ⟨ep, et, W, _, c, s, e, fun ps et1 r1 vs H1 W1 x1 c1 p1 => ?_⟩
  obtain ⟨p, r, rfl, r2⟩ := r1
  unfold VRs at p1
  obtain ⟨v, t, rfl, h1, p1⟩ := p1
  unfold VRs at p1
  obtain ⟨w, t', rfl, h2, p1⟩ := p1
  unfold VRs at p1
  subst p1
  exact ⟨v, w, rfl, q .nx _ et1 r2 _ H1 W1 (Ext.to x1) c1 (((s.ext c x1).set_val h1).set_val h2) fun a h => .inl (own_set_sub (own_set_sub h))⟩
def mWhile (t : EM Bool) (m : SM) : SM := fun ep et R => ∃ W : Nat → En → Hi → Prop, (∃ k, W k ep et) ∧ ∀ k ep et, W k ep et → t ep et fun b et1 => if b = true then m ep et1 fun f ep2 et2 => match f with
      | .nx => ∃ j, j < k ∧ W j ep2 et2
      | .ct => ∃ j, j < k ∧ W j ep2 et2
      | .bk => R .nx ep2 et2
      | .rt p => R (.rt p) ep2 et2
    else R .nx ep et1
theorem s_while {body : List Stmt} {t : EM Bool} (hp : PassesOwn (model X.prog X.w) X.A X.env X.xe) (h : SimT X e t) (hb : SimSs X body m) : SimS X (.While e body [] pos) (mWhile t m) := weakS (ps_while hp h hb) fun D σ0 H0 ⟨ep0, et0, W0, R, c0, s0, ⟨V, ⟨k, hk⟩, hV⟩, q⟩ => by
  refine ⟨fun k σ H => ∃ ep et W, Cel X.K X.mg H et W ∧ Slt X.K X.mg σ ep H et W ∧ Ext (Own ep0 σ0) H0 et0 W0 H et W ∧ (∀ a, Own ep σ a → Own ep0 σ0 a ∨ H0 a = none) ∧ V k ep et, ⟨k, ep0, et0, W0, c0, s0, Ext.refl .., fun a h => .inl h, hk⟩, ?_⟩
  rintro k σ H ⟨ep, et, W, c, s, x, o, hk⟩
  refine ⟨ep, et, W, _, c, s, hV k ep et hk, fun b et1 r1 H1 W1 x1 c1 => ?_⟩
  have x01 : Ext (Own ep0 σ0) H0 et0 W0 H1 et1 W1 := x.trans x1 fun _ h => h.elim
  have s1 := s.ext c x1
  cases b with
  | false =>
    have r1 : R .nx ep et1 := by simpa using r1
    exact q .nx ep et1 r1 σ H1 W1 x01 c1 s1 o
  | true =>
    rw [if_pos rfl] at r1
    refine ⟨fun σ' H' => ∃ ep et W, Cel X.K X.mg H' et W ∧ Slt X.K X.mg σ' ep H' et W ∧ Ext (Own ep0 σ0) H0 et0 W0 H' et W ∧ (∀ a, Own ep σ' a → Own ep0 σ0 a ∨ H0 a = none) ∧ ∃ j, j < k ∧ V j ep et, fun σ' H' ⟨ep', et', W', i1, i2, i3, i4, j, hj, i5⟩ => ⟨j, hj, ep', et', W', i1, i2, i3, i4, i5⟩, ?_⟩
    refine ⟨ep, et1, W1, _, c1, s1, r1, fun f ep2 et2 r2 σ2 H2 W2 x2 c2 => ?_⟩
    have x02 : Ext (Own ep0 σ0) H0 et0 W0 H2 et2 W2 := x01.trans x2 fun a h => o a h
    have oo : ∀ a, (Own ep σ a ∨ H1 a = none) → Own ep0 σ0 a ∨ H0 a = none := fun a h => h.elim (o a) fun z => .inr (x01.back z)
    cases f with
    | nx => exact fun s2 o2 => ⟨ep2, et2, W2, c2, s2, x02, fun a h => oo a (o2 a h), r2⟩
    | ct => exact fun s2 o2 => ⟨ep2, et2, W2, c2, s2, x02, fun a h => oo a (o2 a h), r2⟩
    | bk => exact fun s2 o2 => q .nx ep2 et2 r2 σ2 H2 W2 x02 c2 s2 fun a h => oo a (o2 a h)
    | rt p => exact fun v hv => q (.rt p) ep2 et2 r2 σ2 H2 W2 x02 c2 v hv
def Walks (K : PySem.W.Frag) (mg : Str → Option Value) (J : It) (ps src : List PV) (et0 : Hi) (H0 : Hp) (W0 : Wd) : Prop :=
  ∀ (O : Addr → Prop) (H1 : Hp) (et1 : Hi) (W1 : Wd), Ext O H0 et0 W0 H1 et1 W1 → Stays O H0 et0 W0 → Cel K mg H1 et1 W1 → src.map (deref et1) = src.map (deref et0) → ∀ i : Nat,
    (i = ps.length → J.stop i H1) ∧ ∀ p, ps[i]? = some p → J.go i H1 ∧ ∀ v H2, J.yld i H1 v H2 → ∃ W2, Ext NoO H1 et1 W1 H2 et1 W2 ∧ Cel K mg H2 et1 W2 ∧ VR K mg W2 H2 p v
abbrev IM := En → Hi → (List PV → List PV → Hi → Prop) → Prop
def tIt (K : PySem.W.Frag) (mg : Str → Option Value) (m : IM) : TI := fun sg H Q => ∃ ep et W R, Cel K mg H et W ∧ Slt K mg sg ep H et W ∧ m ep et R ∧
  ∀ ps src et', R ps src et' → ∀ J H' W', Ext NoO H et W H' et' W' → Cel K mg H' et' W' → Walks K mg J ps src et' H' W' → Q J H'
abbrev SimI (X : Cx) (tg iter : Expr) (m : IM) : Prop := PI X tg iter (tIt X.K X.mg m)
theorem weakI {X : Cx} {tg iter : Expr} {t u : TI} (h : PI X tg iter t) (w : ∀ σ H Q, u σ H Q → t σ H Q) : PI X tg iter u := ⟨fun pins s σ H Q I q => h.run pins s σ H Q I (w σ H Q q)⟩
def forGo (src : List PV) (want : List PV) (tg : PV → En → Option En) (m : SM) (ps : List PV) : SM := fun ep et R => ∃ V : Nat → En → Hi → Prop, V 0 ep et ∧ ∀ i ep et, V i ep et → src.map (deref et) = want ∧
  (∀ p, ps[i]? = some p → ∃ ep1, tg p ep = some ep1 ∧ m ep1 et fun f ep2 et2 => match f with
      | .nx => V (i + 1) ep2 et2
      | .ct => V (i + 1) ep2 et2
      | .bk => R .nx ep2 et2
      | .rt q => R (.rt q) ep2 et2) ∧ (i = ps.length → R .nx ep et)
def mFor (mi : IM) (tg : PV → En → Option En) (m : SM) : SM := fun ep et R => mi ep et fun ps src et1 => forGo src (src.map (deref et1)) tg m ps ep et1 R
theorem s_for {t iter : Expr} {body : List Stmt} {mi : IM} {g : TG} {is : List Nat} {tg : PV → En → Option En} (hp : PassesOwn (model X.prog X.w) X.A X.env X.xe) (hc : X.calm = true) (hi : SimI X t iter mi) (hg : PG X t g) (gk : GOk X.K X.mg is g tg) (hb : SimSs X body m)
    (hs : ∀ x, foldedSetIterable iter X.env x = pure x := by intro _; rfl) : SimS X (.For t iter body [] pos) (mFor mi tg m) := weakS (ps_for hp hc hi hg hb hs) fun D σ H ⟨ep, et, W, R, c, s, e, q⟩ => by
  refine ⟨ep, et, W, _, c, s, e, fun ps src et0 r0 J H0 W0 x0 c0 wk => ?_⟩
  obtain ⟨V, hV0, hV⟩ := r0
  have s0 := s.ext c x0
  have sy : Stays (Own ep σ) H0 et0 W0 := Slt.stays c0 s0
  refine ⟨fun i k σ' H' => k = ps.length - i ∧ i ≤ ps.length ∧ ∃ ep' et' W', Cel X.K X.mg H' et' W' ∧ Slt X.K X.mg σ' ep' H' et' W' ∧ Ext (Own ep σ) H0 et0 W0 H' et' W' ∧ (∀ a, Own ep' σ' a → Own ep σ a ∨ H0 a = none) ∧ V i ep' et',
    ⟨ps.length, by simp, Nat.zero_le _, ep, et0, W0, c0, s0, Ext.refl .., fun a h => .inl h, hV0⟩, ?_⟩
  rintro i k σ' H' ⟨rfl, hi, ep', et', W', c', s', x', o', r'⟩
  have back : ∀ {f : Fl} {ep2 : En} {et2 : Hi}, R f ep2 et2 → ∀ {σ2 : L2.St} {H2 : Hp} {W2 : Wd}, Ext (Own ep σ) H0 et0 W0 H2 et2 W2 → Cel X.K X.mg H2 et2 W2 → FlEnd X.K X.mg D ep σ H0 f ep2 σ2 H2 et2 W2 := fun {f ep2 et2} r {σ2 H2 W2} x cc => by
    have k := q f ep2 et2 r σ2 H2 W2 (x0.pre x) cc
    exact k.pre fun a h => h.imp_right fun z => x0.back z
  by_cases hlt : i < ps.length
  · obtain ⟨hsrc, r2, _⟩ := hV i ep' et' r'
    obtain ⟨ep1, ht, r1⟩ := r2 ps[i] (List.getElem?_eq_getElem hlt)
    obtain ⟨go, yl⟩ := (wk _ H' et' W' x' sy c' hsrc i).2 ps[i] (List.getElem?_eq_getElem hlt)
    refine .inr ⟨go, fun σ' H' => ∃ ep' et' W', Cel X.K X.mg H' et' W' ∧ Slt X.K X.mg σ' ep' H' et' W' ∧ Ext (Own ep σ) H0 et0 W0 H' et' W' ∧ (∀ a, Own ep' σ' a → Own ep σ a ∨ H0 a = none) ∧ V (i + 1) ep' et',
      fun σ1 H1 h => ⟨ps.length - (i + 1), by omega, rfl, hlt, h⟩, fun v H2 hy => ?_⟩
    obtain ⟨W2, x2, c2, v2⟩ := yl v H2 hy
    refine gk v ps[i] σ' H2 ep' ep1 et' W2 _ c2 (s'.ext c' x2) v2 ht fun σ1 s1 o1 _ => ?_
    have x02 : Ext (Own ep σ) H0 et0 W0 H2 et' W2 := x'.trans x2 fun _ h => h.elim
    refine ⟨ep1, et', W2, _, c2, s1, r1, fun f ep3 et3 r3 σ3 H3 W3 x3 c3 => ?_⟩
    have oo1 : ∀ a, Own ep1 σ1 a → Own ep σ a ∨ H0 a = none := fun a h => o' a (o1 a h)
    have x03 : Ext (Own ep σ) H0 et0 W0 H3 et3 W3 := x02.trans x3 oo1
    have oo : ∀ a, (Own ep1 σ1 a ∨ H2 a = none) → Own ep σ a ∨ H0 a = none := fun a h => h.elim (oo1 a) fun z => .inr (x02.back z)
    cases f with
    | nx => exact fun s3 o3 => ⟨ep3, et3, W3, c3, s3, x03, fun a h => oo a (o3 a h), r3⟩
    | ct => exact fun s3 o3 => ⟨ep3, et3, W3, c3, s3, x03, fun a h => oo a (o3 a h), r3⟩
    | bk => exact fun s3 o3 => back (f := .nx) r3 x03 c3 s3 fun a h => oo a (o3 a h)
    | rt p => exact fun v hv => back (f := .rt p) r3 (σ2 := σ3) x03 c3 v hv
  · obtain ⟨hsrc, _, r1⟩ := hV i ep' et' r'
    exact .inl ⟨(wk _ H' et' W' x' sy c' hsrc i).1 (by omega), back (f := .nx) (r1 (by omega)) x' c' s' o'⟩
end
end Mw
namespace Mw
open PySem PySem.Spec L2
section
variable {X : Cx} {tg e : Expr} {me : EM PV} {ms : EM (List PV)} {pos : Pos}
def signs (x : Str) : List PV := x.cps.toList.map fun c => .str ⟨#[c]⟩
def itemsP : PV → Option (List PV)
  | .lst xs => some xs
  | .tup xs => some xs
  | .scr xs => some (xs.map .int)
  | .str x => some (signs x)
  | _ => none
def mIter (m : EM PV) : IM := fun ep et R => m ep et fun p et1 => ∃ ps, itemsP (deref et1 p) = some ps ∧ R ps [p] et1
theorem pi_any {t : TE} (hl : PE X e t) : PI X tg e (fun σ H R => t σ H fun x H1 => (∃ a, x = .ref a ∧ (∃ xs, SqL X.K H1 a xs) ∧ R (Itl X.K a) H1) ∨ (∃ a, x = .ref a ∧ (∃ xs, SqT X.K H1 a xs) ∧ R (Itt X.K a) H1) ∨ ∃ z, x = .str z ∧ R (Its z) H1) := by
  refine ⟨fun pins s σ H R I h => ?_⟩
  refine thn (hl.run pins s σ H _ I h) fun v s1 ⟨x, H1, I1, r1, q1⟩ => ?_
  rcases q1 with ⟨a, e, ⟨xs, hq⟩, q⟩ | ⟨a, e, ⟨xs, hq⟩, q⟩ | ⟨x, ex, q⟩
  · subst e
    cases r1
    obtain ⟨its, rv, p, hz⟩ := I1.list hq
    refine wpAny_pyIter_list p.isList ?_
    refine ⟨s1.heap.objs.size, [s1.heap.objs.size], _, _, H1, rfl, I1.kept (t' := s1.toks) fun b o e => Heap.get?_push_of_some _ e, turn_list a _, ⟨_, Heap.get?_push_size _ rfl, rfl, rfl⟩, fun b hb => ?_, q⟩
    have e : b = s1.heap.objs.size := by simpa using hb
    subst e
    exact I1.fpOk (Nat.le_refl _) (I1.hok.fresh (Nat.le_refl _))
  · subst e
    cases r1
    obtain ⟨its, rv, p, hz⟩ := I1.tuple hq
    refine wpAny_pyIter_tuple (show s1.heap.IsTuple a its.toArray from p) ?_
    refine ⟨s1.heap.objs.size, [s1.heap.objs.size], _, _, H1, rfl, I1.kept (t' := s1.toks) fun b o e => Heap.get?_push_of_some _ e, turn_tuple a _, ⟨_, Heap.get?_push_size _ rfl, rfl, rfl⟩, fun b hb => ?_, q⟩
    have e : b = s1.heap.objs.size := by simpa using hb
    subst e
    exact I1.fpOk (Nat.le_refl _) (I1.hok.fresh (Nat.le_refl _))
  · subst ex
    obtain ⟨t, rfl⟩ := r1
    cases ha : x.cps.all (· < 128)
    · exact wpAny_pyIter_wide ha (pi_one (tk := s1.toks) I1 _ (turn_str _ x t "str_iterator" (.inr rfl)) ⟨_, Heap.get?_push_size _ rfl, rfl, rfl⟩ q)
    · exact wpAny_pyIter_ascii ha (pi_one (tk := s1.toks) I1 _ (turn_str _ x t "str_ascii_iterator" (.inl rfl)) ⟨_, Heap.get?_push_size _ rfl, rfl, rfl⟩ q)
theorem walks_list {H : Hp} {et : Hi} {W : Wd} {p : PV} {a : Addr} {ps : List PV} (h : VR X.K X.mg W H p (.ref a)) (e : deref et p = .lst ps) : Walks X.K X.mg (Itl X.K a) ps [p] et H W := by
  intro O H1 et1 W1 x sy c hsrc i
  have h1 : VR X.K X.mg W1 H1 p (.ref a) := VR.ext x sy _ _ h
  have e1 : deref et1 p = .lst ps := by
    have := hsrc
    simp only [List.map_cons, List.map_nil, List.cons.injEq, and_true] at this
    rw [this, e]
  obtain ⟨b, vs, eb, k1, k2⟩ := Pk.lst c (.inl h1) e1
  cases eb
  refine ⟨fun hl => ⟨vs, SqL.of k1, by rw [← k2.len]; omega⟩, fun q hq => ?_⟩
  obtain ⟨v, k3, k4⟩ := VRs.get k2 hq
  refine ⟨⟨vs, v, SqL.of k1, k3⟩, fun u H2 hy => ?_⟩
  obtain ⟨rfl, hy⟩ := hy
  have := hy vs (SqL.of k1)
  rw [k3] at this; cases this
  exact ⟨W1, Ext.refl .., c, k4⟩
theorem walks_scr {H : Hp} {et : Hi} {W : Wd} {ns : List Int} {a : Addr} (h : VR X.K X.mg W H (.scr ns) (.ref a)) : Walks X.K X.mg (Itl X.K a) (ns.map .int) [.scr ns] et H W := by
  intro O H1 et1 W1 x sy c hsrc i
  have h1 : VR X.K X.mg W1 H1 (.scr ns) (.ref a) := VR.ext x sy _ _ h
  unfold VR at h1
  obtain ⟨b, eb, k1⟩ := h1
  cases eb
  have k1 := k1.sq
  refine ⟨fun hl => ⟨_, k1, by simp at hl ⊢; omega⟩, fun q hq => ?_⟩
  rw [List.getElem?_map] at hq
  cases hn : ns[i]? with
  | none => rw [hn] at hq; cases hq
  | some n =>
    rw [hn] at hq; cases hq
    have k3 : (ns.map V.int)[i]? = some (.int n) := by rw [List.getElem?_map, hn]; rfl
    refine ⟨⟨_, _, k1, k3⟩, fun u H2 hy => ?_⟩
    obtain ⟨rfl, hy⟩ := hy
    have := hy _ k1
    rw [k3] at this; cases this
    exact ⟨W1, Ext.refl .., c, VR.int⟩
theorem walks_tup {H : Hp} {et : Hi} {W : Wd} {ps : List PV} {a : Addr} (h : VR X.K X.mg W H (.tup ps) (.ref a)) : Walks X.K X.mg (Itt X.K a) ps [.tup ps] et H W := by
  intro O H1 et1 W1 x sy c hsrc i
  have h1 : VR X.K X.mg W1 H1 (.tup ps) (.ref a) := VR.ext x sy _ _ h
  unfold VR at h1
  obtain ⟨b, vs, eb, k1, k2⟩ := h1
  cases eb
  refine ⟨fun hl => ⟨vs, k1, by rw [← k2.len]; omega⟩, fun q hq => ?_⟩
  obtain ⟨v, k3, k4⟩ := VRs.get k2 hq
  refine ⟨⟨vs, v, k1, k3⟩, fun u H2 hy => ?_⟩
  obtain ⟨rfl, hy⟩ := hy
  have := hy vs k1
  rw [k3] at this; cases this
  exact ⟨W1, Ext.refl .., c, k4⟩
theorem walks_str {H : Hp} {et : Hi} {W : Wd} {src : List PV} (x : Str) : Walks X.K X.mg (Its x) (signs x) src et H W := by
  intro O H1 et1 W1 _ sy c hsrc i
  refine ⟨fun hl => ?_, fun q hq => ?_⟩
  · unfold signs at hl; rw [List.length_map, Array.length_toList] at hl; exact Nat.le_of_eq hl.symm
  · unfold signs at hq
    rw [List.getElem?_map] at hq
    cases hn : x.cps.toList[i]? with
    | none => rw [hn] at hq; cases hq
    | some n =>
      rw [hn] at hq; cases hq
      have hi : i < x.cps.size := by
        have := (List.getElem?_eq_some_iff.mp hn).1
        rwa [Array.length_toList] at this
      refine ⟨hi, fun u H2 hy => ?_⟩
      obtain ⟨rfl, d, hd, rfl⟩ := hy
      have : d = n := by
        rw [← Array.getElem?_toList, hn] at hd
        exact (Option.some.inj hd).symm
      subst this
      exact ⟨W1, Ext.refl .., c, VR.str⟩
theorem sI_any (h : SimE X e me) : SimI X tg e (mIter me) := weakI (pi_any h) fun σ H Q ⟨ep, et, W, R, c, s, hm, q⟩ => by
  refine ⟨ep, et, W, _, c, s, hm, fun p et1 r0 v H1 W1 x1 c1 p1 => ?_⟩
  have p1 : VR X.K X.mg W1 H1 p v := p1
  obtain ⟨ps, hp, r1⟩ := r0
  unfold itemsP at hp
  split at hp
  · rename_i xs e1
    cases hp
    obtain ⟨a, vs, rfl, k1, k2⟩ := Pk.lst c1 (.inl p1) e1
    exact .inl ⟨a, rfl, ⟨vs, SqL.of k1⟩, q _ _ et1 r1 _ H1 W1 x1 c1 (walks_list p1 e1)⟩
  · rename_i xs e1
    cases hp
    have e2 := deref_plain e1 rfl
    subst e2
    have p2 := p1
    unfold VR at p2
    obtain ⟨a, vs, rfl, k1, k2⟩ := p2
    exact .inr (.inl ⟨a, rfl, ⟨vs, k1⟩, q _ _ et1 r1 _ H1 W1 x1 c1 (walks_tup p1)⟩)
  · rename_i xs e1
    cases hp
    have e2 := deref_plain e1 rfl
    subst e2
    have p2 := p1
    unfold VR at p2
    obtain ⟨a, rfl, k1⟩ := p2
    exact .inl ⟨a, rfl, ⟨_, k1.sq⟩, q _ _ et1 r1 _ H1 W1 x1 c1 (walks_scr p1)⟩
  · rename_i x e1
    cases hp
    have e2 := deref_plain e1 rfl
    subst e2
    unfold VR at p1
    exact .inr (.inr ⟨x, p1, q _ _ et1 r1 _ H1 W1 x1 c1 (walks_str x)⟩)
  · cases hp
def rng (i : Int) (n : Nat) : List PV := (List.range n).map fun (k : Nat) => .int (i + k)
def mRng1 (ms : EM (List PV)) : IM := fun ep et R => ms ep et fun ps et1 => ∃ j : Int, ps = [.int j] ∧ -(2 ^ 62) ≤ j ∧ j < 2 ^ 62 ∧ R (rng 0 j.toNat) [] et1
def mRng2 (ms : EM (List PV)) : IM := fun ep et R => ms ep et fun ps et1 => ∃ i j : Int, ps = [.int i, .int j] ∧ (-(2 ^ 62) ≤ i ∧ i < 2 ^ 62 ∧ -(2 ^ 62) ≤ j ∧ j < 2 ^ 62) ∧ R (rng i (j - i).toNat) [] et1
theorem walks_rng {H : Hp} {et : Hi} {W : Wd} (i : Int) (n : Nat) : Walks X.K X.mg (Itr i n) (rng i n) [] et H W := by
  intro O H1 et1 W1 _ sy c hsrc j
  refine ⟨fun hl => ?_, fun q hq => ?_⟩
  · unfold rng at hl; rw [List.length_map, List.length_range] at hl; exact Nat.le_of_eq hl.symm
  · unfold rng at hq
    rw [List.getElem?_map] at hq
    by_cases hj : j < n
    · rw [List.getElem?_range hj] at hq
      cases hq
      refine ⟨hj, fun v H2 hy => ?_⟩
      obtain ⟨rfl, rfl⟩ := hy
      exact ⟨W1, Ext.refl .., c, VR.int⟩
    · rw [List.getElem?_eq_none (by simpa using hj)] at hq; cases hq
theorem sI_rng1 {a : Expr} {p : Pos} (hg : Gl X "range") (hm : X.mg "range" = none) (ha : SimA X [a] ms) (hs : starEach [a] X.env = [(false, eval a X.env)] := by rfl) : SimI X tg (.Call (.Name "range" p) [a] [] pos) (mRng1 ms) :=
  weakI (pi_range1 hg hm ha hs) fun σ H Q ⟨ep, et, W, R, c, s, hm, q⟩ => by
  refine ⟨ep, et, W, _, c, s, hm, fun ps et1 r0 vs H1 W1 x1 c1 p1 => ?_⟩
  obtain ⟨j, rfl, h1, h2, r1⟩ := r0
  unfold VRs at p1
  obtain ⟨v, r, rfl, p2, p3⟩ := p1
  unfold VRs at p3; subst p3
  unfold VR at p2; subst p2
  exact ⟨j, rfl, h1, h2, q _ _ et1 r1 _ H1 W1 x1 c1 (walks_rng 0 _)⟩
theorem sI_rng2 {a b : Expr} {p : Pos} (hg : Gl X "range") (hm : X.mg "range" = none) (ha : SimA X [a, b] ms) (hs : starEach [a, b] X.env = [(false, eval a X.env), (false, eval b X.env)] := by rfl) (hs2 : starEach [b] X.env = [(false, eval b X.env)] := by rfl) :
    SimI X tg (.Call (.Name "range" p) [a, b] [] pos) (mRng2 ms) :=
  weakI (pi_range2 hg hm ha hs hs2) fun σ H Q ⟨ep, et, W, R, c, s, hm, q⟩ => by
  refine ⟨ep, et, W, _, c, s, hm, fun ps et1 r0 vs H1 W1 x1 c1 p1 => ?_⟩
  obtain ⟨i, j, rfl, h1, r1⟩ := r0
  unfold VRs at p1
  obtain ⟨v, r, rfl, p2, p3⟩ := p1
  unfold VRs at p3
  obtain ⟨v', r', rfl, p4, p5⟩ := p3
  unfold VRs at p5; subst p5
  unfold VR at p2 p4; subst p2; subst p4
  exact ⟨i, j, rfl, h1, q _ _ et1 r1 _ H1 W1 x1 c1 (walks_rng i _)⟩
def SqK (b : Bool) (K : PySem.W.Frag) (H : Hp) (a : Addr) (xs : List V) : Prop := (b = true ∧ SqL K H a xs) ∨ (b = false ∧ SqT K H a xs)
def itK (b : Bool) (h : Heap) (it a : Addr) (i : Nat) : Prop := (b = true ∧ h.IsListIter it a i) ∨ (b = false ∧ h.IsTupleIter it a i)
def srcK (b : Bool) (h : Heap) (a : Addr) (its : Array Value) : Prop := (b = true ∧ h.IsList a its) ∨ (b = false ∧ h.IsTuple a its)
def objK (b : Bool) (a : Addr) : Obj := { cls := .type (if b = true then "list_iterator" else "tuple_iterator"), data := .fields #[.ref a, .int 0 0] }
theorem itK.at {b : Bool} {h h' : Heap} {it a : Addr} {i : Nat} (x : itK b h it a i) (k : ∀ o, h.get? it = some o → h'.get? it = some o) : itK b h' it a i := by
  rcases x with ⟨e, x⟩ | ⟨e, x⟩
  · exact .inl ⟨e, x.at k⟩
  · exact .inr ⟨e, x.at k⟩
theorem itK.obj {b : Bool} {h : Heap} {it a : Addr} {i : Nat} (x : itK b h it a i) : ∃ o, h.get? it = some o ∧ ∀ v, o.data ≠ .cell v := by
  rcases x with ⟨_, o, ho, _, hd⟩ | ⟨_, o, ho, _, hd⟩ <;> exact ⟨o, ho, fun v q => by rw [hd] at q; cases q⟩
theorem itK.new {b : Bool} {h : Heap} {it a : Addr} (e : h.get? it = some (objK b a)) : itK b h it a 0 := by
  cases b
  · exact .inr ⟨rfl, _, e, rfl, rfl⟩
  · exact .inl ⟨rfl, _, e, rfl, rfl⟩
theorem srcK.lt {b : Bool} {h : Heap} {a : Addr} {its : Array Value} (x : srcK b h a its) : a < h.objs.size := by
  rcases x with ⟨_, o, ho, _⟩ | ⟨_, o, ho, _⟩ <;> exact Heap.lt_size ho
theorem drawsK {P : Program} {w : World} {A : Around} (hh : A.handled = none) (b : Bool) (it a : Addr) (hne : a ≠ it) (its : Array Value) :
    Draws P w A it [it, a] its.size (fun i v => its[i]? = some v) (fun i h => itK b h it a i ∧ srcK b h a its) := by
  cases b
  · have e : (fun (i : Nat) (h : Heap) => itK false h it a i ∧ srcK false h a its) = fun i h => h.IsTupleIter it a i ∧ h.IsTuple a its := by
      funext i h; unfold itK srcK; simp
    rw [e]; exact Draws.tuple hh it a hne its
  · have e : (fun (i : Nat) (h : Heap) => itK true h it a i ∧ srcK true h a its) = fun i h => h.IsListIter it a i ∧ h.IsList a its := by
      funext i h; unfold itK srcK; simp
    rw [e]; exact Draws.list hh it a hne its
theorem beginsK (b : Bool) (a : Addr) (its : Array Value) : Begins (.ref a) (objK b a) (fun h => srcK b h a its) := by
  cases b
  · have e : (fun h : Heap => srcK false h a its) = fun h => h.IsTuple a its := by funext h; unfold srcK; simp
    rw [e]; exact begins_tuple a its
  · have e : (fun h : Heap => srcK true h a its) = fun h => h.IsList a its := by funext h; unfold srcK; simp
    rw [e]; exact begins_list a its
section
variable {X : Cx} {pins : List (Addr × Obj)} {σ : L2.St} {H : Hp} {s : Shared} {a : Addr} {xs ys : List V} {b : Bool}
theorem invK (I : Inv X pins σ H s) (h : SqK b X.K H a xs) : ∃ its : List Value, Vals xs its ∧ srcK b s.heap a its.toArray := by
  rcases h with ⟨e, h⟩ | ⟨e, h⟩
  · obtain ⟨its, r, p, _⟩ := I.list h; exact ⟨its, r, .inl ⟨e, p.isList⟩⟩
  · obtain ⟨its, r, p, _⟩ := I.tuple h; exact ⟨its, r, .inr ⟨e, p⟩⟩
theorem invK_inj (I : Inv X pins σ H s) (h : SqK b X.K H a xs) (h' : SqK b X.K H a ys) : xs = ys := by
  rcases h with ⟨e, h⟩ | ⟨e, h⟩ <;> rcases h' with ⟨e', h'⟩ | ⟨e', h'⟩
  · exact I.list_inj h h'
  · rw [e] at e'; cases e'
  · rw [e] at e'; cases e'
  · exact I.tuple_inj h h'
end
theorem enumT_new {v : Value} {o : Obj} {Hh : Heap → Prop} (B : Begins v o Hh) :
    Meets (Builtin.«enumerate.__new__» ⟨[.type "enumerate", v], []⟩) (fun _ R s => Hh s.heap ∧
      R (.ok (.ret (.ref (s.heap.push o).objs.size))) { s with heap := (s.heap.push o).push { cls := .type "enumerate", data := .fields #[.none, .bool false, .ref s.heap.objs.size, rawInt 0, .none, .none] } }) :=
  .of_wp fun prog w A R s hs => by
    obtain ⟨hp, g, d, tk, os⟩ := s
    obtain ⟨h1, h⟩ := hs
    have hsub := sub_enumerate
    have qi : ∀ {A' : Around} {E : Value → Shared → Prop} {Q : Value → Shared → Prop}, Q (.ref hp.objs.size) ⟨hp.push o, g, d, tk, os⟩ → wpAny (model prog w) A' (pyIter v) Q E ⟨hp, g, d, tk, os⟩ :=
      fun q => B.iter prog w _ _ ⟨hp, g, d, tk, os⟩ _ h1 q
    wp_walk using qi
    refine wpAny_stack_any fun st => wpAny_pure ?_
    split
    · rename_i c _ _ _ _ _
      cases (c == Value.type "enumerate") <;> (wp_walk using qi; exact ⟨_, rfl, h⟩)
    · wp_walk using qi; exact ⟨_, rfl, h⟩
theorem enumT_call {P : Program} {w : World} {A : Around} {E : Value → Shared → Prop} {s : Shared} {v : Value} {o : Obj} {Hh : Heap → Prop} {Q : Value → Shared → Prop} (B : Begins v o Hh) (h1 : Hh s.heap)
    (h : ∀ h', IsEnum h' (s.heap.objs.size + 1) s.heap.objs.size 0 .none → h'.get? s.heap.objs.size = some o →
      (∀ b u, s.heap.get? b = some u → h'.get? b = some u) → Q (.ref (s.heap.objs.size + 1)) { s with heap := h' }) :
    wpAny (model P w) A (call (.type "enumerate") [v]) Q E s := by
  refine callType_new F.called_enumerate (by decide) (F.typeCall_enumerate_1 _) (F.newCall_enumerate_1 _) (fun x => F.args_object_init_2 x _) F.entry_enumerate_new (enumT_new B) ⟨h1, ?_⟩
  have z : (s.heap.push o).objs.size = s.heap.objs.size + 1 := Heap.size_push ..
  show _ ∧ _
  rw [z]
  have he := Heap.get?_push_size (s.heap.push o) (o := { cls := .type "enumerate", data := .fields #[.none, .bool false, .ref s.heap.objs.size, rawInt 0, .none, .none] }) rfl
  rw [z] at he
  exact ⟨⟨_, he, rfl⟩, h _ he (Heap.get?_push_of_some _ (Heap.get?_push_size _ B.free)) fun b u x => Heap.get?_push_of_some _ (Heap.get?_push_of_some _ x)⟩
def IteK (b : Bool) (K : PySem.W.Frag) (a : Addr) : It where
  go i H := ∃ (xs : List V) (x : V), SqK b K H a xs ∧ xs[i]? = some x
  yld i H v H' := ∃ T o x, v = .ref T ∧ H T = none ∧ XTup o ∧ H' = upd H T (.frz o (.tup [.int (i : Nat), x])) ∧ ∀ xs, SqK b K H a xs → xs[i]? = some x
  stop i H := ∃ xs : List V, SqK b K H a xs ∧ xs.length = i
def enK (b : Bool) (a e it : Addr) (i : Nat) (h : Heap) : Prop := (∃ old, IsEnum h e it ((i : Nat) : Int) old) ∧ itK b h it a i ∧ e ≠ it ∧ a ≠ it ∧ e ≠ a
theorem turn_enumK {P : Program} {w : World} {K : PySem.W.Frag} {elts : List Expr} {kk : Nat} {tpos : Pos} (b : Bool) (a e it : Addr) : Turn P w K (.Tuple elts kk tpos) (IteK b K a) [e, it] e (enK b a e it) where
  mem := List.mem_cons_self ..
  obj := fun i h ⟨⟨old, he⟩, hi, _⟩ c hb => by
    rcases List.mem_cons.mp hb with z | z
    · rw [z]; exact ⟨_, he, fun v q => nomatch q⟩
    · rw [List.mem_singleton.mp z]; exact hi.obj
  keep := fun i h h' ⟨⟨old, he⟩, hi, n⟩ k => ⟨⟨old, k e (by simp) _ he⟩, hi.at fun o q => k it (by simp) o q, n⟩
  item := by
    intro X hP hw hK hc i pins s σ H E I hf st hg
    subst hP; subst hw; subst hK
    obtain ⟨⟨old, he⟩, hit, n1, n2, n3⟩ := st
    obtain ⟨xs, x, hq, hx⟩ := hg
    obtain ⟨its, rv, p⟩ := invK I hq
    obtain ⟨u, hu, ru⟩ := rv.get hx
    have hu' : its.toArray[i]? = some u := by simpa using hu
    have hlt : i < its.toArray.size := by simpa using (List.getElem?_eq_some_iff.mp hu).1
    have l1 : e < s.heap.objs.size := Heap.lt_size he
    have l2 : it < s.heap.objs.size := by obtain ⟨_, q, _⟩ := hit.obj; exact Heap.lt_size q
    refine PySem.wpAny_pyNext_enum_itemC (drawsK (A := X.A.in1) (I.ok.hd hc) b it a n2 its.toArray) he ⟨hit, p⟩ hlt n1 (by simp [n1, n3]) fun y h' tk hy ho hs' hT hsz hk => ?_
    have ey : y = u := by rw [hu'] at hy; exact (Option.some.inj hy).symm
    subst ey
    refine ⟨_, rfl, wpAny_letOwnedTupleGo_enum (s := { s with heap := h', toks := tk + 1 }) ho fun h2 he2 sb => ?_⟩
    have hT2 := (sb.2 _ (Nat.ne_of_gt l1)).trans hT
    obtain ⟨o, hxo, hg⟩ : ∃ o, XTup o ∧ h2.get? s.heap.objs.size = some o := ⟨{ cls := .type "tuple", data := .seq #[.int i tk, y] }, ⟨rfl, rfl⟩, hT2⟩
    have ok : ObjOk X.prog X.w (upd H s.heap.objs.size (.frz o (.tup [.int (i : Nat), x]))) h2 s.heap.objs.size (.frz o (.tup [.int (i : Nat), x])) :=
      ⟨hg, by show 2 ≤ sizeLine; decide, [.int i tk, y], .cons ⟨tk, rfl⟩ (.cons ru .nil), ⟨_, hT2, rfl, _, rfl⟩⟩
    have I1 : Inv X pins σ (upd H s.heap.objs.size (.frz o (.tup [.int (i : Nat), x]))) { s with heap := h2, toks := tk + 1 } :=
      I.turnedNew (ch := [e, it]) (fun b ob hb q => by
        have nb : b ≠ e ∧ b ≠ it := by simpa [not_or] using hb
        exact (sb.2 b nb.1).trans (hk b ob nb.1 nb.2 q)) hf (Nat.le_refl _) ok
    refine ⟨.ref s.heap.objs.size, _, I1, rfl, ⟨_, o, x, rfl, I.hok.fresh (Nat.le_refl _), hxo, rfl, fun ys hy => by rw [invK_inj I hy hq]; exact hx⟩, ⟨⟨y, ?_⟩, hs'.1.at fun o q => (sb.2 it (Ne.symm n1)).trans q, n1, n2, n3⟩, fun b hb => ?_⟩
    · show IsEnum h2 e it ((i + 1 : Nat) : Int) y
      rw [show ((i + 1 : Nat) : Int) = (i : Int) + 1 by omega]; exact he2
    · have hb' : b < s.heap.objs.size := by
        rcases List.mem_cons.mp hb with z | z
        · rw [z]; exact l1
        · rw [List.mem_singleton.mp z]; exact l2
      rw [upd_ne (Nat.ne_of_lt hb')]; exact (hf b hb).1
  done := by
    intro X hP hw hK hc i pins s σ H E I hf st hg
    subst hP; subst hw; subst hK
    obtain ⟨⟨old, he⟩, hit, n1, n2, n3⟩ := st
    obtain ⟨xs, hq, hx⟩ := hg
    obtain ⟨its, rv, p⟩ := invK I hq
    obtain ⟨f0, f1, f2, f3, f4, f5⟩ := hf it (by simp)
    have hl := rv.length
    have e1 : i = its.toArray.size := by have := List.size_toArray (as := its); omega
    subst e1
    exact PySem.wpAny_pyNext_enum_endD (drawsK (A := X.A.in1) (I.ok.hd hc) b it a n2 its.toArray) he ⟨hit, p⟩ fun h' eb => ⟨rfl, I.turned (t' := s.toks) (fun b o hb q => eb b o hb q) f0 f1 f3 f4 f5⟩
  self := fun A i s Q E st h => let ⟨⟨_, he⟩, _⟩ := st; wpAny_pyIter_enum he h
def iEnumT (K : PySem.W.Frag) (ta : TA) : TI := fun σ H R => ta σ H fun vs H1 => ∃ b a xs, vs = [.ref a] ∧ SqK b K H1 a xs ∧ R (IteK b K a) H1
theorem pi_enumT {X : Cx} {e : Expr} {ta : TA} {p pos tpos : Pos} {elts : List Expr} {kk : Nat} (hg : Gl X "enumerate") (hm : X.mg "enumerate" = none) (ha : PA X [e] ta) (hs : starEach [e] X.env = [(false, eval e X.env)] := by rfl) :
    PI X (.Tuple elts kk tpos) (.Call (.Name "enumerate" p) [e] [] pos) (iEnumT X.K ta) := by
  refine ⟨fun pins s σ H R I h => PyProof.Rows.Call_ (ld_blt I hg hm PyProof.Rows.boot_enumerate (PyProof.Rows.callWith_type1 (thn (ha.run pos pins s σ H _ I h) fun us s1 ⟨vs, H1, I1, r1, q1⟩ => ?_) hs rfl))⟩
  obtain ⟨b, a, xs, ex, hq, q⟩ := q1
  subst ex
  cases r1 with
  | cons r rr =>
    cases rr
    cases r
    have fresh : ∀ c ∈ [s1.heap.objs.size + 1, s1.heap.objs.size], FpOk X pins H1 c := fun c hb => by
      have hle : s1.heap.objs.size ≤ c := by
        rcases List.mem_cons.mp hb with z | z
        · rw [z]; exact Nat.le_add_right _ _
        · rw [List.mem_singleton.mp z]; exact Nat.le_refl _
      exact I1.fpOk hle (I1.hok.fresh hle)
    obtain ⟨its, rv, pt⟩ := invK I1 hq
    have hlt := pt.lt
    refine enumT_call (beginsK b a its.toArray) pt fun h' he hit hk => wpAny_pyIter_enum he ?_
    have eN : ((s1.heap.objs.size : Nat) : Nat) + 1 ≠ s1.heap.objs.size := Nat.succ_ne_self _
    exact ⟨s1.heap.objs.size + 1, _, _, _, H1, rfl, I1.kept (t' := s1.toks) hk, turn_enumK b a (s1.heap.objs.size + 1) s1.heap.objs.size, ⟨⟨.none, he⟩, itK.new hit, eN, Nat.ne_of_lt hlt, Ne.symm (Nat.ne_of_lt (Nat.lt_succ_of_lt hlt))⟩, fresh, q⟩
def ItzK (b1 b2 : Bool) (K : PySem.W.Frag) (a c : Addr) : It where
  go i H := ∃ (xs ys : List V) (x y : V), SqK b1 K H a xs ∧ SqK b2 K H c ys ∧ xs[i]? = some x ∧ ys[i]? = some y
  yld i H v H' := ∃ T o x y, v = .ref T ∧ H T = none ∧ XTup o ∧ H' = upd H T (.frz o (.tup [x, y])) ∧ (∀ xs, SqK b1 K H a xs → xs[i]? = some x) ∧ (∀ ys, SqK b2 K H c ys → ys[i]? = some y)
  stop i H := ∃ xs ys : List V, SqK b1 K H a xs ∧ SqK b2 K H c ys ∧ (xs.length = i ∨ ys.length = i) ∧ i ≤ xs.length ∧ i ≤ ys.length
def z2K (b1 b2 : Bool) (a c z TI TO i1 i2 : Addr) (i : Nat) (h : Heap) : Prop := IsZip h z TI TO .none ∧ IsTupOf2 h TI (.ref i1) (.ref i2) ∧ (∃ x y, IsTupOf2 h TO x y) ∧ itK b1 h i1 a i ∧ itK b2 h i2 c i
theorem turn_zipK {P : Program} {w : World} {K : PySem.W.Frag} {elts : List Expr} {kk : Nat} {tpos : Pos} (b1 b2 : Bool) {a c z TI TO i1 i2 : Addr} (S : ZipSep2 z TI TO i1 i2 [i1, a] [i2, c]) (na : a ≠ i1) (nc : c ≠ i2) :
    Turn P w K (.Tuple elts kk tpos) (ItzK b1 b2 K a c) [z, TI, TO, i1, i2] z (z2K b1 b2 a c z TI TO i1 i2) where
  mem := List.mem_cons_self ..
  obj := fun i h ⟨hz, hTI, ⟨x, y, hTO⟩, h1, h2⟩ k hk => by
    have e' : k = z ∨ k = TI ∨ k = TO ∨ k = i1 ∨ k = i2 := by simpa using hk
    rcases e' with q | q | q | q | q <;> rw [q]
    · exact ⟨_, hz, fun v q => nomatch q⟩
    · exact ⟨_, hTI, fun v q => nomatch q⟩
    · exact ⟨_, hTO, fun v q => nomatch q⟩
    · exact h1.obj
    · exact h2.obj
  keep := fun i h h' ⟨hz, hTI, ⟨x, y, hTO⟩, h1, h2⟩ k => ⟨k z (by simp) _ hz, k TI (by simp) _ hTI, ⟨x, y, k TO (by simp) _ hTO⟩, h1.at fun o q => k i1 (by simp) o q, h2.at fun o q => k i2 (by simp) o q⟩
  item := by
    intro X hP hw hK hc i pins s σ H E I hf st hg
    subst hP; subst hw; subst hK
    obtain ⟨hz, hTI, ⟨x0, y0, hTO⟩, t1, t2⟩ := st
    obtain ⟨xs, ys, x, y, qx, qy, hx, hy⟩ := hg
    obtain ⟨n1, r1, p1⟩ := invK I qx
    obtain ⟨n2, r2, p2⟩ := invK I qy
    obtain ⟨v1, g1, rv1⟩ := r1.get hx
    obtain ⟨v2, g2, rv2⟩ := r2.get hy
    have lt1 : i < n1.toArray.size := by simpa using (List.getElem?_eq_some_iff.mp g1).1
    have lt2 : i < n2.toArray.size := by simpa using (List.getElem?_eq_some_iff.mp g2).1
    have hh := I.ok.hd hc
    refine wpAny_pyNext_zipD2_item S (drawsK (A := X.A.in1) hh b1 i1 a na n1.toArray) (drawsK (A := X.A.in1) hh b2 i2 c nc n2.toArray) hz hTI hTO ⟨t1, p1⟩ ⟨t2, p2⟩ lt1 lt2 fun w1 w2 h' tk k1 k2 c1 c2 d1 d2 b5 b6 hk => ?_
    have e1 : w1 = v1 := by have k1 : n1.toArray[i]? = some w1 := k1; simp [g1] at k1; exact k1.symm
    have e2 : w2 = v2 := by have k2 : n2.toArray[i]? = some w2 := k2; simp [g2] at k2; exact k2.symm
    subst e1; subst e2
    have lz : z < s.heap.objs.size := Heap.lt_size hz
    refine ⟨_, rfl, wpAny_letOwnedTupleGo_zip (s := { s with heap := h', toks := tk }) c1 fun h2 z2 sb => ?_⟩
    have hT2 := (sb.2 _ (Nat.ne_of_gt lz)).trans b5
    obtain ⟨o, hxo, hg⟩ : ∃ o, XTup o ∧ h2.get? s.heap.objs.size = some o := ⟨{ cls := .type "tuple", data := .seq #[w1, w2] }, ⟨rfl, rfl⟩, hT2⟩
    have ok : ObjOk X.prog X.w (upd H s.heap.objs.size (.frz o (.tup [x, y]))) h2 s.heap.objs.size (.frz o (.tup [x, y])) :=
      ⟨hg, by show 2 ≤ sizeLine; decide, [w1, w2], .cons rv1 (.cons rv2 .nil), ⟨_, hT2, rfl, _, rfl⟩⟩
    have I1 : Inv X pins σ (upd H s.heap.objs.size (.frz o (.tup [x, y]))) { s with heap := h2, toks := tk } :=
      I.turnedNew (ch := [z, TI, TO, i1, i2]) (fun k o hb q => by
        have n : k ≠ z ∧ k ≠ TI ∧ k ≠ TO ∧ k ≠ i1 ∧ k ≠ i2 := by simpa [not_or] using hb
        exact (sb.2 k n.1).trans (hk k o n.1 n.2.2.1 n.2.2.2.1 n.2.2.2.2 q)) hf (Nat.le_refl _) ok
    have m1 : i1 ≠ z := fun e => S.zi1 e.symm
    have m2 : i2 ≠ z := fun e => S.zi2 e.symm
    refine ⟨.ref s.heap.objs.size, _, I1, rfl, ⟨_, o, x, y, rfl, I.hok.fresh (Nat.le_refl _), hxo, rfl, fun l hl => by rw [invK_inj I hl qx]; exact hx, fun l hl => by rw [invK_inj I hl qy]; exact hy⟩,
      ⟨z2, (sb.2 _ S.TIz).trans (hk _ _ S.TIz S.TITO S.TIi1 S.TIi2 hTI), ⟨w1, w2, (sb.2 _ S.TOz).trans c2⟩, d1.1.at fun o q => (sb.2 _ m1).trans q, d2.1.at fun o q => (sb.2 _ m2).trans q⟩, fun k hkm => ?_⟩
    have hlt : k < s.heap.objs.size := by
      have e' : k = z ∨ k = TI ∨ k = TO ∨ k = i1 ∨ k = i2 := by simpa using hkm
      rcases e' with q | q | q | q | q <;> rw [q]
      · exact lz
      · exact Heap.lt_size hTI
      · exact Heap.lt_size hTO
      · obtain ⟨_, e1, _⟩ := t1.obj; exact Heap.lt_size e1
      · obtain ⟨_, e1, _⟩ := t2.obj; exact Heap.lt_size e1
    rw [upd_ne (Nat.ne_of_lt hlt)]
    exact (hf k hkm).1
  done := by
    intro X hP hw hK hc i pins s σ H E I hf st hg
    subst hP; subst hw; subst hK
    obtain ⟨hz, hTI, ⟨x0, y0, hTO⟩, t1, t2⟩ := st
    obtain ⟨xs, ys, qx, qy, hend, m1, m2⟩ := hg
    obtain ⟨n1, r1, p1⟩ := invK I qx
    obtain ⟨n2, r2, p2⟩ := invK I qy
    have l1 := r1.length
    have l2 := r2.length
    have hh := I.ok.hd hc
    refine wpAny_pyNext_zipD2_end S (drawsK (A := X.A.in1) hh b1 i1 a na n1.toArray) (drawsK (A := X.A.in1) hh b2 i2 c nc n2.toArray) hz hTI hTO ⟨t1, p1⟩ ⟨t2, p2⟩ (by simp; omega) (by simp; omega) (by simp; omega) fun h' tk hk => ⟨rfl, I.turnedL (t' := tk) (ch := [z, TI, TO, i1, i2]) (fun k o hb q => by
        have n : k ≠ z ∧ k ≠ TI ∧ k ≠ TO ∧ k ≠ i1 ∧ k ≠ i2 := by simpa [not_or] using hb
        exact hk k o n.1 n.2.2.1 n.2.2.2.1 n.2.2.2.2 q) hf⟩
  self := fun A i s Q E st h => wpAny_pyIter_zip st.1 h
def iZipK (K : PySem.W.Frag) (ta : TA) : TI := fun σ H R => ta σ H fun vs H1 => ∃ b1 b2 a c xs ys, vs = [.ref a, .ref c] ∧ SqK b1 K H1 a xs ∧ SqK b2 K H1 c ys ∧ R (ItzK b1 b2 K a c) H1
theorem pi_zipK {X : Cx} {e e2 : Expr} {ta : TA} {p pos tpos : Pos} {elts : List Expr} {kk : Nat} (hg : Gl X "zip") (hm : X.mg "zip" = none) (ha : PA X [e, e2] ta)
    (hs : starEach [e, e2] X.env = (false, eval e X.env) :: starEach [e2] X.env := by rfl) (hpl : (backTo pos (starEach [e2] X.env)).any (·.1) = false := by rfl) :
    PI X (.Tuple elts kk tpos) (.Call (.Name "zip" p) [e, e2] [] pos) (iZipK X.K ta) := by
  refine ⟨fun pins s σ H R I h => PyProof.Rows.Call_ (ld_blt I hg hm PyProof.Rows.boot_zip (PyProof.Rows.callWith_type1 (thn (ha.run pos pins s σ H _ I h) fun us s1 ⟨vs, H1, I1, r1, q1⟩ => ?_) hs hpl))⟩
  obtain ⟨b1, b2, a, c, xs, ys, ex, qx, qy, q⟩ := q1
  subst ex
  cases r1 with
  | cons r rr =>
    cases rr with
    | cons r' rr =>
      cases rr
      cases r
      cases r'
      obtain ⟨n1, _, p1⟩ := invK I1 qx
      obtain ⟨n2, _, p2⟩ := invK I1 qy
      have l1 := p1.lt
      have l2 := p2.lt
      refine zip_begins2 (beginsK b1 a n1.toArray) (beginsK b2 c n2.toArray) p1 p2 fun h' hz hTI hTO g1 g2 hsz hk => wpAny_pyIter_zip hz ?_
      have sep := zip_sep2 (N := s1.heap.objs.size) (fp1 := [a]) (fp2 := [c]) (by simpa using l1) (by simpa using l2)
      have na : a ≠ s1.heap.objs.size := Nat.ne_of_lt l1
      have nc : c ≠ s1.heap.objs.size + 1 := Nat.ne_of_lt (Nat.lt_succ_of_lt l2)
      have fresh : ∀ k ∈ [s1.heap.objs.size + 4, s1.heap.objs.size + 2, s1.heap.objs.size + 3, s1.heap.objs.size, s1.heap.objs.size + 1], FpOk X pins H1 k := fun k hkm => by
        have hle : s1.heap.objs.size ≤ k := by
          simp only [List.mem_cons, List.not_mem_nil, or_false] at hkm
          rcases hkm with z | z | z | z | z <;> rw [z] <;> first | exact Nat.le_add_right _ _ | exact Nat.le_refl _
        exact I1.fpOk hle (I1.hok.fresh hle)
      exact ⟨s1.heap.objs.size + 4, _, _, _, H1, rfl, I1.kept (t' := s1.toks) hk, turn_zipK b1 b2 sep na nc, ⟨hz, hTI, ⟨_, _, hTO⟩, itK.new g1, itK.new g2⟩, fresh, q⟩
def zipP (xs ys : List PV) : List PV := (xs.zip ys).map fun p => .tup [p.1, p.2]
def mZip (ms : EM (List PV)) : IM := fun ep et R => ms ep et fun ps et1 => ∃ p q xs ys, ps = [p, q] ∧ ((deref et1 p = .lst xs ∧ deref et1 q = .lst ys) ∨ (p = .tup xs ∧ q = .tup ys)) ∧ R (zipP xs ys) [p, q] et1
theorem zipP_get {xs ys : List PV} {i : Nat} {q : PV} (h : (zipP xs ys)[i]? = some q) : ∃ x y, xs[i]? = some x ∧ ys[i]? = some y ∧ q = .tup [x, y] := by
  unfold zipP at h
  rw [List.getElem?_map] at h
  cases e : (xs.zip ys)[i]? with
  | none => rw [e] at h; cases h
  | some p =>
    rw [e] at h; cases h
    rw [List.getElem?_zip_eq_some] at e
    exact ⟨p.1, p.2, e.1, e.2, rfl⟩
def SrcP (b : Bool) (et : Hi) (p : PV) (xs : List PV) : Prop := (b = true ∧ deref et p = .lst xs) ∨ (b = false ∧ p = .tup xs)
theorem srcP_sq {K : PySem.W.Frag} {mg : Str → Option Value} {H : Hp} {et : Hi} {W : Wd} {b : Bool} {p : PV} {xs : List PV} {v : V} (c : Cel K mg H et W) (hp : VR K mg W H p v) (h : SrcP b et p xs) : ∃ a vs, v = .ref a ∧ SqK b K H a vs ∧ VRs K mg W H xs vs := by
  rcases h with ⟨e, h⟩ | ⟨e, h⟩
  · obtain ⟨a, vs, ev, k1, k2⟩ := Pk.lst c (.inl hp) h
    exact ⟨a, vs, ev, .inl ⟨e, SqL.of k1⟩, k2⟩
  · subst h
    unfold VR at hp
    obtain ⟨a, vs, ev, k1, k2⟩ := hp
    exact ⟨a, vs, ev, .inr ⟨e, k1.sq⟩, k2⟩
theorem SrcP.at {b : Bool} {et et' : Hi} {p : PV} {xs : List PV} (h : SrcP b et p xs) (e : deref et' p = deref et p) : SrcP b et' p xs := by
  rcases h with ⟨e1, h⟩ | ⟨e1, h⟩
  · exact .inl ⟨e1, e.trans h⟩
  · exact .inr ⟨e1, h⟩
theorem walks_zipK {H : Hp} {et : Hi} {W : Wd} {p q : PV} {a d : Addr} {xs ys : List PV} {b1 b2 : Bool} (h : VR X.K X.mg W H p (.ref a)) (h' : VR X.K X.mg W H q (.ref d)) (e : SrcP b1 et p xs) (e' : SrcP b2 et q ys) : Walks X.K X.mg (ItzK b1 b2 X.K a d) (zipP xs ys) [p, q] et H W := by
  intro O H1 et1 W1 x sy c hsrc i
  have h1 : VR X.K X.mg W1 H1 p (.ref a) := VR.ext x sy _ _ h
  have h2 : VR X.K X.mg W1 H1 q (.ref d) := VR.ext x sy _ _ h'
  simp only [List.map_cons, List.map_nil, List.cons.injEq, and_true] at hsrc
  obtain ⟨a', vs, ea, k1, k2⟩ := srcP_sq c h1 (e.at hsrc.1)
  cases ea
  obtain ⟨b', ws, eb, k3, k4⟩ := srcP_sq c h2 (e'.at hsrc.2)
  cases eb
  have l1 := k2.len
  have l2 := k4.len
  refine ⟨fun hl => ⟨vs, ws, k1, k3, ?_⟩, fun z hz => ?_⟩
  · unfold zipP at hl
    rw [List.length_map, List.length_zip] at hl
    omega
  · obtain ⟨x, y, z1, z2, rfl⟩ := zipP_get hz
    obtain ⟨v, k5, k6⟩ := VRs.get k2 z1
    obtain ⟨w, k7, k8⟩ := VRs.get k4 z2
    refine ⟨⟨vs, ws, v, w, k1, k3, k5, k7⟩, fun u H2 ⟨T, o, v', w', eu, hT, ho, eH, g1, g2⟩ => ?_⟩
    subst eu; subst eH
    have q1 := g1 vs k1
    rw [k5] at q1; cases q1
    have q2 := g2 ws k3
    rw [k7] at q2; cases q2
    obtain ⟨x3, c3, r3⟩ := new_tup c hT ho (VRs.cons k6 (VRs.cons k8 VRs.nil))
    exact ⟨W1, x3, c3, r3⟩
theorem sI_zip {a b : Expr} {p tpos : Pos} {elts : List Expr} {kk : Nat} (hg : Gl X "zip") (hm : X.mg "zip" = none) (ha : SimA X [a, b] ms) (hs : starEach [a, b] X.env = (false, eval a X.env) :: starEach [b] X.env := by rfl) (hpl : (backTo pos (starEach [b] X.env)).any (·.1) = false := by rfl) :
    SimI X (.Tuple elts kk tpos) (.Call (.Name "zip" p) [a, b] [] pos) (mZip ms) :=
  weakI (pi_zipK hg hm ha hs hpl) fun σ H Q ⟨ep, et, W, R, c, s, hm, q⟩ => by
  refine ⟨ep, et, W, _, c, s, hm, fun ps et1 r0 vs H1 W1 x1 c1 p1 => ?_⟩
  obtain ⟨p, p', xs, ys, rfl, hd, r1⟩ := r0
  unfold VRs at p1
  obtain ⟨v, r, rfl, p2, p3⟩ := p1
  unfold VRs at p3
  obtain ⟨v', r', rfl, p4, p5⟩ := p3
  unfold VRs at p5; subst p5
  have key : ∃ b : Bool, SrcP b et1 p xs ∧ SrcP b et1 p' ys := by
    rcases hd with ⟨d1, d2⟩ | ⟨d1, d2⟩
    · exact ⟨true, .inl ⟨rfl, d1⟩, .inl ⟨rfl, d2⟩⟩
    · exact ⟨false, .inr ⟨rfl, d1⟩, .inr ⟨rfl, d2⟩⟩
  obtain ⟨b, s1, s2⟩ := key
  obtain ⟨a', vs, rfl, k1, _⟩ := srcP_sq c1 p2 s1
  obtain ⟨b', ws, rfl, k3, _⟩ := srcP_sq c1 p4 s2
  exact ⟨b, b, a', b', vs, ws, rfl, k1, k3, q _ _ et1 r1 _ H1 W1 x1 c1 (walks_zipK p2 p4 s1 s2)⟩
def enumP (xs : List PV) : List PV := (xs.zipIdx).map fun p => .tup [.int p.2, p.1]
def mEnum (ms : EM (List PV)) : IM := fun ep et R => ms ep et fun ps et1 => ∃ p xs, ps = [p] ∧ deref et1 p = .lst xs ∧ R (enumP xs) [p] et1
def mEnumA (ms : EM (List PV)) : IM := fun ep et R => ms ep et fun ps et1 => ∃ p xs, ps = [p] ∧ (deref et1 p = .lst xs ∨ p = .tup xs) ∧ R (enumP xs) [p] et1
theorem enumP_get {xs : List PV} {i : Nat} {q : PV} (h : (enumP xs)[i]? = some q) : ∃ x, xs[i]? = some x ∧ q = .tup [.int i, x] := by
  unfold enumP at h
  rw [List.getElem?_map, List.getElem?_zipIdx] at h
  cases e : xs[i]? with
  | none => rw [e] at h; cases h
  | some x => rw [e] at h; cases h; exact ⟨x, rfl, by simp⟩
theorem walks_enumK {H : Hp} {et : Hi} {W : Wd} {b : Bool} {p : PV} {a : Addr} {xs : List PV} (h : VR X.K X.mg W H p (.ref a)) (e : SrcP b et p xs) : Walks X.K X.mg (IteK b X.K a) (enumP xs) [p] et H W := by
  intro O H1 et1 W1 x sy c hsrc i
  have h1 : VR X.K X.mg W1 H1 p (.ref a) := VR.ext x sy _ _ h
  simp only [List.map_cons, List.map_nil, List.cons.injEq, and_true] at hsrc
  obtain ⟨a', vs, ea, k1, k2⟩ := srcP_sq c h1 (e.at hsrc)
  cases ea
  have l1 := k2.len
  refine ⟨fun hl => ⟨vs, k1, ?_⟩, fun z hz => ?_⟩
  · unfold enumP at hl
    rw [List.length_map, List.length_zipIdx] at hl
    omega
  · obtain ⟨x, z1, rfl⟩ := enumP_get hz
    obtain ⟨v, k5, k6⟩ := VRs.get k2 z1
    refine ⟨⟨vs, v, k1, k5⟩, fun u H2 ⟨T, o, v', eu, hT, ho, eH, g1⟩ => ?_⟩
    subst eu; subst eH
    have q1 := g1 vs k1
    rw [k5] at q1; cases q1
    obtain ⟨x3, c3, r3⟩ := new_tup c hT ho (VRs.cons VR.int (VRs.cons k6 VRs.nil))
    exact ⟨W1, x3, c3, r3⟩
theorem sI_enum {a : Expr} {p tpos : Pos} {elts : List Expr} {kk : Nat} (hg : Gl X "enumerate") (hm : X.mg "enumerate" = none) (ha : SimA X [a] ms) (hs : starEach [a] X.env = [(false, eval a X.env)] := by rfl) :
    SimI X (.Tuple elts kk tpos) (.Call (.Name "enumerate" p) [a] [] pos) (mEnum ms) :=
  weakI (pi_enumT hg hm ha hs) fun σ H Q ⟨ep, et, W, R, c, s, hm, q⟩ => by
  refine ⟨ep, et, W, _, c, s, hm, fun ps et1 r0 vs H1 W1 x1 c1 p1 => ?_⟩
  obtain ⟨p, xs, rfl, d1, r1⟩ := r0
  unfold VRs at p1
  obtain ⟨v, r, rfl, p2, p3⟩ := p1
  unfold VRs at p3; subst p3
  have s1 : SrcP true et1 p xs := .inl ⟨rfl, d1⟩
  obtain ⟨a', vs, rfl, k1, _⟩ := srcP_sq c1 p2 s1
  exact ⟨true, a', vs, rfl, k1, q _ _ et1 r1 _ H1 W1 x1 c1 (walks_enumK p2 s1)⟩
theorem priv_write {K : PySem.W.Frag} {mg : Str → Option Value} {H : Hp} {et : Hi} {W : Wd} (c : Cel K mg H et W) {D : Addr} {vs vs' : List V} (hD : H D = some (.lst vs)) (hf : ¬ W.fz D) (hl : ¬ Live et W D) :
    Cel K mg (upd H D (.lst vs')) et W ∧ (∀ q v, VR K mg W H q v → VR K mg W (upd H D (.lst vs')) q v) ∧ (∀ ps us, VRs K mg W H ps us → VRs K mg W (upd H D (.lst vs')) ps us) := by
  have x : Ext (fun a => a = D) H et W (upd H D (.lst vs')) et W := ⟨fun _ h => h, fun _ h => .inl h, ⟨[], by simp⟩, fun _ h => .inl h, fun b u h _ hO => by rw [upd_ne hO]; exact h, fun b h => by
    by_cases e : b = D
    · rw [e, upd_same]; simp
    · rw [upd_ne e]; exact h⟩
  have sy : Stays (fun a => a = D) H et W := ⟨fun a h => ⟨c.fzl a h, fun e => hf (e ▸ h)⟩, fun a xs h => ⟨(c.stays0.tup a xs h).1, fun e => by rw [e, hD] at h; cases h⟩, fun a o u h => ⟨(c.stays0.frz a o u h).1, fun e => by rw [e, hD] at h; cases h⟩, fun a fs h => ⟨(c.stays0.xd a fs h).1, fun e => by rw [e, hD] at h; cases h⟩⟩
  refine ⟨⟨c.len, fun j d b h1 h2 => ?_, c.inj, c.fzl, fun b h => x.there b (c.fzh b h)⟩, fun q v h => VR.ext x sy q v h, fun q v h => VRs.ext x sy q v h⟩
  have k := c.ok j d b h1 h2
  have keep : d ≠ .dead → upd H D (.lst vs') b = H b := fun hd => upd_ne fun e => hl ⟨j, d, h1, hd, e ▸ h2⟩
  cases d with
  | dead => trivial
  | lst xs => obtain ⟨vs, k1, k2⟩ := k; exact ⟨vs, by rw [keep (by simp)]; exact k1, VRs.ext x sy _ _ k2⟩
  | dic xs => obtain ⟨vs, k1, k2⟩ := k; exact ⟨vs, by rw [keep (by simp)]; exact k1, VRk.ext x sy _ _ k2⟩
  | potO t n => obtain ⟨b', sd, ct, k0, k1, k2⟩ := k; exact ⟨b', sd, ct, k0, by rw [keep (by simp)]; exact k1, k2⟩
  | potI => obtain ⟨is, k1, k2⟩ := k; exact ⟨is, by rw [keep (by simp)]; exact k1, k2⟩
  | inv P => obtain ⟨is, k1, k2⟩ := k; exact ⟨is, by rw [keep (by simp)]; exact k1, k2⟩
  | exc c fs => obtain ⟨C, d', k0, k1, k2⟩ := k; exact ⟨C, d', k0, by rw [keep (by simp)]; exact k1, k2.imp_right fun ⟨dd, e, q⟩ => ⟨dd, e, x.keep dd _ q (sy.xd dd _ q).1 (sy.xd dd _ q).2⟩⟩
  | nd kvs => rcases k with ⟨k0, k1⟩ | ⟨es, k1, k2⟩; exact .inl ⟨k0, by rw [keep (by simp)]; exact k1⟩; exact .inr ⟨es, by rw [keep (by simp)]; exact k1, VRn.ext x sy _ _ k2⟩
  | td hs kvs => rcases k with ⟨k0, k1⟩ | ⟨es, k1, k2⟩; exact .inl ⟨k0, by rw [keep (by simp)]; exact k1⟩; exact .inr ⟨es, by rw [keep (by simp)]; exact k1, VRt.ext x sy _ _ k2⟩
  | ins t fs => obtain ⟨C, dx, gs, k0, k1, k2⟩ := k; exact ⟨C, dx, gs, k0, by rw [keep (by simp)]; exact k1, VRf.ext x sy _ _ k2⟩
def wipeE (ep : En) : List Nat → En
  | [] => ep
  | v :: vs => (wipeE ep vs).set v .no
theorem Slt.wipe {K : PySem.W.Frag} {mg : Str → Option Value} {H : Hp} {et : Hi} {W : Wd} {σ : L2.St} {ep : En} (s : Slt K mg σ ep H et W) : ∀ vs : List Nat, Slt K mg (L2.wipe σ vs) (wipeE ep vs) H et W
  | [] => s
  | v :: vs => by
    unfold L2.wipe wipeE
    exact (Slt.wipe s vs).set_no
theorem wipe_get (σ : L2.St) : ∀ (vs : List Nat) (j : Nat), (L2.wipe σ vs)[j]? = if j ∈ vs then (if j < σ.length then some none else none) else σ[j]?
  | [], j => by simp [L2.wipe]
  | v :: vs, j => by
    unfold L2.wipe
    by_cases e : j = v
    · subst e
      by_cases hl : j < σ.length
      · rw [List.getElem?_set_self (by rw [wipe_length]; exact hl)]; simp [hl]
      · rw [List.getElem?_eq_none (by rw [List.length_set, wipe_length]; omega)]; simp [hl]
    · rw [List.getElem?_set_ne (Ne.symm e), wipe_get σ vs j]; simp [e]
theorem wipe_same {σ σ' : L2.St} {vs : List Nat} (hl : σ'.length = σ.length) (h : ∀ j, j ∉ vs → σ'[j]? = σ[j]?) : L2.wipe σ' vs = L2.wipe σ vs := by
  apply List.ext_getElem?
  intro j
  rw [wipe_get, wipe_get, hl]
  by_cases e : j ∈ vs
  · simp [e]
  · simp [e, h j e]
theorem wipe_wipe (σ : L2.St) (vs : List Nat) : L2.wipe (L2.wipe σ vs) vs = L2.wipe σ vs := wipe_same (wipe_length σ vs) fun j hj => by rw [wipe_get]; simp [hj]
def mYes : EM Bool := fun _ et R => R true et
def lcGo (src want : List PV) (tg : PV → En → Option En) (mt : EM Bool) (me : EM PV) (epw : En) (ps : List PV) (et : Hi) (R : PV → Hi → Prop) : Prop := ∃ V : Nat → List PV → Hi → Prop, V 0 [] et ∧ ∀ i acc et, V i acc et → src.map (deref et) = want ∧
  (∀ p, ps[i]? = some p → ∃ ep1, tg p epw = some ep1 ∧ mt ep1 et fun b et1 => if b = true then me ep1 et1 fun y et2 => acc.length < sizeLine ∧ V (i + 1) (acc ++ [y]) et2 else V (i + 1) acc et1) ∧ (i = ps.length → R (.lst acc) et)
def mLc (mi : IM) (vs : List Nat) (tg : PV → En → Option En) (mt : EM Bool) (me : EM PV) : EM PV := fun ep et R => mi ep et fun ps src et1 => lcGo src (src.map (deref et1)) tg mt me (wipeE ep vs) ps et1 R
theorem lc_weak {mi : IM} {g : TG} {is vs : List Nat} {tgP : PV → En → Option En} {mt : EM Bool} {me : EM PV} (gk : GOk X.K X.mg is g tgP) (hsub : ∀ i ∈ is, i ∈ vs) :
    ∀ σ H Q, tI X.K X.mg (pN X.K X.mg) (mLc mi vs tgP mt me) σ H Q → tLc (tIt X.K X.mg mi) g (tT X.K X.mg mt) (tI X.K X.mg (pV X.K X.mg) me) vs σ H Q := fun σ H Q ⟨ep, et, W, R, c, s, e, q⟩ => by
  refine ⟨ep, et, W, _, c, s, e, fun ps src et0 r0 J H0 W0 x0 c0 wk => fun D hD => ?_⟩
  obtain ⟨Vi, hV0, hV⟩ := r0
  have s0 := s.ext c x0
  have sw := Slt.wipe s0 vs
  obtain ⟨x1, c1, r1⟩ := new_own c0 hD (VRs.nil (K := X.K) (mg := X.mg) (W := W0) (H := H0))
  refine ⟨fun i k H' => k = ps.length - i ∧ i ≤ ps.length ∧ ∃ acc us et' W', Cel X.K X.mg H' et' W' ∧ Ext NoO H0 et0 W0 H' et' W' ∧ H' D = some (.lst us) ∧ VRs X.K X.mg W' H' acc us ∧ ¬ W'.fz D ∧ ¬ Live et' W' D ∧ Vi i acc et',
    ⟨ps.length, by simp, Nat.zero_le _, [], [], et0, W0, c1, x1, upd_same, VRs.nil, fun z => c0.fzh D z hD, c0.not_live hD, hV0⟩, ?_⟩
  rintro i k H' ⟨rfl, hi, acc, us, et', W', c', x', hD', va, hf, hl, r'⟩
  have st0 : Stays NoO H0 et0 W0 := c0.stays0
  by_cases hlt : i < ps.length
  · obtain ⟨hsrc, r2, _⟩ := hV i acc et' r'
    obtain ⟨ep1, ht, r2⟩ := r2 ps[i] (List.getElem?_eq_getElem hlt)
    obtain ⟨go, yl⟩ := (wk _ H' et' W' x' st0 c' hsrc i).2 ps[i] (List.getElem?_eq_getElem hlt)
    refine .inr ⟨go, fun H' => ∃ acc us et' W', Cel X.K X.mg H' et' W' ∧ Ext NoO H0 et0 W0 H' et' W' ∧ H' D = some (.lst us) ∧ VRs X.K X.mg W' H' acc us ∧ ¬ W'.fz D ∧ ¬ Live et' W' D ∧ Vi (i + 1) acc et',
      fun H1 h => ⟨ps.length - (i + 1), by omega, rfl, hlt, h⟩, fun v H2 hy => ?_⟩
    obtain ⟨W2, x2, c2, v2⟩ := yl v H2 hy
    have x02 := x'.NoO_trans x2
    have swx : Slt X.K X.mg (L2.wipe σ vs) (wipeE ep vs) H2 et' W2 := sw.ext c0 x02
    -- the new list stands through a step
    have step : ∀ {Ha Hb : Hp} {ea eb : Hi} {Wa Wb : Wd} {us : List V} {acc : List PV}, Cel X.K X.mg Ha ea Wa → Ext NoO Ha ea Wa Hb eb Wb → Ha D = some (.lst us) → VRs X.K X.mg Wa Ha acc us → ¬ Wa.fz D → ¬ Live ea Wa D → Hb D = some (.lst us) ∧ VRs X.K X.mg Wb Hb acc us ∧ ¬ Wb.fz D ∧ ¬ Live eb Wb D :=
      fun {Ha Hb ea eb Wa Wb us acc} cc xx h1 h2 h3 h4 => ⟨xx.keep D _ h1 h4 id, VRs.ext xx cc.stays0 _ _ h2, fun z => by
        rcases xx.nfz D z with z | z | z
        · exact h3 z
        · rw [h1] at z; cases z
        · exact z, fun z => by
        rcases xx.live D z with z | z
        · exact h4 z
        · rw [h1] at z; cases z⟩
    obtain ⟨d2, va2, f2, l2⟩ := step c' x2 hD' va hf hl
    refine gk v ps[i] (L2.wipe σ vs) H2 (wipeE ep vs) ep1 et' W2 _ c2 swx v2 ht fun σ1 s1 _ k1 => ⟨?_, ?_⟩
    · rw [wipe_same (σ := L2.wipe σ vs) k1.1 fun j hj => k1.2 j fun z => hj (hsub j z), wipe_wipe]
    · refine ⟨ep1, et', W2, _, c2, s1, r2, fun b et3 r3 H3 W3 x3 c3 => ?_⟩
      obtain ⟨d3, va3, f3, l3⟩ := step c2 x3 d2 va2 f2 l2
      have x03 := x02.NoO_trans x3
      cases b with
      | false => exact ⟨acc, us, et3, W3, c3, x03, d3, va3, f3, l3, by simpa using r3⟩
      | true =>
        refine ⟨ep1, et3, W3, _, c3, s1.ext c2 x3, (by simpa using r3), fun y et4 r4 u H4 W4 x4 c4 p4 => ?_⟩
        obtain ⟨d4, va4, f4, l4⟩ := step c3 x4 d3 va3 f3 l3
        have x04 := x03.NoO_trans x4
        obtain ⟨c5, vr5, vrs5⟩ := priv_write (vs' := us ++ [u]) c4 d4 f4 l4
        refine ⟨us, d4, by rw [← va4.len]; exact r4.1, acc ++ [y], us ++ [u], et4, W4, c5, ⟨x04.fz, x04.nfz, x04.mu, x04.live, fun a o h h2 h3 => ?_, fun a h => ?_⟩, upd_same, VRs.append (vrs5 _ _ va4) (VRs.cons (vr5 _ _ p4) VRs.nil), f4, l4, r4.2⟩
        · rw [upd_ne (ne_of_none h hD)]; exact x04.keep a o h h2 h3
        · by_cases e : a = D
          · rw [e, upd_same]; simp
          · rw [upd_ne e]; exact x04.there a h
  · obtain ⟨hsrc, _, r2⟩ := hV i acc et' r'
    have r2 := r2 (by omega)
    refine .inl ⟨(wk _ H' et' W' x' st0 c' hsrc i).1 (by omega), ?_⟩
    exact q _ et' r2 _ H' W' (x0.NoO_trans x') c' ⟨D, rfl, x0.back hD, hf, hl, us, hD', va⟩
theorem sN_lc {elt iter : Expr} {ifs : List Expr} {scope : Scope} {own : List (Str × Nat)} {mi : IM} {g : TG} {is : List Nat} {tgP : PV → En → Option En} {mt : EM Bool} (gk : GOk X.K X.mg is g tgP) (hsub : ∀ i ∈ is, i ∈ own.map (·.2))
    (hc : X.calm = true) (hN : X.N.Nodup) (hi : SimI X tg iter mi) (ok : BlkOk X.N X.env.scope scope own)
    (hg : ∀ (s : Shared) (H : Hp) (C : Addr) (cl : List (Str × Addr)) (fp : List Addr), PG (X.blk s H scope (compEnvC scope cl C X.env) fp) tg g) (ht : ∀ (s : Shared) (H : Hp) (C : Addr) (cl : List (Str × Addr)) (fp : List Addr), PTs (X.blk s H scope (compEnvC scope cl C X.env) fp) ifs (tT X.K X.mg mt))
    (he : ∀ (s : Shared) (H : Hp) (C : Addr) (cl : List (Str × Addr)) (fp : List Addr), SimE (X.blk s H scope (compEnvC scope cl C X.env) fp) elt me) (hs : ∀ x, foldedSetIterable iter X.env x = pure x := by intro _; rfl) :
    SimN X (.ListComp elt [⟨tg, iter, ifs, 0⟩] scope pos) (mLc mi (own.map (·.2)) tgP mt me) := weakE (pe_lc hc hN hi ok hg ht he hs) (lc_weak gk hsub)
theorem pts_yes {Y : Cx} : PTs Y [] (tT Y.K Y.mg mYes) := ⟨fun pins s σ H Q I ⟨ep, et, W, R, c, s', e, q⟩ => pts_nil.run pins s σ H Q I (q true et e H W (Ext.refl ..) c)⟩
end
end Mw
namespace Mw
open PySem PySem.Spec L2
abbrev XM := En → Hi → (PV → En → Hi → Prop) → Prop
section
variable (K : PySem.W.Frag) (mg : Str → Option Value)
def tX (m : XM) : TE := fun sg H Q => ∃ ep et W R, Cel K mg H et W ∧ Slt K mg sg ep H et W ∧ m ep et R ∧
  ∀ a ep' et', R a ep' et' → ∀ v H' W', Ext (Own ep sg) H et W H' et' W' → Cel K mg H' et' W' → Slt K mg sg ep' H' et' W' → (∀ b, Own ep' sg b → Own ep sg b) → VR K mg W' H' a v → Q v H'
end
abbrev SimX (X : Cx) (e : Expr) (m : XM) : Prop := PE X e (tX X.K X.mg m)
section
variable {X : Cx} {e : Expr} {m : XM} {pos : Pos}
def mExprX (m : XM) : SM := fun ep et R => m ep et fun _ ep1 et1 => R .nx ep1 et1
theorem s_exprX (h : SimX X e m) (hs : swapsWith e none pos.line X.env = pure false := by rfl) : SimS X (.Expr e pos) (mExprX m) := weakS (ps_expr h hs) fun D σ H ⟨ep, et, W, R, c, s, e, q⟩ =>
  ⟨ep, et, W, _, c, s, e, fun p ep1 et1 r1 v H1 W1 x1 c1 s1 o1 p1 => q .nx ep1 et1 r1 σ H1 W1 x1 c1 s1 fun a h => .inl (o1 a h)⟩
def mSetX (i : Nat) (m : XM) : SM := fun ep et R => m ep et fun p ep1 et1 => R .nx (ep1.set i (.val p)) et1
theorem s_setX {i : Nat} {x : Str} {pos' : Pos} (hN : X.N.Nodup) (hi : X.N[i]? = some x) (hx : Loc X.env.scope x) (he : SimX X e m) (hs : swapsWith e (some (.Name x pos')) pos.line X.env = pure false := by rfl) (hf : X.fn x = true ∨ X.env.scope.names.lookup x = some .local := by first | exact .inl rfl | exact .inr rfl | assumption) :
    SimS X (.Assign [.Name x pos'] e pos) (mSetX i m) := weakS (ps_set hN hi hx he hs hf) fun D σ H ⟨ep, et, W, R, c, s, e, q⟩ =>
  ⟨ep, et, W, _, c, s, e, fun p ep1 et1 r1 v H1 W1 x1 c1 s1 o1 p1 => q .nx _ et1 r1 _ H1 W1 x1 c1 (s1.set_val p1) fun a h => .inl (o1 a (own_set_sub h))⟩
def mAsgX (tg : PV → En → Option En) (m : XM) : SM := fun ep et R => m ep et fun p ep1 et1 => ∃ ep', tg p ep1 = some ep' ∧ R .nx ep' et1
def mRetX (m : XM) : SM := fun ep et R => m ep et fun p ep1 et1 => R (.rt p) ep1 et1
end
def MutOk (K : PySem.W.Frag) (mg : Str → Option Value) (r : V → List V → Hp → VK → Prop) (g : (PV → PV) → PV → List PV → Option (PV × PV)) : Prop :=
  ∀ (a : Addr) (p p' z : PV) (o : HO) (args : List PV) (xs : List V) (H : Hp) (et : Hi) (W : Wd) (Q : VK), Cel K mg H et W → H a = some o → Cont K mg W H p o → VRs K mg W H args xs → g (deref et) p args = some (p', z) →
    (∀ o' v, Cont K mg W H p' o' → VR K mg W H z v → Q v (upd H a o')) → r (.ref a) xs H Q
def isLst : PV → Bool
  | .lst _ => true
  | _ => false
theorem Cont.lst {K : PySem.W.Frag} {mg : Str → Option Value} {W : Wd} {H : Hp} {p : PV} {o : HO} (h : Cont K mg W H p o) (e : isLst p = true) : ∃ xs vs, p = .lst xs ∧ o = .lst vs ∧ VRs K mg W H xs vs := by
  unfold Cont at h
  split at h
  · exact ⟨_, _, rfl, rfl, h⟩
  · cases e
  · cases h
def mMut (i : Nat) (g : (PV → PV) → PV → List PV → Option (PV × PV)) (ms : EM (List PV)) : XM := fun ep et R => match ep[i]? with
  | some (.own p) => isLst p = true ∧ ms ep et fun as et1 => ∃ p' z, g (deref et1) p as = some (p', z) ∧ R z (ep.set i (.own p')) et1
  | some (.val (.ref n)) => isLst (deref et (.ref n)) = true ∧ ms ep et fun as et1 => ∃ p' z c, g (deref et1) (deref et1 (.ref n)) as = some (p', z) ∧ isLst (deref et1 (.ref n)) = true ∧ cellP p' = some c ∧ R z ep (et1.set n c)
  | _ => False
section
variable {X : Cx} {x name : Str} {apos cpos p0 : Pos} {e : Expr} {es : List Expr} {ms : EM (List PV)} {id : String} {r : V → List V → Hp → VK → Prop} {g : (PV → PV) → PV → List PV → Option (PV × PV)} {i : Nat}
theorem Cont.cell {K : PySem.W.Frag} {mg : Str → Option Value} {W : Wd} {H H1 : Hp} {p : PV} {o : HO} {c : Cell} {a : Addr} (h : Cont K mg W H p o) (e : cellP p = some c) (k : ∀ ps vs, VRs K mg W H ps vs → VRs K mg W H1 ps vs) (k' : ∀ ps vs, VRk K mg W H ps vs → VRk K mg W H1 ps vs) (ha : H1 a = some o) : CellOk K mg W H1 c a := by
  unfold Cont at h
  split at h
  · cases e; exact ⟨_, ha, k _ _ h⟩
  · cases e; exact ⟨_, ha, k' _ _ h⟩
  · cases h
theorem deref_cell {et : Hi} {n : Nat} (h : isLst (deref et (.ref n)) = true) : ∃ xs, et[n]? = some (.lst xs) ∧ deref et (.ref n) = .lst xs := by
  unfold deref at h ⊢
  cases q : et[n]? with
  | none => simp only [q] at h; cases h
  | some d =>
    cases d with
    | lst xs => exact ⟨xs, rfl, by simp only [q]⟩
    | dic xs => simp only [q] at h; cases h
    | dead => simp only [q] at h; cases h
    | potO _ _ => simp only [q] at h; cases h
    | potI => simp only [q] at h; cases h
    | inv _ => simp only [q] at h; cases h
    | nd _ => simp only [q] at h; cases h
    | td _ _ => simp only [q] at h; cases h
    | exc _ _ => simp only [q] at h; cases h
    | ins _ _ => simp only [q] at h; cases h
theorem mut_fin (hg : MutOk X.K X.mg r g) {σ : L2.St} {H : Hp} {Q : VK} {ep : En} {et : Hi} {W : Wd} {R : PV → En → Hi → Prop} (c : Cel X.K X.mg H et W) (s : Slt X.K X.mg σ ep H et W)
    (hm : mMut i g ms ep et R) (q : ∀ a ep' et', R a ep' et' → ∀ v H' W', Ext (Own ep σ) H et W H' et' W' → Cel X.K X.mg H' et' W' → Slt X.K X.mg σ ep' H' et' W' → (∀ b, Own ep' σ b → Own ep σ b) → VR X.K X.mg W' H' a v → Q v H') :
    ∃ v, σ[i]? = some (some v) ∧ tyV X.K "list" v H ∧ ∃ R', ms ep et R' ∧ ∀ as et1, R' as et1 → ∀ vs H1 W1, Ext NoO H et W H1 et1 W1 → Cel X.K X.mg H1 et1 W1 → VRs X.K X.mg W1 H1 as vs → r v vs H1 Q := by
  unfold mMut at hm
  split at hm
  · rename_i p hp
    obtain ⟨hl, hm⟩ := hm
    have hlt : i < σ.length := by rw [← s.len]; exact (List.getElem?_eq_some_iff.mp hp).1
    obtain ⟨a, ev, hv⟩ := s.ok i _ _ hp (List.getElem?_eq_getElem hlt)
    have hσ : σ[i]? = some (some (.ref a)) := by rw [List.getElem?_eq_getElem hlt, ev]
    refine ⟨.ref a, hσ, ?_, _, hm, fun as et1 r1 vs H1 W1 x1 c1 p1 => ?_⟩
    · unfold OwnAt at hv
      split at hv
      · obtain ⟨ws, h1, _⟩ := hv; exact .inl ⟨rfl, ws, SqL.of h1⟩
      · cases hl
      · cases hv
    · obtain ⟨p', z, h1, r2⟩ := r1
      have s1 := s.ext c x1
      obtain ⟨a', ev', hv1⟩ := s1.ok i _ _ hp hσ
      cases ev'
      obtain ⟨o, ho, hc⟩ : ∃ o, H1 a = some o ∧ Cont X.K X.mg W1 H1 p o := by
        unfold OwnAt at hv1
        split at hv1
        · obtain ⟨ws, h1, h2⟩ := hv1; exact ⟨_, h1, h2⟩
        · obtain ⟨ws, h1, h2⟩ := hv1; exact ⟨_, h1, h2⟩
        · cases hv1
      refine hg a p p' z o as vs H1 et1 W1 Q c1 ho hc p1 h1 fun o' v hc' hv' => ?_
      obtain ⟨x2, c2, s2, o2, vr2⟩ := own_write c1 s1 hp hσ hc'
      exact q z _ et1 r2 v _ W1 (x1.pre x2) c2 s2 o2 (vr2 _ _ hv')
  · rename_i n hp
    obtain ⟨hl, hm⟩ := hm
    have hlt : i < σ.length := by rw [← s.len]; exact (List.getElem?_eq_some_iff.mp hp).1
    obtain ⟨v, ev, hv⟩ := s.ok i _ _ hp (List.getElem?_eq_getElem hlt)
    have hσ : σ[i]? = some (some v) := by rw [List.getElem?_eq_getElem hlt, ev]
    obtain ⟨xs, hn, hd⟩ := deref_cell hl
    obtain ⟨a, ws, rfl, k1, k2⟩ := Pk.lst c (.inl hv) hd
    have hma : W.mu[n]? = some a := by unfold VR at hv; obtain ⟨b, e, h⟩ := hv; cases e; exact h
    refine ⟨.ref a, hσ, .inl ⟨rfl, ws, SqL.of k1⟩, _, hm, fun as et1 r1 vs H1 W1 x1 c1 p1 => ?_⟩
    obtain ⟨p', z, cc, h1, h2, h3, r2⟩ := r1
    obtain ⟨xs1, hn1, hd1⟩ := deref_cell h2
    have hv1 := VR.ext x1 c.stays0 _ _ hv
    obtain ⟨a', ws1, ea, k3, k4⟩ := Pk.lst c1 (.inl hv1) hd1
    cases ea
    rw [hd1] at h1
    refine hg a _ p' z _ as vs H1 et1 W1 Q c1 k3 (show Cont X.K X.mg W1 H1 (.lst xs1) (.lst ws1) from k4) p1 h1 fun o' v hc' hv' => ?_
    obtain ⟨x2, c2, vr2⟩ := cell_write (d' := cc) (o := o') c1 hn1 (by simp) (by
      cases p' <;> first | (cases h3; done) | (cases h3; simp)) (x1.mu_get hma) fun H2 et2 xx ha => hc'.cell h3 (fun ps vs h => VRs.ext xx c1.stays0 _ _ h) (fun ps vs h => VRk.ext xx c1.stays0 _ _ h) ha
    exact q z ep _ r2 v _ W1 (Ext.to (x1.NoO_trans x2)) c2 ((s.ext c x1).ext c1 x2) (fun _ h => h) (vr2 _ _ hv')
  · cases hm
theorem sX_mut (slot : PySem.Slot "list" name id) (hty : typeOf (.builtin id) = pure (.type "method_descriptor")) (hm : MtR X id r) (hg : MutOk X.K X.mg r g) (ho : PE X (.Name x p0) (tVar i)) (ha : SimA X (e :: es) ms)
    (h : ∀ {to : TE} {t : TA}, PE X (.Name x p0) to → PA X (e :: es) t → PE X (.Call (.Attribute (.Name x p0) name apos) (e :: es) [] cpos) (tBM X.K "list" r to t)) :
    SimX X (.Call (.Attribute (.Name x p0) name apos) (e :: es) [] cpos) (mMut i g ms) := weakE (h ho ha) fun σ H Q ⟨ep, et, W, R, c, s, e, q⟩ => by
  obtain ⟨v, h1, h2, R', h3, h4⟩ := mut_fin hg c s e q
  exact ⟨v, h1, h2, ep, et, W, R', c, s, h3, h4⟩
theorem sX_mut0 (hg : MutOk X.K X.mg r g) (h : PE X (.Call (.Attribute (.Name x p0) name apos) [] [] cpos) (tBM0 X.K "list" r (tVar i))) :
    SimX X (.Call (.Attribute (.Name x p0) name apos) [] [] cpos) (mMut i g mNil) := weakE h fun σ H Q ⟨ep, et, W, R, c, s, e, q⟩ => by
  obtain ⟨v, h1, h2, R', h3, h4⟩ := mut_fin hg c s e q
  exact ⟨v, h1, h2, h4 [] et h3 [] H W (Ext.refl ..) c VRs.nil⟩
end
section
variable {K : PySem.W.Frag} {mg : Str → Option Value}
def gmAppend (_ : PV → PV) : PV → List PV → Option (PV × PV)
  | .lst xs, [y] => if xs.length < sizeLine then some (.lst (xs ++ [y]), .non) else none
  | _, _ => none
def gmExtend (d : PV → PV) : PV → List PV → Option (PV × PV)
  | .lst xs, [y] => match d y with
    | .lst ys => if xs.length + ys.length ≤ sizeLine then some (.lst (xs ++ ys), .non) else none
    | _ => none
  | _, _ => none
def gmPop (_ : PV → PV) : PV → List PV → Option (PV × PV)
  | .lst xs, [] => xs[xs.length - 1]?.map fun y => (.lst xs.dropLast, y)
  | _, _ => none
def gmPopAt (_ : PV → PV) : PV → List PV → Option (PV × PV)
  | .lst xs, [.int i] => if -(2 ^ 63) ≤ i ∧ i < 2 ^ 63 then (ixN xs.length i).bind fun k => xs[k]?.map fun y => (.lst (xs.eraseIdx k), y) else none
  | _, _ => none
theorem mo_append : MutOk K mg rAppend gmAppend := by
  intro a p p' z o args xs H et W Q c ho hc va h k
  unfold gmAppend at h
  split at h
  · rename_i ys y
    split at h
    · rename_i hl
      cases h
      obtain ⟨_, vs, e, rfl, h2⟩ := hc.lst rfl
      cases e
      unfold VRs at va
      obtain ⟨v, r, rfl, h3, h4⟩ := va
      unfold VRs at h4; subst h4
      exact ⟨a, vs, v, rfl, rfl, ho, by rw [← h2.len]; exact hl, k (.lst (vs ++ [v])) .non (VRs.append h2 (VRs.cons h3 VRs.nil)) VR.non⟩
    · cases h
  · cases h
theorem mo_extend : MutOk K mg rExtend gmExtend := by
  intro a p p' z o args xs H et W Q c ho hc va h k
  unfold gmExtend at h
  split at h
  · rename_i ys y
    split at h
    · rename_i zs hz
      split at h
      · rename_i hl
        cases h
        obtain ⟨_, vs, e, rfl, h2⟩ := hc.lst rfl
        cases e
        unfold VRs at va
        obtain ⟨v, r, rfl, h3, h4⟩ := va
        unfold VRs at h4; subst h4
        obtain ⟨b, ws, rfl, h5, h6⟩ := Pk.lst c (.inl h3) hz
        exact ⟨a, b, vs, ws, rfl, rfl, ho, h5, by rw [← h2.len, ← h6.len]; exact hl, k (.lst (vs ++ ws)) .non (VRs.append h2 h6) VR.non⟩
      · cases h
    · cases h
  · cases h
theorem VRs.dropLast {W : Wd} {H : Hp} {ps : List PV} {vs : List V} (h : VRs K mg W H ps vs) : VRs K mg W H ps.dropLast vs.dropLast := by
  rw [List.dropLast_eq_take, List.dropLast_eq_take, h.len]; exact VRs.take _ h
theorem mo_pop : MutOk K mg rPop gmPop := by
  intro a p p' z o args xs H et W Q c ho hc va h k
  unfold gmPop at h
  split at h
  · rename_i ys
    cases e1 : ys[ys.length - 1]? with
    | none => rw [e1] at h; cases h
    | some y =>
      rw [e1] at h; cases h
      obtain ⟨_, vs, e, rfl, h2⟩ := hc.lst rfl
      cases e
      unfold VRs at va; subst va
      obtain ⟨v, h3, h4⟩ := VRs.get h2 e1
      exact ⟨a, vs, v, rfl, rfl, ho, by rw [← h2.len]; exact h3, k (.lst vs.dropLast) v h2.dropLast h4⟩
  · cases h
theorem mo_popAt : MutOk K mg rPopAt gmPopAt := by
  intro a p p' z o args xs H et W Q c ho hc va h k
  unfold gmPopAt at h
  split at h
  · rename_i ys i
    split at h
    · rename_i hi
      cases e1 : ixN ys.length i with
      | none => rw [e1] at h; cases h
      | some j =>
        rw [e1] at h
        simp only [Option.bind_some] at h
        cases e2 : ys[j]? with
        | none => rw [e2] at h; cases h
        | some y =>
          rw [e2] at h; cases h
          obtain ⟨_, vs, e, rfl, h2⟩ := hc.lst rfl
          cases e
          unfold VRs at va
          obtain ⟨v, r, rfl, h3, h4⟩ := va
          unfold VRs at h4; subst h4
          unfold VR at h3; subst h3
          obtain ⟨v, h5, h6⟩ := VRs.get h2 e2
          exact ⟨a, vs, i, j, v, rfl, rfl, ho, hi.1, hi.2, by rw [← h2.len]; exact (ixN_seq e1).1, h5, k (.lst (vs.eraseIdx j)) v (VRs.erase j h2) h6⟩
    · cases h
  · cases h
end
abbrev FSpec := List PV → Hi → (PV → Hi → Prop) → Prop
def FS (K : PySem.W.Frag) (mg : Str → Option Value) (n : Nat) (sp : FSpec) : Sp := fun vs H Q _ => vs.length = n ∧ ∃ et W args R, Cel K mg H et W ∧ VRs K mg W H args vs ∧ sp args et R ∧
  ∀ p et', R p et' → ∀ v H' W', Ext NoO H et W H' et' W' → Cel K mg H' et' W' → VR K mg W' H' p v → Q v H'
def mCall (n : Nat) (sp : FSpec) (ms : EM (List PV)) : EM PV := fun ep et R => ms ep et fun as et1 => as.length = n ∧ sp as et1 R
section
variable {X : Cx} {k n : Nat} {f : Addr} {fd : FuncData} {ps : List Str} {sp : FSpec} {x : Str} {p pos : Pos} {e : Expr} {es : List Expr} {ms : EM (List PV)}
theorem sE_call (F : FnOk X.prog X.w X.K X.mg X.base CX0 k f fd ps (FS X.K X.mg n sp)) (hr : Room k X.A) (hg : Gl X x) (hm : X.mg x = some (.ref f)) (hk : PySem.W.keepIn X.K (.ref f) = true) (hb : Binds X.K fd ps [])
    (ha : SimA X (e :: es) ms) (hdb : (x == ("__debug__" : Str)) = false := by decide) (he : starEach (e :: es) X.env = (false, eval e X.env) :: starEach es X.env := by rfl) (hpl : (backTo pos (starEach es X.env)).any (·.1) = false := by rfl) :
    SimE X (.Call (.Name x p) (e :: es) [] pos) (mCall n sp ms) := weakE (pe_call F hr hg hm hk hb .nil pass0 ha hdb he hpl) fun σ H Q ⟨ep, et, W, R, c, s, e, q⟩ => by
  refine ⟨ep, et, W, _, c, s, e, fun as et1 r1 vs H1 W1 x1 c1 p1 => ?_⟩
  refine ⟨by rw [List.append_nil, ← p1.len]; exact r1.1, et1, W1, as, _, c1, by rw [List.append_nil]; exact p1, r1.2, fun p et2 r2 v H2 W2 x2 c2 p2 => ?_⟩
  exact q p et2 r2 v H2 W2 (x1.NoO_trans x2) c2 p2
def retK (R : PV → Hi → Prop) : Fl → En → Hi → Prop
  | .rt p, _, et => R p et
  | .nx, _, et => R .non et
  | _, _, _ => False
def env0 (N : List Str) (args : List PV) : En := args.map Slot.val ++ List.replicate (N.length - args.length) Slot.no
theorem slt0 {K : PySem.W.Frag} {mg : Str → Option Value} {H : Hp} {et : Hi} {W : Wd} {N : List Str} {args : List PV} {vs : List V} (h : VRs K mg W H args vs) : Slt K mg (L2.start N vs) (env0 N args) H et W := by
  have hl := h.len
  have noOwn : ∀ (i : Nat) (p : PV), (env0 N args)[i]? ≠ some (.own p) := fun i p e => by
    unfold env0 at e
    by_cases hi : i < args.length
    · rw [List.getElem?_append_left (by simpa using hi), List.getElem?_map, List.getElem?_eq_getElem hi] at e; cases e
    · rw [List.getElem?_append_right (by simpa using hi), List.getElem?_replicate] at e
      split at e <;> cases e
  refine ⟨?_, fun i s o e1 e2 => ?_, fun i j p q a e1 => absurd e1 (noOwn i p), fun a ⟨i, p, e, _⟩ => absurd e (noOwn i p), fun a ⟨i, p, e, _⟩ => absurd e (noOwn i p)⟩
  · unfold env0 L2.start
    simp only [List.length_append, List.length_map, List.length_replicate, hl]
  · unfold env0 at e1
    unfold L2.start at e2
    by_cases hi : i < args.length
    · rw [List.getElem?_append_left (by simpa using hi), List.getElem?_map, List.getElem?_eq_getElem hi] at e1
      cases e1
      obtain ⟨v, h1, h2⟩ := VRs.get h (List.getElem?_eq_getElem hi)
      rw [List.getElem?_append_left (by rw [List.length_map, ← hl]; exact hi), List.getElem?_map, h1] at e2
      cases e2
      exact ⟨v, rfl, h2⟩
    · rw [List.getElem?_append_right (by simpa using hi), List.getElem?_replicate] at e1
      split at e1
      · cases e1; trivial
      · cases e1
theorem fn_ok {P : Program} {w : World} {K : PySem.W.Frag} {mg : Str → Option Value} {base : Heap} {x qual : Str} {st : Stmt} {f : Addr} {fd : FuncData} {N ps : List Str} {k : Nat} {sp : FSpec} {m : SM} (F : Fun K x qual st f fd) (S : FnScope N ps (defScope st))
    (body : ∀ (cdv : Value) (A : Around) (outer : List Env) (s : Shared) (H : Hp) (E : XK), Room k (A.deeper (PyProof.Rows.envOfC qual (defScope st) s.heap.objs.size f cdv)) → SimSs (cxOf CX0 P w K mg base N qual (defScope st) f cdv A outer s H E).nox (defBody st) m)
    (h : ∀ args et R, sp args et R → m (env0 N args) et (retK R)) : FnOk P w K mg base CX0 (k + 1) f fd ps (FS K mg ps.length sp) := by
  refine F.ok S (fun vs H Q E q => q.1) fun cdv A outer s H vs Q E hr q => ⟨_, body cdv A outer s H E hr, ?_⟩
  obtain ⟨_, et, W, args, R, c, va, hs, q⟩ := q
  refine ⟨env0 N args, et, W, retK R, c, slt0 va, h args et R hs, fun fl ep' et' r σ' H' W' x' c' => ?_⟩
  have noOwn : ∀ a, ¬ Own (env0 N args) (L2.start N vs) a := fun a ⟨i, p, e, _⟩ => by
    unfold env0 at e
    by_cases hi : i < args.length
    · rw [List.getElem?_append_left (by simpa using hi), List.getElem?_map, List.getElem?_eq_getElem hi] at e; cases e
    · rw [List.getElem?_append_right (by simpa using hi), List.getElem?_replicate] at e
      split at e <;> cases e
  have x1 : Ext NoO H et W H' et' W' := x'.mono fun a h => absurd h (noOwn a)
  cases fl with
  | nx => exact fun _ _ => q .non et' r .non H' W' x1 c' VR.non
  | bk => exact r.elim
  | ct => exact r.elim
  | rt p => exact fun v hv => q p et' r v H' W' x1 c' hv
end
end Mw
namespace Mw
open PySem PySem.Spec L2
section
variable {K : PySem.W.Frag} {mg : Str → Option Value} {H : Hp} {et : Hi} {W : Wd}
def mShare (m : EM PV) : EM PV := fun ep et R => m ep et fun p et1 => ∃ c, cellP p = some c ∧ R (.ref et1.length) (et1 ++ [c])
abbrev Wd.shr (W : Wd) (a : Addr) : Wd := ⟨W.fz, W.mu ++ [a]⟩
theorem Cel.share (c : Cel K mg H et W) {a : Addr} {p : PV} {d : Cell} (hf : ¬ W.fz a) (hl : ¬ Live et W a) (ho : OwnAt K mg W H p a) (hd : cellP p = some d) :
    Cel K mg H (et ++ [d]) (W.shr a) ∧ (∀ b, Live (et ++ [d]) (W.shr a) b → Live et W b ∨ b = a) ∧ VR K mg (W.shr a) H (.ref et.length) (.ref a) ∧ (∀ q v, VR K mg W H q v → VR K mg (W.shr a) H q v) := by
  have hlen := c.len
  have x0 : Ext NoO H et W H et (W.shr a) := ⟨fun _ h => h, fun _ h => .inl h, ⟨[a], rfl⟩, fun b ⟨i, e, g1, g2, g3⟩ => by
    have g3' : (W.mu ++ [a])[i]? = some b := g3
    have : i < et.length := (List.getElem?_eq_some_iff.mp g1).1
    rw [List.getElem?_append_left (by omega)] at g3'
    exact .inl ⟨i, e, g1, g2, g3'⟩, fun _ _ h _ _ => h, fun _ h => h⟩
  have low : ∀ {k : Nat} {u : Cell} {b : Addr}, (et ++ [d])[k]? = some u → (W.mu ++ [a])[k]? = some b → (k < et.length ∧ et[k]? = some u ∧ W.mu[k]? = some b) ∨ (k = et.length ∧ u = d ∧ b = a) := fun {k u b} g1 g3 => by
    by_cases hk : k < et.length
    · rw [List.getElem?_append_left hk] at g1
      rw [List.getElem?_append_left (by omega)] at g3
      exact .inl ⟨hk, g1, g3⟩
    · have hk2 : k = et.length := by
        have := (List.getElem?_eq_some_iff.mp g1).1
        rw [List.length_append, List.length_singleton] at this
        omega
      subst hk2
      rw [List.getElem?_append_right (Nat.le_refl _)] at g1
      rw [hlen, List.getElem?_append_right (Nat.le_refl _)] at g3
      simp at g1 g3
      exact .inr ⟨rfl, g1.symm, g3.symm⟩
  have hlv : ∀ b, Live (et ++ [d]) (W.shr a) b → Live et W b ∨ b = a := fun b ⟨j, u, h1, h2, h3⟩ => by
    rcases low h1 h3 with ⟨_, a2, a3⟩ | ⟨_, _, e⟩
    · exact .inl ⟨j, u, a2, h2, a3⟩
    · exact .inr e
  refine ⟨⟨by show (et ++ [d]).length = (W.mu ++ [a]).length; simp [hlen], fun j u b h1 h2 => ?_, fun i j u w b h1 h2 h3 h4 h5 h6 => ?_, fun b h z => ?_, c.fzh⟩, hlv, ?_, fun q v h => VR.ext x0 c.stays0 q v h⟩
  · rcases low h1 h2 with ⟨_, a2, a3⟩ | ⟨_, rfl, rfl⟩
    · exact CellOk.ext x0 c.stays0 (c.ok j u b a2 a3) fun _ => rfl
    · unfold OwnAt at ho
      split at ho
      · cases hd; obtain ⟨vs, k1, k2⟩ := ho; exact ⟨vs, k1, VRs.ext x0 c.stays0 _ _ k2⟩
      · cases hd; obtain ⟨vs, k1, k2⟩ := ho; exact ⟨vs, k1, VRk.ext x0 c.stays0 _ _ k2⟩
      · cases ho
  · rcases low h1 h5 with ⟨a1, a2, a3⟩ | ⟨a1, _, a4⟩
    · rcases low h2 h6 with ⟨b1, b2, b3⟩ | ⟨b1, _, b4⟩
      · exact c.inj i j u w b a2 b2 h3 h4 a3 b3
      · subst b4; exact absurd ⟨i, u, a2, h3, a3⟩ hl
    · rcases low h2 h6 with ⟨b1, b2, b3⟩ | ⟨b1, _, b4⟩
      · subst a4; exact absurd ⟨j, w, b2, h4, b3⟩ hl
      · omega
  · rcases hlv b z with z | rfl
    · exact c.fzl b h z
    · exact hf h
  · unfold VR
    exact ⟨a, rfl, by show (W.mu ++ [a])[et.length]? = some a; rw [hlen]; simp⟩
end
section
variable {X : Cx} {e o i : Expr} {es : List Expr} {me mo mi : EM PV} {ms : EM (List PV)} {pos : Pos}
theorem sE_share (h : SimN X e me) : SimE X e (mShare me) := weakE h fun σ H Q ⟨ep, et, W, R, c, s, e, q⟩ => ⟨ep, et, W, _, c, s, e, fun p et1 r1 v H1 W1 x1 c1 p1 => by
  obtain ⟨d, hd, r2⟩ := r1
  obtain ⟨a, rfl, h0, hf, hl, ho⟩ := p1
  obtain ⟨c2, hlv, vr, _⟩ := c1.share hf hl ho hd
  refine q _ _ r2 _ H1 (W1.shr a) ⟨x1.fz, x1.nfz, ?_, fun b hb => ?_, x1.keep, x1.there⟩ c2 vr
  · obtain ⟨m, hm⟩ := x1.mu
    exact ⟨m ++ [a], by show W1.mu ++ [a] = _; rw [hm, List.append_assoc]⟩
  · rcases hlv b hb with z | rfl
    · exact x1.live b z
    · exact .inr h0⟩
def mMutR (g : (PV → PV) → PV → List PV → Option (PV × PV)) (mo : EM PV) (ms : EM (List PV)) : EM PV := fun ep et R => mo ep et fun q et1 => ∃ n, q = .ref n ∧ isLst (deref et1 (.ref n)) = true ∧ ms ep et1 fun as et2 =>
  ∃ p' z c, g (deref et2) (deref et2 (.ref n)) as = some (p', z) ∧ isLst (deref et2 (.ref n)) = true ∧ cellP p' = some c ∧ R z (et2.set n c)
section
variable {name : Str} {apos cpos : Pos} {id : String} {r : V → List V → Hp → VK → Prop} {g : (PV → PV) → PV → List PV → Option (PV × PV)}
theorem mutR_fin (hg : MutOk X.K X.mg r g) {σ : L2.St} {H : Hp} {Q : VK} {ep : En} {et : Hi} {W : Wd} {R : PV → Hi → Prop} (c : Cel X.K X.mg H et W) (s : Slt X.K X.mg σ ep H et W) {q0 : PV} {v : V} (hv : VR X.K X.mg W H q0 v)
    (hm : ∃ n, q0 = .ref n ∧ isLst (deref et (.ref n)) = true ∧ ms ep et fun as et2 => ∃ p' z c, g (deref et2) (deref et2 (.ref n)) as = some (p', z) ∧ isLst (deref et2 (.ref n)) = true ∧ cellP p' = some c ∧ R z (et2.set n c))
    (q : ∀ a et', R a et' → ∀ v H' W', Ext NoO H et W H' et' W' → Cel X.K X.mg H' et' W' → VR X.K X.mg W' H' a v → Q v H') :
    tyV X.K "list" v H ∧ ∃ R', ms ep et R' ∧ ∀ as et1, R' as et1 → ∀ vs H1 W1, Ext NoO H et W H1 et1 W1 → Cel X.K X.mg H1 et1 W1 → VRs X.K X.mg W1 H1 as vs → r v vs H1 Q := by
  obtain ⟨n, rfl, hl, hm⟩ := hm
  obtain ⟨xs, hn, hd⟩ := deref_cell hl
  obtain ⟨a, ws, rfl, k1, k2⟩ := Pk.lst c (.inl hv) hd
  have hma : W.mu[n]? = some a := by unfold VR at hv; obtain ⟨b, e, h⟩ := hv; cases e; exact h
  refine ⟨.inl ⟨rfl, ws, SqL.of k1⟩, _, hm, fun as et1 r1 vs H1 W1 x1 c1 p1 => ?_⟩
  obtain ⟨p', z, cc, h1, h2, h3, r2⟩ := r1
  obtain ⟨xs1, hn1, hd1⟩ := deref_cell h2
  have hv1 := VR.ext x1 c.stays0 _ _ hv
  obtain ⟨a', ws1, ea, k3, k4⟩ := Pk.lst c1 (.inl hv1) hd1
  cases ea
  rw [hd1] at h1
  refine hg a _ p' z _ as vs H1 et1 W1 Q c1 k3 (show Cont X.K X.mg W1 H1 (.lst xs1) (.lst ws1) from k4) p1 h1 fun o' v hc' hv' => ?_
  obtain ⟨x2, c2, vr2⟩ := cell_write (d' := cc) (o := o') c1 hn1 (by simp) (by
    cases p' <;> first | (cases h3; done) | (cases h3; simp)) (x1.mu_get hma) fun H2 et2 xx ha => hc'.cell h3 (fun ps vs h => VRs.ext xx c1.stays0 _ _ h) (fun ps vs h => VRk.ext xx c1.stays0 _ _ h) ha
  exact q z _ r2 v _ W1 (x1.NoO_trans x2) c2 (vr2 _ _ hv')
theorem sE_mutR (hg : MutOk X.K X.mg r g) (ho : SimE X o mo) (ha : SimA X (e :: es) ms)
    (h : ∀ {to : TE} {t : TA}, PE X o to → PA X (e :: es) t → PE X (.Call (.Attribute o name apos) (e :: es) [] cpos) (tBM X.K "list" r to t)) :
    SimE X (.Call (.Attribute o name apos) (e :: es) [] cpos) (mMutR g mo ms) := weakE (h ho ha) fun σ H Q ⟨ep, et, W, R, c, s, e, q⟩ => by
  refine ⟨ep, et, W, _, c, s, e, fun p et1 r1 v H1 W1 x1 c1 p1 => ?_⟩
  have s1 := s.ext c x1
  obtain ⟨h2, R', h3, h4⟩ := mutR_fin hg (Q := Q) c1 s1 p1 r1 fun a et' r v H' W' x' c' p' => q a et' r v H' W' (x1.NoO_trans x') c' p'
  exact ⟨h2, ep, et1, W1, R', c1, s1, h3, h4⟩
end
def mSubSet (me mo mi : EM PV) : SM := fun ep et R => me ep et fun v et1 => mo ep et1 fun q et2 => mi ep et2 fun k et3 => ∃ n xs i j, q = .ref n ∧ et3[n]? = some (.lst xs) ∧ k = .int i ∧ ixN xs.length i = some j ∧ R .nx ep (et3.set n (.lst (xs.set j v)))
theorem s_subSet {p2 : Pos} (he : SimE X e me) (ho : SimE X o mo) (hi : SimE X i mi)
    (h : ∀ {te to ti : TE}, PE X e te → PE X o to → PE X i ti → PS X (.Assign [.Subscript o i p2] e pos) (tAsg te (L2.gSub to ti rSetL))) : SimS X (.Assign [.Subscript o i p2] e pos) (mSubSet me mo mi) :=
  weakS (h he ho hi) fun D σ H ⟨ep, et, W, R, c, s, e, q⟩ => by
  refine ⟨ep, et, W, _, c, s, e, fun p et1 r1 v H1 W1 x1 c1 p1 => ⟨ep, et1, W1, _, c1, s.ext c x1, r1, fun p' et2 r2 u H2 W2 x2 c2 p2 => ⟨ep, et2, W2, _, c2, s.ext c (x1.NoO_trans x2), r2, fun p3 et3 r3 w H3 W3 x3 c3 p4 => ?_⟩⟩⟩
  obtain ⟨n, xs, i, j, rfl, hn, rfl, hj, r4⟩ := r3
  have v3 : VR X.K X.mg W3 H3 p v := VR.ext (x2.NoO_trans x3) c1.stays0 _ _ p1
  have u3 : VR X.K X.mg W3 H3 (.ref n) u := VR.ext x3 c2.stays0 _ _ p2
  have w3 : VR X.K X.mg W3 H3 (.int i) w := p4
  unfold VR at u3 w3
  subst w3
  obtain ⟨a, rfl, hm⟩ := u3
  obtain ⟨ws, k1, k2⟩ := c3.ok n _ a hn hm
  refine ⟨a, ws, i, j, rfl, rfl, k1, by rw [← k2.len]; exact hj, ?_⟩
  have x13 := (x1.NoO_trans x2).NoO_trans x3
  obtain ⟨x4, c4, vr4⟩ := cell_write (d' := .lst (xs.set j p)) (o := .lst (ws.set j v)) c3 hn (by simp) (by simp) hm fun H4 et4 xx ha => ⟨_, ha, VRs.ext xx c3.stays0 _ _ (VRs.set j k2 v3)⟩
  exact q .nx ep _ r4 σ _ W3 (Ext.to (x13.NoO_trans x4)) c4 ((s.ext c x13).ext c3 x4) fun a h => .inl h
end
end Mw
namespace Mw
open PySem PySem.Spec L2
section
variable {X : Cx} {m : EM PV} {e : Expr} {pos : Pos}
theorem tN_of_tE {K : PySem.W.Frag} {mg : Str → Option Value} : ∀ σ H Q, tI K mg (pV K mg) m σ H Q → tI K mg (pN K mg) m σ H Q := fun σ H Q ⟨ep, et, W, R, c, s, e, q⟩ => ⟨ep, et, W, R, c, s, e, fun a et' r v H' W' x c' p => by
  obtain ⟨b, e1, h0, hf, h2, h3⟩ := p
  obtain ⟨c2, _, r2⟩ := c'.freeze h2 hf h3
  subst e1
  refine q a et' r _ H' (W'.add b) ⟨fun a h => .inl (x.fz a h), fun a h => ?_, x.mu, x.live, x.keep, x.there⟩ c2 r2
  rcases h with h | h
  · exact x.nfz a h
  · exact .inr (.inl (h ▸ h0))⟩
theorem s_setLcE {i : Nat} {y : Str} {py spos : Pos} {tg elt iter : Expr} {me : EM PV} {ifs : List Expr} {scope : Scope} {own : List (Str × Nat)} {mi : IM} {g : TG} {is : List Nat} {tgP : PV → En → Option En} {mt : EM Bool} (gk : GOk X.K X.mg is g tgP) (hsub : ∀ i ∈ is, i ∈ own.map (·.2))
    (hc : X.calm = true) (hN : X.N.Nodup) (hy : X.N[i]? = some y) (hyl : X.env.scope.names.lookup y = some .local)
    (hsw : swapsWith (.ListComp elt [⟨tg, iter, ifs, 0⟩] scope pos) (some (.Name y py)) spos.line X.env = pure true) (hi : SimI X tg iter mi) (ok : BlkOk X.N X.env.scope scope own)
    (hg : ∀ (s : Shared) (H : Hp) (C : Addr) (cl : List (Str × Addr)) (fp : List Addr), PG (X.blk s H scope (compEnvC scope cl C X.env) fp) tg g) (ht : ∀ (s : Shared) (H : Hp) (C : Addr) (cl : List (Str × Addr)) (fp : List Addr), PTs (X.blk s H scope (compEnvC scope cl C X.env) fp) ifs (tT X.K X.mg mt))
    (he : ∀ (s : Shared) (H : Hp) (C : Addr) (cl : List (Str × Addr)) (fp : List Addr), SimE (X.blk s H scope (compEnvC scope cl C X.env) fp) elt me) (hs : ∀ x, foldedSetIterable iter X.env x = pure x := by intro _; rfl) :
    SimS X (.Assign [.Name y py] (.ListComp elt [⟨tg, iter, ifs, 0⟩] scope pos) spos) (mSet i (mLc mi (own.map (·.2)) tgP mt me)) :=
  weakS (ps_setLc hc hN hy hyl hsw hi ok hg ht he hs) fun D σ H h => lc_weak gk hsub σ H _ (tN_of_tE σ H _ (set_weak D σ H h))
theorem pts_if {Y : Cx} {c : Expr} {t : EM Bool} (h : SimT Y c t) : PTs Y [c] (tT Y.K Y.mg t) := pts_one h
def gSlA (p : PV) (lo hi : Option Int) : Option PV := match p with
  | .tup xs => some (.tup (cutP xs lo hi))
  | .str x => if x.length ≤ sizeLine then some (.str (cutS x lo hi)) else none
  | .lst xs => some (.lst (cutP xs lo hi))
  | .scr xs => some (.lst ((cutP xs lo hi).map .int))
  | _ => none
def rSlAll (K : PySem.W.Frag) : V → Option Int → Option Int → Hp → VK → Prop := fun x lo hi H Q => rSlTS K x lo hi H Q ∨ rSlL K x lo hi H Q
theorem oS_all {K : PySem.W.Frag} {mg : Str → Option Value} : OpSl K mg (rSlAll K) gSlA (pV K mg) := by
  intro x lo hi H et W p z Q c hp hz k
  cases q : deref et p with
  | lst xs =>
    rw [q] at hz; cases hz
    obtain ⟨a, vs, rfl, h1, h2⟩ := hp.lst c q
    refine .inr ⟨a, vs, rfl, SqL.of h1, fun t ht => ?_⟩
    obtain ⟨x1, c1, r1⟩ := new_lst c ht (h2.cut lo hi)
    exact k _ _ _ x1 c1 r1
  | scr xs =>
    rw [q] at hz; cases hz
    obtain ⟨a, rfl, h1⟩ := hp.scr q
    refine .inr ⟨a, _, rfl, h1.sq, fun t ht => ?_⟩
    rw [cutV_map]
    obtain ⟨x1, c1, r1⟩ := new_lst c ht (VRs.ints (cutP xs lo hi))
    exact k _ _ _ x1 c1 r1
  | tup xs => exact .inl (oS_ts x lo hi H et W p z Q c hp (by rw [q] at hz ⊢; exact hz) k)
  | str xs => exact .inl (oS_ts x lo hi H et W p z Q c hp (by rw [q] at hz ⊢; exact hz) k)
  | _ => rw [q] at hz; cases hz
theorem sE_slA {a : Expr} {lo hi : Option Expr} {p2 pos : Pos} {ma : EM PV} {ml mh : EM (Option Int)} (ha : SimP X a ma) (hl : SimO X lo ml) (hh : SimO X hi mh) : SimE X (.Subscript a (.Slice lo hi none p2) pos) (mSl gSlA ma ml mh) :=
  sl_weak early_V ((sl_tupX.or sl_str).or sl_list) oS_all ha hl hh
end
theorem _root_.L2.Room.h64 {k : Nat} {A : Around} (r : Room k A) : A.units + 64 < cLine := by have := r.un; omega
theorem _root_.L2.Room.h65 {k : Nat} {A : Around} (r : Room k A) : A.units + 65 < cLine := by have := r.un; omega
theorem _root_.L2.Room.h1 {k : Nat} {A : Around} (r : Room k A) : A.units + 1 < cLine := by have := r.un; omega
def mChainT (g g' : PV → PV → Option PV) (ma mb mc : EM PV) : EM Bool := fun ep et R => ma ep et fun a et1 => mb ep et1 fun b et2 => ∃ z, g (deref et2 a) (deref et2 b) = some (.bl z) ∧
  if z = true then mc ep et2 fun d et3 => ∃ y, g' (deref et3 b) (deref et3 d) = some (.bl y) ∧ R y et3 else R false et2
theorem sT_chain {X : Cx} {a b d : Expr} {op op' : CmpOp} {pos : Pos} {ma mb mc : EM PV} {R R' : R2} {g g' : PV → PV → Option PV} (ho : OpR X (compareOp op) R) (ho' : OpR X (compareOp op') R') (hg : Op2 X.K X.mg R g (pV X.K X.mg)) (hg' : Op2 X.K X.mg R' g' (pV X.K X.mg))
    (ha : SimP X a ma) (hb : SimP X b mb) (hc : SimP X d mc) (h : ∀ {ta tb tc : TE}, PE X a ta → PE X b tb → PE X d tc → PT X (.Compare a [op, op'] [b, d] pos) (tTest (tChain R R' ta tb tc))) : SimT X (.Compare a [op, op'] [b, d] pos) (mChainT g g' ma mb mc) := weakT (h ha hb hc) fun σ H Q ⟨ep, et, W, R0, c, s, e, q⟩ => by
  refine ⟨ep, et, W, _, c, s, e, fun p et1 r1 v H1 W1 x1 c1 p1 => ⟨ep, et1, W1, _, c1, s.ext c x1, r1, fun p' et2 r2 u H2 W2 x2 c2 p2 => ?_⟩⟩
  obtain ⟨z, hz, r3⟩ := r2
  refine hg v u H2 et2 W2 p p' _ _ c2 (Pk.ext x2 c1 p1) p2 hz fun w H3 W3 x3 c3 p3 => ?_
  have p4 : VR X.K X.mg W3 H3 (.bl z) w := p3
  unfold VR at p4
  refine ⟨z, p4, ?_⟩
  have x13 := (x1.NoO_trans x2).NoO_trans x3
  cases z with
  | false => exact ⟨_, rfl, q _ et2 (by simpa using r3) H3 W3 x13 c3⟩
  | true =>
    rw [if_pos rfl] at r3
    refine ⟨ep, et2, W3, _, c3, s.ext c x13, r3, fun p5 et4 r4 v4 H4 W4 x4 c4 p6 => ?_⟩
    obtain ⟨y, hy, r5⟩ := r4
    refine hg' u v4 H4 et4 W4 p' p5 _ _ c4 (Pk.ext (x3.NoO_trans x4) c2 p2) p6 hy fun w5 H5 W5 x5 c5 p7 => ?_
    have p8 : VR X.K X.mg W5 H5 (.bl y) w5 := p7
    unfold VR at p8
    exact ⟨y, p8, q y et4 r5 H5 W5 ((x13.NoO_trans x4).NoO_trans x5) c5⟩
theorem two_par {X : Cx} {i j : Nat} {x y : Str} {a b : Expr} {px py pt pos : Pos} {kt k2 pt2} (hc : X.calm = true) (hN : X.N.Nodup) (hi : X.N[i]? = some x) (hj : X.N[j]? = some y) (hij : i ≠ j)
    (h : ∀ {ta : TA}, PA X [a, b] ta → PS X (.Assign [.Tuple [.Name x px, .Name y py] kt pt] (.Tuple [a, b] k2 pt2) pos) (tPar i j ta)) {ms : EM (List PV)} (ha : SimA X [a, b] ms) :
    SimS X (.Assign [.Tuple [.Name x px, .Name y py] kt pt] (.Tuple [a, b] k2 pt2) pos) (mPar i j ms) := s_par hc hN hi hj hij ha h
end Mw
namespace Mw
open PySem PySem.Spec L2
structure Glob (K : PySem.W.Frag) (mg : Str → Option Value) (x : Str) (p : PV) : Prop where
  at_ : ∃ u v, mg x = some u ∧ RelV v u ∧ ∀ W H, VR K mg W H p v
theorem Glob.e {X : Cx} {x : Str} {p : PV} {pos : Pos} (g : Glob X.K X.mg x p) (hg : Gl X x) (hd : (x == ("__debug__" : Str)) = false := by decide) : SimE X (.Name x pos) (mC p) := by
  obtain ⟨u, v, h1, h2, h3⟩ := g.at_
  exact sE_glob hg h1 h2 h3 hd
section
variable {K : PySem.W.Frag} {mg : Str → Option Value}
theorem Glob.int {x : Str} {i : Int} {t : Tok} (h : mg x = some (.int i t)) : Glob K mg x (.int i) := ⟨_, .int i, h, ⟨t, rfl⟩, fun _ _ => VR.int⟩
theorem Glob.str {x : Str} {i : Str} {t : Tok} (h : mg x = some (.str i t)) : Glob K mg x (.str i) := ⟨_, .str i, h, ⟨t, rfl⟩, fun _ _ => VR.str⟩
def flatC : PV → Option V
  | .non => some .non
  | .bl b => some (.bl b)
  | .int i => some (.int i)
  | .str x => some (.str x)
  | _ => none
def flatCs : List PV → Option (List V)
  | [] => some []
  | p :: ps => (flatC p).bind fun v => (flatCs ps).map fun vs => v :: vs
theorem flatC_ok {p : PV} {v : V} (h : flatC p = some v) (W : Wd) (H : Hp) : VR K mg W H p v := by
  cases p <;> first | (cases h; done) | (cases h; unfold VR; rfl)
theorem flatCs_ok (W : Wd) (H : Hp) : ∀ {ps : List PV} {vs : List V}, flatCs ps = some vs → VRs K mg W H ps vs
  | [], vs, h => by cases h; exact VRs.nil
  | p :: ps, vs, h => by
    unfold flatCs at h
    cases e : flatC p with
    | none => rw [e] at h; cases h
    | some v =>
      rw [e] at h
      simp only [Option.bind_some] at h
      cases e2 : flatCs ps with
      | none => rw [e2] at h; cases h
      | some r => rw [e2] at h; cases h; exact VRs.cons (flatC_ok e W H) (flatCs_ok W H e2)
theorem Glob.tup {x : Str} {ps : List PV} {vs : List V} {a : Addr} {us : List Value} {n : Nat} {sl : Array (Option Value)} (h : mg x = some (.ref a)) (hk : K.lookup a = some ⟨.type "tuple", none, .seq us.toArray n, sl⟩)
    (hz : us.length ≤ 1000) (hf : flatCs ps = some vs) (hv : us.map absV = vs.map some) (hr : Vals vs us) : Glob K mg x (.tup ps) := ⟨_, .ref a, h, rfl, fun W H => by
  unfold VR
  refine ⟨a, vs, rfl, .inr ⟨_, us.toArray, n, hk, rfl, rfl, rfl, ?_, hr⟩, flatCs_ok W H hf⟩
  have : us.length ≤ sizeLine := Nat.le_of_lt (small1000 hz)
  simpa using this⟩
def gNeg : PV → Option PV
  | .int i => some (.int (-i))
  | _ => none
def tyM : Ty → PV → Bool
  | .str, .str _ => true
  | .lst, .lst _ => true
  | .dic, .dic _ => true
  | .tup, .tup _ => true
  | _, _ => false
def mMeth (t : Ty) (g : PV → List PV → Option PV) (mo : EM PV) (ms : EM (List PV)) : EM PV := fun ep et R => mo ep et fun p et1 => tyM t (deref et1 p) = true ∧ ms ep et1 fun ps et2 => ∃ z, g (deref et2 p) (ps.map (deref et2)) = some z ∧ R z et2
def strsP : List PV → Option (List Str)
  | [] => some []
  | .str x :: r => (strsP r).map (x :: ·)
  | _ => none
theorem VRs.strsP {H : Hp} {W : Wd} : ∀ {ps : List PV} {vs : List V} {bs : List Str}, VRs K mg W H ps vs → strsP ps = some bs → vs = bs.map V.str
  | [], vs, bs, h, e => by unfold VRs at h; cases e; exact h
  | p :: ps, vs, bs, h, e => by
    unfold VRs at h
    obtain ⟨v, r, rfl, h1, h2⟩ := h
    cases p <;> first | (cases e; done) | (
      unfold Mw.strsP at e
      cases q : Mw.strsP ps with
      | none => rw [q] at e; cases e
      | some bs' =>
        rw [q] at e; cases e
        unfold VR at h1
        rw [h1, VRs.strsP h2 q]; rfl)
def gJoin : PV → List PV → Option PV
  | .str a, [.lst xs] => (strsP xs).bind fun ys => if (ys.map (·.length)).sum + ys.length * a.length ≤ 16777216 then some (.str (Txt.join a ys)) else none
  | .str a, [.tup xs] => (strsP xs).bind fun ys => if (ys.map (·.length)).sum + ys.length * a.length ≤ 16777216 then some (.str (Txt.join a ys)) else none
  | _, _ => none
end
section
variable {X : Cx} {e a b : Expr} {me ma mb mi : EM PV} {pos : Pos}
def mParN (i j : Nat) (ma mb : EM PV) : SM := fun ep et R => ma ep et fun p et1 => mb ep et1 fun q et2 => R .nx ((ep.set i (.own p)).set j (.own q)) et2
end
end Mw
namespace Mw
open PySem PySem.Spec L2
mutual
def dok : PV → Bool
  | .non => true
  | .bl _ => true
  | .int _ => true
  | .str x => PyData.strOk x
  | .tup xs => doks xs
  | .lst xs => doks xs
  | _ => false
def doks : List PV → Bool
  | [] => true
  | x :: xs => dok x && doks xs
end
mutual
def dpt : PV → Nat
  | .tup xs => dpts xs + 1
  | .lst xs => dpts xs + 1
  | _ => 0
def dpts : List PV → Nat
  | [] => 0
  | x :: xs => max (dpt x) (dpts xs)
end
mutual
def peq : PV → PV → Bool
  | .non, .non => true
  | .bl a, .bl b => a == b
  | .bl a, .int j => (if a then 1 else 0) == j
  | .int i, .bl b => i == (if b then 1 else 0)
  | .int i, .int j => i == j
  | .str x, .str y => x == y
  | .lst xs, .lst ys => peqs xs ys
  | .tup xs, .tup ys => peqs xs ys
  | _, _ => false
def peqs : List PV → List PV → Bool
  | [], [] => true
  | x :: xs, y :: ys => peq x y && peqs xs ys
  | _, _ => false
end
mutual
theorem dok_dat : ∀ (p : PV), dok p = true → ∃ d, dat p = some d ∧ PyData.canLay0 d = true ∧ PyData.depth d = dpt p
  | .non, h => ⟨_, rfl, rfl, rfl⟩
  | .bl b, h => ⟨_, rfl, rfl, rfl⟩
  | .int i, h => ⟨_, rfl, rfl, rfl⟩
  | .str x, h => ⟨_, rfl, by simpa [dok, PyData.canLay0] using h, rfl⟩
  | .tup xs, h => by
    obtain ⟨ds, h1, h2, h3⟩ := doks_dats xs (by simpa [dok] using h)
    exact ⟨.tuple ds, by simp [dat, h1], by simpa [PyData.canLay0] using h2, by simp [PyData.depth, dpt, h3]⟩
  | .lst xs, h => by
    obtain ⟨ds, h1, h2, h3⟩ := doks_dats xs (by simpa [dok] using h)
    exact ⟨.list ds, by simp [dat, h1], by simpa [PyData.canLay0] using h2, by simp [PyData.depth, dpt, h3]⟩
  | .dic _, h => by simp [dok] at h
  | .scr _, h => by simp [dok] at h
  | .ref _, h => by simp [dok] at h
  | .glo _, h => by simp [dok] at h
  | .ty _, h => by simp [dok] at h
  | .dik _, h => by simp [dok] at h
theorem doks_dats : ∀ (ps : List PV), doks ps = true → ∃ ds, dats ps = some ds ∧ PyData.canLayAll0 ds = true ∧ PyData.depthAll ds = dpts ps
  | [], h => ⟨[], rfl, rfl, rfl⟩
  | p :: ps, h => by
    simp only [doks, Bool.and_eq_true] at h
    obtain ⟨d, h1, h2, h3⟩ := dok_dat p h.1
    obtain ⟨ds, h4, h5, h6⟩ := doks_dats ps h.2
    exact ⟨d :: ds, by simp [dats, h1, h4], by simp [PyData.canLayAll0, h2, h5], by simp [PyData.depthAll, dpts, h3, h6]⟩
end
mutual
theorem peq_dat : ∀ (p q : PV) (d e : PyData), dat p = some d → dat q = some e → PyData.eqv d e = peq p q
  | p, q, d, e, h, h' => by
    cases p <;> simp only [dat, Option.some.injEq, Option.map_eq_some_iff, reduceCtorEq] at h
    all_goals (cases q <;> simp only [dat, Option.some.injEq, Option.map_eq_some_iff, reduceCtorEq] at h')
    all_goals first
      | (subst h; subst h'; simp [PyData.eqv, peq]; done)
      | (obtain ⟨ds, h1, rfl⟩ := h; subst h'; simp [PyData.eqv, peq]; done)
      | (subst h; obtain ⟨es, h2, rfl⟩ := h'; simp [PyData.eqv, peq]; done)
      | (obtain ⟨ds, h1, rfl⟩ := h; obtain ⟨es, h2, rfl⟩ := h'; first | (simp [PyData.eqv, peq]; done) | (simp only [PyData.eqv, peq]; exact peqs_dats _ _ _ _ h1 h2))
theorem peqs_dats : ∀ (ps qs : List PV) (ds es : List PyData), dats ps = some ds → dats qs = some es → PyData.eqvAll ds es = peqs ps qs
  | [], [], ds, es, h, h' => by simp only [dats, Option.some.injEq] at h h'; subst h; subst h'; simp [PyData.eqvAll, peqs]
  | [], q :: qs, ds, es, h, h' => by
    simp only [dats, Option.some.injEq] at h; subst h
    simp only [dats, Option.bind_eq_some_iff, Option.map_eq_some_iff] at h'
    obtain ⟨d, h1, ds', h2, rfl⟩ := h'
    simp [PyData.eqvAll, peqs]
  | p :: ps, [], ds, es, h, h' => by
    simp only [dats, Option.some.injEq] at h'; subst h'
    simp only [dats, Option.bind_eq_some_iff, Option.map_eq_some_iff] at h
    obtain ⟨d, h1, ds', h2, rfl⟩ := h
    simp [PyData.eqvAll, peqs]
  | p :: ps, q :: qs, ds, es, h, h' => by
    simp only [dats, Option.bind_eq_some_iff, Option.map_eq_some_iff] at h h'
    obtain ⟨d, h1, ds', h2, rfl⟩ := h
    obtain ⟨e, h3, es', h4, rfl⟩ := h'
    simp only [PyData.eqvAll, peqs]
    rw [peq_dat p q d e h1 h3, peqs_dats ps qs ds' es' h2 h4]
end
theorem eqB_peq {p q : PV} (hp : dok p = true) (hq : dok q = true) (h1 : dpt p ≤ 64) (h2 : dpt q ≤ 64) : eqB p q = some (peq p q) := by
  obtain ⟨d, e1, e2, e3⟩ := dok_dat p hp
  obtain ⟨e, f1, f2, f3⟩ := dok_dat q hq
  have sd : SeqAt.shaped d = true := by simp [SeqAt.shaped, e2, e3, h1]
  have se : SeqAt.shaped e = true := by simp [SeqAt.shaped, f2, f3, h2]
  have hv := peq_dat p q d e e1 f1
  unfold eqB
  split <;> first | (simp [peq, Bool.beq_eq_decide_eq]; done) | (rw [e1, f1]; simp only [sd, se, and_self, if_true, hv])
theorem peqs_nil (xs : List PV) : peqs xs [] = xs.isEmpty := by cases xs <;> simp [peqs]
theorem gNe_nil {xs : List PV} (h : doks xs = true) (h1 : dpts xs ≤ 63) : gNe (.lst xs) (.lst []) = some (.bl (!xs.isEmpty)) := by
  unfold gNe
  rw [eqB_peq (by simpa [dok] using h) (by simp [dok, doks]) (by simp [dpt]; omega) (by simp [dpt, dpts])]
  simp [peq, peqs_nil]
theorem doks_ints (is : List Int) : doks (is.map .int) = true ∧ dpts (is.map .int) = 0 := by
  induction is with
  | nil => simp [doks, dpts]
  | cons i is ih => simp [doks, dpts, dok, dpt, ih]
theorem Live.set {et : Hi} {W : Wd} {i : Nat} {c d : Cell} (h : et[i]? = some c) (hc : c ≠ .dead) (hd : d ≠ .dead) (a : Addr) : Live (et.set i d) W a ↔ Live et W a := by
  constructor
  · rintro ⟨j, u, h1, h2, h3⟩
    rcases getset h1 with ⟨e, _, _⟩ | ⟨_, h1⟩
    · exact ⟨i, c, h, hc, e ▸ h3⟩
    · exact ⟨j, u, h1, h2, h3⟩
  · rintro ⟨j, u, h1, h2, h3⟩
    by_cases e : j = i
    · subst e
      exact ⟨j, d, by rw [List.getElem?_set_self (List.getElem?_eq_some_iff.mp h).1], hd, h3⟩
    · exact ⟨j, u, by rw [List.getElem?_set_ne (Ne.symm e)]; exact h1, h2, h3⟩
theorem Cel.recell {K : PySem.W.Frag} {mg : Str → Option Value} {H : Hp} {et : Hi} {W : Wd} (c : Cel K mg H et W) {i : Nat} {d d' : Cell} (h : et[i]? = some d) (hd : d ≠ .dead) (hd' : d' ≠ .dead) (ho : ∀ a, W.mu[i]? = some a → CellOk K mg W H d a → CellOk K mg W H d' a) : Cel K mg H (et.set i d') W := by
  refine ⟨by rw [List.length_set]; exact c.len, fun j u b h1 h2 => ?_, fun j k u w b h1 h2 h3 h4 h5 h6 => ?_, fun b hb z => c.fzl b hb ((Live.set h hd hd' b).mp z), c.fzh⟩
  · rcases getset h1 with ⟨rfl, rfl, _⟩ | ⟨_, h1⟩
    · exact ho b h2 (c.ok _ d b h h2)
    · exact c.ok j u b h1 h2
  · have g : ∀ {k : Nat} {u : Cell}, (et.set i d')[k]? = some u → u ≠ .dead → ∃ u', et[k]? = some u' ∧ u' ≠ .dead := fun {k u} h0 hu => by
      rcases getset h0 with ⟨e, _, _⟩ | ⟨_, h0⟩
      · exact ⟨d, e ▸ h, hd⟩
      · exact ⟨u, h0, hu⟩
    obtain ⟨u1, g1, g2⟩ := g h1 h3
    obtain ⟨u2, g3, g4⟩ := g h2 h4
    exact c.inj j k u1 u2 b g1 g3 g2 g4 h5 h6
theorem Ext.live_iff {O : Addr → Prop} {H H' : Hp} {et et' e2 e2' : Hi} {W W' : Wd} (x : Ext O H et W H' et' W') (h : ∀ a, Live e2 W a ↔ Live et W a) (h' : ∀ a, Live e2' W' a ↔ Live et' W' a) : Ext O H e2 W H' e2' W' :=
  ⟨x.fz, x.nfz, x.mu, fun a z => (x.live a ((h' a).mp z)).imp_left (h a).mpr, fun a o e hl hO => x.keep a o e (fun z => hl ((h a).mpr z)) hO, x.there⟩
section
variable {K : PySem.W.Frag} {mg : Str → Option Value}
def spTakeC : FSpec := fun args et R => ∃ (r k : Nat) (m sd ct : Int) (is : List Int), args = [.ref r, .int m] ∧ r ≠ k ∧ et[r]? = some (.lst [.ref k, .int sd, .int ct]) ∧ et[k]? = some (.lst (is.map .int)) ∧ (∀ i ∈ is, 0 ≤ i) ∧
  0 ≤ sd ∧ sd < 2305843009213693951 ∧ 0 ≤ ct ∧ ct < 1099511627776 ∧ 0 < m ∧ m < 1073741824 ∧
  ∀ (d ct' : Int) (is' : List Int), 0 ≤ d → d < m → 0 ≤ ct' → ct' ≤ ct + 1 → (∀ i ∈ is', 0 ≤ i) → R (.int d) ((et.set k (.lst (is'.map .int))).set r (.lst [.ref k, .int sd, .int ct']))
def spTake : FSpec := fun args et R => ∃ (r k n : Nat) (m : Int), args = [.ref r, .int m] ∧ r ≠ k ∧ et[r]? = some (.potO k (n + 1)) ∧ et[k]? = some .potI ∧ 0 < m ∧ m < 1073741824 ∧
  ∀ d : Int, 0 ≤ d → d < m → R (.int d) (et.set r (.potO k n))
theorem VRs.ints_eq {W : Wd} {H : Hp} : ∀ {is : List Int} {vs : List V}, VRs K mg W H (is.map .int) vs → vs = is.map V.int
  | [], vs, h => by unfold List.map at h; unfold VRs at h; exact h
  | i :: is, vs, h => by
    rw [List.map_cons] at h
    unfold VRs at h
    obtain ⟨v, t, rfl, h1, h2⟩ := h
    unfold VR at h1
    subst h1
    rw [List.map_cons, VRs.ints_eq h2]
theorem take_imp {vs : List V} {H : Hp} {Q : VK} {E : XK} (h : FS K mg 2 spTake vs H Q E) : FS K mg 2 spTakeC vs H Q E := by
  obtain ⟨hl, et, W, args, R, c, va, ⟨r, k, n, m, rfl, hrk, hr, hk, hm, hm2, hR⟩, q⟩ := h
  have hlr : r < W.mu.length := by rw [← c.len]; exact (List.getElem?_eq_some_iff.mp hr).1
  have hlk : k < W.mu.length := by rw [← c.len]; exact (List.getElem?_eq_some_iff.mp hk).1
  obtain ⟨b, sd, ct, k1, k2, k3, k4, k5, k6⟩ := c.ok r _ _ hr (List.getElem?_eq_getElem hlr)
  obtain ⟨is, k7, k8⟩ := c.ok k _ _ hk (List.getElem?_eq_getElem hlk)
  have bk : W.mu[k] = b := by rw [List.getElem?_eq_getElem hlk] at k1; exact Option.some.inj k1
  have c1 : Cel K mg H (et.set k (.lst (is.map .int))) W := c.recell hk (by simp) (by simp) fun a ha _ => by
    rw [List.getElem?_eq_getElem hlk] at ha; cases ha
    exact ⟨_, k7, VRs.ints is⟩
  have hr1 : (et.set k (.lst (is.map .int)))[r]? = some (.potO k (n + 1)) := by rw [List.getElem?_set_ne (Ne.symm hrk)]; exact hr
  have c2 : Cel K mg H ((et.set k (.lst (is.map .int))).set r (.lst [.ref k, .int sd, .int ct])) W := c1.recell hr1 (by simp) (by simp) fun a ha _ => by
    rw [List.getElem?_eq_getElem hlr] at ha; cases ha
    exact ⟨_, k2, VRs.cons (by unfold VR; exact ⟨b, rfl, k1⟩) (VRs.cons VR.int (VRs.cons VR.int VRs.nil))⟩
  refine ⟨hl, _, W, [.ref r, .int m], fun p et2 => ∃ (d ct' : Int) (is' : List Int), p = .int d ∧ 0 ≤ d ∧ d < m ∧ 0 ≤ ct' ∧ ct' ≤ ct + 1 ∧ (∀ i ∈ is', 0 ≤ i) ∧ et2 = ((((et.set k (.lst (is.map .int))).set r (.lst [.ref k, .int sd, .int ct])).set k (.lst (is'.map .int))).set r (.lst [.ref k, .int sd, .int ct'])), c2, va, ?_, ?_⟩
  · refine ⟨r, k, m, sd, ct, is, rfl, hrk, ?_, ?_, k8, k3, k4, k5, by omega, hm, hm2, fun d ct' is' d1 d2 d3 d4 d5 => ⟨d, ct', is', rfl, d1, d2, d3, d4, d5, rfl⟩⟩
    · rw [List.getElem?_set_self (by rw [List.length_set]; exact (List.getElem?_eq_some_iff.mp hr).1)]
    · rw [List.getElem?_set_ne hrk, List.getElem?_set_self (List.getElem?_eq_some_iff.mp hk).1]
  · rintro p et2 ⟨d, ct', is', rfl, d1, d2, d3, d4, d5, he2⟩ v H' W' x' c' v'
    have hrl := (List.getElem?_eq_some_iff.mp hr).1
    have hkl := (List.getElem?_eq_some_iff.mp hk).1
    have er : et2[r]? = some (.lst [.ref k, .int sd, .int ct']) := by rw [he2, List.getElem?_set_self (by simpa using hrl)]
    have ek : et2[k]? = some (.lst (is'.map .int)) := by rw [he2, List.getElem?_set_ne hrk, List.getElem?_set_self (by simpa using hkl)]
    have eo : ∀ j, j ≠ r → j ≠ k → et2[j]? = et[j]? := fun j h1 h2 => by
      rw [he2, List.getElem?_set_ne (Ne.symm h1), List.getElem?_set_ne (Ne.symm h2), List.getElem?_set_ne (Ne.symm h1), List.getElem?_set_ne (Ne.symm h2)]
    have c3 := c'.recell ek (d' := .potI) (by simp) (by simp) fun a ha ho => by
      obtain ⟨vs, g1, g2⟩ := ho
      rw [VRs.ints_eq g2] at g1
      exact ⟨is', g1, d5⟩
    have er2 : (et2.set k .potI)[r]? = some (.lst [.ref k, .int sd, .int ct']) := by rw [List.getElem?_set_ne (Ne.symm hrk)]; exact er
    have c4 := c3.recell er2 (d' := .potO k n) (by simp) (by simp) fun a ha ho => by
      obtain ⟨vs, g1, g2⟩ := ho
      unfold VRs at g2
      obtain ⟨v1, t1, rfl, g3, g4⟩ := g2
      unfold VRs at g4
      obtain ⟨v2, t2, rfl, g5, g6⟩ := g4
      unfold VRs at g6
      obtain ⟨v3, t3, rfl, g7, g8⟩ := g6
      unfold VRs at g8
      subst g8
      unfold VR at g3 g5 g7
      obtain ⟨b', rfl, g9⟩ := g3
      subst g5 g7
      exact ⟨b', sd, ct', g9, g1, k3, k4, d3, by omega⟩
    have e3 : (et2.set k .potI).set r (.potO k n) = et.set r (.potO k n) := by
      apply List.ext_getElem?
      intro j
      by_cases h1 : j = r
      · subst h1
        rw [List.getElem?_set_self (by rw [List.length_set]; exact (List.getElem?_eq_some_iff.mp er).1), List.getElem?_set_self hrl]
      · rw [List.getElem?_set_ne (Ne.symm h1), List.getElem?_set_ne (Ne.symm h1)]
        by_cases h2 : j = k
        · subst h2
          rw [List.getElem?_set_self (List.getElem?_eq_some_iff.mp ek).1, hk]
        · rw [List.getElem?_set_ne (Ne.symm h2), eo j h1 h2]
    refine q (.int d) _ (hR d d1 d2) v H' W' ?_ (e3 ▸ c4) v'
    refine x'.live_iff (fun a => ?_) fun a => ?_
    · rw [Live.set hr1 (by simp) (by simp), Live.set hk (by simp) (by simp)]
    · rw [← e3, Live.set er2 (by simp) (by simp), Live.set ek (by simp) (by simp)]
def spPotC : FSpec := fun args et R => ∃ ns : List Int, args = [.scr ns] ∧ ns.length ≤ 63 ∧
  ∀ (sd : Int) (is : List Int), 0 ≤ sd → sd < 2305843009213693951 → (∀ i ∈ is, 0 ≤ i) → R (.ref (et.length + 1)) (et ++ [.lst (is.map .int), .lst [.ref et.length, .int sd, .int 0]])
def spPot : FSpec := fun args et R => ∃ ns : List Int, args = [.scr ns] ∧ ns.length ≤ 63 ∧ R (.ref (et.length + 1)) (et ++ [.potI, .potO et.length 1099511627776])
theorem pot_imp {vs : List V} {H : Hp} {Q : VK} {E : XK} (h : FS K mg 1 spPot vs H Q E) : FS K mg 1 spPotC vs H Q E := by
  obtain ⟨hl, et, W, args, R, c, va, ⟨ns, rfl, hns, hR⟩, q⟩ := h
  refine ⟨hl, et, W, [.scr ns], fun p et2 => ∃ (sd : Int) (is : List Int), p = .ref (et.length + 1) ∧ 0 ≤ sd ∧ sd < 2305843009213693951 ∧ (∀ i ∈ is, 0 ≤ i) ∧ et2 = et ++ [.lst (is.map .int), .lst [.ref et.length, .int sd, .int 0]], c, va, ⟨ns, rfl, hns, fun sd is h1 h2 h3 => ⟨sd, is, rfl, h1, h2, h3, rfl⟩⟩, ?_⟩
  rintro p et2 ⟨sd, is, rfl, h1, h2, h3, he⟩ v H' W' x' c' v'
  have er : et2[et.length + 1]? = some (.lst [.ref et.length, .int sd, .int 0]) := by rw [he, List.getElem?_append_right (by omega)]; simp
  have ek : et2[et.length]? = some (.lst (is.map .int)) := by rw [he, List.getElem?_append_right (by omega)]; simp
  have c3 := c'.recell ek (d' := .potI) (by simp) (by simp) fun a ha ho => by
    obtain ⟨vs, g1, g2⟩ := ho
    rw [VRs.ints_eq g2] at g1
    exact ⟨is, g1, h3⟩
  have er2 : (et2.set et.length .potI)[et.length + 1]? = some (.lst [.ref et.length, .int sd, .int 0]) := by rw [List.getElem?_set_ne (by omega)]; exact er
  have c4 := c3.recell er2 (d' := .potO et.length 1099511627776) (by simp) (by simp) fun a ha ho => by
    obtain ⟨vs, g1, g2⟩ := ho
    unfold VRs at g2
    obtain ⟨v1, t1, rfl, g3, g4⟩ := g2
    unfold VRs at g4
    obtain ⟨v2, t2, rfl, g5, g6⟩ := g4
    unfold VRs at g6
    obtain ⟨v3, t3, rfl, g7, g8⟩ := g6
    unfold VRs at g8
    subst g8
    unfold VR at g3 g5 g7
    obtain ⟨b', rfl, g9⟩ := g3
    subst g5 g7
    exact ⟨b', sd, 0, g9, g1, h1, h2, by omega, by omega⟩
  have e3 : (et2.set et.length .potI).set (et.length + 1) (.potO et.length 1099511627776) = et ++ [.potI, .potO et.length 1099511627776] := by
    rw [he]
    apply List.ext_getElem?
    intro j
    by_cases h1 : j = et.length + 1
    · subst h1
      rw [List.getElem?_set_self (by simp), List.getElem?_append_right (by omega)]; simp
    · rw [List.getElem?_set_ne (Ne.symm h1)]
      by_cases h2 : j = et.length
      · subst h2
        rw [List.getElem?_set_self (by simp), List.getElem?_append_right (by omega)]; simp
      · rw [List.getElem?_set_ne (Ne.symm h2)]
        by_cases h3 : j < et.length
        · rw [List.getElem?_append_left h3, List.getElem?_append_left h3]
        · rw [List.getElem?_eq_none (by simp; omega), List.getElem?_eq_none (by simp; omega)]
  refine q _ _ hR v H' W' ?_ (e3 ▸ c4) v'
  refine x'.live_iff (fun a => Iff.rfl) fun a => ?_
  rw [← e3, Live.set er2 (by simp) (by simp), Live.set ek (by simp) (by simp)]
end
end Mw
namespace Mw
open PySem PySem.Spec L2
section
variable {et : Hi}
theorem deref_int (i : Int) : deref et (.int i) = .int i := rfl
theorem deref_str (i : Str) : deref et (.str i) = .str i := rfl
theorem deref_bl (i : Bool) : deref et (.bl i) = .bl i := rfl
theorem deref_non : deref et .non = .non := rfl
theorem deref_tup (i : List PV) : deref et (.tup i) = .tup i := rfl
theorem deref_lst (i : List PV) : deref et (.lst i) = .lst i := rfl
theorem deref_scr (i : List Int) : deref et (.scr i) = .scr i := rfl
theorem deref_dic (i : List (Key × PV)) : deref et (.dic i) = .dic i := rfl
theorem deref_ty (i : Ty) : deref et (.ty i) = .ty i := rfl
theorem eqB_int (i j : Int) : eqB (.int i) (.int j) = some (decide (i = j)) := rfl
theorem gEq_int (i j : Int) : gEq (.int i) (.int j) = some (.bl (decide (i = j))) := rfl
theorem gNe_int (i j : Int) : gNe (.int i) (.int j) = some (.bl (!decide (i = j))) := rfl
theorem gEq_str (i j : Str) : gEq (.str i) (.str j) = some (.bl (decide (i = j))) := rfl
theorem gNe_str (i j : Str) : gNe (.str i) (.str j) = some (.bl (!decide (i = j))) := rfl
end
end Mw
namespace Mw
open PySem PySem.Spec L2
theorem deref_ref {et : Hi} {n : Nat} {xs : List PV} (h : et[n]? = some (.lst xs)) : deref et (.ref n) = .lst xs := by unfold deref; simp only [h]
theorem atI_c0 {α : Type} (x : α) (xs : List α) : atI (x :: xs) 0 = some x := by simp [atI, ixN]
theorem atI_c1 {α : Type} (x y : α) (xs : List α) : atI (x :: y :: xs) 1 = some y := by
  have : (1 : Int) < ((xs.length + 1 + 1 : Nat) : Int) := by omega
  simp only [atI, ixN, List.length_cons]
  rw [if_pos (by decide), if_pos this]; rfl
theorem atI_c2 {α : Type} (x y z : α) (xs : List α) : atI (x :: y :: z :: xs) 2 = some z := by
  have : (2 : Int) < ((xs.length + 1 + 1 + 1 : Nat) : Int) := by omega
  simp only [atI, ixN, List.length_cons]
  rw [if_pos (by decide), if_pos this]; rfl
theorem ixN_0 {n : Nat} (h : 0 < n) : ixN n 0 = some 0 := by simp [ixN, h]
end Mw
namespace Mw
open PySem PySem.Spec L2
def spLaw : FSpec := fun args et R => ∃ ns : List Int, args = [.scr ns] ∧ ns.length ≤ 63 ∧ et = [] ∧ ∀ et', R (.bl true) et'
def spTop (K : PySem.W.Frag) : Sp := fun vs H Q _ => ∃ (a : Addr) (ns : List Int), vs = [.ref a] ∧ ns.length ≤ 63 ∧ Only H ∧ SqL K H a (ns.map V.int) ∧ ∀ H', Q (.bl true) H'
theorem top_imp {K : PySem.W.Frag} {mg : Str → Option Value} {vs : List V} {H : Hp} {Q : VK} {E : XK} (h : spTop K vs H Q E) : FS K mg 1 spLaw vs H Q E := by
  obtain ⟨a, ns, rfl, hl, hO, hS, q⟩ := h
  refine ⟨rfl, [], ⟨fun _ => False, []⟩, [.scr ns], fun p _ => p = .bl true, ⟨rfl, fun _ _ _ h => by simp at h, fun _ _ _ _ _ h => by simp at h, fun _ h => h.elim, fun _ h => h.elim⟩, VRs.cons ?_ VRs.nil, ⟨ns, rfl, hl, rfl, fun _ => rfl⟩, ?_⟩
  · unfold VR
    refine ⟨a, rfl, ?_⟩
    rcases hS with (h | ⟨o, h⟩) | h
    · rcases hO a with z | ⟨o, xs, z⟩
      · rw [z] at h; cases h
      · rw [z] at h; cases h
    · exact .inl ⟨o, h⟩
    · exact .inr h
  · rintro p et' rfl v H' W' _ _ hv
    unfold VR at hv
    subst hv
    exact q H'
theorem top_walk {l : PySem.W.OpenLaw} {k : Nat} {q : Program} {loose : List Str} {XP : (Str → Option Value) → Heap → Prop} {YP : World → Heap → Prop} {d : DefRec} {K : Params → PySem.W.Frag} {x : Str} (hn : l.most = some 63) (hdf : d.params.defaults = []) (hr : Room k callerA)
    (hY : ∀ (w : World) (h : Heap), YP w h → (K w.params).In h)
    (F : ∀ (w : World) (mg : Str → Option Value) (fa : Addr) (h : Heap), (K w.params).In h → h.Ns mainGlobals mg → mg d.name = some (.ref fa) →
      ∃ fd : FuncData, (∀ (s : Shared) (u : Value), BindsTo s fd ⟨[u], []⟩ [(x, u)]) ∧ ∀ base : Heap, (K w.params).In base → base.Ns mainGlobals mg → FnOk l.prog w (K w.params) mg base CX0 k fa fd [x] (FS (K w.params) mg 1 spLaw)) :
    PySem.W.WalkO q loose XP YP l.row.toRowW d [] (fun f vs => PySem.call f vs) :=
  L2.walk_of (n := 63) (k := k) (x := x) (CX := fun _ => CX0) (sp := fun w => spTop (K w.params)) hn (by decide) hdf hr hY (fun w mg fa h h1 h2 h3 => by
      obtain ⟨fd, hb, hF⟩ := F w mg fa h h1 h2 h3
      exact ⟨fd, hb, fun base b1 b2 => (hF base b1 b2).imp fun _ _ _ _ z => top_imp z⟩) (fun _ _ a ns hl hO hS => ⟨a, ns, rfl, hl, hO, hS, fun _ => rfl⟩) fun _ _ _ _ _ z => z
theorem fs_none {P : Program} {w : World} {K : PySem.W.Frag} {mg : Str → Option Value} {base : Heap} {k n : Nat} {f : Addr} {fd : FuncData} {ps : List Str} {sp : FSpec} (h : ∀ args et R, ¬ sp args et R) : FnOk P w K mg base CX0 k f fd ps (FS K mg n sp) := by
  have no : ∀ vs H Q E, ¬ FS K mg n sp vs H Q E := fun vs H Q E ⟨_, _, _, _, _, _, _, q, _⟩ => h _ _ _ q
  exact ⟨fun vs H Q E h => absurd h (no vs H Q E), fun A outer s H args us vs Q E _ _ _ _ h => absurd h (no vs H Q E)⟩
end Mw
namespace Mw
open PySem PySem.Spec L2
section
variable {X : Cx} {K : PySem.W.Frag} {mg : Str → Option Value}
theorem VRs.uncons {W : Wd} {H : Hp} {p : PV} {ps : List PV} {vs : List V} (h : VRs K mg W H (p :: ps) vs) : ∃ v r, vs = v :: r ∧ VR K mg W H p v ∧ VRs K mg W H ps r := by unfold VRs at h; exact h
def rgP (a b : Int) : List PV := (List.range (b - a).toNat).map fun i => .int (a + (i : Nat))
def mListRg1 (m : EM PV) : EM PV := fun ep et R => m ep et fun p et1 => ∃ n : Int, p = .int n ∧ 0 ≤ n ∧ n ≤ 16777216 ∧ R (.lst (rgP 0 n)) et1
def mListRg2 (m m' : EM PV) : EM PV := fun ep et R => m ep et fun p et1 => m' ep et1 fun p' et2 => ∃ a b : Int, p = .int a ∧ p' = .int b ∧ RgOk a b ∧ R (.lst (rgP a b)) et2
end
end Mw
namespace Mw
open PySem PySem.Spec L2
section
variable {K : PySem.W.Frag} {mg : Str → Option Value} {W : Wd} {H : Hp}
theorem VRs.back : ∀ {ps : List PV} {vs : List V} {i : Nat} {v : V}, VRs K mg W H ps vs → vs[i]? = some v → ∃ p, ps[i]? = some p ∧ VR K mg W H p v := fun {ps vs i v} h e => by
  have hl := (List.getElem?_eq_some_iff.mp e).1
  have hp : ps[i]? = some (ps[i]'(by rw [h.len]; exact hl)) := List.getElem?_eq_getElem _
  obtain ⟨u, e1, r⟩ := h.get hp
  rw [e] at e1; cases e1
  exact ⟨_, hp, r⟩
end
end Mw
namespace TS2
open PySem PySem.Spec PyProof.Rows L2
abbrev kd (P : Program) (w : World) : PySem.KeyKind P w Str := PySem.strKind P w
def keyS (e : Int × Value) : Str := match e.2 with
  | .str x _ => x
  | _ => Str.empty
def GoodS (P : Program) (w : World) (e : Int × Value) : Prop := ∃ k tk, e.2 = Value.str k tk ∧ e.1 = (kd P w).hash k
def SetX (P : Program) (w : World) (h : Heap) (a : Addr) (S : Str → Bool) (n : Nat) : Prop :=
  ∃ o es ep t, h.get? a = some o ∧ o.ExactSet ∧ o.data = .set es ep t ∧ ((∀ e ∈ es.toList, GoodS P w e) ∧ (es.toList.map keyS).Nodup ∧ ∀ k, S k = true ↔ k ∈ es.toList.map keyS) ∧
    es.size ≤ n ∧ es.size < scanBound ∧ t.fits es.size = true ∧ Ris t.place.toList ∧ (w.params.followText "set-order" = true ∨ t.led = true)
section
variable {P : Program} {w : World} {h h' : Heap} {a : Addr} {S S' : Str → Bool}
theorem SetX.keep {n : Nat} (R : SetX P w h a S n) (k : ∀ o, h.get? a = some o → h'.get? a = some o) : SetX P w h' a S n := by
  obtain ⟨o, es, ep, t, ho, r⟩ := R
  exact ⟨o, es, ep, t, k o ho, r⟩
theorem SetX.to {n : Nat} (R : SetX P w h a S n) (e : ∀ k, S' k = S k) : SetX P w h a S' n := funext e ▸ R
theorem is_key {e : Int × Value} (g : GoodS P w e) (k : Str) : (kd P w).is k e.2 = true ↔ keyS e = k := by
  obtain ⟨x, tk, e1, _⟩ := g
  have : keyS e = x := by unfold keyS; rw [e1]
  rw [this, e1]
  show (Value.isStrOf k (.str x tk)) = true ↔ x = k
  simp [Value.isStrOf]
theorem elems {l : List (Int × Value)} (g : ∀ e ∈ l, GoodS P w e) : ElemsOf (kd P w) l := fun e he => by
  obtain ⟨k, tk, h1, h2⟩ := g e he
  exact ⟨⟨k, by rw [h1]; exact PySem.strKind_is P w k tk, h2⟩, by rw [h1]; rfl⟩
theorem mem_keys {l : List (Int × Value)} (g : ∀ e ∈ l, GoodS P w e) (k : Str) : k ∈ l.map keyS ↔ ∃ e ∈ l, (kd P w).is k e.2 = true := by
  rw [List.mem_map]
  exact ⟨fun ⟨e, he, q⟩ => ⟨e, he, (is_key (g e he) k).2 q⟩, fun ⟨e, he, q⟩ => ⟨e, he, (is_key (g e he) k).1 q⟩⟩
end
section
variable {P : Program} {w : World} {A : Around} {E : Value → Shared → Prop} {s : Shared} {a : Addr} {S : Str → Bool}
def Elt (P : Program) (w : World) (es : Array (Int × Value)) (S : Str → Bool) : Prop := (∀ e ∈ es.toList, GoodS P w e) ∧ (es.toList.map keyS).Nodup ∧ ∀ k, S k = true ↔ k ∈ es.toList.map keyS
theorem Elt.perm {es es' : Array (Int × Value)} {S : Str → Bool} (g : Elt P w es S) (pm : es'.toList.Perm es.toList) : Elt P w es' S :=
  ⟨fun e he => g.1 e (pm.mem_iff.mp he), (pm.map keyS).nodup_iff.mpr g.2.1, fun k => (g.2.2 k).trans (pm.map keyS).mem_iff.symm⟩
theorem lay_end {g : Bool → Sem Unit} (hg : ∀ (b : Bool) (s₁ : Shared) (Q' : Unit → Shared → Prop), Q' () s₁ → wpAny (model P w) A (g b) Q' E s₁)
    {o : Obj} {es : Array (Int × Value)} {ep : Nat} {t : SetTable} (ho : s.heap.get? a = some o) (hex : o.ExactSet) (hd : o.data = .set es ep t)
    {es1 : Array (Int × Value)} {t2 : SetTable} (g1 : Elt P w es1 S) (hb1 : es1.size < scanBound) (hf2 : t2.fits es1.size = true) (hr : Ris t2.place.toList) (hl : w.params.followText "set-order" = true ∨ t2.led = true) {was : Bool} {n : Nat} (hz : es1.size ≤ n) {R : Option Bool → Shared → Prop}
    (hR : ∀ h', Heap.SameBut a s.heap h' → SetX P w h' a S n → R (some true) { s with heap := h' }) :
    wpAny (model P w) A (do
        storeSet a es1 t2
        if (!was && t2.tooFull) = true then do
            g (relayAll t2 es1 (SetTable.grown es1.size)).2.2
            storeSet a (relayAll t2 es1 (SetTable.grown es1.size)).1 (relayAll t2 es1 (SetTable.grown es1.size)).2.1
            pure (some true)
          else pure (some true)) R E s := by
  have ho1 := store_at (es' := es1) (t' := t2) ho hd
  have sb1 := Heap.SameBut.update s.heap a (Obj.putSet es1 t2)
  refine wpAny_bind (wpAny_storeSet_of ho hd ?_ (fits_of_scanBound hb1))
  split
  · have pm := relayAll_perm t2 es1 (SetTable.grown es1.size)
    have k1 := relayAll_fits t2 es1 (SetTable.grown es1.size)
    have k2 := relayAll_ris t2 es1 (SetTable.grown es1.size)
    have k3 := relayAll_led t2 es1 (SetTable.grown es1.size)
    generalize relayAll t2 es1 (SetTable.grown es1.size) = Z at pm k1 k2 k3 ⊢
    obtain ⟨es2, t3, gave⟩ := Z
    dsimp only at pm k1 k2 k3 ⊢
    have hsz : es2.size = es1.size := by rw [← Array.length_toList, pm.length_eq, Array.length_toList]
    have hb2 : es2.size < scanBound := by rw [hsz]; exact hb1
    refine wpAny_bind (hg _ _ _ (wpAny_bind (wpAny_storeSet_of ho1 rfl ?_ (fits_of_scanBound hb2))))
    exact wpAny_pure (hR _ (sb1.trans (Heap.SameBut.update _ a _)) ⟨_, es2, _, t3, store_at (es' := es2) (t' := t3) ho1 rfl, hex, rfl, g1.perm pm, by omega, hb2, k1, k2, hl.imp id fun z => by rw [k3]; exact z⟩)
  · exact wpAny_pure (hR _ sb1 ⟨_, es1, _, t2, ho1, hex, rfl, g1, hz, hb1, hf2, hr, hl⟩)
theorem lay_one {k : Str} {tk : Tok} {n : Nat} {Q : Bool → Shared → Prop} (R : SetX P w s.heap a S n) (room : n + 1 < scanBound)
    (hQ : ∀ h' b, Heap.SameBut a s.heap h' → SetX P w h' a (fun j => S j || decide (j = k)) (n + 1) → Q b { s with heap := h' }) :
    wpAny (model P w) A (setAddHashed a (.str k tk) ((kd P w).hash k)) Q E s := by
  obtain ⟨o, es, ep, t, ho, hex, hd, ⟨g, nd, hm⟩, hz, hb, hf, hr, hl⟩ := R
  have hkey : (kd P w).is k (.str k tk) = true := PySem.strKind_is P w k tk
  have hsc : (Value.str k tk).scannable = true := rfl
  have hel : ElemsOf (kd P w) es.toList := elems g
  unfold setAddHashed setAddHashedIn
  refine wpAny_holding (wpAny_bind (wpAny_setState_of ho hd hf ?_))
  dsimp only
  rw [byScan_of hsc hb hel]
  simp only [↓reduceIte]
  unfold setAddByScan
  refine wpAny_bind (wpAny_bind (wpAny_rule (wpAny_bind (wpAny_setScan_of hkey ho hd hf hel ?_))))
  cases hfi : List.findIdx? (fun e => (kd P w).is k e.2) es.toList with
  | some j =>
    dsimp only
    obtain ⟨hj, pj, _⟩ := List.findIdx?_eq_some_iff_getElem.mp hfi
    have hk : k ∈ es.toList.map keyS := (mem_keys (P := P) (w := w) g k).2 ⟨es.toList[j], List.getElem_mem hj, pj⟩
    refine wpAny_pure (wpAny_pure (hQ s.heap _ (Heap.SameBut.refl a s.heap) ⟨o, es, ep, t, ho, hex, hd, ⟨g, nd, fun i => ?_⟩, by omega, hb, hf, hr, hl⟩))
    rw [Bool.or_eq_true, decide_eq_true_eq, hm i]
    exact ⟨fun z => z.elim id fun e => e ▸ hk, .inl⟩
  | none =>
    dsimp only
    have hnk : k ∉ es.toList.map keyS := fun z => by
      obtain ⟨e, he, q⟩ := (mem_keys (P := P) (w := w) g k).1 z
      have c := List.findIdx?_eq_none_iff.mp hfi e he
      rw [q] at c; cases c
    have hgw : ∀ (b : Bool) {s₁ : Shared} {Q' : Unit → Shared → Prop}, Q' () s₁ → wpAny (model P w) A (match b with | true => rule "set.scan.the-table-gave-way" | false => pure ()) Q' E s₁ :=
      fun b s₁ Q' q => by cases b <;> first | exact wpAny_pure q | exact wpAny_rule q
    have pm := layNew_perm t es ((kd P w).hash k) (.str k tk)
    have k1 := layNew_fits t es ((kd P w).hash k) (.str k tk)
    have k2 := layNew_ris t es ((kd P w).hash k) (.str k tk) hr
    have k3 := layNew_led t es ((kd P w).hash k) (.str k tk)
    generalize layNew t es ((kd P w).hash k) (.str k tk) = Z at pm k1 k2 k3 ⊢
    obtain ⟨es1, t1, was, gave⟩ := Z
    dsimp only at pm k1 k2 k3 ⊢
    rw [Array.toList_push] at pm
    have pc : es1.toList.Perm (((kd P w).hash k, Value.str k tk) :: es.toList) := pm.trans (List.perm_append_singleton _ _)
    have pk : (es1.toList.map keyS).Perm (k :: es.toList.map keyS) := pc.map keyS
    have g1 : Elt P w es1 (fun j => S j || decide (j = k)) := by
      refine ⟨fun e he => ?_, pk.nodup_iff.mpr (List.nodup_cons.mpr ⟨hnk, nd⟩), fun i => ?_⟩
      · rcases List.mem_cons.mp (pc.mem_iff.mp he) with z | z
        · rw [z]; exact ⟨k, tk, rfl, rfl⟩
        · exact g e z
      · rw [Bool.or_eq_true, decide_eq_true_eq, hm i, pk.mem_iff, List.mem_cons]
        exact Or.comm
    have hs1 : es1.size = es.size + 1 := by rw [← Array.length_toList, pc.length_eq, List.length_cons, Array.length_toList]
    have hz1 : es1.size ≤ n + 1 := by omega
    have hb1 : es1.size < scanBound := by omega
    have hled : w.params.followText "set-order" = true ∨ t1.led = true := hl.imp id fun z => by rw [k3]; exact z
    refine wpAny_bind (hgw _ ?_)
    split
    · refine wpAny_bind ?_
      rw [hashByValue_scannable 8 hsc]
      refine wpAny_pure (lay_end ?_ ho hex hd g1 hb1 ?_ ?_ ?_ hz1 ?_)
      · intro b s₁ Q' q; cases b <;> first | exact wpAny_pure q | exact wpAny_rule q
      · first | (split <;> first | exact k1 | exact SetTable.fits_plain_off k1) | exact k1
      · first | (split <;> exact k2) | exact k2
      · first | (split <;> exact hled) | exact hled
      · intro h' sb r; dsimp only; exact wpAny_pure (hQ h' _ sb r)
    · refine wpAny_bind (wpAny_pure ?_)
      simp only [↓reduceIte]
      refine lay_end ?_ ho hex hd g1 hb1 k1 k2 hled hz1 ?_
      · intro b s₁ Q' q; cases b <;> first | exact wpAny_pure q | exact wpAny_rule q
      · intro h' sb r; dsimp only; exact wpAny_pure (hQ h' _ sb r)
end
section
variable {P : Program} {w : World} {A : Around} {R : Result → Shared → Prop} {I : Addr} {fp wr : List Addr} {G : Array GenState → Array GenState → Prop} {n : Nat} {Pv : Nat → Value → Prop} {St : Nat → Shared → Prop}
theorem take_any {xs : List Str} {i : Nat} (hi : i < xs.length) (j : Str) : (xs.take (i + 1)).any (· == j) = ((xs.take i).any (· == j) || decide (j = xs.getD i Str.empty)) := by
  rw [List.take_succ, List.getElem?_eq_getElem hi, List.any_append]
  have : xs.getD i Str.empty = xs[i] := by rw [List.getD_eq_getElem?_getD, List.getElem?_eq_getElem hi]; rfl
  rw [this]
  congr 1
  show ((xs[i] == j) || false) = _
  rw [Bool.or_false, Bool.eq_iff_iff, beq_iff_eq, decide_eq_true_eq]
  exact eq_comm
theorem grow_set (W : WalksS P w A.in1 I fp wr G n Pv St) (T : Addr) (hT : T ∉ fp) (xs : List Str) (hn : n = xs.length) (hfew : xs.length + 1 < scanBound) (hval : ∀ i v, Pv i v → ∃ t, v = .str (xs.getD i Str.empty) t) :
    ∀ (k i : Nat) (s : Shared), n - i = k → i ≤ n → St i s → SetX P w s.heap T (fun j => (xs.take i).any (· == j)) i →
      (∀ s', Moved (T :: wr) G s s' → SetX P w s'.heap T (fun j => (xs.take n).any (· == j)) n → R (.ok (.ret .none)) s') →
      codeAny (model P w) A (.builtin "set.update.loop" ⟨[.ref T, .ref I], []⟩) R s := by
  have nw : T ∉ wr := fun h => hT (W.sub _ h)
  have hsub : ∀ b ∈ wr, b ∈ T :: wr := fun b hb => List.mem_cons_of_mem _ hb
  intro k
  induction k with
  | zero =>
    intro i s hk hi hst hS hR
    obtain rfl : i = n := by omega
    refine codeAny_builtin F.entry_set_update_loop ?_
    rw [Around.under_plainId F.plain_set_update_loop _]
    show wpAny _ A.in1 (pyNext (.ref I) >>= _) _ _ s
    refine wpAny_bind (W.done s _ _ hst fun s' hm => ?_)
    show wpAny _ A.in1 (ret Value.none) _ _ s'
    exact wpAny_pure (hR s' (hm.mono hsub) (hS.keep fun o e => hm.heap T o nw e))
  | succ k ih =>
    intro i s hk hi hst hS hR
    have hlt : i < n := by omega
    refine codeAny_builtin F.entry_set_update_loop ?_
    rw [Around.under_plainId F.plain_set_update_loop _]
    show wpAny _ A.in1 (pyNext (.ref I) >>= _) _ _ s
    refine wpAny_bind (W.item i s _ _ hlt hst fun v s' hP hst' hm => ?_)
    obtain ⟨t, rfl⟩ := hval i v hP
    have hS1 : SetX P w s'.heap T (fun j => (xs.take i).any (· == j)) i := hS.keep fun o e => hm.heap T o nw e
    show wpAny _ A.in1 (holding [Value.str (xs.getD i Str.empty) t] (setAdd T (.str (xs.getD i Str.empty) t)) >>= _) _ _ s'
    refine wpAny_bind (wpAny_holding ?_)
    unfold setAdd
    refine wpAny_holding (wpAny_bind ((kd P w).pyHash (k := xs.getD i Str.empty) (PySem.strKind_is _ _ _ _) ?_))
    refine lay_one (s := { s' with toks := s'.toks + 1 }) hS1 (by omega) fun h' b sb hS2 => ?_
    have hS3 : SetX P w h' T (fun j => (xs.take (i + 1)).any (· == j)) (i + 1) := hS2.to fun j => take_any (by omega) j
    refine wpAny_pure ⟨plainId_quiet F.plain_set_update_loop _, ih (i + 1) _ (by omega) hlt (W.frame _ s' _ _ hst' (Nat.le_succ _) fun b hb o e => ?_) hS3 fun s'' hm'' hS'' => ?_⟩
    · rw [sb.2 b (fun h : b = T => hT (by rw [← h]; exact hb))]; exact e
    · refine hR s'' (Moved.trans W.gtrans ((hm.mono hsub).then_heap (Nat.le_succ _) fun b o hb e => ?_) hm'') hS''
      rw [sb.2 b (fun h : b = T => hb (by rw [h]; exact List.mem_cons_self))]; exact e
end
section
variable {P : Program} {w : World} {A : Around} {E : Value → Shared → Prop} {s : Shared}
abbrev freshO (w : World) : Obj := { cls := .type "set", dict := none, data := .set #[] 0 (.fresh 0 0 (!w.params.followText "set-order")) }
theorem setX_fresh {h : Heap} {a : Addr} (ho : h.get? a = some (freshO w)) : SetX P w h a (fun _ => false) 0 := by
  refine ⟨_, #[], 0, _, ho, ⟨rfl, rfl, rfl⟩, rfl, ⟨fun e he => by simp at he, by simp, fun k => by simp⟩, Nat.le_refl _, by decide, rfl, ?_, ?_⟩
  · show Ris [] ; exact List.Pairwise.nil
  · cases e : w.params.followText "set-order" with
    | true => exact .inl rfl
    | false => exact .inr rfl
set_option maxHeartbeats 3200000 in
theorem set_texts {l : Addr} {items : Array Value} (xs : List Str) {Q : Value → Shared → Prop} (hh : A.handled = none) (hl : s.heap.IsList l items) (hi : StrsAre items.toList xs) (hfew : xs.length + 1 < scanBound)
    (h : ∀ (h' : Heap) (tk : Nat), SetX P w h' s.heap.objs.size (fun j => xs.any (· == j)) xs.length → (∀ b o, s.heap.get? b = some o → h'.get? b = some o) → Q (.ref s.heap.objs.size) { s with heap := h', toks := tk }) :
    wpAny (model P w) A (call (.type "set") [.ref l]) Q E s := by
  have hisz : items.size = xs.length := by rw [← StrsAre.len_eq hi, Array.length_toList]
  obtain ⟨c, tl, hmro⟩ := F.called_set.mro
  have hmade := F.called_set.made
  have hsub := F.called_set.sub
  refine wpAny_call (codeAny_of_tree ?_)
  show wpAny _ _ (callAny (.type "set") _) _ _ _
  refine wpAny_pure ⟨Code.quiet_builtin _ (by decide +kernel), codeAny_builtin F.entry_type_call ?_⟩
  rw [Around.under_plain (weight_type_call_type "set" [.ref l] []) rfl]
  have h1 := F.called_set.notType
  have h2 := F.called_set.canCreate
  have hct := F.typeCall_set_1 (.ref l)
  repeat (any_goals (first | assumption | wp_step))
  refine codeAny_mono (code_set_led1 (.ref l) (E := E) (Q₁ := fun obj s₁ => obj = .ref s.heap.objs.size ∧ s₁ = { s with heap := s.heap.push (freshO w) }) ⟨rfl, rfl⟩) fun r s₁ hr => ?_
  cases r with
  | error e => exact hr
  | ok fl =>
    cases fl with
    | ret obj =>
      obtain ⟨rfl, rfl⟩ := hr
      have hS : (s.heap.push (freshO w)).get? s.heap.objs.size = some (freshO w) := Heap.get?_push_size _ rfl
      have hT : Shared.TypeIs { s with heap := s.heap.push (freshO w) } (.ref s.heap.objs.size) "set" := ⟨_, hS, rfl⟩
      have hli := F.called_set.init.lookup
      have hbi := F.called_set.init.bind (.ref s.heap.objs.size)
      repeat (any_goals (first | assumption | wp_step))
      refine codeAny_mono (codeAny_call_builtin (R := wants (fun r s₂ => r = .none ∧ ∃ h' tk, s₂ = { s with heap := h', toks := tk } ∧ SetX P w h' s.heap.objs.size (fun j => xs.any (· == j)) xs.length ∧
          (∀ b o, s.heap.get? b = some o → h'.get? b = some o)) E) F.called_set.init.plain F.entry_set_init (check_set_init_1 hT ?_)) fun r₂ s₂ hr₂ => ?_
      · obtain ⟨ol, hol, hcl, nl, hdl⟩ := hl
        obtain ⟨ocls, odict, odata, oslots⟩ := ol
        simp only at hcl hdl
        subst hcl; subst hdl
        have hol' : (s.heap.push (freshO w)).get? l = some { cls := .type "list", dict := odict, data := .seq items nl, slots := oslots } := Heap.get?_push_of_some _ hol
        have hsls := F.sub_list_set
        have hslf := F.sub_list_frozenset
        have hne : (Value.type "list" == Value.type "dict") = false := by decide
        have hl1 : (s.heap.push (freshO w)).IsList l items := ⟨_, hol', rfl, nl, rfl⟩
        unfold Builtin.«set.__init__» noKeywords Builtin.Frozenset.updateFrom
        generalize hPI : pyIter = PI
        wp_walk
        subst hPI
        refine wpAny_pyIter_list hl1 (wpAny_bind (wpAny_runValue ?_))
        have hlS : l < s.heap.objs.size := Heap.lt_size hol
        have hh3 : A.in1.in1.in1.handled = none := by simp [hh]
        have hneI : l ≠ (s.heap.push (freshO w)).objs.size := by
          rw [Heap.size_push]; exact Nat.ne_of_lt (Nat.lt_succ_of_lt hlS)
        have hSf : s.heap.objs.size ∉ [(s.heap.push (freshO w)).objs.size, l] := by
          rw [Heap.size_push]; simp only [List.mem_cons, List.mem_singleton, List.not_mem_nil, or_false, not_or]
          exact ⟨Nat.ne_of_lt (Nat.lt_succ_self _), Nat.ne_of_gt hlS⟩
        have hval : ∀ (i : Nat) (v : Value), items[i]? = some v → ∃ t, v = .str (xs.getD i Str.empty) t := fun i v hv => SS.strs_at hi i v (by rw [Array.getElem?_toList]; exact hv)
        refine grow_set (P := P) (w := w) ((Walks.list hh3 _ l hneI items).toS) s.heap.objs.size hSf xs hisz hfew hval (items.size - 0) 0 _ (by omega) (Nat.zero_le _)
          ⟨⟨_, Heap.get?_push_size _ rfl, rfl, rfl⟩, (hl1.push _)⟩ ?hS0 ?hR
        case hS0 => exact SetX.to (setX_fresh (Heap.get?_push_of_some _ hS)) fun _ => rfl
        case hR =>
          intro s' hm hS'
          obtain ⟨h', g2, d', tk', os'⟩ := s'
          have eg : g2 = s.gens := hm.gens
          have ed : d' = s.drawn := hm.drawn
          have eo : os' = s.os := hm.os
          subst eg; subst ed; subst eo
          show wpAny _ _ _ _ _ _
          refine wpAny_pure ?_
          show wpAny _ _ (ret Value.none) _ _ _
          rw [hisz, List.take_length] at hS'
          refine wpAny_pure ⟨rfl, h', tk', rfl, hS', fun b o e => ?_⟩
          have hb := Heap.lt_size e
          have hb1 : b ≠ s.heap.objs.size := Nat.ne_of_lt hb
          have hb2 : b ≠ (s.heap.push (freshO w)).objs.size := by
            rw [Heap.size_push]; exact Nat.ne_of_lt (Nat.lt_succ_of_lt hb)
          exact hm.heap b o (by simp only [List.mem_cons, List.mem_singleton, List.not_mem_nil, or_false, not_or]; exact ⟨hb1, hb2⟩) (Heap.get?_push_of_some _ (Heap.get?_push_of_some _ e))
      · cases r₂ with
        | error e => exact hr₂
        | ok fl₂ =>
          cases fl₂ with
          | ret r =>
            obtain ⟨rfl, h', tk, rfl, hS', hk'⟩ := hr₂
            repeat (any_goals (first | assumption | wp_step))
            exact h _ _ hS' hk'
          | _ => exact hr₂.elim
    | _ => exact hr.elim
theorem texts_of : ∀ (l : List Value), (∀ v ∈ l, ∃ k tk, v = Value.str k tk) → ∃ ss, StrsAre l ss ∧ ss = l.map fun v => match v with | .str x _ => x | _ => Str.empty
  | [], _ => ⟨[], .nil, rfl⟩
  | v :: l, h => by
    obtain ⟨k, tk, rfl⟩ := h v List.mem_cons_self
    obtain ⟨ss, h1, h2⟩ := texts_of l fun u hu => h u (List.mem_cons_of_mem _ hu)
    exact ⟨k :: ss, .cons k tk h1, by rw [h2]; rfl⟩
theorem sorted_texts {a : Addr} {S : Str → Bool} {n : Nat} {Q : Value → Shared → Prop} (R : SetX P w s.heap a S n) (hh : A.handled = none) (h64 : n < 64)
    (hQ : ∀ s' p (out : Array Value) (c : Nat) (ss : List Str), (∀ b o, s.heap.get? b = some o → s'.heap.get? b = some o) → s'.gens = s.gens → s'.os = s.os → s.heap.objs.size ≤ p →
      s'.heap.get? p = some (seqObj "list" out c) → StrsAre out.toList ss → sortedS ss = true → ss.Nodup → (∀ k, k ∈ ss ↔ S k = true) → ss.length ≤ n → Q (.ref p) s') :
    wpAny (model P w) A (call (.builtin "sorted") [.ref a]) Q E s := by
  obtain ⟨o, es, ep, t, ho, hex, hd, ⟨g, nd, hm⟩, hz, hb, hf, hr, hl⟩ := R
  refine Calls.call_function_entry kind_sorted plain_sorted entry_sorted (args_sorted1 _) ?_
  unfold Builtin.«sorted»
  refine wpAny_bind (m := checkCount "sorted" 1 1 _) (wpAny_pure ?_)
  refine wpAny_bind (collect_set (A := A.in1) hh ⟨o, ho, hex.1, hd⟩ hf hb hr hl fun s1 vs k1 hz1 g1 o1 pm => ?_)
  have hvl : vs.length = es.size := by rw [pm.length_eq, List.length_map, Array.length_toList]
  obtain ⟨ss0, hI, e0⟩ := texts_of vs fun v hv => by
    obtain ⟨e, he, q⟩ := List.mem_map.mp (pm.mem_iff.mp hv)
    obtain ⟨k, tk, h1, _⟩ := g e he
    exact ⟨k, tk, by rw [← q]; exact h1⟩
  have pk : ss0.Perm (es.toList.map keyS) := by
    rw [e0]
    have q := pm.map (fun v : Value => match v with | .str x _ => x | _ => Str.empty)
    rw [List.map_map] at q
    exact q
  refine wpAny_bind (wpAny_newList ?_ (by rw [hvl, sizeLine_eq]; omega))
  have hoL : (s1.heap.push (seqObj "list" vs.toArray 0)).get? s1.heap.objs.size = some (seqObj "list" vs.toArray 0) := Heap.get?_push_size _ rfl
  refine wpAny_bind (wpAny_holding (wpAny_call_entry slot_list_sort ⟨_, hoL, rfl⟩ entry_list_sort
    (list_sort_treeK strKind_oneLt hoL hI.keysOf (fun v₁ v₂ rest e => keyKind_strs (by rw [← e]; exact hI)) (by rw [hvl]; omega) fun st' hp hs => ⟨_, rfl, ?_⟩) (args_list_sort _)))
  obtain ⟨ss', a1, a2, a3⟩ := sorted_out_str hI hp hs
  obtain ⟨c, hc⟩ := sortedHeap_at (vs := vs) (out := (arrOf st').map (·.2)) hoL
  have pn : ss'.Perm (es.toList.map keyS) := a2.trans pk
  refine wpAny_pure ⟨_, rfl, hQ _ s1.heap.objs.size _ c ss' (fun b u e => ?_) g1 o1 hz1 hc a1 a3 (pn.nodup_iff.mpr nd) (fun k => by rw [pn.mem_iff, ← hm k]) ?_⟩
  · have q := k1 b u e
    have hlt := Heap.lt_size q
    show (sortedHeap (s1.heap.push (seqObj "list" vs.toArray 0)) s1.heap.objs.size vs _).get? b = some u
    rw [sortedHeap_old (Nat.ne_of_lt hlt) (by rw [size_push']; exact Nat.lt_succ_of_lt hlt)]
    exact Heap.get?_push_of_some _ q
  · rw [pn.length_eq, List.length_map, Array.length_toList]; exact hz
end
end TS2
namespace Mw
open PySem PySem.Spec PyProof.Rows L2
def leS (a b : Str) : Prop := ¬ b.cps.toList < a.cps.toList
instance (a b : Str) : Decidable (leS a b) := by unfold leS; exact inferInstance
theorem leS_trans {a b c : Str} (h : leS a b) (h' : leS b c) : leS a c := fun z => by
  unfold leS at h h'
  rw [List.not_lt] at h h'
  exact (List.not_lt.mpr (List.le_trans h h')) z
theorem leS_total (a b : Str) : leS a b ∨ leS b a := by
  unfold leS
  rw [List.not_lt, List.not_lt]
  exact List.le_total _ _
theorem leS_anti {a b : Str} (h : leS a b) (h' : leS b a) : a = b := by
  unfold leS at h h'
  rw [List.not_lt] at h h'
  have e := List.le_antisymm h h'
  cases a; cases b
  have := Array.ext' e
  simp at this
  rw [this]
def insS (x : Str) : List Str → List Str
  | [] => [x]
  | y :: r => if leS x y then x :: y :: r else y :: insS x r
def srtS : List Str → List Str
  | [] => []
  | x :: r => insS x (srtS r)
theorem ins_perm (x : Str) : ∀ l, (insS x l).Perm (x :: l)
  | [] => List.Perm.refl _
  | y :: r => by
    unfold insS
    split
    · exact List.Perm.refl _
    · exact ((ins_perm x r).cons y).trans (List.Perm.swap x y r)
theorem srt_perm : ∀ l, (srtS l).Perm l
  | [] => List.Perm.refl _
  | x :: r => (ins_perm x (srtS r)).trans ((srt_perm r).cons x)
theorem ins_pw (x : Str) : ∀ l : List Str, l.Pairwise leS → (insS x l).Pairwise leS
  | [], _ => List.pairwise_singleton _ _
  | y :: r, h => by
    obtain ⟨h1, h2⟩ := List.pairwise_cons.mp h
    unfold insS
    split
    · rename_i e
      refine List.pairwise_cons.mpr ⟨fun z hz => ?_, h⟩
      rcases List.mem_cons.mp hz with rfl | hz
      · exact e
      · exact leS_trans e (h1 z hz)
    · rename_i e
      refine List.pairwise_cons.mpr ⟨fun z hz => ?_, ins_pw x r h2⟩
      rcases List.mem_cons.mp ((ins_perm x r).mem_iff.mp hz) with rfl | hz
      · exact (leS_total z y).resolve_left e
      · exact h1 z hz
theorem srt_pw : ∀ l, (srtS l).Pairwise leS
  | [] => List.Pairwise.nil
  | x :: r => ins_pw x _ (srt_pw r)
theorem pw_uniq : ∀ {l l' : List Str}, l.Pairwise leS → l'.Pairwise leS → l.Perm l' → l = l'
  | [], l', _, _, p => (List.nil_perm.mp p).symm
  | x :: r, [], _, _, p => (List.perm_nil.mp p)
  | x :: r, y :: t, h, h', p => by
    obtain ⟨h1, h2⟩ := List.pairwise_cons.mp h
    obtain ⟨h3, h4⟩ := List.pairwise_cons.mp h'
    have e : x = y := by
      have hx : leS y x := by
        rcases List.mem_cons.mp (p.mem_iff.mp List.mem_cons_self) with e | e
        · rw [e]; exact (leS_total y y).elim id id
        · exact h3 x e
      have hy : leS x y := by
        rcases List.mem_cons.mp (p.mem_iff.mpr List.mem_cons_self) with e | e
        · rw [e]; exact (leS_total x x).elim id id
        · exact h1 y e
      exact leS_anti hy hx
    subst e
    rw [pw_uniq h2 h4 (List.perm_cons x |>.mp p)]
theorem rising_pw : ∀ (r : List Str) (p : Str), risingS p r = true → (p :: r).Pairwise leS
  | [], p, _ => List.pairwise_singleton _ _
  | x :: r, p, h => by
    unfold risingS at h
    rw [Bool.and_eq_true] at h
    have h2 := rising_pw r x h.2
    have hx : leS p x := by
      have := h.1
      rw [PyProof.Rows.ltCps_eq] at this
      simpa [leS] using this
    refine List.pairwise_cons.mpr ⟨fun z hz => ?_, h2⟩
    rcases List.mem_cons.mp hz with rfl | hz
    · exact hx
    · exact leS_trans hx ((List.pairwise_cons.mp h2).1 z hz)
theorem sorted_pw {l : List Str} (h : sortedS l = true) : l.Pairwise leS := by
  cases l with
  | nil => exact List.Pairwise.nil
  | cons x r => exact rising_pw r x h
theorem srt_of {l l' : List Str} (h : sortedS l = true) (p : l.Perm l') : l = srtS l' := pw_uniq (sorted_pw h) (srt_pw l') (p.trans (srt_perm l').symm)
def onceS : List Str → List Str
  | [] => []
  | x :: r => if x ∈ r then onceS r else x :: onceS r
theorem once_mem : ∀ (l : List Str) (k : Str), k ∈ onceS l ↔ k ∈ l
  | [], k => Iff.rfl
  | x :: r, k => by
    unfold onceS
    split
    · rename_i e
      rw [once_mem r k, List.mem_cons]
      exact ⟨.inr, fun h => h.elim (fun z => z ▸ e) id⟩
    · rw [List.mem_cons, List.mem_cons, once_mem r k]
theorem once_nodup : ∀ l : List Str, (onceS l).Nodup
  | [] => List.nodup_nil
  | x :: r => by
    unfold onceS
    split
    · exact once_nodup r
    · rename_i e
      exact List.nodup_cons.mpr ⟨fun h => e ((once_mem r x).mp h), once_nodup r⟩
def setS (l : List Str) : List Str := srtS (onceS l)
theorem set_of {l l' : List Str} (h : sortedS l = true) (nd : l.Nodup) (m : ∀ k, k ∈ l ↔ k ∈ l') : l = setS l' :=
  srt_of h ((List.perm_ext_iff_of_nodup nd (once_nodup l')).mpr fun k => (m k).trans (once_mem l' k).symm)
def SetXO (P : Program) (w : World) (a : Addr) (ss : List Str) : HO := .ext fun h => TS2.SetX P w h a (fun j => ss.any (· == j)) ss.length
theorem setXO_new {P : Program} {w : World} {H : Hp} {h : Heap} {a : Addr} {ss : List Str} (R : TS2.SetX P w h a (fun j => ss.any (· == j)) ss.length) : ObjOk P w H h a (SetXO P w a ss) := by
  have ⟨o, _, _, _, ho, _⟩ := R
  exact ⟨R, ⟨o, ho⟩, fun h1 h2 p k => TS2.SetX.keep p k⟩
section
variable {X : Cx} {K : PySem.W.Frag} {mg : Str → Option Value}
def rSetX (K : PySem.W.Frag) (P : Program) (w : World) : List V → Hp → VK → Prop := fun xs H Q => ∃ (l : Addr) (ss : List Str), xs = [V.ref l] ∧ SqL K H l (ss.map V.str) ∧ ss.length < 64 ∧ ∀ a, H a = none → Q (.ref a) (upd H a (SetXO P w a ss))
theorem cr_setX (hc : X.calm = true) : CallR X (.type "set") (rSetX X.K X.prog X.w) := by
  intro pins s σ H xs us Q I r h
  obtain ⟨l, ss, rfl, hl, h64, q⟩ := h
  rw [Vals.ref1 r]
  obtain ⟨its, rv, pl, hz⟩ := I.list hl
  refine TS2.set_texts (P := X.prog) (w := X.w) ss (I.ok.hd hc) pl.isList (by simpa using rv.strs) (Nat.lt_of_le_of_lt h64 (by decide)) fun h' tk R k => ?_
  exact ⟨.ref s.heap.objs.size, upd H s.heap.objs.size (SetXO X.prog X.w s.heap.objs.size ss), I.laid (t' := tk) k (Nat.le_refl _) (setXO_new R), rfl, q _ (I.hok.fresh (Nat.le_refl _))⟩
def rSortX (P : Program) (w : World) : List V → Hp → VK → Prop := fun vs H Q => ∃ (a : Addr) (ss : List Str), vs = [V.ref a] ∧ H a = some (SetXO P w a ss) ∧ ss.length < 64 ∧ ∀ p, H p = none → Q (.ref p) (upd H p (.lst ((setS ss).map V.str)))
theorem cr_sortX (hc : X.calm = true) : CallR X (.builtin "sorted") (rSortX X.prog X.w) := by
  intro pins s σ H vs us Q I r h
  obtain ⟨a, ss, rfl, ha, h64, q⟩ := h
  have R : TS2.SetX X.prog X.w s.heap a (fun j => ss.any (· == j)) ss.length := (I.hok a _ ha).1
  rw [Vals.ref1 r]
  refine TS2.sorted_texts R (I.ok.hd hc) h64 fun s' p out c ys k g o hp hg hi hs nd hm hl => ?_
  have e1 : ys = setS ss := set_of hs nd fun k => by rw [hm k, List.any_eq_true]; exact ⟨fun ⟨x, hx, e⟩ => (eq_of_beq e) ▸ hx, fun h => ⟨k, h, by simp⟩⟩
  subst e1
  have hlen : ((setS ss).map V.str).length ≤ sizeLine := by rw [List.length_map, sizeLine_eq]; omega
  have hn : H p = none := I.hok.fresh hp
  have J : Inv X pins σ (upd H p (.lst ((setS ss).map V.str))) { s with heap := s'.heap, gens := s'.gens, drawn := s'.drawn, toks := s'.toks } :=
    I.call (ch := []) (Un.laid k hp hn) (I.hok.laid k hp ⟨hlen, out.toList, c, vals_of_strs hi, hg⟩) (by rw [g]; exact I.bare) (fun _ z => nomatch z)
  have e : s' = { s with heap := s'.heap, gens := s'.gens, drawn := s'.drawn, toks := s'.toks } := by
    cases s'; cases s; cases o; rfl
  rw [e]
  exact ⟨.ref p, _, J, rfl, q p hn⟩
def gSortedSet : PV → Option PV
  | .lst xs => (strsP xs).bind fun ss => if ss.length < 64 then some (.lst ((setS ss).map .str)) else none
  | _ => none
theorem VRs.texts {W : Wd} {H : Hp} : ∀ ss : List Str, VRs K mg W H (ss.map PV.str) (ss.map V.str)
  | [] => VRs.nil
  | x :: r => VRs.cons VR.str (VRs.texts r)
theorem sN_sortedSet {a : Expr} {m : EM PV} {p p2 pos pos2 : Pos} (hg : Gl X "sorted") (hm : X.mg "sorted" = none) (hg2 : Gl X "set") (hm2 : X.mg "set" = none) (ha : SimP X a m) (hc : X.calm = true := by rfl)
    (na : starEach [a] X.env = (false, eval a X.env) :: starEach [] X.env := by rfl) (nb : starEach [.Call (.Name "set" p2) [a] [] pos2] X.env = (false, eval (.Call (.Name "set" p2) [a] [] pos2) X.env) :: starEach [] X.env := by rfl) :
    SimN X (.Call (.Name "sorted" p) [.Call (.Name "set" p2) [a] [] pos2] [] pos) (mUn gSortedSet m) :=
  weakE (pe_callB (cr_sortX hc) hg hm boot_sorted (pa_cons (pe_callTy (cr_setX hc) hg2 hm2 boot_set (sAP_cons ha sAP_nil na) (by decide) (by decide) na rfl) pa_nil nb) (by decide) (by decide) nb rfl) fun σ H Q ⟨ep, et, W, R, c, s, e, q⟩ => by
  refine ⟨ep, et, W, fun ps et1 => match ps with
    | [p] => ∃ z, gSortedSet (deref et1 p) = some z ∧ R z et1
    | _ => False, c, s, e, fun ps et1 r vs H1 W1 x1 c1 pk => ?_⟩
  match ps, r with
  | [p], r =>
    obtain ⟨z, hz, r⟩ := r
    obtain ⟨v, rfl, h⟩ := pk.one
    unfold gSortedSet at hz
    split at hz
    · rename_i xs e'
      cases es : strsP xs with
      | none => rw [es] at hz; cases hz
      | some ss =>
        rw [es, Option.bind_some] at hz
        split at hz
        · rename_i h64
          cases hz
          obtain ⟨a, vs, rfl, h1, h2⟩ := h.lst c1 e'
          have := h2.strsP es
          subst this
          refine ⟨a, ss, rfl, SqL.of h1, h64, fun b hb => ⟨b, ss, rfl, upd_same, h64, fun t ht => ?_⟩⟩
          have x2 : Ext NoO H1 et1 W1 (upd H1 b (SetXO X.prog X.w b ss)) et1 W1 := Ext.new hb W1 rfl (fun _ h => h) fun _ h => .inl h
          have c2 : Cel X.K X.mg (upd H1 b (SetXO X.prog X.w b ss)) et1 W1 := c1.new hb W1 rfl (fun _ h => h) fun _ h => .inl h
          obtain ⟨x3, c3, r3⟩ := new_own c2 ht (VRs.texts (K := X.K) (mg := X.mg) (W := W1) (H := upd H1 b (SetXO X.prog X.w b ss)) (setS ss))
          exact q _ et1 r _ _ W1 ((x1.NoO_trans x2).NoO_trans x3) c3 (early_N _ _ _ _ _ _ _ _ _ _ _ (x1.NoO_trans x2) r3)
        · cases hz
    · cases hz
def gSorted : List PV → Option PV
  | [.lst xs] => (strsP xs).bind fun ss => if ss.length < 64 then some (.lst ((srtS ss).map .str)) else none
  | _ => none
theorem cr_sortedA : CallR X (.builtin "sorted") (rSortedS X.K) := cr_sortedS
theorem oA_sorted : OpA K mg (rSortedS K) gSorted (pN K mg) := by
  intro xs H et W ps z Q c hp hz k
  unfold gSorted at hz
  split at hz
  · rename_i ys e
    obtain ⟨p, rfl, e'⟩ := map1 e
    obtain ⟨v, rfl, h⟩ := hp.one
    cases es : strsP ys with
    | none => rw [es] at hz; cases hz
    | some ss =>
      rw [es, Option.bind_some] at hz
      split at hz
      · rename_i h64
        cases hz
        obtain ⟨a, vs, rfl, h1, h2⟩ := h.lst c e'
        have := h2.strsP es
        subst this
        refine ⟨a, ss, rfl, SqL.of h1, h64, fun zs t pm hs ht => ?_⟩
        have := srt_of hs pm
        subst this
        obtain ⟨x1, c1, r1⟩ := new_own c ht (VRs.texts (K := K) (mg := mg) (W := W) (H := H) (srtS ss))
        exact k _ _ _ x1 c1 r1
      · cases hz
  · cases hz
end
end Mw
namespace Mw
open PySem PySem.Spec L2
def mDPutN (i : Nat) (me mk : EM PV) : SM := fun ep et R => ∃ ks, ep[i]? = some (.own (.dic ks)) ∧ me ep et fun v et1 => mk ep et1 fun k et2 => ∃ key, keyP (deref et2 k) = some key ∧ ks.length < sizeLine ∧ R .nx (ep.set i (.own (.dic (putP ks key v)))) et2
end Mw
namespace Mw
open PySem PySem.Spec L2
section
variable {K : PySem.W.Frag} {mg : Str → Option Value}
def potP (P : List Int → Prop) : Cell := .inv fun vs => ∃ is : List Int, vs = is.map V.int ∧ P is
def spDraw (P : List Int → Prop) : FSpec := fun args et R => ∃ (r : Nat) (m : Int), args = [.ref r, .int m] ∧ et[r]? = some (potP P) ∧ 0 < m ∧ m < 1073741824 ∧ ∀ d : Int, 0 ≤ d → d < m → R (.int d) et
mutual
def bel (n : Nat) : PV → Bool
  | .ref k => decide (k < n)
  | .tup xs => bels n xs
  | .lst xs => bels n xs
  | .dic ks => belk n ks
  | .dik ks => belk n ks
  | _ => true
def bels (n : Nat) : List PV → Bool
  | [] => true
  | x :: xs => bel n x && bels n xs
def belk (n : Nat) : List (Key × PV) → Bool
  | [] => true
  | (_, x) :: xs => bel n x && belk n xs
end
def belf (n : Nat) : List (Str × PV) → Bool
  | [] => true
  | (_, x) :: xs => bel n x && belf n xs
def beln (n : Nat) : List (PV × PV) → Bool
  | [] => true
  | (x, y) :: xs => bel n x && bel n y && beln n xs
def belC (n : Nat) : Cell → Prop
  | .lst xs => bels n xs = true
  | .dic ks => belk n ks = true
  | .ins _ fs => belf n fs = true
  | .potO k _ => k < n
  | .nd kvs => beln n kvs = true
  | .td _ kvs => beln n kvs = true
  | _ => True
section
variable {H : Hp} {W : Wd} {mu m : List Addr}
mutual
theorem VR.cut (hm : W.mu = mu ++ m) : ∀ (p : PV) (v : V), bel mu.length p = true → VR K mg W H p v → VR K mg ⟨W.fz, mu⟩ H p v
  | .non, v, _, h => by unfold VR at *; exact h
  | .bl b, v, _, h => by unfold VR at *; exact h
  | .int i, v, _, h => by unfold VR at *; exact h
  | .str z, v, _, h => by unfold VR at *; exact h
  | .tup xs, v, b, h => by
    unfold VR at *
    obtain ⟨a, vs, e, h1, h2⟩ := h
    exact ⟨a, vs, e, h1, VRs.cut_mu hm xs vs (by simpa [bel] using b) h2⟩
  | .lst xs, v, b, h => by
    unfold VR at *
    obtain ⟨a, vs, e, h1, h2, h3⟩ := h
    exact ⟨a, vs, e, h1, h2, VRs.cut_mu hm xs vs (by simpa [bel] using b) h3⟩
  | .dic ks, v, b, h => by
    unfold VR at *
    obtain ⟨a, vs, e, h1, h2, h3⟩ := h
    exact ⟨a, vs, e, h1, h2, VRk.cut_mu hm ks vs (by simpa [bel] using b) h3⟩
  | .scr ns, v, _, h => by unfold VR at *; exact h
  | .ref n, v, b, h => by
    unfold VR at *
    obtain ⟨a, e, h⟩ := h
    have hb : n < mu.length := by simpa [bel] using b
    refine ⟨a, e, ?_⟩
    rw [hm, List.getElem?_append_left hb] at h
    exact h
  | .glo z, v, _, h => by unfold VR at *; exact h
  | .ty t, v, _, h => by unfold VR at *; exact h
  | .dik ks, v, b, h => by
    unfold VR at *
    obtain ⟨a, o, vs, e, h2, h3⟩ := h
    exact ⟨a, o, vs, e, h2, VRk.cut_mu hm ks vs (by simpa [bel] using b) h3⟩
theorem VRs.cut_mu (hm : W.mu = mu ++ m) : ∀ (p : List PV) (v : List V), bels mu.length p = true → VRs K mg W H p v → VRs K mg ⟨W.fz, mu⟩ H p v
  | [], v, _, h => by unfold VRs at *; exact h
  | p :: ps, vs, b, h => by
    unfold VRs at *
    obtain ⟨v, r, e, h1, h2⟩ := h
    simp only [bels, Bool.and_eq_true] at b
    exact ⟨v, r, e, VR.cut hm p v b.1 h1, VRs.cut_mu hm ps r b.2 h2⟩
theorem VRk.cut_mu (hm : W.mu = mu ++ m) : ∀ (p : List (Key × PV)) (v : List (Key × V)), belk mu.length p = true → VRk K mg W H p v → VRk K mg ⟨W.fz, mu⟩ H p v
  | [], v, _, h => by unfold VRk at *; exact h
  | (k, p) :: ps, vs, b, h => by
    unfold VRk at *
    obtain ⟨v, r, e, h1, h2⟩ := h
    simp only [belk, Bool.and_eq_true] at b
    exact ⟨v, r, e, VR.cut hm p v b.1 h1, VRk.cut_mu hm ps r b.2 h2⟩
end
theorem VRf.cut_mu (hm : W.mu = mu ++ m) : ∀ (p : List (Str × PV)) (v : List (Str × V)), belf mu.length p = true → VRf K mg W H p v → VRf K mg ⟨W.fz, mu⟩ H p v
  | [], v, _, h => by unfold VRf at *; exact h
  | (k, p) :: ps, vs, b, h => by
    unfold VRf at *
    obtain ⟨v, r, e, h1, h2⟩ := h
    simp only [belf, Bool.and_eq_true] at b
    exact ⟨v, r, e, VR.cut hm p v b.1 h1, VRf.cut_mu hm ps r b.2 h2⟩
end
theorem VRn.cut_mu {H : Hp} {W : Wd} {mu m : List Addr} (hm : W.mu = mu ++ m) : ∀ (p : List (PV × PV)) (v : List (NestedKey × Addr × V)), beln mu.length p = true → VRn K mg W H p v → VRn K mg ⟨W.fz, mu⟩ H p v
  | [], v, _, h => by unfold VRn at *; exact h
  | (p, q) :: ps, vs, b, h => by
    unfold VRn at *
    obtain ⟨k, a, v, r, e, h1, h2, h3, h4, h5, h6⟩ := h
    simp only [beln, Bool.and_eq_true] at b
    exact ⟨k, a, v, r, e, h1, h2, h3, VR.cut hm p _ b.1.1 h4, VR.cut hm q v b.1.2 h5, VRn.cut_mu hm ps r b.2 h6⟩
theorem VRt.cut_mu {H : Hp} {W : Wd} {mu m : List Addr} (hm : W.mu = mu ++ m) : ∀ (p : List (PV × PV)) (v : List (NestedKey × Addr × V)), beln mu.length p = true → VRt K mg W H p v → VRt K mg ⟨W.fz, mu⟩ H p v
  | [], v, _, h => by unfold VRt at *; exact h
  | (p, q) :: ps, vs, b, h => by
    unfold VRt at *
    obtain ⟨k, a, v, r, e, h1, h3, h4, h5, h6⟩ := h
    simp only [beln, Bool.and_eq_true] at b
    exact ⟨k, a, v, r, e, h1, h3, VR.cut hm p _ b.1.1 h4, VR.cut hm q v b.1.2 h5, VRt.cut_mu hm ps r b.2 h6⟩
theorem gc {H H' : Hp} {et junk : Hi} {W W' : Wd} (x : Ext NoO H et W H' (et ++ junk) W') (c : Cel K mg H et W) (c' : Cel K mg H' (et ++ junk) W') (hb : ∀ d ∈ et, belC et.length d) :
    ∃ W'', Ext NoO H et W H' et W'' ∧ Cel K mg H' et W'' ∧ ∀ p v, bel et.length p = true → VR K mg W' H' p v → VR K mg W'' H' p v := by
  obtain ⟨m, hm⟩ := x.mu
  have hlen := c.len
  have up : ∀ a, Live et ⟨W'.fz, W.mu⟩ a → Live (et ++ junk) W' a := fun a ⟨i, d, h1, h2, h3⟩ => by
    have hi := (List.getElem?_eq_some_iff.mp h1).1
    exact ⟨i, d, by rw [List.getElem?_append_left hi]; exact h1, h2, by rw [hm, List.getElem?_append_left (by omega)]; exact h3⟩
  refine ⟨⟨W'.fz, W.mu⟩, ⟨x.fz, x.nfz, ⟨[], by simp⟩, fun a h => x.live a (up a h), x.keep, x.there⟩, ⟨hlen, fun i d a h1 h2 => ?_, fun i j d e a h1 h2 h3 h4 h5 h6 => ?_, fun a h z => c'.fzl a h (up a z), c'.fzh⟩, fun p v b h => VR.cut hm p v (by rw [← hlen]; exact b) h⟩
  · have hi := (List.getElem?_eq_some_iff.mp h1).1
    have k := c'.ok i d a (by rw [List.getElem?_append_left hi]; exact h1) (by rw [hm, List.getElem?_append_left (by omega)]; exact h2)
    have b := hb d (List.mem_of_getElem? h1)
    cases d with
    | dead => trivial
    | lst xs => obtain ⟨vs, k1, k2⟩ := k; exact ⟨vs, k1, VRs.cut_mu hm _ _ (by rw [← hlen]; exact b) k2⟩
    | dic xs => obtain ⟨vs, k1, k2⟩ := k; exact ⟨vs, k1, VRk.cut_mu hm _ _ (by rw [← hlen]; exact b) k2⟩
    | ins n fs => obtain ⟨C, dx, gs, k0, k1, k2⟩ := k; exact ⟨C, dx, gs, k0, k1, VRf.cut_mu hm _ _ (by rw [← hlen]; exact b) k2⟩
    | potO k' n =>
      obtain ⟨b', sd, ct, k0, k1⟩ := k
      have hk : k' < et.length := b
      exact ⟨b', sd, ct, by rw [hm, List.getElem?_append_left (by omega)] at k0; exact k0, k1⟩
    | potI => exact k
    | inv P => exact k
    | exc _ _ => exact k
    | nd kvs => exact k.imp_right fun ⟨es, k1, k2⟩ => ⟨es, k1, VRn.cut_mu hm _ _ (by rw [← hlen]; exact b) k2⟩
    | td hs kvs => exact k.imp_right fun ⟨es, k1, k2⟩ => ⟨es, k1, VRt.cut_mu hm _ _ (by rw [← hlen]; exact b) k2⟩
  · have hi := (List.getElem?_eq_some_iff.mp h1).1
    have hj := (List.getElem?_eq_some_iff.mp h2).1
    exact c'.inj i j d e a (by rw [List.getElem?_append_left hi]; exact h1) (by rw [List.getElem?_append_left hj]; exact h2) h3 h4 (by rw [hm, List.getElem?_append_left (by omega)]; exact h5) (by rw [hm, List.getElem?_append_left (by omega)]; exact h6)
theorem gc_imp {n : Nat} {sp sp' : FSpec} {vs : List V} {H : Hp} {Q : VK} {E : XK} (h : FS K mg n sp' vs H Q E)
    (g : ∀ args et R, sp' args et R → (∀ d ∈ et, belC et.length d) ∧ sp args et fun p et' => ∃ junk, et' = et ++ junk ∧ bel et.length p = true ∧ R p et) : FS K mg n sp vs H Q E := by
  obtain ⟨hl, et, W, args, R, c, va, h, q⟩ := h
  obtain ⟨hb, h⟩ := g args et R h
  refine ⟨hl, et, W, args, _, c, va, h, ?_⟩
  rintro p et' ⟨junk, rfl, hp, hR⟩ v H' W' x' c' v'
  obtain ⟨W2, x2, c2, r2⟩ := gc x' c c' hb
  exact q p et hR v H' W2 x2 c2 (r2 p v hp v')
end
end Mw
namespace Mw
open PySem PySem.Spec L2
def putFP (f : Str) (p : PV) : List (Str × PV) → List (Str × PV)
  | [] => [(f, p)]
  | (g, x) :: r => if g = f then (g, p) :: r else (g, x) :: putFP f p r
section
variable {K : PySem.W.Frag} {mg : Str → Option Value} {H : Hp} {et : Hi} {W : Wd}
theorem VRf.len : ∀ {fs : List (Str × PV)} {gs : List (Str × V)}, VRf K mg W H fs gs → fs.length = gs.length
  | [], gs, h => by unfold VRf at h; rw [h]; rfl
  | (k, p) :: fs, gs, h => by
    unfold VRf at h
    obtain ⟨v, r, rfl, _, h2⟩ := h
    rw [List.length_cons, List.length_cons, VRf.len h2]
theorem VRf.get {f : Str} {p : PV} : ∀ {fs : List (Str × PV)} {gs : List (Str × V)}, VRf K mg W H fs gs → fs.lookup f = some p → ∃ v, gs.lookup f = some v ∧ VR K mg W H p v
  | [], gs, h, e => by cases e
  | (k, q) :: fs, gs, h, e => by
    unfold VRf at h
    obtain ⟨v, r, rfl, h1, h2⟩ := h
    by_cases hk : (f == k) = true
    · simp only [List.lookup, hk] at e ⊢
      cases e
      exact ⟨v, rfl, h1⟩
    · have hk' : (f == k) = false := by simpa using hk
      simp only [List.lookup, hk'] at e ⊢
      exact VRf.get h2 e
theorem VRf.put {f : Str} {p : PV} {v : V} (hv : VR K mg W H p v) : ∀ {fs : List (Str × PV)} {gs : List (Str × V)}, VRf K mg W H fs gs → VRf K mg W H (putFP f p fs) (putF f v gs)
  | [], gs, h => by
    unfold VRf at h; subst h
    unfold putFP putF VRf
    exact ⟨v, [], rfl, hv, by unfold VRf; rfl⟩
  | (k, q) :: fs, gs, h => by
    unfold VRf at h
    obtain ⟨u, r, rfl, h1, h2⟩ := h
    unfold putFP putF
    by_cases hk : k = f
    · rw [if_pos hk, if_pos hk]; unfold VRf; exact ⟨v, r, rfl, hv, h2⟩
    · rw [if_neg hk, if_neg hk]; unfold VRf; exact ⟨u, _, rfl, h1, VRf.put hv h2⟩
theorem Cel.push (c : Cel K mg H et W) {a : Addr} {d : Cell} (hf : ¬ W.fz a) (hl : ¬ Live et W a) (ho : CellOk K mg ⟨W.fz, W.mu ++ [a]⟩ H d a) :
    Cel K mg H (et ++ [d]) ⟨W.fz, W.mu ++ [a]⟩ ∧ (∀ b, Live (et ++ [d]) ⟨W.fz, W.mu ++ [a]⟩ b → Live et W b ∨ b = a) ∧ VR K mg ⟨W.fz, W.mu ++ [a]⟩ H (.ref et.length) (.ref a) ∧ (∀ q v, VR K mg W H q v → VR K mg ⟨W.fz, W.mu ++ [a]⟩ H q v) := by
  have hlen := c.len
  have x0 : Ext NoO H et W H et ⟨W.fz, W.mu ++ [a]⟩ := ⟨fun _ h => h, fun _ h => .inl h, ⟨[a], rfl⟩, fun b ⟨i, e, g1, g2, g3⟩ => by
    have g3' : (W.mu ++ [a])[i]? = some b := g3
    have : i < et.length := (List.getElem?_eq_some_iff.mp g1).1
    rw [List.getElem?_append_left (by omega)] at g3'
    exact .inl ⟨i, e, g1, g2, g3'⟩, fun _ _ h _ _ => h, fun _ h => h⟩
  have low : ∀ {k : Nat} {u : Cell} {b : Addr}, (et ++ [d])[k]? = some u → (W.mu ++ [a])[k]? = some b → (k < et.length ∧ et[k]? = some u ∧ W.mu[k]? = some b) ∨ (k = et.length ∧ u = d ∧ b = a) := fun {k u b} g1 g3 => by
    by_cases hk : k < et.length
    · rw [List.getElem?_append_left hk] at g1
      rw [List.getElem?_append_left (by omega)] at g3
      exact .inl ⟨hk, g1, g3⟩
    · have hk2 : k = et.length := by
        have := (List.getElem?_eq_some_iff.mp g1).1
        rw [List.length_append, List.length_singleton] at this
        omega
      subst hk2
      rw [List.getElem?_append_right (Nat.le_refl _)] at g1
      rw [hlen, List.getElem?_append_right (Nat.le_refl _)] at g3
      simp at g1 g3
      exact .inr ⟨rfl, g1.symm, g3.symm⟩
  have hlv : ∀ b, Live (et ++ [d]) ⟨W.fz, W.mu ++ [a]⟩ b → Live et W b ∨ b = a := fun b ⟨j, u, h1, h2, h3⟩ => by
    rcases low h1 h3 with ⟨_, a2, a3⟩ | ⟨_, _, e⟩
    · exact .inl ⟨j, u, a2, h2, a3⟩
    · exact .inr e
  refine ⟨⟨by show (et ++ [d]).length = (W.mu ++ [a]).length; simp [hlen], fun j u b h1 h2 => ?_, fun i j u w b h1 h2 h3 h4 h5 h6 => ?_, fun b h z => ?_, c.fzh⟩, hlv, ?_, fun q v h => VR.ext x0 c.stays0 q v h⟩
  · rcases low h1 h2 with ⟨_, a2, a3⟩ | ⟨_, rfl, rfl⟩
    · exact CellOk.ext x0 c.stays0 (c.ok j u b a2 a3) fun _ => rfl
    · exact ho
  · rcases low h1 h5 with ⟨a1, a2, a3⟩ | ⟨a1, _, a4⟩
    · rcases low h2 h6 with ⟨b1, b2, b3⟩ | ⟨b1, _, b4⟩
      · exact c.inj i j u w b a2 b2 h3 h4 a3 b3
      · subst b4; exact absurd ⟨i, u, a2, h3, a3⟩ hl
    · rcases low h2 h6 with ⟨b1, b2, b3⟩ | ⟨b1, _, b4⟩
      · subst a4; exact absurd ⟨j, w, b2, h4, b3⟩ hl
      · omega
  · rcases hlv b z with z | rfl
    · exact c.fzl b h z
    · exact hf h
  · unfold VR
    exact ⟨a, rfl, by show (W.mu ++ [a])[et.length]? = some a; rw [hlen]; simp⟩
end
section
variable {X : Cx} {o e : Expr} {es : List Expr} {mo mv : EM PV} {ms : EM (List PV)} {pos pos' apos : Pos} {f : Str} {cs : List Str}
def mFld (cs : List Str) (f : Str) (mo : EM PV) : EM PV := fun ep et R => mo ep et fun q et1 => ∃ n c fs p, q = .ref n ∧ et1[n]? = some (.ins c fs) ∧ c ∈ cs ∧ fs.lookup f = some p ∧ R p et1
def mFldSet (cs : List Str) (f : Str) (mv mo : EM PV) : SM := fun ep et R => mv ep et fun v et1 => mo ep et1 fun q et2 => ∃ n c fs, q = .ref n ∧ et2[n]? = some (.ins c fs) ∧ c ∈ cs ∧ fs.length < 1000 ∧ R .nx ep (et2.set n (.ins c (putFP f v fs)))
def mFldAug (cs : List Str) (f : Str) (g : Int → Int → Int) (mo mv : EM PV) : SM := fun ep et R => mo ep et fun q et1 => ∃ n c fs a, q = .ref n ∧ et1[n]? = some (.ins c fs) ∧ c ∈ cs ∧ fs.lookup f = some (.int a) ∧
  mv ep et1 fun p et2 => ∃ b fs', p = .int b ∧ et2[n]? = some (.ins c fs') ∧ fs'.length < 1000 ∧ R .nx ep (et2.set n (.ins c (putFP f (.int (g a b)) fs')))
def mObj (c m : Str) (k : Nat) (sp : FSpec) (mo : EM PV) (ms : EM (List PV)) : EM PV := fun ep et R => mo ep et fun q et1 => ∃ n fs, q = .ref n ∧ et1[n]? = some (.ins c fs) ∧ fs.lookup m = none ∧ ms ep et1 fun as et2 => as.length + 1 = k ∧ sp (.ref n :: as) et2 R
section
variable {c m : Str} {C fa : Addr} {fd : FuncData} {ps : List Str} {k n : Nat} {sp : FSpec}
def mNew (c : Str) (k : Nat) (sp : FSpec) (ms : EM (List PV)) : EM PV := fun ep et R => ms ep et fun as et1 => as.length + 1 = k ∧ sp (.ref et1.length :: as) (et1 ++ [.ins c []]) fun v et2 => v = .non ∧ R (.ref et1.length) et2
end
end
end Mw
namespace TS3
open PySem PySem.Spec PyProof.Rows L2 SrtO Srt Mw
end TS3
namespace Mw
open PySem PySem.Spec L2
section
variable {X : Cx} {K : PySem.W.Frag} {mg : Str → Option Value}
def keyT : PV → Option Str
  | .tup (.str x :: _) => some x
  | _ => none
def mSortedT (m : EM PV) : EM PV := fun ep et R => m ep et fun p et1 => ∃ (ps : List PV) (ks : List Str), deref et1 p = .lst ps ∧ ps.map keyT = ks.map some ∧ ks.Nodup ∧
  ∀ (qs : List PV) (ks' : List Str), qs.Perm ps → qs.map keyT = ks'.map some → ks'.Pairwise leS → R (.lst qs) et1
theorem VRs.perm {W : Wd} {H : Hp} {vs ws : List V} (h : ws.Perm vs) : ∀ {ps : List PV}, VRs K mg W H ps vs → ∃ qs, qs.Perm ps ∧ VRs K mg W H qs ws := by
  induction h with
  | nil => exact fun {ps} h => ⟨ps, .refl _, h⟩
  | cons x _ ih =>
    intro ps hp
    cases ps with
    | nil => unfold VRs at hp; cases hp
    | cons p ps =>
      unfold VRs at hp
      obtain ⟨v, r, e, h1, h2⟩ := hp
      cases e
      obtain ⟨qs, g1, g2⟩ := ih h2
      exact ⟨p :: qs, g1.cons p, VRs.cons h1 g2⟩
  | swap x y l =>
    intro ps hp
    cases ps with
    | nil => unfold VRs at hp; cases hp
    | cons p ps =>
      unfold VRs at hp
      obtain ⟨v, r, e, h1, h2⟩ := hp
      cases e
      cases ps with
      | nil => unfold VRs at h2; cases h2
      | cons q ps =>
        unfold VRs at h2
        obtain ⟨v, r, e, h3, h4⟩ := h2
        cases e
        exact ⟨q :: p :: ps, .swap p q ps, VRs.cons h3 (VRs.cons h1 h4)⟩
  | trans _ _ ih1 ih2 =>
    intro ps hp
    obtain ⟨qs, g1, g2⟩ := ih2 hp
    obtain ⟨rs, g3, g4⟩ := ih1 g2
    exact ⟨rs, g3.trans g1, g4⟩
end
end Mw
namespace Mw
open PySem PySem.Spec PyProof.Rows L2
section
variable {X : Cx}
def mAugSub (g : Int → Int → Int) (mo mi me : EM PV) : SM := fun ep et R => mo ep et fun q et1 => mi ep et1 fun k et2 => ∃ n xs i a, q = .ref n ∧ et2[n]? = some (.lst xs) ∧ k = .int i ∧ atI xs i = some (.int a) ∧
  me ep et2 fun p et3 => ∃ b ys j, p = .int b ∧ et3[n]? = some (.lst ys) ∧ ixN ys.length i = some j ∧ R .nx ep (et3.set n (.lst (ys.set j (.int (g a b)))))
end
theorem tuple_mul0 (l : Addr) (items : Array Value) (n : Nat) (dd : Option Addr) (sl : Array (Option Value)) (u : Tok) (c1 : items.isEmpty = false) :
    Meets (Builtin.«tuple.__mul__» ⟨[.ref l, .int 0 u], []⟩) (fun _ R s => s.heap.get? l = some { cls := .type "tuple", dict := dd, data := .seq items n, slots := sl } ∧
      R (.ok (.ret (Value.ref s.heap.objs.size))) { s with heap := s.heap.push { cls := Value.type "tuple", data := Data.seq #[] }, toks := s.toks }) :=
  .of_wp fun prog w A R s h => by
    obtain ⟨hp, g, d, tk, os⟩ := s
    obtain ⟨hl, h⟩ := h
    have f1 := AutoSeq1.idx_int
    have e1 : (items.isEmpty || (0 : Int) == 1) = false := by rw [c1]; rfl
    wp_walk using wpAny_loadPart' hl
    repeat (first
      | (refine wpAny_ite_false (decide_eq_false (by decide)) ?_; wp_walk using wpAny_loadPart' hl)
      | (refine wpAny_ite_false (decide_eq_false (by rw [e1]; exact Bool.false_ne_true)) ?_; wp_walk using wpAny_loadPart' hl)
      | (refine wpAny_ite_true (decide_eq_true (by rfl)) ?_; wp_walk using wpAny_loadPart' hl))
    exact ⟨_, rfl, h⟩
theorem tuple_mul1 (l : Addr) (items : Array Value) (n : Nat) (dd : Option Addr) (sl : Array (Option Value)) (u : Tok) :
    Meets (Builtin.«tuple.__mul__» ⟨[.ref l, .int 1 u], []⟩) (fun _ R s => s.heap.get? l = some { cls := .type "tuple", dict := dd, data := .seq items n, slots := sl } ∧
      R (.ok (.ret (Value.ref l))) s) :=
  .of_wp fun prog w A R s h => by
    obtain ⟨hp, g, d, tk, os⟩ := s
    obtain ⟨hl, h⟩ := h
    have f1 := AutoSeq1.idx_int
    have e1 : (items.isEmpty || (1 : Int) == 1) = true := by simp
    wp_walk using wpAny_loadPart' hl
    exact ⟨_, rfl, h⟩
def rRepTA (K : PySem.W.Frag) : R2 := fun x y H Q => ∃ l k xs, x = .ref l ∧ y = .int k ∧ SqT K H l xs ∧ xs ≠ [] ∧ 0 ≤ k ∧ k ≤ 1000 ∧ xs.length ≤ 1000 ∧ (k = 1 → Q (.ref l) H) ∧ (k ≠ 1 → ∀ p o, H p = none → XTup o → Q (.ref p) (upd H p (.frz o (.tup (List.replicate k.toNat xs).flatten))))
theorem op_repTA {X : Cx} : OpR X (binaryOp .Mult) (rRepTA X.K) := by
  intro pins s σ H x y v u Q I rx ry h
  obtain ⟨l, k, xs, rfl, rfl, hT, hne, h1, h2, hz, q1, q2⟩ := h
  cases rx
  obtain ⟨t, rfl⟩ := ry
  obtain ⟨its, r, ⟨⟨cls, dd, data, sl⟩, ho, hc, n, hd⟩, hs⟩ := I.tuple hT
  simp only at hc hd
  subst hc hd
  have hle : its.length = xs.length := r.length.symm
  have hn : its ≠ [] := fun e => hne (by
    rw [e] at hle
    exact List.eq_nil_of_length_eq_zero hle.symm)
  have hi : its.toArray.isEmpty = false := by
    cases its with
    | nil => exact absurd rfl hn
    | cons a b => rfl
  by_cases hk : 2 ≤ k
  · have hsz0 : its.toArray.size = xs.length := by rw [List.size_toArray, hle]
    have flen : (List.replicate k.toNat its).flatten.length ≤ sizeLine := by
      rw [PyProof.Rows.lm_len_rep_flat, hle, sizeLine_eq]
      have a1 : k.toNat * xs.length ≤ 1000 * 1000 := Nat.mul_le_mul (by omega) hz
      omega
    have hm : ((its.toArray.size : Nat) : Int) * k ≤ 1000000 := by
      rw [hsz0]
      have a1 : ((xs.length : Nat) : Int) * k ≤ 1000 * k := Int.mul_le_mul_of_nonneg_right (by omega) (by omega)
      omega
    have c0 : (decide (k < -(2 ^ 63)) || decide (k ≥ 2 ^ 63)) = false := by rw [decide_eq_false (by omega), decide_eq_false (by omega)] <;> rfl
    have c1 : (its.toArray.isEmpty || k == 1) = false := by rw [hi, Bool.false_or]; exact beq_eq_false_iff_ne.mpr (by omega)
    have c2 : (decide (k ≤ 0) || its.toArray.isEmpty) = false := by rw [hi, Bool.or_false]; exact decide_eq_false (by omega)
    have c4 : Builtin.Tuple.tupleTooMany (((its.toArray.size : Nat) : Int) * k) = false := by unfold Builtin.Tuple.tupleTooMany; rw [sizeLine_eq]; exact decide_eq_false (by omega)
    refine wpAny_binaryOp_repeat_ref (T := "tuple") (U := "int") (by decide) ⟨_, ho, rfl⟩ (fun s' => typeIs_int s' k t) noFill_tuple_mul F.fills_int_mul F.slot_int_rmul repeat_tuple F.slot_int_index.lookup
      (call_meets F.slot_int_rmul (typeIs_int s k t) F.entry_int_rmul (F.args_int_rmul_2 _ _) (int_rmul_tuple k t l its.toArray n dd sl)
        ⟨ho, rfl, ⟨_, ho, rfl⟩, call_meets F.slot_tuple_mul ⟨_, ho, rfl⟩ F.entry_tuple_mul (F.args_tuple_mul_2 _ _) (tuple_mulW l its.toArray n dd sl k t c0 c1 c2 (by omega) c4 (by rw [size_rep, List.size_toArray]; exact flen)) ⟨ho, ?_⟩⟩)
    rw [size_rep]
    obtain ⟨o, hx, hg⟩ := tup_push s.heap (List.replicate k.toNat its).flatten.toArray
    refine ⟨.ref s.heap.objs.size, _, I.laid (t' := s.toks) (o := .frz o (.tup (List.replicate k.toNat xs).flatten)) (fun b ob q => Heap.get?_push_of_some _ q) (Nat.le_refl _) ?_, rfl, q2 (by omega) _ o (I.hok.fresh (Nat.le_refl _)) hx⟩
    exact ⟨hg, by rw [PyProof.Rows.lm_len_rep_flat, sizeLine_eq]; have a1 : k.toNat * xs.length ≤ 1000 * 1000 := Nat.mul_le_mul (by omega) hz; omega, _, r.rep k.toNat, IsTup.new _ _⟩
  rcases (show k = 0 ∨ k = 1 by omega) with rfl | rfl
  · refine wpAny_binaryOp_repeat_ref (T := "tuple") (U := "int") (by decide) ⟨_, ho, rfl⟩ (fun s' => typeIs_int s' 0 t) noFill_tuple_mul F.fills_int_mul F.slot_int_rmul repeat_tuple F.slot_int_index.lookup
      (call_meets F.slot_int_rmul (typeIs_int s 0 t) F.entry_int_rmul (F.args_int_rmul_2 _ _) (int_rmul_tuple 0 t l its.toArray n dd sl)
        ⟨ho, rfl, ⟨_, ho, rfl⟩, call_meets F.slot_tuple_mul ⟨_, ho, rfl⟩ F.entry_tuple_mul (F.args_tuple_mul_2 _ _) (tuple_mul0 l its.toArray n dd sl t hi) ⟨ho, ?_⟩⟩)
    obtain ⟨o, hx, hg⟩ := tup_push s.heap #[]
    refine ⟨.ref s.heap.objs.size, _, I.laid (t' := s.toks) (o := .frz o (.tup [])) (fun b ob q => Heap.get?_push_of_some _ q) (Nat.le_refl _) ?_, rfl, q2 (by decide) _ o (I.hok.fresh (Nat.le_refl _)) hx⟩
    exact ⟨hg, Nat.zero_le _, [], .nil, IsTup.new _ _⟩
  · refine wpAny_binaryOp_repeat_ref (T := "tuple") (U := "int") (by decide) ⟨_, ho, rfl⟩ (fun s' => typeIs_int s' 1 t) noFill_tuple_mul F.fills_int_mul F.slot_int_rmul repeat_tuple F.slot_int_index.lookup
      (call_meets F.slot_int_rmul (typeIs_int s 1 t) F.entry_int_rmul (F.args_int_rmul_2 _ _) (int_rmul_tuple 1 t l its.toArray n dd sl)
        ⟨ho, rfl, ⟨_, ho, rfl⟩, call_meets F.slot_tuple_mul ⟨_, ho, rfl⟩ F.entry_tuple_mul (F.args_tuple_mul_2 _ _) (tuple_mul1 l its.toArray n dd sl t) ⟨ho, ?_⟩⟩)
    exact ⟨.ref l, H, I, rfl, q1 rfl⟩
def gRepT : PV → PV → Option PV
  | .tup xs, .int k => if xs.isEmpty = false ∧ 0 ≤ k ∧ k ≤ 1000 ∧ xs.length ≤ 1000 then some (.tup (List.replicate k.toNat xs).flatten) else none
  | _, _ => none
section
variable {K : PySem.W.Frag} {mg : Str → Option Value}
theorem o2_repT : Op2 K mg (rRepTA K) gRepT (pV K mg) := by
  intro x y H et W p q z Q c hp hq h k
  unfold gRepT at h
  split at h
  · rename_i xs i e1 e2
    split at h
    · rename_i hc
      cases h
      obtain ⟨a, vs, rfl, h1, h2⟩ := hp.tup e1
      have ey := hq.int e2
      subst ey
      have hl := h2.len
      refine ⟨a, i, vs, rfl, rfl, h1, fun e => ?_, hc.2.1, hc.2.2.1, by rw [← hl]; exact hc.2.2.2, fun e => ?_, fun _ t o ht ho => ?_⟩
      · have : xs = [] := (VRs.empty_iff h2).mp e
        rw [this] at hc; exact absurd hc.1 (by simp)
      · subst e
        refine k _ _ _ (Ext.refl _ _ _ _) c ?_
        show VR K mg W H (.tup (List.replicate (1 : Int).toNat xs).flatten) (.ref a)
        rw [show (List.replicate (1 : Int).toNat xs).flatten = xs by simp]
        unfold VR
        exact ⟨a, vs, rfl, h1, h2⟩
      · obtain ⟨x1, c1, r1⟩ := new_tup c ht ho (h2.rep i.toNat)
        exact k _ _ _ x1 c1 r1
    · cases h
  · cases h
end
theorem atI_c3 {α : Type} (x y z u : α) (xs : List α) : atI (x :: y :: z :: u :: xs) 3 = some u := by
  unfold atI ixN; simp
  rw [if_pos (by omega)]; rfl
theorem atI_c4 {α : Type} (x y z u v : α) (xs : List α) : atI (x :: y :: z :: u :: v :: xs) 4 = some v := by
  unfold atI ixN; simp
  rw [if_pos (by omega)]; rfl
end Mw
namespace HT
open PySem PySem.Spec PyProof.Rows L2
end HT
namespace Mw
open PySem PySem.Spec PyProof.Rows L2
end Mw
namespace Mw
open PySem PySem.Spec PyProof.Rows L2
def keysZ : List PV → Option (List Key)
  | [] => some []
  | p :: r => (keyP p).bind fun k => (keysZ r).map fun ks => k :: ks
def gDictZip : List PV → Option PV
  | [.lst xs, .lst ys] => (keysZ xs).map fun ks => .dic (mergeP [] (ks.zip ys))
  | _ => none
section
variable {K : PySem.W.Frag} {mg : Str → Option Value} {W : Wd} {H : Hp}
theorem VRs.keys : ∀ {xs : List PV} {vs : List V} {ks : List Key}, VRs K mg W H xs vs → keysZ xs = some ks → vs = ks.map kV
  | [], vs, ks, h, e => by
    cases e; unfold VRs at h; subst h; rfl
  | p :: r, vs, ks, h, e => by
    obtain ⟨v, us, rfl, h1, h2⟩ := VRs.uncons h
    unfold keysZ at e
    cases ek : keyP p with
    | none => rw [ek] at e; cases e
    | some key =>
      rw [ek, Option.bind_some] at e
      cases er : keysZ r with
      | none => rw [er] at e; cases e
      | some kr =>
        rw [er] at e; cases e
        rw [VRs.keys h2 er, h1.key ek]; rfl
end
end Mw
namespace Mw
open PySem PySem.Spec PyProof.Rows L2
end Mw
namespace Mw
open PySem PySem.Spec PyProof.Rows L2
section
variable {X : Cx} {ms : EM (List PV)} {pos : Pos}
def zip3P (xs ys zs : List PV) : List PV := (xs.zip (ys.zip zs)).map fun p => .tup [p.1, p.2.1, p.2.2]
def mZip3 (ms : EM (List PV)) : IM := fun ep et R => ms ep et fun ps et1 => ∃ xs ys zs, ps = [.tup xs, .tup ys, .tup zs] ∧ R (zip3P xs ys zs) ps et1
end
end Mw
namespace Mw
open PySem PySem.Spec L2
end Mw
namespace L2
open PySem PySem.Spec PyProof.Rows
end L2
namespace Mw
open PySem PySem.Spec L2
end Mw
namespace Mw
open PySem PySem.Spec L2
abbrev TgD := Hi → PV → En → Option En
def GOkD (K : PySem.W.Frag) (mg : Str → Option Value) (is : List Nat) (g : TG) (tg : TgD) : Prop :=
  ∀ (v : V) (p : PV) (σ : L2.St) (H : Hp) (ep ep' : En) (et : Hi) (W : Wd) (Q : L2.St → Hp → Prop), Cel K mg H et W → Slt K mg σ ep H et W → VR K mg W H p v → tg et p ep = some ep' →
    (∀ σ', Slt K mg σ' ep' H et W → (∀ a, Own ep' σ' a → Own ep σ a) → (σ'.length = σ.length ∧ ∀ j, j ∉ is → σ'[j]? = σ[j]?) → Q σ' H) → g v σ H Q
def tgL (ts : List (PV → En → Option En)) : TgD := fun et p ep => match deref et p with
  | .lst ps => tgNs ts ps ep
  | _ => none
theorem g_lst {K : PySem.W.Frag} {mg : Str → Option Value} {u : TGs} {ts : List (PV → En → Option En)} {k : Nat} {is : List Nat} (hk : ts.length = k) (hs : GsOk K mg is u ts) : GOkD K mg is (gLst K k u) (tgL ts) := fun v p σ H ep ep' et W Q c s hv e q => by
  unfold tgL at e
  split at e
  · rename_i ps hd
    obtain ⟨a, ws, rfl, k1, k2⟩ := Pk.lst c (.inl hv) hd
    exact ⟨a, ws, rfl, SqL.of k1, by rw [← k2.len, tgNs_len e, hk], hs ws ps σ H ep ep' et W Q c s k2 e q⟩
  · cases e
section
variable {X : Cx} {st : Stmt} {rest : List Stmt} {m n : SM} {e : Expr} {me : EM PV} {pos : Pos}
def mAsgD (tg : TgD) (me : EM PV) : SM := fun ep et R => me ep et fun p et1 => ∃ ep', tg et1 p ep = some ep' ∧ R .nx ep' et1
theorem asg_weakD {g : TG} {is : List Nat} {tg : TgD} (hg : GOkD X.K X.mg is g tg) : ∀ D σ H, tS X.K X.mg (mAsgD tg me) D σ H → tAsg (tI X.K X.mg (pV X.K X.mg) me) g D σ H := fun D σ H ⟨ep, et, W, R, c, s, e, q⟩ => by
  refine ⟨ep, et, W, _, c, s, e, fun p et1 r1 v H1 W1 x1 c1 p1 => ?_⟩
  obtain ⟨ep', h1, r2⟩ := r1
  exact hg v p σ H1 ep ep' et1 W1 _ c1 (s.ext c x1) p1 h1 fun σ' s' o' _ => q .nx ep' et1 r2 σ' H1 W1 (Ext.to x1) c1 s' fun a h => .inl (o' a h)
theorem s_asgD {t : Expr} {g : TG} {is : List Nat} {tg : TgD} (h : SimE X e me) (hp : PG X t g) (hg : GOkD X.K X.mg is g tg) (hs : swapsWithSole [t] e pos.line X.env = pure false := by rfl) (hw : swappedStores [t] e X.env = pure none := by rfl) (h1 : (assignEach [t] X.env).map (·.2) = [assign t X.env] := by rfl) : SimS X (.Assign [t] e pos) (mAsgD tg me) :=
  weakS (ps_asg h hp hs hw h1) (asg_weakD hg)
end
end Mw
namespace Mw
open PySem PySem.Spec L2
end Mw
namespace Mw
open PySem PySem.Spec L2
section
variable {K : PySem.W.Frag} {mg : Str → Option Value} {H : Hp} {et : Hi} {W : Wd}
theorem VRk.keys : ∀ {ks : List (Key × PV)} {vs : List (Key × V)}, VRk K mg W H ks vs → vs.map (·.1) = ks.map (·.1)
  | [], vs, h => by unfold VRk at h; subst h; rfl
  | (k, p) :: ks, vs, h => by
    unfold VRk at h
    obtain ⟨v, r, rfl, _, h2⟩ := h
    rw [List.map_cons, List.map_cons, VRk.keys h2]
end
end Mw
namespace Mw
open PySem PySem.Spec L2
end Mw
namespace Mw
open PySem PySem.Spec L2
end Mw
namespace Mw
open PySem PySem.Spec L2
def NkV (X : Cx) (H : Hp) (k : NestedKey) (y : V) : Prop := ∀ (pins : List (Addr × Obj)) (σ : L2.St) (s : Shared) (u : Value), Inv X pins σ H s → RelV y u → NestedIs s.heap k u
mutual
theorem VR.nkv {X : Cx} {W : Wd} {H : Hp} : ∀ (p : PV) (v : V) (k : NestedKey), VR X.K X.mg W H p v → nkP p = some k → NkV X H k v
  | .non, v, k, h, e => fun pins σ s u I r => by
    unfold VR at h; unfold nkP at e; cases e; subst h
    have r : u = Value.none := r
    subst r; exact .none
  | .bl b, v, k, h, e => fun pins σ s u I r => by
    unfold VR at h; unfold nkP at e; cases e; subst h
    have r : u = Value.bool b := r
    subst r; exact .bool rfl
  | .int i, v, k, h, e => fun pins σ s u I r => by
    unfold VR at h; unfold nkP at e; cases e; subst h
    obtain ⟨t, rfl⟩ : ∃ t, u = Value.int i t := r
    exact .int i t
  | .str x, v, k, h, e => fun pins σ s u I r => by
    unfold VR at h; unfold nkP at e; cases e; subst h
    obtain ⟨t, rfl⟩ : ∃ t, u = Value.str x t := r
    exact .text x t
  | .tup xs, v, k, h, e => fun pins σ s u I r => by
    unfold VR at h; unfold nkP at e
    obtain ⟨a, vs, rfl, hs, hv⟩ := h
    obtain ⟨ks, e1, rfl⟩ := Option.map_eq_some_iff.mp e
    have r : u = Value.ref a := r
    subst r
    obtain ⟨its, rel, ⟨o, ho, hc, n, hd⟩, _⟩ := I.tuple hs.sq
    exact .tup ho hc hd (by simpa using VRs.nkv xs vs ks hv e1 pins σ s its I rel)
  | .lst _, v, k, h, e => by unfold nkP at e; cases e
  | .dic _, v, k, h, e => by unfold nkP at e; cases e
  | .scr _, v, k, h, e => by unfold nkP at e; cases e
  | .ref _, v, k, h, e => by unfold nkP at e; cases e
  | .glo _, v, k, h, e => by unfold nkP at e; cases e
  | .ty _, v, k, h, e => by unfold nkP at e; cases e
  | .dik _, v, k, h, e => by unfold nkP at e; cases e
theorem VRs.nkv {X : Cx} {W : Wd} {H : Hp} : ∀ (ps : List PV) (vs : List V) (ks : List NestedKey), VRs X.K X.mg W H ps vs → nkPs ps = some ks → ∀ (pins : List (Addr × Obj)) (σ : L2.St) (s : Shared) (us : List Value), Inv X pins σ H s → Vals vs us → NestedAll s.heap ks us
  | [], vs, ks, h, e => fun pins σ s us I r => by
    unfold VRs at h; unfold nkPs at e; cases e; subst h; cases r; exact .nil
  | p :: ps, vs, ks, h, e => fun pins σ s us I r => by
    unfold VRs at h; unfold nkPs at e
    obtain ⟨v, t, rfl, h1, h2⟩ := h
    obtain ⟨k, e1, e2⟩ := Option.bind_eq_some_iff.mp e
    obtain ⟨kt, e3, rfl⟩ := Option.map_eq_some_iff.mp e2
    cases r with
    | cons r1 r2 => exact .cons (VR.nkv p v k h1 e1 pins σ s _ I r1) (VRs.nkv ps t kt h2 e3 pins σ s _ I r2)
end
abbrev PrE : List (NestedKey × Addr × V) → List (NestedKey × Addr × Value) → Prop := Paired fun p q => p.1 = q.1 ∧ p.2.1 = q.2.1 ∧ RelV p.2.2 q.2.2
def atE (es : List (NestedKey × Addr × V)) (k : NestedKey) : Option V := (es.find? fun e => decide (e.1 = k)).map (·.2.2)
def putE (es : List (NestedKey × Addr × V)) (k : NestedKey) (b : Addr) (v : V) : List (NestedKey × Addr × V) :=
  if (atE es k).isSome = true then es.map (fun x => if x.1 = k then (x.1, x.2.1, v) else x) else es ++ [(k, b, v)]
theorem PrE.at {k : NestedKey} : ∀ {es : List (NestedKey × Addr × V)} {xs : List (NestedKey × Addr × Value)}, PrE es xs → RelO (atE es k) ((atKey xs k).map (·.2))
  | _, _, .nil => trivial
  | _, _, @Paired.cons _ _ _ p q es xs h t => by
    by_cases e : p.1 = k
    · have e' : q.1 = k := by rw [← h.1]; exact e
      simp [atE, atKey, List.find?, e, e', RelO]
      exact h.2.2
    · have e' : ¬ q.1 = k := by rw [← h.1]; exact e
      have := PrE.at (k := k) t
      simpa [atE, atKey, List.find?, e, e'] using this
theorem PrE.length {es : List (NestedKey × Addr × V)} {xs : List (NestedKey × Addr × Value)} (h : PrE es xs) : es.length = xs.length := Paired.length h
theorem PrE.map {k : NestedKey} {v : V} {u : Value} (r : RelV v u) : ∀ {es : List (NestedKey × Addr × V)} {xs : List (NestedKey × Addr × Value)}, PrE es xs → PrE (es.map fun x => if x.1 = k then (x.1, x.2.1, v) else x) (xs.map (putAt k u))
  | _, _, .nil => .nil
  | _, _, @Paired.cons _ _ _ p q es xs h t => by
    refine .cons ?_ (PrE.map r t)
    by_cases e : p.1 = k
    · have e' : q.1 = k := by rw [← h.1]; exact e
      simp only [if_pos e, putAt, if_pos e']
      exact ⟨h.1, h.2.1, r⟩
    · have e' : ¬ q.1 = k := by rw [← h.1]; exact e
      simp only [if_neg e, putAt, if_neg e']
      exact h
theorem Paired.snoc {α β : Type} {F : α → β → Prop} {x : α} {y : β} (h : F x y) : ∀ {l : List α} {m : List β}, Paired F l m → Paired F (l ++ [x]) (m ++ [y])
  | _, _, .nil => .cons h .nil
  | _, _, .cons a t => .cons a (Paired.snoc h t)
theorem PrE.put {es : List (NestedKey × Addr × V)} {xs : List (NestedKey × Addr × Value)} (h : PrE es xs) (k : NestedKey) (b : Addr) {v : V} {u : Value} (r : RelV v u) : PrE (putE es k b v) (storedH xs k b u) := by
  have ha := PrE.at (k := k) h
  unfold putE storedH
  cases e1 : atE es k with
  | some x =>
    cases e2 : atKey xs k with
    | none => rw [e1, e2] at ha; exact ha.elim
    | some y => exact PrE.map r h
  | none =>
    cases e2 : atKey xs k with
    | some y => rw [e1, e2] at ha; exact ha.elim
    | none => exact Paired.snoc ⟨rfl, rfl, r⟩ h
theorem PrE.keys {es : List (NestedKey × Addr × V)} {xs : List (NestedKey × Addr × Value)} (h : PrE es xs) : es.map (·.1) = xs.map (·.1) := by
  induction h with
  | nil => rfl
  | cons a t ih => rw [List.map_cons, List.map_cons, a.1, ih]
theorem putE_len (es : List (NestedKey × Addr × V)) (k : NestedKey) (b : Addr) (v : V) : (putE es k b v).length ≤ es.length + 1 := by
  unfold putE
  split
  · rw [List.length_map]; omega
  · rw [List.length_append]; exact Nat.le_refl _
section
variable {X : Cx} {pins : List (Addr × Obj)} {σ : L2.St} {H : Hp} {s : Shared} {a b : Addr} {es : List (NestedKey × Addr × V)} {k : NestedKey} {v : V} {u : Value} {A : Around} {E : Value → Shared → Prop}
theorem room9 (hu : A.units + 64 < cLine) : (nestedKind X.prog X.w).room A.in1 := by
  show A.units + 1 + 8 < cLine
  omega
end
def ndAt (kvs : List (PV × PV)) (p : PV) : Option PV := (kvs.find? fun kv => decide (nkP kv.1 = nkP p)).map (·.2)
def ndPut (kvs : List (PV × PV)) (p v : PV) : List (PV × PV) := if (ndAt kvs p).isSome = true then kvs.map (fun kv => if nkP kv.1 = nkP p then (kv.1, v) else kv) else kvs ++ [(p, v)]
def nkAsk : PV → Bool
  | .tup xs => match nkP (.tup xs) with
    | some k => decide (k.depth ≤ 8)
    | none => false
  | _ => false
theorem nkAsk_of {p : PV} (h : nkAsk p = true) : ∃ xs k, p = .tup xs ∧ nkP p = some k ∧ k.depth ≤ 8 := by
  unfold nkAsk at h
  split at h
  · rename_i xs
    split at h
    · rename_i k e
      exact ⟨xs, k, rfl, e, of_decide_eq_true h⟩
    · cases h
  · cases h
section
variable {K : PySem.W.Frag} {mg : Str → Option Value} {W : Wd} {H : Hp}
theorem VRn.at {p : PV} {k : NestedKey} (hk : nkP p = some k) : ∀ {kvs : List (PV × PV)} {es : List (NestedKey × Addr × V)}, VRn K mg W H kvs es → (∀ q, ndAt kvs p = some q → ∃ v, atE es k = some v ∧ VR K mg W H q v) ∧ (ndAt kvs p = none → atE es k = none)
  | [], es, h => by unfold VRn at h; subst h; exact ⟨(fun q e => nomatch e), fun _ => rfl⟩
  | (x, y) :: kvs, es, h => by
    unfold VRn at h
    obtain ⟨k', b, v, r, rfl, h1, _, _, h4, h5, h6⟩ := h
    have ih := VRn.at hk h6
    by_cases e : k' = k
    · have e' : nkP x = nkP p := by rw [h1, hk, e]
      refine ⟨fun q hq => ⟨v, by simp [atE, List.find?, e], ?_⟩, fun hn => by simp [ndAt, List.find?, e'] at hn⟩
      have : y = q := by simpa [ndAt, List.find?, e'] using hq
      rw [← this]; exact h5
    · have e' : ¬ nkP x = nkP p := by rw [h1, hk]; exact fun z => e (Option.some.inj z)
      have e1 : atE ((k', b, v) :: r) k = atE r k := by simp [atE, List.find?, e]
      have e2 : ndAt ((x, y) :: kvs) p = ndAt kvs p := by simp [ndAt, List.find?, e']
      rw [e1, e2]; exact ih
theorem VRn.at_some {p : PV} {k : NestedKey} (hk : nkP p = some k) {kvs : List (PV × PV)} {es : List (NestedKey × Addr × V)} (h : VRn K mg W H kvs es) : (atE es k).isSome = (ndAt kvs p).isSome := by
  cases e : ndAt kvs p with
  | none => rw [(VRn.at hk h).2 e]; rfl
  | some q => obtain ⟨v, e1, _⟩ := (VRn.at hk h).1 q e; rw [e1]; rfl
theorem VRn.len : ∀ {kvs : List (PV × PV)} {es : List (NestedKey × Addr × V)}, VRn K mg W H kvs es → kvs.length = es.length
  | [], es, h => by unfold VRn at h; subst h; rfl
  | (x, y) :: kvs, es, h => by
    unfold VRn at h
    obtain ⟨k', b, v, r, rfl, _, _, _, _, _, h6⟩ := h
    rw [List.length_cons, List.length_cons, VRn.len h6]
theorem VRn.snoc {p q : PV} {k : NestedKey} {b : Addr} {v : V} (hk : nkP p = some k) (hl : nlow k = true) (h8 : k.depth ≤ 8) (hp : VR K mg W H p (.ref b)) (hq : VR K mg W H q v) : ∀ {kvs : List (PV × PV)} {es : List (NestedKey × Addr × V)}, VRn K mg W H kvs es → VRn K mg W H (kvs ++ [(p, q)]) (es ++ [(k, b, v)])
  | [], es, h => by unfold VRn at h; subst h; unfold VRn; exact ⟨k, b, v, [], rfl, hk, hl, h8, hp, hq, by unfold VRn; rfl⟩
  | (x, y) :: kvs, es, h => by
    unfold VRn at h
    obtain ⟨k', b', v', r, rfl, h1, h2, h3, h4, h5, h6⟩ := h
    show VRn K mg W H ((x, y) :: (kvs ++ [(p, q)])) _
    unfold VRn
    exact ⟨k', b', v', r ++ [(k, b, v)], rfl, h1, h2, h3, h4, h5, VRn.snoc hk hl h8 hp hq h6⟩
theorem VRn.map {p q : PV} {k : NestedKey} {v : V} (hk : nkP p = some k) (hq : VR K mg W H q v) : ∀ {kvs : List (PV × PV)} {es : List (NestedKey × Addr × V)}, VRn K mg W H kvs es → VRn K mg W H (kvs.map fun kv => if nkP kv.1 = nkP p then (kv.1, q) else kv) (es.map fun x => if x.1 = k then (x.1, x.2.1, v) else x)
  | [], es, h => by unfold VRn at h; subst h; unfold List.map; unfold VRn; rfl
  | (x, y) :: kvs, es, h => by
    unfold VRn at h
    obtain ⟨k', b', v', r, rfl, h1, h2, h3, h4, h5, h6⟩ := h
    have ih := VRn.map hk hq h6
    rw [List.map_cons, List.map_cons]
    by_cases e : k' = k
    · have e' : nkP x = nkP p := by rw [h1, hk, e]
      simp only [if_pos e, if_pos e']
      unfold VRn
      exact ⟨k', b', v, _, rfl, h1, h2, h3, h4, hq, ih⟩
    · have e' : ¬ nkP x = nkP p := by rw [h1, hk]; exact fun z => e (Option.some.inj z)
      simp only [if_neg e, if_neg e']
      unfold VRn
      exact ⟨k', b', v', _, rfl, h1, h2, h3, h4, h5, ih⟩
theorem VRn.put {p q : PV} {k : NestedKey} {b : Addr} {v : V} (hk : nkP p = some k) (hl : nlow k = true) (h8 : k.depth ≤ 8) (hp : VR K mg W H p (.ref b)) (hq : VR K mg W H q v) {kvs : List (PV × PV)} {es : List (NestedKey × Addr × V)} (h : VRn K mg W H kvs es) : VRn K mg W H (ndPut kvs p q) (putE es k b v) := by
  unfold ndPut putE
  rw [VRn.at_some hk h]
  split
  · exact VRn.map hk hq h
  · exact VRn.snoc hk hl h8 hp hq h
end
section
variable {X : Cx} {W : Wd} {H : Hp}
theorem VRn.mem : ∀ {kvs : List (PV × PV)} {es : List (NestedKey × Addr × V)}, VRn X.K X.mg W H kvs es → ∀ e ∈ es, NkV X H e.1 (.ref e.2.1) ∧ nlow e.1 = true ∧ e.1.depth ≤ 8
  | [], es, h => by unfold VRn at h; subst h; intro e he; cases he
  | (x, y) :: kvs, es, h => by
    unfold VRn at h
    obtain ⟨k', b', v', r, rfl, h1, h2, h3, h4, h5, h6⟩ := h
    intro e he
    rcases List.mem_cons.mp he with rfl | he
    · exact ⟨VR.nkv _ _ _ h4 h1, h2, h3⟩
    · exact VRn.mem h6 e he
theorem ask_v {p : PV} {v : V} (h : nkAsk p = true) (hv : VR X.K X.mg W H p v) : ∃ b k, v = .ref b ∧ nkP p = some k ∧ k.depth ≤ 8 ∧ NkV X H k (.ref b) := by
  obtain ⟨xs, k, rfl, e, h8⟩ := nkAsk_of h
  have hv' := hv
  unfold VR at hv'
  obtain ⟨b, _, rfl, _⟩ := hv'
  exact ⟨b, k, rfl, e, h8, VR.nkv _ _ _ hv e⟩
end
section
variable {X : Cx} {a b o i e : Expr} {ma mb mo mk mv : EM PV} {pos pos' : Pos}
theorem set_last {et : Hi} {c d : Cell} : (et ++ [c]).set et.length d = et ++ [d] := by
  apply List.ext_getElem?
  intro i
  by_cases h : i < et.length
  · rw [List.getElem?_set_ne (by omega), List.getElem?_append_left h, List.getElem?_append_left h]
  · by_cases h2 : i = et.length
    · subst h2
      rw [List.getElem?_set_self (by simp)]
      simp
    · rw [List.getElem?_set_ne (by omega), List.getElem?_eq_none (by simp; omega), List.getElem?_eq_none (by simp; omega)]
end
end Mw
namespace Mw
open PySem PySem.Spec L2
end Mw
namespace Mw
open PySem PySem.Spec L2
end Mw
namespace Mw
open PySem PySem.Spec L2 PyProof.Rows RT
end Mw
namespace Mw
open PySem PySem.Spec L2
section
variable {X : Cx} {a b : Expr} {ma mb : EM PV} {pos : Pos}
theorem sT_pc {op : CmpOp} {t : TE} {m : EM PV} (h : PC X op a b t) (w : ∀ σ H Q, tI X.K X.mg (pV X.K X.mg) m σ H Q → t σ H Q) (h1 : behindInMarks op b = false := by rfl) : SimT X (.Compare a [op] [b] pos) (mAsT m) :=
  weakT (pt_cmp h h1) fun σ H Q ⟨ep, et, W, R, c, s, e, q⟩ => w σ H _ ⟨ep, et, W, _, c, s, e, fun p et1 r1 v H1 W1 x1 c1 p1 => by
    obtain ⟨b', rfl, r2⟩ := r1
    have p2 : VR X.K X.mg W1 H1 (.bl b') v := p1
    unfold VR at p2
    exact ⟨b', p2, q b' et1 r2 H1 W1 x1 c1⟩⟩
end
end Mw
namespace Mw
open PySem PySem.Spec L2
end Mw
namespace Mw
open PySem PySem.Spec L2 PyProof.Rows
end Mw
namespace Mw
open PySem PySem.Spec L2 PyProof.Rows
open PySem.W (minD AllAlike AlikeAll Sortable dataLe dataLt alike)
end Mw
namespace Mw
open PySem PySem.Spec L2
end Mw
namespace Mw
open PySem PySem.Spec PyProof.Rows L2
open PySem.Sem (wp)
theorem srcK.at {b : Bool} {h h' : Heap} {a : Addr} {its : Array Value} (x : srcK b h a its) (k : ∀ o, h.get? a = some o → h'.get? a = some o) : srcK b h' a its := by
  rcases x with ⟨e, x⟩ | ⟨e, x⟩
  · exact .inl ⟨e, x.at k⟩
  · exact .inr ⟨e, x.at k⟩
end Mw
namespace Mw
open PySem PySem.Spec PyProof.Rows L2
end Mw
namespace Mw
open PySem PySem.Spec L2
end Mw
namespace Mw
open PySem PySem.Spec L2
end Mw
namespace Mw
open PySem PySem.Spec L2
section
variable {K : PySem.W.Frag} {mg : Str → Option Value} {H H' : Hp} {et : Hi} {W : Wd}
theorem VRk.append {ks ls : List (Key × PV)} {vs us : List (Key × V)} (h : VRk K mg W H ks vs) (h' : VRk K mg W H ls us) : VRk K mg W H (ks ++ ls) (vs ++ us) := by
  induction ks generalizing vs with
  | nil => unfold VRk at h; subst h; exact h'
  | cons kv ks ih =>
    obtain ⟨k, p⟩ := kv
    unfold VRk at h
    obtain ⟨v, r, rfl, h1, h2⟩ := h
    show VRk K mg W H ((k, p) :: (ks ++ ls)) ((k, v) :: (r ++ us))
    unfold VRk
    exact ⟨v, _, rfl, h1, ih h2⟩
end
end Mw
namespace Mw
open PySem PySem.Spec PyProof.Rows L2
open PySem.Sem (wp)
end Mw
namespace Mw
open PySem PySem.Spec PyProof.Rows L2
open PySem.Sem (wp)
open PySem.W (minD AllAlike AlikeAll Sortable dataLe dataLt alike)
end Mw
namespace Mw
open PySem PySem.Spec PyProof.Rows L2
open PySem.Sem (wp)
open PySem.W (minD AllAlike AlikeAll Sortable dataLe dataLt alike)
def putAllE (es more : List (NestedKey × Addr × V)) : List (NestedKey × Addr × V) := more.foldl (fun acc e => putE acc e.1 e.2.1 e.2.2) es
theorem PrE.all : ∀ {more : List (NestedKey × Addr × V)} {ms : List (NestedKey × Addr × Value)} {es : List (NestedKey × Addr × V)} {xs : List (NestedKey × Addr × Value)}, PrE more ms → PrE es xs → PrE (putAllE es more) (storedAllH xs ms)
  | _, _, _, _, .nil, h => h
  | _, _, es, xs, @Paired.cons _ _ _ p q l1 l2 hq t, h => by
    have h2 := PrE.put h p.1 p.2.1 hq.2.2
    rw [show storedH xs p.1 p.2.1 q.2.2 = storedH xs q.1 q.2.1 q.2.2 by rw [hq.1, hq.2.1]] at h2
    show PrE (putAllE (putE es p.1 p.2.1 p.2.2) l1) (storedAllH (storedH xs q.1 q.2.1 q.2.2) l2)
    exact PrE.all t h2
end Mw
namespace Mw
open PySem PySem.Spec PyProof.Rows L2
open PySem.W (minD AllAlike AlikeAll Sortable dataLe dataLt alike)
def ndAll (kvs more : List (PV × PV)) : List (PV × PV) := more.foldl (fun acc e => ndPut acc e.1 e.2) kvs
section
variable {X : Cx} {W : Wd} {H : Hp}
theorem VRn.keys {K : PySem.W.Frag} {mg : Str → Option Value} : ∀ {kvs : List (PV × PV)} {es : List (NestedKey × Addr × V)}, VRn K mg W H kvs es → VRs K mg W H (kvs.map (·.1)) (es.map fun e => V.ref e.2.1)
  | [], es, h => by unfold VRn at h; subst h; exact VRs.nil
  | (p, q) :: r, es, h => by
    unfold VRn at h
    obtain ⟨k, b, v, r', rfl, _, _, _, h4, _, h6⟩ := h
    exact VRs.cons h4 (VRn.keys h6)
theorem VRn.all : ∀ {more : List (PV × PV)} {ms : List (NestedKey × Addr × V)} {kvs : List (PV × PV)} {es : List (NestedKey × Addr × V)}, VRn X.K X.mg W H more ms → VRn X.K X.mg W H kvs es → VRn X.K X.mg W H (ndAll kvs more) (putAllE es ms)
  | [], ms, kvs, es, h, h2 => by unfold VRn at h; subst h; exact h2
  | (p, q) :: r, ms, kvs, es, h, h2 => by
    unfold VRn at h
    obtain ⟨k, b, v, r', rfl, e1, e2, e3, h4, h5, h6⟩ := h
    show VRn X.K X.mg W H (ndAll (ndPut kvs p q) r) (putAllE (putE es k b v) r')
    exact VRn.all h6 (VRn.put e1 e2 e3 h4 h5 h2)
end
end Mw
namespace Mw
open PySem PySem.Spec PyProof.Rows L2
open PySem.Sem (wp)
end Mw
namespace Mw
open PySem PySem.Spec PyProof.Rows L2
end Mw
namespace Mw
open PySem PySem.Spec L2
abbrev Xfs := List (Str × Int)
abbrev RXT := Str → Xfs → Hi → Prop
abbrev SMX := En → Hi → (Fl → En → Hi → Prop) → RXT → Prop
section
variable {X : Cx} {E : XK} {st : Stmt} {rest : List Stmt} {m n : SMX} {e : Expr} {pos : Pos}
theorem PS.nox {t : TS} (h : PS X.nox st t) : PS X st t := ⟨fun pins s σ H D I hw =>
  wpAny_mono (h.run pins s σ H D (I.wish _) hw) (fun _ _ q => q.unwish) fun _ _ z => False.elim z⟩
end
end Mw
namespace Mw
open PySem PySem.Spec L2
abbrev XSpec := List PV → Hi → (PV → Hi → Prop) → RXT → Prop
theorem passes_def {P : Program} {w : World} {K : PySem.W.Frag} {mg : Str → Option Value} {base : Heap} {N : List Str} {qual : Str} {scope : Scope} {f : Addr} {cd : Value} {A : Around} {outer : List Env} {s : Shared} {H : Hp} {E : XK} :
    PassesOwn (model (cxOf (L2.CX P w) P w K mg base N qual scope f cd A outer s H E).prog (cxOf (L2.CX P w) P w K mg base N qual scope f cd A outer s H E).w) (cxOf (L2.CX P w) P w K mg base N qual scope f cd A outer s H E).A (cxOf (L2.CX P w) P w K mg base N qual scope f cd A outer s H E).env (cxOf (L2.CX P w) P w K mg base N qual scope f cd A outer s H E).xe := passes_of rfl
end Mw
namespace Mw
open PySem PySem.Spec L2 PyProof.Rows
end Mw
namespace Mw
open PySem PySem.Spec L2 PyProof.Rows
abbrev EMX := En → Hi → (PV → Hi → Prop) → RXT → Prop
end Mw
namespace PySem.W
open PySem PySem.Spec PySem.Calls PyProof.Rows
end PySem.W
namespace Mw
open PySem PySem.Spec L2 PyProof.Rows
end Mw
namespace Mw
open PySem PySem.Spec L2 PyProof.Rows
end Mw
namespace L2
open PySem PySem.Spec PyProof.Rows
structure FnOkG (P : Program) (w : World) (K : PySem.W.Frag) (mg : Str → Option Value) (base : Heap) (CX : CXT) (k : Nat) (f : Addr) (fd : FuncData) (ps : List Str) (sp : Sp) : Prop where
  len : ∀ vs H Q E, sp vs H Q E → vs.length = ps.length
  run : ∀ (A : Around) (outer : List Env) (s : Shared) (H : Hp) (args : Args) (us : List Value) (vs : List V) (Q : VK) (E : XK), A.guards = some [] → Room k A → Env0 P w K mg base A outer s H → BindsTo s fd args (ps.zip us) → Vals vs us → sp vs H Q E →
    codeAny (model P w) A (.call (.ref f) args) (CR CX outer P w H s Q E) s
section
variable {P : Program} {w : World} {K : PySem.W.Frag} {mg : Str → Option Value} {base : Heap} {CX : CXT} {j k : Nat} {f : Addr} {fd : FuncData} {ps : List Str} {sp sp' : Sp}
theorem FnOk.g (F : FnOk P w K mg base CX k f fd ps sp) : FnOkG P w K mg base CX k f fd ps sp := ⟨F.len, fun A outer s H args us vs Q E _ hr => F.run A outer s H args us vs Q E hr⟩
theorem FnOkG.mono (F : FnOkG P w K mg base CX j f fd ps sp) (h : j ≤ k) : FnOkG P w K mg base CX k f fd ps sp := ⟨F.len, fun A outer s H args us vs Q E hgd hr => F.run A outer s H args us vs Q E hgd (hr.mono h)⟩
theorem FnOkG.imp (F : FnOkG P w K mg base CX k f fd ps sp) (h : ∀ vs H Q E, sp' vs H Q E → sp vs H Q E) : FnOkG P w K mg base CX k f fd ps sp' :=
  ⟨fun vs H Q E q => F.len vs H Q E (h _ _ _ _ q), fun A outer s H args us vs Q E hgd hr he hb hv hs => F.run A outer s H args us vs Q E hgd hr he hb hv (h _ _ _ _ hs)⟩
end
end L2
namespace Mw
open PySem PySem.Spec L2
end Mw
namespace Mw
open PySem PySem.Spec PyProof.Rows L2
end Mw
namespace Mw
open PySem PySem.Spec L2 PyProof.Rows
end Mw
namespace Mw
open PySem PySem.Spec PyProof.Rows L2
def TupS (K : PySem.W.Frag) (a : Addr) (xs : List Str) : Prop := ∃ (o : Obj) (its : Array Value) (n : Nat), K.lookup a = some o ∧ o.cls = .type "tuple" ∧ o.dict = none ∧ o.data = .seq its n ∧ its.size ≤ sizeLine ∧ Vals (xs.map V.str) its.toList
structure TabT (K : PySem.W.Frag) (w : World) (mg : Str → Option Value) (D : Str) (tab : List (Str × List Str)) : Prop where
  ex : ∃ p es n, mg D = some (.ref p) ∧ KDict K w p es n ∧ (∀ z xs, tab.lookup z = some xs → ∃ a, PySem.W.nsIn K p z = some (some (.ref a)) ∧ TupS K a xs) ∧ ∀ z, tab.lookup z = none → PySem.W.nsIn K p z = some none
theorem vrs_strs {K : PySem.W.Frag} {mg : Str → Option Value} {W : Wd} {H : Hp} : ∀ xs : List Str, VRs K mg W H (xs.map .str) (xs.map V.str)
  | [] => by unfold VRs; rfl
  | x :: xs => by unfold VRs; exact ⟨.str x, _, rfl, by unfold VR; rfl, vrs_strs xs⟩
def mTabT (tab : List (Str × List Str)) (mk : EM PV) : EM PV := fun ep et R => mk ep et fun k et1 => ∃ s xs, k = .str s ∧ tab.lookup s = some xs ∧ R (.tup (xs.map .str)) et1
section
variable {X : Cx}
theorem sE_tabT {D : Str} {tab : List (Str × List Str)} {e : Expr} {mk : EM PV} {p pos : Pos} (h : TabT X.K X.w X.mg D tab) (hD : Gl X D) (hk : SimE X e mk) (hd : (D == ("__debug__" : Str)) = false := by decide) (hs : PlainIx e := by intro _ _; rfl) : SimE X (.Subscript (.Name D p) e pos) (mTabT tab mk) := by
  obtain ⟨a, es, n, hm, kd, ht, _⟩ := h.ex
  refine weakE (pe_ix ix_kdict (pe_glob hD hm (v := .ref a) rfl hd) hk hs) fun σ H Q ⟨ep, et, W, R, c, s, e, q⟩ => ?_
  refine ⟨ep, et, W, _, c, s, e, fun p et1 r1 v H1 W1 x1 c1 p1 => ?_⟩
  obtain ⟨x, xs, rfl, hl, r2⟩ := r1
  have p2 : VR X.K X.mg W1 H1 (.str x) v := p1
  unfold VR at p2; subst p2
  obtain ⟨b, k1, o, its, m, t1, t2, t3, t4, t5, t6⟩ := ht x xs hl
  refine ⟨a, x, .ref b, rfl, rfl, ⟨es, n, _, kd.at_, kd.lit, k1, rfl⟩, q _ et1 r2 _ H1 W1 x1 c1 ?_⟩
  show VR _ _ _ _ _ _
  unfold VR
  exact ⟨b, _, rfl, .inr ⟨o, its, m, t1, t2, t3, t4, t5, t6⟩, vrs_strs xs⟩
end
section
variable {X : Cx} {D : Str} {tab : List (Str × List Str)}
def rInTab (D : Str) (mg : Str → Option Value) (tab : List (Str × List Str)) (b : Bool) : R2 := fun x y H Q => ∃ z p, x = .str z ∧ y = .ref p ∧ mg D = some (.ref p) ∧ Q (.bl (xor b (tab.lookup z).isSome)) H
theorem op_notInTab (h : TabT X.K X.w X.mg D tab) : OpR X (compareOp .NotIn) (rInTab D X.mg tab true) := by
  intro pins s σ H x y v u Q I rx ry q
  obtain ⟨z, p, rfl, rfl, hm, q⟩ := q
  obtain ⟨a, es, n, hm2, kd, ht, hn⟩ := h.ex
  rw [hm] at hm2; cases hm2
  refine op_notIn_kd kd pins s σ H _ _ v u Q I rx ry ?_
  cases e : tab.lookup z with
  | none => exact ⟨z, none, rfl, rfl, hn z e, by rw [e] at q; exact q⟩
  | some xs =>
    obtain ⟨b, k1, _⟩ := ht z xs e
    exact ⟨z, _, rfl, rfl, k1, by rw [e] at q; exact q⟩
def gInTab (D : Str) (tab : List (Str × List Str)) (b : Bool) : PV → PV → Option PV
  | .str z, .glo n => if n = D then some (.bl (xor b (tab.lookup z).isSome)) else none
  | _, _ => none
theorem o2_inTab {K : PySem.W.Frag} {mg : Str → Option Value} {a : Addr} {b : Bool} (hm : mg D = some (.ref a)) : Op2 K mg (rInTab D mg tab b) (gInTab D tab b) (pV K mg) := by
  intro x y H et W p q z Q c hp hq hz k
  unfold gInTab at hz
  split at hz
  · rename_i s n e1 e2
    split at hz
    · rename_i hn
      subst hn
      cases hz
      have h1 := hp.str e1
      have h2 := hq.val e2 rfl
      unfold VR at h2
      obtain ⟨u, hu, ru⟩ := h2
      rw [hm] at hu; cases hu
      have ev : y = .ref a := by cases y <;> first | (cases ru; done) | rfl | (obtain ⟨_, h⟩ := ru; cases h) | (cases ru; rfl)
      exact ⟨s, a, h1, ev, hm, k _ H W (Ext.refl ..) c VR.bl⟩
    · cases hz
  · cases hz
theorem TabT.mg_ (h : TabT X.K X.w X.mg D tab) : ∃ a, X.mg D = some (.ref a) := h.ex.elim fun a z => z.elim fun _ z => z.elim fun _ z => ⟨a, z.1⟩
theorem sE_gloT {p : Pos} (h : TabT X.K X.w X.mg D tab) (hD : Gl X D) (hd : (D == ("__debug__" : Str)) = false := by decide) : SimE X (.Name D p) (mC (.glo D)) := by
  obtain ⟨a, hm⟩ := h.mg_
  exact sE_glob hD hm (v := .ref a) rfl (fun W H => by unfold VR; exact ⟨_, hm, rfl⟩) hd
theorem sT_notInTab {a : Expr} {p pos : Pos} {ma : EM PV} (h : TabT X.K X.w X.mg D tab) (hD : Gl X D) (ha : SimP X a ma) (hm : behindInMarks .NotIn (.Name D p) = false := by rfl) (hd : (D == ("__debug__" : Str)) = false := by decide) : SimT X (.Compare a [.NotIn] [.Name D p] pos) (mBinT (gInTab D tab true) ma (mC (.glo D))) :=
  h.mg_.elim fun _ e => sT_cmp (op_notInTab h) (o2_inTab e) ha (SimE.p (sE_gloT h hD hd)) hm
end
theorem tabT_mk {K : PySem.W.Frag} {w : World} {mg : Str → Option Value} {D : Str} {p : Addr} {es : Array DictEntry} {n : Nat} {tab : List (Str × List Str)} (hD : mg D = some (.ref p)) (hl : K.lookup p = some ⟨.type "dict", none, .dict es n, #[]⟩) (hk : PySem.W.KeysLit w.params es.toList) (lo : (p == sysModules) = false)
    (hks : ∀ e ∈ es.toList, ∃ x ∈ tab.map (·.1), ∃ t, e.key = .str x t)
    (h : ∀ x ∈ tab, ∃ a, PySem.W.nsIn K p x.1 = some (some (.ref a)) ∧ TupS K a x.2) : TabT K w mg D tab := by
  refine ⟨p, es, n, hD, ⟨hl, hk, lo⟩, fun z xs e => h (z, xs) ?_, fun z e => ?_⟩
  · clear h hks
    induction tab with
    | nil => cases e
    | cons a r ih =>
      simp only [List.lookup] at e
      cases q : z == a.1 with
      | true =>
        rw [q] at e; cases e
        rw [eq_of_beq q]
        exact List.mem_cons_self
      | false => rw [q] at e; exact List.mem_cons_of_mem _ (ih e)
  · have hne : ∀ x ∈ tab.map (·.1), x ≠ z := by
      intro x hx hxz
      subst hxz
      obtain ⟨y, hy, rfl⟩ := List.mem_map.mp hx
      have := List.lookup_eq_none_iff.mp e y hy
      simp at this
    unfold PySem.W.nsIn
    rw [hl]
    have e1 : es.toList.find? (·.key.isStr z) = none := by
      refine List.find?_eq_none.mpr fun d hd hs => ?_
      obtain ⟨x, hx, t, ht⟩ := hks d hd
      rw [ht] at hs
      exact hne x hx (by simpa [Value.isStr] using hs)
    have e2 : es.toList.any (·.refKey) = false := by
      refine List.any_eq_false.mpr fun d hd => ?_
      obtain ⟨x, hx, t, ht⟩ := hks d hd
      simp [DictEntry.refKey, ht]
    simp only [e1, e2]
    rfl
def KeysIn (ks : List Str) : List DictEntry → Prop
  | [] => True
  | e :: r => (∃ x t, e.key = .str x t ∧ x ∈ ks) ∧ KeysIn ks r
theorem KeysIn.all {ks : List Str} : ∀ {l : List DictEntry}, KeysIn ks l → ∀ e ∈ l, ∃ x ∈ ks, ∃ t, e.key = .str x t
  | _ :: _, ⟨⟨x, t, h1, h2⟩, _⟩, _, .head _ => ⟨x, h2, t, h1⟩
  | _ :: _, ⟨_, r⟩, _, .tail _ m => r.all _ m
theorem tabsT_nil {K : PySem.W.Frag} {p : Addr} : ∀ x ∈ ([] : List (Str × List Str)), ∃ a, PySem.W.nsIn K p x.1 = some (some (.ref a)) ∧ TupS K a x.2 := fun _ h => by cases h
theorem tabsT_cons {K : PySem.W.Frag} {p a : Addr} {k : Str} {xs : List Str} {r : List (Str × List Str)} (h1 : PySem.W.nsIn K p k = some (some (.ref a))) (h2 : TupS K a xs) (h : ∀ x ∈ r, ∃ a, PySem.W.nsIn K p x.1 = some (some (.ref a)) ∧ TupS K a x.2) :
    ∀ x ∈ (k, xs) :: r, ∃ a, PySem.W.nsIn K p x.1 = some (some (.ref a)) ∧ TupS K a x.2 := fun x hx => by
  rcases List.mem_cons.mp hx with rfl | hx
  · exact ⟨a, h1, h2⟩
  · exact h x hx
theorem tupS_mk {K : PySem.W.Frag} {a : Addr} {xs : List Str} {its : List Value} {n : Nat} {sl : Array (Option Value)} (h : K.lookup a = some ⟨.type "tuple", none, .seq its.toArray n, sl⟩) (hz : its.length ≤ 100) (hv : Vals (xs.map V.str) its) : TupS K a xs :=
  ⟨_, its.toArray, n, h, rfl, rfl, rfl, by rw [List.size_toArray, sizeLine_eq]; omega, by simpa using hv⟩
end Mw
namespace Mw
open PySem PySem.Spec L2
abbrev kh (X : Cx) : NestedKey → Int := fun k => k.hash X.w
def TDat (X : Cx) (H : Hp) (a : Addr) (es : List (NestedKey × Addr × V)) : Prop :=
  (es = [] ∧ H a = some (.dK [])) ∨ (H a = some (DT (kh X) a es) ∧ ∀ e ∈ es, NkV X H e.1 (.ref e.2.1) ∧ e.1.depth ≤ 8)
section
variable {X : Cx} {pins : List (Addr × Obj)} {σ : L2.St} {H : Hp} {s : Shared} {a b : Addr} {es : List (NestedKey × Addr × V)} {k : NestedKey} {v : V} {u : Value} {A : Around} {E : Value → Shared → Prop}
theorem td_of (I : Inv X pins σ H s) (h : TDat X H a es) : (a == sysModules) = false ∧ es.length ≤ sizeLine ∧ Mut (H a) ∧ ∃ xs, PrE es xs ∧ s.heap.DictOfH (nestedKind X.prog X.w) a xs := by
  rcases h with ⟨rfl, e⟩ | ⟨e, hk⟩
  · obtain ⟨z, hd, vs, rel, o, ds, ep, h1, h2, h3, h4, h5⟩ := I.hok a _ e
    cases rel
    have hz : ds.toList = [] := by
      have h6 := h5.1
      cases e : ds.toList with
      | nil => rfl
      | cons x r => rw [e] at h6; cases h6
    exact ⟨hd, Nat.zero_le _, (by rw [e]; trivial), [], .nil, o, ds, ep, h1, h2, h3, hz, (fun _ h => nomatch h), List.nodup_nil⟩
  · have ok := I.hok a _ e
    obtain ⟨hd, hl, hn, xs, o, ds, ep, rel, h1, h2, h3, h4⟩ := ok.1
    have key : ∀ x ∈ xs, ∃ e ∈ es, e.1 = x.1 ∧ e.2.1 = x.2.1 := by
      clear h4 hn hl e hk ok
      induction rel with
      | nil => intro x h; cases h
      | @cons p q l m r t ih =>
        intro x hx
        rcases List.mem_cons.mp hx with rfl | hx
        · exact ⟨p, List.mem_cons_self .., r.1, r.2.1⟩
        · obtain ⟨y, hy, z⟩ := ih x hx
          exact ⟨y, List.mem_cons_of_mem _ hy, z⟩
    refine ⟨hd, hl, by rw [e]; trivial, xs, rel, o, ds, ep, h1, h2, h3, h4, fun x hx => ?_, ?_⟩
    · obtain ⟨y, hy, e1, e2⟩ := key x hx
      obtain ⟨q1, q3⟩ := hk y hy
      rw [← e1, ← e2]
      exact ⟨q1 pins σ s _ I rfl, q3⟩
    · rw [← PrE.keys rel]; exact hn
theorem t_in {Q : Value → Shared → Prop} (hu : A.units + 64 < cLine) (I : Inv X pins σ H s) (g : TDat X H a es) (hk : NkV X H k (.ref b)) (hd8 : k.depth ≤ 8) (h : ∀ s', Inv X pins σ H s' → Q (.bool (atE es k).isSome) s') :
    wpAny (model X.prog X.w) A (compareOp .In (.ref b) (.ref a)) Q E s := by
  obtain ⟨hd, hl, _, xs, rel, dd⟩ := td_of I g
  refine wpAny_in_heap (room9 (X := X) hu) ⟨hk pins σ s _ I rfl, hd8⟩ hd dd ?_
  have q := (PrE.at (k := k) rel).isSome_eq
  rw [Option.isSome_map] at q
  rw [← q]
  exact h _ (I.tok _)
theorem t_notIn {Q : Value → Shared → Prop} (hu : A.units + 64 < cLine) (I : Inv X pins σ H s) (g : TDat X H a es) (hk : NkV X H k (.ref b)) (hd8 : k.depth ≤ 8) (h : ∀ s', Inv X pins σ H s' → Q (.bool (!(atE es k).isSome)) s') :
    wpAny (model X.prog X.w) A (compareOp .NotIn (.ref b) (.ref a)) Q E s := by
  obtain ⟨hd, hl, _, xs, rel, dd⟩ := td_of I g
  refine notIn_keyed (room9 (X := X) hu) ⟨hk pins σ s _ I rfl, hd8⟩ hd ⟨xs, dd, rfl⟩ ?_
  have q := (PrE.at (k := k) rel).isSome_eq
  rw [valueAt_pairsH, ← q]
  exact h _ (I.tok _)
theorem dt_new {P : Program} {w : World} {H' : Hp} {h' : Heap} {es : List (NestedKey × Addr × V)} {xs : List (NestedKey × Addr × Value)} (z : es.length ≤ sizeLine) (hd : (a == sysModules) = false) (rel : PrE es xs) (dd : h'.DictOfH (nestedKind P w) a xs) :
    ObjOk P w H' h' a (DT (fun k => k.hash w) a es) := by
  obtain ⟨o, ds, ep, h1, h2, h3, h4, h5, h6⟩ := dd
  exact ⟨⟨hd, z, by rw [PrE.keys rel]; exact h6, xs, o, ds, ep, rel, h1, h2, h3, h4⟩, ⟨o, h1⟩, fun a1 a2 ⟨q1, q2, q3, xs', o', ds', ep', r, g1, g2⟩ hs => ⟨q1, q2, q3, xs', o', ds', ep', r, hs o' g1, g2⟩⟩
theorem t_setItem {r : Value} {Q : Unit → Shared → Prop} (hu : A.units + 64 < cLine) (I : Inv X pins σ H s) (g : TDat X H a es) (hk : NkV X H k (.ref b)) (hd8 : k.depth ≤ 8) (hz : es.length < sizeLine) (rv : RelV v r) (h : ∀ s', Inv X pins σ (upd H a (DT (kh X) a (putE es k b v))) s' → Q () s') :
    wpAny (model X.prog X.w) A (setItem (.ref a) (.ref b) r) Q E s := by
  obtain ⟨hd, hl, mu, xs, rel, dd⟩ := td_of I g
  have hzx : xs.length ≤ sizeLine := by rw [← PrE.length rel]; exact hl
  refine wpAny_setItem_heap (hsz := hzx) (room9 (X := X) hu) ⟨hk pins σ s _ I rfl, hd8⟩ dd fun h' dd' hs => h _ ?_
  have he : ∃ q, h'.get? a = some q := let ⟨q, _, _, hq, _⟩ := dd'; ⟨q, hq⟩
  exact d_write I mu hs he (dt_new (by have := putE_len es k b v; omega) hd (rel.put k b rv) dd')
end
def tTIn (X : Cx) (neg : Bool) (ty td : TE) : TE := fun σ H Q => ty σ H fun y H1 => td σ H1 fun x H2 => ∃ a b k es, x = .ref a ∧ y = .ref b ∧ NkV X H2 k (.ref b) ∧ k.depth ≤ 8 ∧ TDat X H2 a es ∧ Q (.bl (if neg = true then !(atE es k).isSome else (atE es k).isSome)) H2
def sTPut (X : Cx) (td ty tv : TE) : TS := fun D σ H => tv σ H fun v H1 => td σ H1 fun x H2 => ty σ H2 fun y H3 => ∃ a b k es, x = .ref a ∧ y = .ref b ∧ NkV X H3 k (.ref b) ∧ k.depth ≤ 8 ∧ TDat X H3 a es ∧ es.length < sizeLine ∧ D.nx σ (upd H3 a (DT (kh X) a (putE es k b v)))
section
variable {X : Cx} {o i e value : Expr} {pos pos' tpos : Pos} {td ty tv : TE}
theorem pc_tin (hu : X.A.units + 64 < cLine) (hi : PE X i ty) (ho : PE X o td) : PC X .In i o (tTIn X false ty td) := by
  refine ⟨fun pins s σ H Q I h => ?_⟩
  refine thn (hi.run pins s σ H _ I h) fun iv s1 ⟨y, H1, I1, ry, q1⟩ => thn (ho.run pins s1 σ H1 _ I1 q1) fun u s2 ⟨x, H2, I2, rx, a, b, k, es, ex, ey, hk, h8, g, q2⟩ => ?_
  subst ex ey
  obtain rfl : u = Value.ref a := rx
  obtain rfl : iv = Value.ref b := ry
  exact t_in hu I2 g hk h8 fun s3 I3 => ⟨.bl (atE es k).isSome, H2, I3, rfl, q2⟩
theorem pc_tnotin (hu : X.A.units + 64 < cLine) (hi : PE X i ty) (ho : PE X o td) : PC X .NotIn i o (tTIn X true ty td) := by
  refine ⟨fun pins s σ H Q I h => ?_⟩
  refine thn (hi.run pins s σ H _ I h) fun iv s1 ⟨y, H1, I1, ry, q1⟩ => thn (ho.run pins s1 σ H1 _ I1 q1) fun u s2 ⟨x, H2, I2, rx, a, b, k, es, ex, ey, hk, h8, g, q2⟩ => ?_
  subst ex ey
  obtain rfl : u = Value.ref a := rx
  obtain rfl : iv = Value.ref b := ry
  exact t_notIn hu I2 g hk h8 fun s3 I3 => ⟨.bl (!(atE es k).isSome), H2, I3, rfl, q2⟩
theorem ps_tput (hu : X.A.units + 64 < cLine) (ho : PE X o td) (hi : PE X i ty) (hv : PE X value tv) (hs : swapsWith value (some (.Subscript o i pos')) pos.line X.env = pure false) :
    PS X (.Assign [.Subscript o i pos'] value pos) (sTPut X td ty tv) := by
  refine ⟨fun pins s σ H D I h => ?_⟩
  refine wpAny_Assign_Subscript (thn (hv.run pins s σ H _ I h) fun r s1 ⟨v, H1, I1, rv, q1⟩ => thn (ho.run pins s1 σ H1 _ I1 q1) fun u s2 ⟨x, H2, I2, rx, q2⟩ => thn (hi.run pins s2 σ H2 _ I2 q2) fun iv s3 ⟨y, H3, I3, ry, a, b, k, es, ex, ey, hk, h8, g, hz, q3⟩ => ?_) hs
  subst ex ey
  obtain rfl : u = Value.ref a := rx
  obtain rfl : iv = Value.ref b := ry
  exact t_setItem hu I3 g hk h8 hz rv fun s4 I4 => ⟨σ, _, I4, q3⟩
end
section
variable {K : PySem.W.Frag} {mg : Str → Option Value} {W : Wd} {H : Hp}
theorem VRt.at {p : PV} {k : NestedKey} (hk : nkP p = some k) : ∀ {kvs : List (PV × PV)} {es : List (NestedKey × Addr × V)}, VRt K mg W H kvs es → (∀ q, ndAt kvs p = some q → ∃ v, atE es k = some v ∧ VR K mg W H q v) ∧ (ndAt kvs p = none → atE es k = none)
  | [], es, h => by unfold VRt at h; subst h; exact ⟨(fun q e => nomatch e), fun _ => rfl⟩
  | (x, y) :: kvs, es, h => by
    unfold VRt at h
    obtain ⟨k', b, v, r, rfl, h1, _, h4, h5, h6⟩ := h
    have ih := VRt.at hk h6
    by_cases e : k' = k
    · have e' : nkP x = nkP p := by rw [h1, hk, e]
      refine ⟨fun q hq => ⟨v, by simp [atE, List.find?, e], ?_⟩, fun hn => by simp [ndAt, List.find?, e'] at hn⟩
      have : y = q := by simpa [ndAt, List.find?, e'] using hq
      rw [← this]; exact h5
    · have e' : ¬ nkP x = nkP p := by rw [h1, hk]; exact fun z => e (Option.some.inj z)
      have e1 : atE ((k', b, v) :: r) k = atE r k := by simp [atE, List.find?, e]
      have e2 : ndAt ((x, y) :: kvs) p = ndAt kvs p := by simp [ndAt, List.find?, e']
      rw [e1, e2]; exact ih
theorem VRt.at_some {p : PV} {k : NestedKey} (hk : nkP p = some k) {kvs : List (PV × PV)} {es : List (NestedKey × Addr × V)} (h : VRt K mg W H kvs es) : (atE es k).isSome = (ndAt kvs p).isSome := by
  cases e : ndAt kvs p with
  | none => rw [(VRt.at hk h).2 e]; rfl
  | some q => obtain ⟨v, e1, _⟩ := (VRt.at hk h).1 q e; rw [e1]; rfl
theorem VRt.len : ∀ {kvs : List (PV × PV)} {es : List (NestedKey × Addr × V)}, VRt K mg W H kvs es → kvs.length = es.length
  | [], es, h => by unfold VRt at h; subst h; rfl
  | (x, y) :: kvs, es, h => by
    unfold VRt at h
    obtain ⟨k', b, v, r, rfl, _, _, _, _, h6⟩ := h
    rw [List.length_cons, List.length_cons, VRt.len h6]
theorem VRt.snoc {p q : PV} {k : NestedKey} {b : Addr} {v : V} (hk : nkP p = some k) (h8 : k.depth ≤ 8) (hp : VR K mg W H p (.ref b)) (hq : VR K mg W H q v) : ∀ {kvs : List (PV × PV)} {es : List (NestedKey × Addr × V)}, VRt K mg W H kvs es → VRt K mg W H (kvs ++ [(p, q)]) (es ++ [(k, b, v)])
  | [], es, h => by unfold VRt at h; subst h; unfold VRt; exact ⟨k, b, v, [], rfl, hk, h8, hp, hq, by unfold VRt; rfl⟩
  | (x, y) :: kvs, es, h => by
    unfold VRt at h
    obtain ⟨k', b', v', r, rfl, h1, h3, h4, h5, h6⟩ := h
    show VRt K mg W H ((x, y) :: (kvs ++ [(p, q)])) _
    unfold VRt
    exact ⟨k', b', v', r ++ [(k, b, v)], rfl, h1, h3, h4, h5, VRt.snoc hk h8 hp hq h6⟩
theorem VRt.map {p q : PV} {k : NestedKey} {v : V} (hk : nkP p = some k) (hq : VR K mg W H q v) : ∀ {kvs : List (PV × PV)} {es : List (NestedKey × Addr × V)}, VRt K mg W H kvs es → VRt K mg W H (kvs.map fun kv => if nkP kv.1 = nkP p then (kv.1, q) else kv) (es.map fun x => if x.1 = k then (x.1, x.2.1, v) else x)
  | [], es, h => by unfold VRt at h; subst h; unfold List.map; unfold VRt; rfl
  | (x, y) :: kvs, es, h => by
    unfold VRt at h
    obtain ⟨k', b', v', r, rfl, h1, h3, h4, h5, h6⟩ := h
    have ih := VRt.map hk hq h6
    rw [List.map_cons, List.map_cons]
    by_cases e : k' = k
    · have e' : nkP x = nkP p := by rw [h1, hk, e]
      simp only [if_pos e, if_pos e']
      unfold VRt
      exact ⟨k', b', v, _, rfl, h1, h3, h4, hq, ih⟩
    · have e' : ¬ nkP x = nkP p := by rw [h1, hk]; exact fun z => e (Option.some.inj z)
      simp only [if_neg e, if_neg e']
      unfold VRt
      exact ⟨k', b', v', _, rfl, h1, h3, h4, h5, ih⟩
theorem VRt.put {p q : PV} {k : NestedKey} {b : Addr} {v : V} (hk : nkP p = some k) (h8 : k.depth ≤ 8) (hp : VR K mg W H p (.ref b)) (hq : VR K mg W H q v) {kvs : List (PV × PV)} {es : List (NestedKey × Addr × V)} (h : VRt K mg W H kvs es) : VRt K mg W H (ndPut kvs p q) (putE es k b v) := by
  unfold ndPut putE
  rw [VRt.at_some hk h]
  split
  · exact VRt.map hk hq h
  · exact VRt.snoc hk h8 hp hq h
end
section
variable {X : Cx} {W : Wd} {H : Hp}
theorem VRt.mem : ∀ {kvs : List (PV × PV)} {es : List (NestedKey × Addr × V)}, VRt X.K X.mg W H kvs es → ∀ e ∈ es, NkV X H e.1 (.ref e.2.1) ∧ e.1.depth ≤ 8
  | [], es, h => by unfold VRt at h; subst h; intro e he; cases he
  | (x, y) :: kvs, es, h => by
    unfold VRt at h
    obtain ⟨k', b', v', r, rfl, h1, h3, h4, h5, h6⟩ := h
    intro e he
    rcases List.mem_cons.mp he with rfl | he
    · exact ⟨VR.nkv _ _ _ h4 h1, h3⟩
    · exact VRt.mem h6 e he
theorem td_cell {et : Hi} (c : Cel X.K X.mg H et W) {n : Nat} {kvs : List (PV × PV)} {u : V} (hn : et[n]? = some (.td (kh X) kvs)) (hu : VR X.K X.mg W H (.ref n) u) : ∃ a es, u = .ref a ∧ W.mu[n]? = some a ∧ TDat X H a es ∧ VRt X.K X.mg W H kvs es := by
  unfold VR at hu
  obtain ⟨a, rfl, hm⟩ := hu
  rcases c.ok n _ a hn hm with ⟨rfl, h⟩ | ⟨es, h, hv⟩
  · exact ⟨a, [], rfl, hm, .inl ⟨rfl, h⟩, by unfold VRt; rfl⟩
  · exact ⟨a, es, rfl, hm, .inr ⟨h, VRt.mem hv⟩, hv⟩
end
def mTdIn (hs : NestedKey → Int) (neg : Bool) (ma mb : EM PV) : EM PV := fun ep et R => ma ep et fun p et1 => mb ep et1 fun q et2 => ∃ n kvs, q = .ref n ∧ et2[n]? = some (.td hs kvs) ∧ nkAsk p = true ∧ R (.bl (if neg = true then !(ndAt kvs p).isSome else (ndAt kvs p).isSome)) et2
def mTdPut (hs : NestedKey → Int) (mv mo mk : EM PV) : SM := fun ep et R => mv ep et fun v et1 => mo ep et1 fun q et2 => mk ep et2 fun p et3 => ∃ n kvs, q = .ref n ∧ et3[n]? = some (.td hs kvs) ∧ nkAsk p = true ∧ kvs.length < sizeLine ∧ R .nx ep (et3.set n (.td hs (ndPut kvs p v)))
section
variable {X : Cx} {a b o i e : Expr} {ma mb mo mk mv : EM PV} {pos pos' : Pos}
theorem tin_weak (neg : Bool) : ∀ σ H Q, tI X.K X.mg (pV X.K X.mg) (mTdIn (kh X) neg ma mb) σ H Q → tTIn X neg (tI X.K X.mg (pV X.K X.mg) ma) (tI X.K X.mg (pV X.K X.mg) mb) σ H Q := fun σ H Q ⟨ep, et, W, R0, c, s, e, q⟩ => by
  refine ⟨ep, et, W, _, c, s, e, fun p et1 r1 v H1 W1 x1 c1 p1 => ⟨ep, et1, W1, _, c1, s.ext c x1, r1, fun p' et2 r2 u H2 W2 x2 c2 p2 => ?_⟩⟩
  obtain ⟨n, kvs, rfl, hn, ha, r3⟩ := r2
  obtain ⟨A, es, rfl, hm, g, hv⟩ := td_cell c2 hn p2
  obtain ⟨b', k, rfl, ek, h8, hk⟩ := ask_v ha (VR.ext x2 c1.stays0 _ _ p1)
  refine ⟨A, b', k, es, rfl, rfl, hk, h8, g, ?_⟩
  rw [VRt.at_some ek hv]
  exact q _ et2 r3 _ H2 W2 (x1.NoO_trans x2) c2 VR.bl
theorem sE_tdin (hu : X.A.units + 64 < cLine) (ha : SimE X a ma) (hb : SimE X b mb) (h1 : behindInMarks .In b = false := by rfl) : SimE X (.Compare a [.In] [b] pos) (mTdIn (kh X) false ma mb) := weakE (pe_cmp (pc_tin hu ha hb) h1) (tin_weak false)
theorem s_tdput (hu : X.A.units + 64 < cLine) (hv : SimE X e mv) (ho : SimE X o mo) (hi : SimE X i mk) (hs : swapsWith e (some (.Subscript o i pos')) pos.line X.env = pure false := by rfl) : SimS X (.Assign [.Subscript o i pos'] e pos) (mTdPut (kh X) mv mo mk) :=
  weakS (ps_tput hu ho hi hv hs) fun D σ H ⟨ep, et, W, R, c, s, e, q⟩ => by
  refine ⟨ep, et, W, _, c, s, e, fun p et1 r1 v H1 W1 x1 c1 p1 => ⟨ep, et1, W1, _, c1, s.ext c x1, r1, fun p' et2 r2 u H2 W2 x2 c2 p2 => ⟨ep, et2, W2, _, c2, s.ext c (x1.NoO_trans x2), r2, fun p'' et3 r3 u3 H3 W3 x3 c3 p3 => ?_⟩⟩⟩
  obtain ⟨n, kvs, rfl, hn, hkey, hz, r4⟩ := r3
  have x23 := x2.NoO_trans x3
  have x13 := x1.NoO_trans x23
  obtain ⟨A, es, rfl, hm, g, hv⟩ := td_cell c3 hn (VR.ext x3 c2.stays0 _ _ p2)
  obtain ⟨xs, k, rfl, ek, h8⟩ := nkAsk_of hkey
  have p3' : VR X.K X.mg W3 H3 (.tup xs) u3 := p3
  have hb := p3'
  unfold VR at hb
  obtain ⟨b', _, rfl, _⟩ := hb
  have v3 : VR X.K X.mg W3 H3 p v := VR.ext x23 c1.stays0 _ _ p1
  refine ⟨A, b', k, es, rfl, rfl, VR.nkv _ _ _ p3' ek, h8, g, by rw [← hv.len]; exact hz, ?_⟩
  obtain ⟨x4, c4, vr4⟩ := cell_write (d' := .td (kh X) (ndPut kvs (.tup xs) p)) (o := DT (kh X) A (putE es k b' v)) c3 hn (by simp) (by simp) hm fun H4 et4 xx ha => .inr ⟨_, ha, VRt.ext xx c3.stays0 _ _ (VRt.put ek h8 p3' v3 hv)⟩
  exact q .nx ep _ r4 σ _ W3 (Ext.to (x13.NoO_trans x4)) c4 ((s.ext c x13).ext c3 x4) fun a h => .inl h
def mTdSh (hs : NestedKey → Int) (m : EM PV) : EM PV := fun ep et R => m ep et fun p et1 => p = .dic [] ∧ R (.ref et1.length) (et1 ++ [.td hs []])
theorem sE_tdsh {hs : NestedKey → Int} {m : EM PV} (h : SimN X e m) : SimE X e (mTdSh hs m) := weakE h fun σ H Q ⟨ep, et, W, R, c, s, e, q⟩ => ⟨ep, et, W, _, c, s, e, fun p et1 r1 v H1 W1 x1 c1 p1 => by
  obtain ⟨rfl, r2⟩ := r1
  obtain ⟨a, rfl, h0, hf, hl, ho⟩ := p1
  obtain ⟨c2, hlv, vr, _⟩ := c1.share hf hl ho (show cellP (.dic []) = some (.dic []) from rfl)
  have hg : (et1 ++ [Cell.dic []])[et1.length]? = some (.dic []) := by simp
  have c3 := c2.recell hg (d' := .td hs []) (by simp) (by simp) fun b hb ⟨vs, h1, h2⟩ => by
    unfold VRk at h2
    subst h2
    exact .inl ⟨rfl, h1⟩
  rw [set_last] at c3
  refine q _ _ r2 _ H1 (W1.shr a) ⟨x1.fz, x1.nfz, ?_, fun b hb => ?_, x1.keep, x1.there⟩ c3 vr
  · obtain ⟨m, hm⟩ := x1.mu
    exact ⟨m ++ [a], by show W1.mu ++ [a] = _; rw [hm, List.append_assoc]⟩
  · rw [← set_last (c := .dic [])] at hb
    rcases hlv b ((Live.set hg (by simp) (by simp) b).mp hb) with z | rfl
    · exact x1.live b z
    · exact .inr h0⟩
theorem sT_tdnotin {a b : Expr} {ma mb : EM PV} {pos : Pos} {X : Cx} (hu : X.A.units + 64 < cLine) (ha : SimE X a ma) (hb : SimE X b mb) (h1 : behindInMarks .NotIn b = false := by rfl) : SimT X (.Compare a [.NotIn] [b] pos) (mAsT (mTdIn (kh X) true ma mb)) := sT_pc (pc_tnotin hu ha hb) (tin_weak true) h1
end
end Mw
namespace Mw
open PySem PySem.Spec L2
section
variable (K : PySem.W.Frag) (mg : Str → Option Value)
def CV (p : PV) (u : Value) : Prop := ∃ v, RelV v u ∧ ∀ W H, VR K mg W H p v
def CVs : List PV → List Value → Prop
  | [], us => us = []
  | p :: ps, us => ∃ u r, us = u :: r ∧ CV K mg p u ∧ CVs ps r
end
section
variable {K : PySem.W.Frag} {mg : Str → Option Value}
theorem CV.int {i : Int} {t : Tok} : CV K mg (.int i) (.int i t) := ⟨.int i, ⟨t, rfl⟩, fun _ _ => VR.int⟩
theorem CV.str {x : Str} {t : Tok} : CV K mg (.str x) (.str x t) := ⟨.str x, ⟨t, rfl⟩, fun _ _ => VR.str⟩
theorem CVs.nil : CVs K mg [] [] := rfl
theorem CVs.cons {p : PV} {u : Value} {ps : List PV} {us : List Value} (h : CV K mg p u) (g : CVs K mg ps us) : CVs K mg (p :: ps) (u :: us) := ⟨u, us, rfl, h, g⟩
theorem CVs.vals : ∀ {ps : List PV} {us : List Value}, CVs K mg ps us → ∃ vs : List V, Vals vs us ∧ ∀ W H, VRs K mg W H ps vs
  | [], us, h => by cases h; exact ⟨[], .nil, fun _ _ => VRs.nil⟩
  | p :: ps, us, ⟨u, r, e, ⟨v, h1, h2⟩, g⟩ => by
    obtain ⟨vs, g1, g2⟩ := CVs.vals g
    subst e
    exact ⟨v :: vs, .cons h1 g1, fun W H => VRs.cons (h2 W H) (g2 W H)⟩
theorem CV.tup {ps : List PV} {us : List Value} {a : Addr} {n : Nat} {sl : Array (Option Value)} (hk : K.lookup a = some ⟨.type "tuple", none, .seq us.toArray n, sl⟩) (hz : us.length ≤ 1000) (h : CVs K mg ps us) : CV K mg (.tup ps) (.ref a) := by
  obtain ⟨vs, h1, h2⟩ := h.vals
  refine ⟨.ref a, rfl, fun W H => ?_⟩
  unfold VR
  refine ⟨a, vs, rfl, .inr ⟨_, us.toArray, n, hk, rfl, rfl, rfl, ?_, h1⟩, h2 W H⟩
  have : us.length ≤ sizeLine := Nat.le_of_lt (small1000 hz)
  simpa using this
theorem Glob.of {x : Str} {p : PV} {u : Value} (h : mg x = some u) (c : CV K mg p u) : Glob K mg x p := by
  obtain ⟨v, h1, h2⟩ := c
  exact ⟨u, v, h, h1, h2⟩
end
end Mw
namespace Mw
open PySem PySem.Spec L2
end Mw
namespace Mw
open PySem PySem.Spec L2
end Mw
namespace Mw
open PySem PySem.Spec L2
end Mw
namespace Mw
open PySem PySem.Spec L2
section
variable {X : Cx} {K : PySem.W.Frag} {mg : Str → Option Value}
theorem VRs.strs {H : Hp} {W : Wd} : ∀ ys : List Str, VRs K mg W H (ys.map .str) (ys.map V.str)
  | [] => VRs.nil
  | y :: ys => VRs.cons VR.str (VRs.strs ys)
variable {o e : Expr} {es : List Expr} {mo : EM PV} {ms : EM (List PV)} {name : Str} {apos cpos : Pos} {t : Ty} {R : V → List V → Hp → VK → Prop} {g : PV → List PV → Option PV}
end
end Mw
namespace Mw
open PySem PySem.Spec PyProof.Rows L2
end Mw
namespace Mw
open PySem PySem.Spec L2
end Mw
namespace Mw
open PySem PySem.Spec L2
end Mw
namespace Mw
open PySem PySem.Spec L2
end Mw
namespace Mw
open PySem PySem.Spec L2
end Mw
namespace Mw
open PySem PySem.Spec L2
end Mw
namespace Mw
open PySem PySem.Spec L2
end Mw
namespace Mw
open PySem PySem.Spec L2 PyProof.Rows
def mSubSetN (i : Nat) (me mi : EM PV) : SM := fun ep et R => ∃ xs, ep[i]? = some (.own (.lst xs)) ∧ me ep et fun v et1 => mi ep et1 fun k et2 => ∃ n j, k = .int n ∧ ixN xs.length n = some j ∧ R .nx (ep.set i (.own (.lst (xs.set j v)))) et2
section
variable {X : Cx}
theorem s_subSetN {i : Nat} {x : Str} {px p2 pos : Pos} {ix e : Expr} {me mi : EM PV} (he : SimE X e me) (ho : PE X (.Name x px) (tVar i)) (hi : SimE X ix mi)
    (h : ∀ {te to ti : TE}, PE X e te → PE X (.Name x px) to → PE X ix ti → PS X (.Assign [.Subscript (.Name x px) ix p2] e pos) (tAsg te (L2.gSub to ti rSetL))) : SimS X (.Assign [.Subscript (.Name x px) ix p2] e pos) (mSubSetN i me mi) :=
  weakS (h he ho hi) fun D σ H ⟨ep, et, W, R, c, s, e, q⟩ => by
  obtain ⟨xs, hx, e⟩ := e
  have hlt := (List.getElem?_eq_some_iff.mp hx).1
  have hσ0 : σ[i]? = some (σ[i]'(by rw [← s.len]; exact hlt)) := List.getElem?_eq_getElem _
  obtain ⟨a, e1, e2⟩ := s.ok i _ _ hx hσ0
  have hσ : σ[i]? = some (some (V.ref a)) := by rw [hσ0, e1]
  refine ⟨ep, et, W, _, c, s, e, fun p et1 r1 v H1 W1 x1 c1 p1 => ⟨V.ref a, hσ, ep, et1, W1, _, c1, s.ext c x1, r1, fun k et2 r2 u H2 W2 x2 c2 p2 => ?_⟩⟩
  obtain ⟨n, j, rfl, hj, r⟩ := r2
  have x12 := x1.NoO_trans x2
  have s2 := s.ext c x12
  obtain ⟨a', ea, o2⟩ := s2.ok i _ _ hx hσ
  cases ea
  obtain ⟨vs, h1, h2⟩ := o2
  have eu : u = .int n := by
    have w3 : VR X.K X.mg W2 H2 (.int n) u := p2
    unfold VR at w3
    exact w3
  obtain ⟨x3, c3, s3, o3, _⟩ := own_write c2 s2 (i := i) (p := .lst xs) (p' := .lst (xs.set j p)) (a := a) (o := .lst (vs.set j v)) hx hσ (VRs.set j h2 (VR.ext x2 c1.stays0 _ _ p1))
  refine ⟨a, vs, n, j, rfl, eu, h1, by rw [← h2.len]; exact hj, ?_⟩
  have x13 : Ext (Own ep σ) H et W (upd H2 a (.lst (vs.set j v))) et2 W2 := (x12.mono (fun _ h => h.elim)).trans x3 fun _ h => .inl h
  exact q .nx _ et2 r σ _ W2 x13 c3 s3 fun b h => .inl (o3 b h)
end
end Mw
local macro_rules | `(tactic| dsimp! [$xs,*]) => `(tactic| simp only [Mw.mSeq, Mw.mSet, Mw.mSetN, Mw.mSetX, Mw.mExpr, Mw.mExprX, Mw.mRet, Mw.mRetN, Mw.mRetX, Mw.mIf, Mw.mNext, Mw.mPass, Mw.mBrk, Mw.mCnt, Mw.mFrz, Mw.mAsg, Mw.mAsgX, Mw.mPar, Mw.mParN, Mw.mBin, Mw.mUn, Mw.mArg, Mw.mC, Mw.mVar, Mw.mPeek, Mw.mCall, Mw.mCons, Mw.mNil, Mw.mTup, Mw.mLst, Mw.mBinT, Mw.mAsT, Mw.mNotT, Mw.mAndT, Mw.mOrT, Mw.mAndE, Mw.mOrE, Mw.mNotE, Mw.mIfE, Mw.mChain, Mw.mChainT, Mw.mSl, Mw.mO0, Mw.mO1, Mw.mIter, Mw.mRng1, Mw.mRng2, Mw.mZip, Mw.mEnum, Mw.mMut, Mw.mMutR, Mw.mSubSet, Mw.mShare, Mw.mMeth, Mw.mFor, Mw.mLc, Mw.mYes, Mw.slotV, Mw.frzS, Mw.tgN, Mw.tgT, Mw.tgNs, Mw.wipeE, Mw.retK, Mw.mAug, List.foldl_cons, List.foldl_nil, Mw.deref_int, Mw.deref_str, Mw.deref_bl, Mw.deref_non, Mw.deref_tup, Mw.deref_lst, Mw.deref_scr, Mw.deref_dic, Mw.deref_ty, Mw.isLst, Mw.cellP, List.getElem?_cons_zero, List.getElem?_cons_succ, List.getElem?_nil, List.set_cons_zero, List.set_cons_succ, List.map_cons, List.map_nil, List.length_cons, List.length_nil, List.cons_append, List.nil_append, Option.some.injEq, Mw.Slot.val.injEq, Mw.Slot.own.injEq, Mw.PV.int.injEq, Mw.PV.bl.injEq, Mw.PV.str.injEq, Mw.PV.ref.injEq, Mw.PV.lst.injEq, Mw.PV.tup.injEq, exists_eq_left', exists_eq_left, and_true, true_and, true_or, or_true, and_self, reduceCtorEq, Mw.gSubI, Mw.gMul, Mw.gDiv, Mw.gMod, Mw.gPow, Mw.gLt, Mw.gLe, Mw.gGt, Mw.gGe, Mw.gIx, Mw.gNeg, Mw.eqB_int, Mw.gEq_int, Mw.gNe_int, Mw.gEq_str, Mw.gNe_str, if_true, if_false, Bool.false_eq_true, Nat.reduceAdd, Nat.zero_add, Bool.not_true, Bool.not_false, Mw.atI_c0, Mw.atI_c1, Mw.atI_c2, Mw.mAugSub, Mw.mSortedT, Mw.mDPutN, Mw.mFld, Mw.mFldSet, Mw.mFldAug, Mw.mObj, Mw.mNew, Mw.mListRg1, Mw.mListRg2, Mw.atI_c3, Mw.atI_c4, Mw.mEnumA, Mw.mZip3, $xs,*])
local macro_rules | `(tactic| dsimp!) => `(tactic| simp only [Mw.mSeq, Mw.mSet, Mw.mSetN, Mw.mSetX, Mw.mExpr, Mw.mExprX, Mw.mRet, Mw.mRetN, Mw.mRetX, Mw.mIf, Mw.mNext, Mw.mPass, Mw.mBrk, Mw.mCnt, Mw.mFrz, Mw.mAsg, Mw.mAsgX, Mw.mPar, Mw.mParN, Mw.mBin, Mw.mUn, Mw.mArg, Mw.mC, Mw.mVar, Mw.mPeek, Mw.mCall, Mw.mCons, Mw.mNil, Mw.mTup, Mw.mLst, Mw.mBinT, Mw.mAsT, Mw.mNotT, Mw.mAndT, Mw.mOrT, Mw.mAndE, Mw.mOrE, Mw.mNotE, Mw.mIfE, Mw.mChain, Mw.mChainT, Mw.mSl, Mw.mO0, Mw.mO1, Mw.mIter, Mw.mRng1, Mw.mRng2, Mw.mZip, Mw.mEnum, Mw.mMut, Mw.mMutR, Mw.mSubSet, Mw.mShare, Mw.mMeth, Mw.mFor, Mw.mLc, Mw.mYes, Mw.slotV, Mw.frzS, Mw.tgN, Mw.tgT, Mw.tgNs, Mw.wipeE, Mw.retK, Mw.mAug, List.foldl_cons, List.foldl_nil, Mw.deref_int, Mw.deref_str, Mw.deref_bl, Mw.deref_non, Mw.deref_tup, Mw.deref_lst, Mw.deref_scr, Mw.deref_dic, Mw.deref_ty, Mw.isLst, Mw.cellP, List.getElem?_cons_zero, List.getElem?_cons_succ, List.getElem?_nil, List.set_cons_zero, List.set_cons_succ, List.map_cons, List.map_nil, List.length_cons, List.length_nil, List.cons_append, List.nil_append, Option.some.injEq, Mw.Slot.val.injEq, Mw.Slot.own.injEq, Mw.PV.int.injEq, Mw.PV.bl.injEq, Mw.PV.str.injEq, Mw.PV.ref.injEq, Mw.PV.lst.injEq, Mw.PV.tup.injEq, exists_eq_left', exists_eq_left, and_true, true_and, true_or, or_true, and_self, reduceCtorEq, Mw.gSubI, Mw.gMul, Mw.gDiv, Mw.gMod, Mw.gPow, Mw.gLt, Mw.gLe, Mw.gGt, Mw.gGe, Mw.gIx, Mw.gNeg, Mw.eqB_int, Mw.gEq_int, Mw.gNe_int, Mw.gEq_str, Mw.gNe_str, if_true, if_false, Bool.false_eq_true, Nat.reduceAdd, Nat.zero_add, Bool.not_true, Bool.not_false, Mw.atI_c0, Mw.atI_c1, Mw.atI_c2, Mw.mAugSub, Mw.mSortedT, Mw.mDPutN, Mw.mFld, Mw.mFldSet, Mw.mFldAug, Mw.mObj, Mw.mNew, Mw.mListRg1, Mw.mListRg2, Mw.atI_c3, Mw.atI_c4, Mw.mEnumA, Mw.mZip3])
local macro_rules | `(tactic| simp! [$xs,*]) => `(tactic| simp only [Mw.mSeq, Mw.mSet, Mw.mSetN, Mw.mSetX, Mw.mExpr, Mw.mExprX, Mw.mRet, Mw.mRetN, Mw.mRetX, Mw.mIf, Mw.mNext, Mw.mPass, Mw.mBrk, Mw.mCnt, Mw.mFrz, Mw.mAsg, Mw.mAsgX, Mw.mPar, Mw.mParN, Mw.mBin, Mw.mUn, Mw.mArg, Mw.mC, Mw.mVar, Mw.mPeek, Mw.mCall, Mw.mCons, Mw.mNil, Mw.mTup, Mw.mLst, Mw.mBinT, Mw.mAsT, Mw.mNotT, Mw.mAndT, Mw.mOrT, Mw.mAndE, Mw.mOrE, Mw.mNotE, Mw.mIfE, Mw.mChain, Mw.mChainT, Mw.mSl, Mw.mO0, Mw.mO1, Mw.mIter, Mw.mRng1, Mw.mRng2, Mw.mZip, Mw.mEnum, Mw.mMut, Mw.mMutR, Mw.mSubSet, Mw.mShare, Mw.mMeth, Mw.mFor, Mw.mLc, Mw.mYes, Mw.slotV, Mw.frzS, Mw.tgN, Mw.tgT, Mw.tgNs, Mw.wipeE, Mw.retK, Mw.mAug, List.foldl_cons, List.foldl_nil, Mw.deref_int, Mw.deref_str, Mw.deref_bl, Mw.deref_non, Mw.deref_tup, Mw.deref_lst, Mw.deref_scr, Mw.deref_dic, Mw.deref_ty, Mw.isLst, Mw.cellP, List.getElem?_cons_zero, List.getElem?_cons_succ, List.getElem?_nil, List.set_cons_zero, List.set_cons_succ, List.map_cons, List.map_nil, List.length_cons, List.length_nil, List.cons_append, List.nil_append, Option.some.injEq, Mw.Slot.val.injEq, Mw.Slot.own.injEq, Mw.PV.int.injEq, Mw.PV.bl.injEq, Mw.PV.str.injEq, Mw.PV.ref.injEq, Mw.PV.lst.injEq, Mw.PV.tup.injEq, exists_eq_left', exists_eq_left, and_true, true_and, true_or, or_true, and_self, reduceCtorEq, Mw.gAdd, Mw.gSubI, Mw.gMul, Mw.gDiv, Mw.gMod, Mw.gPow, Mw.gLt, Mw.gLe, Mw.gGt, Mw.gGe, Mw.gIx, Mw.gNeg, Mw.eqB_int, Mw.gEq_int, Mw.gNe_int, Mw.gEq_str, Mw.gNe_str, if_true, if_false, Bool.false_eq_true, Nat.reduceAdd, Nat.zero_add, Bool.not_true, Bool.not_false, Mw.atI_c0, Mw.atI_c1, Mw.atI_c2, Mw.mAugSub, Mw.mSortedT, Mw.mDPutN, Mw.mFld, Mw.mFldSet, Mw.mFldAug, Mw.mObj, Mw.mNew, Mw.mListRg1, Mw.mListRg2, Mw.atI_c3, Mw.atI_c4, Mw.mEnumA, Mw.mZip3, $xs,*])
local macro_rules | `(tactic| simp!) => `(tactic| simp only [Mw.mSeq, Mw.mSet, Mw.mSetN, Mw.mSetX, Mw.mExpr, Mw.mExprX, Mw.mRet, Mw.mRetN, Mw.mRetX, Mw.mIf, Mw.mNext, Mw.mPass, Mw.mBrk, Mw.mCnt, Mw.mFrz, Mw.mAsg, Mw.mAsgX, Mw.mPar, Mw.mParN, Mw.mBin, Mw.mUn, Mw.mArg, Mw.mC, Mw.mVar, Mw.mPeek, Mw.mCall, Mw.mCons, Mw.mNil, Mw.mTup, Mw.mLst, Mw.mBinT, Mw.mAsT, Mw.mNotT, Mw.mAndT, Mw.mOrT, Mw.mAndE, Mw.mOrE, Mw.mNotE, Mw.mIfE, Mw.mChain, Mw.mChainT, Mw.mSl, Mw.mO0, Mw.mO1, Mw.mIter, Mw.mRng1, Mw.mRng2, Mw.mZip, Mw.mEnum, Mw.mMut, Mw.mMutR, Mw.mSubSet, Mw.mShare, Mw.mMeth, Mw.mFor, Mw.mLc, Mw.mYes, Mw.slotV, Mw.frzS, Mw.tgN, Mw.tgT, Mw.tgNs, Mw.wipeE, Mw.retK, Mw.mAug, List.foldl_cons, List.foldl_nil, Mw.deref_int, Mw.deref_str, Mw.deref_bl, Mw.deref_non, Mw.deref_tup, Mw.deref_lst, Mw.deref_scr, Mw.deref_dic, Mw.deref_ty, Mw.isLst, Mw.cellP, List.getElem?_cons_zero, List.getElem?_cons_succ, List.getElem?_nil, List.set_cons_zero, List.set_cons_succ, List.map_cons, List.map_nil, List.length_cons, List.length_nil, List.cons_append, List.nil_append, Option.some.injEq, Mw.Slot.val.injEq, Mw.Slot.own.injEq, Mw.PV.int.injEq, Mw.PV.bl.injEq, Mw.PV.str.injEq, Mw.PV.ref.injEq, Mw.PV.lst.injEq, Mw.PV.tup.injEq, exists_eq_left', exists_eq_left, and_true, true_and, true_or, or_true, and_self, reduceCtorEq, Mw.gAdd, Mw.gSubI, Mw.gMul, Mw.gDiv, Mw.gMod, Mw.gPow, Mw.gLt, Mw.gLe, Mw.gGt, Mw.gGe, Mw.gIx, Mw.gNeg, Mw.eqB_int, Mw.gEq_int, Mw.gNe_int, Mw.gEq_str, Mw.gNe_str, if_true, if_false, Bool.false_eq_true, Nat.reduceAdd, Nat.zero_add, Bool.not_true, Bool.not_false, Mw.atI_c0, Mw.atI_c1, Mw.atI_c2, Mw.mAugSub, Mw.mSortedT, Mw.mDPutN, Mw.mFld, Mw.mFldSet, Mw.mFldAug, Mw.mObj, Mw.mNew, Mw.mListRg1, Mw.mListRg2, Mw.atI_c3, Mw.atI_c4, Mw.mEnumA, Mw.mZip3])
local macro_rules | `(tactic| simp! only [$xs,*]) => `(tactic| simp only [Mw.mSeq, Mw.mSet, Mw.mSetN, Mw.mSetX, Mw.mExpr, Mw.mExprX, Mw.mRet, Mw.mRetN, Mw.mRetX, Mw.mIf, Mw.mNext, Mw.mPass, Mw.mBrk, Mw.mCnt, Mw.mFrz, Mw.mAsg, Mw.mAsgX, Mw.mPar, Mw.mParN, Mw.mBin, Mw.mUn, Mw.mArg, Mw.mC, Mw.mVar, Mw.mPeek, Mw.mCall, Mw.mCons, Mw.mNil, Mw.mTup, Mw.mLst, Mw.mBinT, Mw.mAsT, Mw.mNotT, Mw.mAndT, Mw.mOrT, Mw.mAndE, Mw.mOrE, Mw.mNotE, Mw.mIfE, Mw.mChain, Mw.mChainT, Mw.mSl, Mw.mO0, Mw.mO1, Mw.mIter, Mw.mRng1, Mw.mRng2, Mw.mZip, Mw.mEnum, Mw.mMut, Mw.mMutR, Mw.mSubSet, Mw.mShare, Mw.mMeth, Mw.mFor, Mw.mLc, Mw.mYes, Mw.slotV, Mw.frzS, Mw.tgN, Mw.tgT, Mw.tgNs, Mw.wipeE, Mw.retK, Mw.mAug, List.foldl_cons, List.foldl_nil, Mw.deref_int, Mw.deref_str, Mw.deref_bl, Mw.deref_non, Mw.deref_tup, Mw.deref_lst, Mw.deref_scr, Mw.deref_dic, Mw.deref_ty, Mw.isLst, Mw.cellP, List.getElem?_cons_zero, List.getElem?_cons_succ, List.getElem?_nil, List.set_cons_zero, List.set_cons_succ, List.map_cons, List.map_nil, List.length_cons, List.length_nil, List.cons_append, List.nil_append, Option.some.injEq, Mw.Slot.val.injEq, Mw.Slot.own.injEq, Mw.PV.int.injEq, Mw.PV.bl.injEq, Mw.PV.str.injEq, Mw.PV.ref.injEq, Mw.PV.lst.injEq, Mw.PV.tup.injEq, exists_eq_left', exists_eq_left, and_true, true_and, true_or, or_true, and_self, reduceCtorEq, Mw.gAdd, Mw.gSubI, Mw.gMul, Mw.gDiv, Mw.gMod, Mw.gPow, Mw.gLt, Mw.gLe, Mw.gGt, Mw.gGe, Mw.gIx, Mw.gNeg, Mw.eqB_int, Mw.gEq_int, Mw.gNe_int, Mw.gEq_str, Mw.gNe_str, if_true, if_false, Bool.false_eq_true, Nat.reduceAdd, Nat.zero_add, Bool.not_true, Bool.not_false, Mw.atI_c0, Mw.atI_c1, Mw.atI_c2, Mw.mAugSub, Mw.mSortedT, Mw.mDPutN, Mw.mFld, Mw.mFldSet, Mw.mFldAug, Mw.mObj, Mw.mNew, Mw.mListRg1, Mw.mListRg2, Mw.atI_c3, Mw.atI_c4, Mw.mEnumA, Mw.mZip3, Mw.Cell.ins.injEq, exists_eq_left, exists_eq_left', exists_and_left, exists_eq', and_assoc, List.mem_cons, List.mem_singleton, true_or, or_true, true_and, $xs,*])
local macro_rules | `(tactic| simp! only) => `(tactic| simp only [Mw.mSeq, Mw.mSet, Mw.mSetN, Mw.mSetX, Mw.mExpr, Mw.mExprX, Mw.mRet, Mw.mRetN, Mw.mRetX, Mw.mIf, Mw.mNext, Mw.mPass, Mw.mBrk, Mw.mCnt, Mw.mFrz, Mw.mAsg, Mw.mAsgX, Mw.mPar, Mw.mParN, Mw.mBin, Mw.mUn, Mw.mArg, Mw.mC, Mw.mVar, Mw.mPeek, Mw.mCall, Mw.mCons, Mw.mNil, Mw.mTup, Mw.mLst, Mw.mBinT, Mw.mAsT, Mw.mNotT, Mw.mAndT, Mw.mOrT, Mw.mAndE, Mw.mOrE, Mw.mNotE, Mw.mIfE, Mw.mChain, Mw.mChainT, Mw.mSl, Mw.mO0, Mw.mO1, Mw.mIter, Mw.mRng1, Mw.mRng2, Mw.mZip, Mw.mEnum, Mw.mMut, Mw.mMutR, Mw.mSubSet, Mw.mShare, Mw.mMeth, Mw.mFor, Mw.mLc, Mw.mYes, Mw.slotV, Mw.frzS, Mw.tgN, Mw.tgT, Mw.tgNs, Mw.wipeE, Mw.retK, Mw.mAug, List.foldl_cons, List.foldl_nil, Mw.deref_int, Mw.deref_str, Mw.deref_bl, Mw.deref_non, Mw.deref_tup, Mw.deref_lst, Mw.deref_scr, Mw.deref_dic, Mw.deref_ty, Mw.isLst, Mw.cellP, List.getElem?_cons_zero, List.getElem?_cons_succ, List.getElem?_nil, List.set_cons_zero, List.set_cons_succ, List.map_cons, List.map_nil, List.length_cons, List.length_nil, List.cons_append, List.nil_append, Option.some.injEq, Mw.Slot.val.injEq, Mw.Slot.own.injEq, Mw.PV.int.injEq, Mw.PV.bl.injEq, Mw.PV.str.injEq, Mw.PV.ref.injEq, Mw.PV.lst.injEq, Mw.PV.tup.injEq, exists_eq_left', exists_eq_left, and_true, true_and, true_or, or_true, and_self, reduceCtorEq, Mw.gAdd, Mw.gSubI, Mw.gMul, Mw.gDiv, Mw.gMod, Mw.gPow, Mw.gLt, Mw.gLe, Mw.gGt, Mw.gGe, Mw.gIx, Mw.gNeg, Mw.eqB_int, Mw.gEq_int, Mw.gNe_int, Mw.gEq_str, Mw.gNe_str, if_true, if_false, Bool.false_eq_true, Nat.reduceAdd, Nat.zero_add, Bool.not_true, Bool.not_false, Mw.atI_c0, Mw.atI_c1, Mw.atI_c2, Mw.mAugSub, Mw.mSortedT, Mw.mDPutN, Mw.mFld, Mw.mFldSet, Mw.mFldAug, Mw.mObj, Mw.mNew, Mw.mListRg1, Mw.mListRg2, Mw.atI_c3, Mw.atI_c4, Mw.mEnumA, Mw.mZip3, Mw.Cell.ins.injEq, exists_eq_left, exists_eq_left', exists_and_left, exists_eq', and_assoc, List.mem_cons, List.mem_singleton, true_or, or_true, true_and])
namespace Lw
open PySem L2 Mw
def r__law_pot_1 : SM := (mSet 1 (mBin gMod (mBin gAdd (mBin gAdd (mBin gMul (mPeek 1) (mC (.int 1000003))) (mBin gMod (mPeek 2) (mBin gPow (mC (.int 10)) (mC (.int 30))))) (mC (.int 13))) (mC (.int 2305843009213693951))))
def r__law_pot_2 : SM := (mRet (mShare (mLst (mCons (mShare (mLc (mIter (mSl gSlA (mPeek 0) mO0 (mO1 (mC (.int 63))))) [2] (tgN 2) (mBinT gGe (mPeek 2) (mBin gPow (mC (.int 10)) (mC (.int 18)))) (mVar 2))) (mCons (mVar 1) (mCons (mC (.int 0)) mNil))))))
def r__law_pot_0 : SM := (mSeq (mFor (mIter (mSl gSlA (mPeek 0) mO0 (mO1 (mC (.int 63))))) (tgN 2) (r__law_pot_1)) (r__law_pot_2))
def r__law_pot : SM := (mSeq (mSet 1 (mBin gAdd (mArg gLen (mCons (mPeek 0) mNil)) (mC (.int 7)))) (r__law_pot_0))
abbrev N__law_pot : List Str := ["_law_script", "_law_seed", "_law_cell"]
def r__law_take_0 : SM := (mExpr (mMutR gmPopAt (mBin gIx (mPeek 0) (mC (.int 0))) (mCons (mC (.int 0)) mNil)))
def r__law_take_4 : SM := (mRet (mVar 2))
def r__law_take_3 : SM := (mSeq (mSubSet (mBin gDiv (mBin gIx (mBin gIx (mPeek 0) (mC (.int 0))) (mC (.int 0))) (mPeek 1)) (mBin gIx (mPeek 0) (mC (.int 0))) (mC (.int 0))) (r__law_take_4))
def r__law_take_2 : SM := (mSeq (mSet 2 (mBin gMod (mBin gIx (mBin gIx (mPeek 0) (mC (.int 0))) (mC (.int 0))) (mPeek 1))) (r__law_take_3))
def r__law_take_8 : SM := (mRet (mBin gMod (mBin gAdd (mBin gDiv (mPeek 3) (mC (.int 97))) (mBin gDiv (mPeek 3) (mC (.int 1000033)))) (mPeek 1)))
def r__law_take_7 : SM := (mSeq (mSet 3 (mBin gMod (mBin gMul (mPeek 3) (mBin gAdd (mBin gMod (mPeek 3) (mC (.int 1000003))) (mBin gMul (mC (.int 99991)) (mBin gIx (mPeek 0) (mC (.int 2)))))) (mC (.int 2305843009213693907)))) (r__law_take_8))
def r__law_take_6 : SM := (mSeq (mSet 3 (mBin gMod (mBin gMul (mBin gAdd (mBin gAdd (mBin gIx (mPeek 0) (mC (.int 1))) (mBin gMul (mBin gMul (mC (.int 65537)) (mBin gIx (mPeek 0) (mC (.int 2)))) (mBin gIx (mPeek 0) (mC (.int 2))))) (mC (.int 11))) (mC (.int 48271))) (mC (.int 2305843009213693921)))) (r__law_take_7))
def r__law_take_5 : SM := (mSeq (mSubSet (mBin gAdd (mBin gIx (mPeek 0) (mC (.int 2))) (mC (.int 1))) (mVar 0) (mC (.int 2))) (r__law_take_6))
def r__law_take_1 : SM := (mSeq (mIf (mBinT gNe (mBin gIx (mPeek 0) (mC (.int 0))) (mLst mNil)) (r__law_take_2) mNext) (r__law_take_5))
def r__law_take : SM := (mSeq (mWhile (mAndT (mBinT gNe (mBin gIx (mPeek 0) (mC (.int 0))) (mLst mNil)) (mBinT gEq (mBin gIx (mBin gIx (mPeek 0) (mC (.int 0))) (mC (.int 0))) (mC (.int 0)))) (r__law_take_0)) (r__law_take_1))
abbrev N__law_take : List Str := ["_law_pot_here", "_law_many", "_law_digit", "_law_mixed"]
def r__law_of (S__law_take : FSpec) : SM := (mRet (mBin gIx (mPeek 1) (mCall 2 S__law_take (mCons (mVar 0) (mCons (mArg gLen (mCons (mPeek 1) mNil)) mNil)))))
abbrev N__law_of : List Str := ["_law_pot_here", "_law_some"]
def r__law_words_5 : SM := (mExprX (mMut 6 gmAppend (mCons (mBin gAdd (mPeek 8) (mBin gIx (mPeek 5) (mBin gMod (mBin gAdd (mPeek 3) (mBin gMul (mPeek 7) (mPeek 7))) (mC (.int 5))))) mNil)))
def r__law_words_4 : SM := (mSeq (mSet 8 (mBin gIx (mPeek 2) (mBin gMod (mBin gAdd (mPeek 3) (mBin gMul (mPeek 4) (mPeek 7))) (mC (.int 26))))) (r__law_words_5))
def r__law_words_6 : SM := (mFrz [6] (mRet (mVar 6)))
def r__law_words_3 : SM := (mSeq (mFor (mRng1 (mCons (mVar 1) mNil)) (tgN 7) (r__law_words_4)) (r__law_words_6))
def r__law_words_2 : SM := (mSeq (mSetN 6 (mLst mNil)) (r__law_words_3))
def r__law_words_1 : SM := (mSeq (mSet 5 (mLst (mCons (mC (.str "")) (mCons (mC (.str "zq")) (mCons (mC (.str "x")) (mCons (mC (.str "qqzzx")) (mCons (mC (.str "zqzqzqz")) mNil))))))) (r__law_words_2))
def r__law_words_0 (S__law_of : FSpec) (S__law_take : FSpec) : SM := (mSeq (mPar 3 4 (mCons (mCall 2 S__law_take (mCons (mVar 0) (mCons (mC (.int 26)) mNil))) (mCons (mCall 2 S__law_of (mCons (mVar 0) (mCons (mLst (mCons (mC (.int 1)) (mCons (mC (.int 3)) (mCons (mC (.int 5)) (mCons (mC (.int 7)) (mCons (mC (.int 9)) (mCons (mC (.int 11)) mNil))))))) mNil))) mNil))) (r__law_words_1))
def r__law_words (S__law_of : FSpec) (S__law_take : FSpec) : SM := (mSeq (mSet 2 (mC (.str "abcdefghijklmnopqrstuvwxyz"))) (r__law_words_0 S__law_of S__law_take))
abbrev N__law_words : List Str := ["_law_pot_here", "_law_many", "_law_letters", "_law_first", "_law_turn", "_law_ends", "_law_found", "_law_k", "_law_sign"]
theorem take_ok (args : List PV) (et : Hi) (R : PV → Hi → Prop) (h : spTakeC args et R) : r__law_take (env0 N__law_take args) et (retK R) := by
  obtain ⟨r, k, m, sd, ct, is, rfl, hrk, hr, hk, hi, s0, s1, c0, c1, m0, m1, hR⟩ := h
  show r__law_take [.val (.ref r), .val (.int m), .no, .no] et (retK R)
  have hkl := (List.getElem?_eq_some_iff.mp hk).1
  unfold r__law_take
  simp only [mSeq, mWhile]
  refine ⟨fun n ep et1 => ep = [.val (.ref r), .val (.int m), .no, .no] ∧ ∃ is1 : List Int, n = is1.length ∧ (∀ i ∈ is1, 0 ≤ i) ∧ et1 = et.set k (.lst (is1.map .int)), ⟨is.length, rfl, is, rfl, hi, ?_⟩, ?_⟩
  · apply List.ext_getElem?
    intro j
    by_cases e : j = k
    · subst e; rw [List.getElem?_set_self hkl, hk]
    · rw [List.getElem?_set_ne (Ne.symm e)]
  rintro n ep et1 ⟨rfl, is1, rfl, hi1, he1⟩
  have hr1 : et1[r]? = some (.lst [.ref k, .int sd, .int ct]) := by rw [he1, List.getElem?_set_ne (Ne.symm hrk)]; exact hr
  have hk1 : et1[k]? = some (.lst (is1.map .int)) := by rw [he1, List.getElem?_set_self hkl]
  have dr := deref_ref hr1
  have dk := deref_ref hk1
  have e1 := gNe_nil (doks_ints is1).1 (by rw [(doks_ints is1).2]; omega)
  -- behind the loop
  have fin : r__law_take_1 [.val (.ref r), .val (.int m), .no, .no] et1 (retK R) := by
    unfold r__law_take_1
    simp! [dr, dk, e1]
    refine ⟨Nat.zero_le _, ?_⟩
    cases is1 with
    | nil =>
      simp only [List.map_nil, List.isEmpty_nil, Bool.not_true, Bool.false_eq_true, if_false]
      unfold r__law_take_5
      simp! [dr, dk, hr1]
      refine ⟨r, [.ref k, .int sd, .int ct], 2, 2, rfl, hr1, rfl, rfl, ?_⟩
      simp only [List.set_cons_succ, List.set_cons_zero]
      have hr2 : (et1.set r (.lst [PV.ref k, .int sd, .int (ct + 1)]))[r]? = some (.lst [.ref k, .int sd, .int (ct + 1)]) := by
        rw [List.getElem?_set_self (List.getElem?_eq_some_iff.mp hr1).1]
      have dr2 := deref_ref hr2
      unfold r__law_take_6
      have m2 : -18446744073709551616 < 65537 * (ct + 1) ∧ 65537 * (ct + 1) < 18446744073709551616 := ⟨by omega, by omega⟩
      simp! [dr2, m2, Int.reduceNeg, Int.reducePow, Int.reduceLT]
      generalize hx : (sd + 65537 * (ct + 1) * (ct + 1) + 11) * 48271 % 2305843009213693921 = x
      have hx0 : 0 ≤ x := by rw [← hx]; exact Int.emod_nonneg _ (by decide)
      have hx1 : x < 2305843009213693921 := by rw [← hx]; exact Int.emod_lt_of_pos _ (by decide)
      have m3 : -18446744073709551616 < x ∧ x < 18446744073709551616 := ⟨by omega, by omega⟩
      unfold r__law_take_7
      simp! [dr2, m3, Int.reduceNeg, Int.reducePow, Int.reduceLT]
      unfold r__law_take_8
      simp! [m0, Int.reduceLT]
      have hz := hR ((x * (x % 1000003 + 99991 * (ct + 1)) % 2305843009213693907 / 97 + x * (x % 1000003 + 99991 * (ct + 1)) % 2305843009213693907 / 1000033) % m) (ct + 1) [] (Int.emod_nonneg _ (by omega)) (Int.emod_lt_of_pos _ m0) (by omega) (Int.le_refl _) (fun j hj => by cases hj)
      have he : et1.set r (.lst [.ref k, .int sd, .int (ct + 1)]) = (et.set k (.lst (([] : List Int).map .int))).set r (.lst [.ref k, .int sd, .int (ct + 1)]) := by rw [he1]
      rw [he]
      exact hz
    | cons i is2 =>
      simp only [List.map_cons, List.isEmpty_cons, Bool.not_false, if_true]
      unfold r__law_take_2
      simp! [dr, dk]
      refine ⟨_, if_pos m0, ?_⟩
      unfold r__law_take_3
      simp! [dr, dk]
      refine ⟨_, if_pos ⟨m0, m1⟩, k, _, _, 0, rfl, hk1, rfl, ixN_0 (by simp), ?_⟩
      unfold r__law_take_4
      simp!
      have hz := hR (i % m) ct (i / m :: is2) (Int.emod_nonneg _ (by omega)) (Int.emod_lt_of_pos _ m0) c0 (by omega) (by
        intro j hj
        rcases List.mem_cons.mp hj with rfl | hj
        · exact Int.ediv_nonneg (hi1 i (by simp)) (by omega)
        · exact hi1 j (by simp [hj]))
      have he : et1.set k (.lst (.int (i / m) :: is2.map .int)) = (et.set k (.lst ((i / m :: is2).map .int))).set r (.lst [.ref k, .int sd, .int ct]) := by
        rw [he1]
        apply List.ext_getElem?
        intro j
        by_cases h1 : j = r
        · subst h1
          rw [List.getElem?_set_ne (Ne.symm hrk), List.getElem?_set_ne (Ne.symm hrk), List.getElem?_set_self (by simpa using (List.getElem?_eq_some_iff.mp hr).1), hr]
        · rw [List.getElem?_set_ne (i := r) (Ne.symm h1)]
          by_cases h2 : j = k
          · subst h2
            rw [List.getElem?_set_self (by simpa using hkl), List.getElem?_set_self hkl]; rfl
          · rw [List.getElem?_set_ne (Ne.symm h2), List.getElem?_set_ne (Ne.symm h2), List.getElem?_set_ne (Ne.symm h2)]
      rw [he]
      exact hz
  simp! [dr, dk, e1]
  refine ⟨Nat.zero_le _, ?_⟩
  cases is1 with
  | nil => exact fin
  | cons i is2 =>
    simp only [List.map_cons, List.isEmpty_cons, Bool.not_false, if_true]
    refine ⟨_, atI_c0 _ _, _, gEq_int i 0, ?_⟩
    by_cases h0 : i = 0
    · rw [if_pos (by simpa using h0)]
      unfold r__law_take_0
      simp! [dr, dk]
      refine ⟨.lst (is2.map .int), .int i, .lst (is2.map .int), ?_, rfl, is2.length, by simp, is2, rfl, fun j hj => hi1 j (by simp [hj]), ?_⟩
      · simp only [gmPopAt, List.map_cons, List.length_cons]
        rw [if_pos (by decide), ixN_0 (by omega)]; rfl
      · rw [he1]
        apply List.ext_getElem?
        intro j
        by_cases h2 : j = k
        · subst h2
          rw [List.getElem?_set_self (by simpa using hkl), List.getElem?_set_self hkl]
        · rw [List.getElem?_set_ne (Ne.symm h2), List.getElem?_set_ne (Ne.symm h2), List.getElem?_set_ne (Ne.symm h2)]
    · rw [if_neg (by simpa using h0)]
      exact fin
theorem cutP_63 {α : Type} {xs : List α} (h : xs.length ≤ 63) : cutP xs none (some 63) = xs := by
  unfold cutP
  have e1 : HT.sIx xs.length 0 none = 0 := rfl
  have e2 : HT.sIx xs.length xs.length (some 63) = xs.length := by
    show (if (63 : Int) < 0 then ((63 : Int) + (xs.length : Int)).toNat else min (63 : Int).toNat xs.length) = xs.length
    rw [if_neg (by decide)]
    have : (63 : Int).toNat = 63 := rfl
    omega
  rw [e1, e2]; simp
theorem pot_ok (args : List PV) (et : Hi) (R : PV → Hi → Prop) (h : spPotC args et R) : r__law_pot (env0 N__law_pot args) et (retK R) := by
  obtain ⟨ns, rfl, hl, hR⟩ := h
  show r__law_pot [.val (.scr ns), .no, .no] et (retK R)
  unfold r__law_pot
  have hlen : gLen [.scr ns] = some (.int ns.length) := rfl
  simp! [hlen]
  unfold r__law_pot_0
  have hsl : gSlA (.scr ns) none (some 63) = some (.lst (ns.map .int)) := by
    show some (PV.lst ((cutP ns none (some 63)).map .int)) = _
    rw [cutP_63 hl]
  simp! [hsl, itemsP]
  refine ⟨fun i ep et1 => et1 = et ∧ ∃ (sd : Int) (s : Slot), ep = [.val (.scr ns), .val (.int sd), s] ∧ 0 ≤ sd ∧ sd < 2305843009213693951, ⟨rfl, _, _, rfl, by omega, by omega⟩, ?_⟩
  rintro i ep et1 ⟨rfl, sd, s, rfl, h0, h1⟩
  refine ⟨rfl, fun p hp => ⟨_, rfl, ?_⟩, fun hi => ?_⟩
  · rw [List.getElem?_map] at hp
    obtain ⟨c, hc, rfl⟩ : ∃ c, ns[i]? = some c ∧ p = .int c := by
      cases e : ns[i]? with
      | none => rw [e] at hp; cases hp
      | some c => rw [e] at hp; cases hp; exact ⟨c, rfl, rfl⟩
    unfold r__law_pot_1
    have m1 : -18446744073709551616 < sd ∧ sd < 18446744073709551616 := ⟨by omega, by omega⟩
    have m2 : (-18446744073709551616 : Int) < 1000003 ∧ (1000003 : Int) < 18446744073709551616 := by decide
    have m3 : (10 : Int).natAbs < 18446744073709551616 := by decide
    have m4 : (10 : Int) ^ (30 : Int).toNat = 1000000000000000000000000000000 := by decide
    simp! [m1, m2, m3, m4, Int.reduceNeg, Int.reducePow, Int.reduceLT, Int.reduceLE, Nat.reducePow]
    exact ⟨_, _, rfl, Int.emod_nonneg _ (by decide), Int.emod_lt_of_pos _ (by decide)⟩
  · unfold r__law_pot_2
    simp! [hsl, itemsP]
    refine ⟨fun i acc et2 => et2 = et1 ∧ ∃ is : List Int, acc = is.map .int ∧ is.length ≤ i ∧ ∀ j ∈ is, 0 ≤ j, ⟨rfl, [], rfl, Nat.le_refl _, fun j hj => by cases hj⟩, ?_⟩
    rintro i2 acc et2 ⟨rfl, is, rfl, hli, hn⟩
    refine ⟨rfl, fun p hp => ?_, fun hi2 => ?_⟩
    · have hi2 : i2 < ns.length := by
        have := (List.getElem?_eq_some_iff.mp hp).1
        simpa using this
      rw [List.getElem?_map] at hp
      obtain ⟨c, hc, rfl⟩ : ∃ c, ns[i2]? = some c ∧ p = .int c := by
        cases e : ns[i2]? with
        | none => rw [e] at hp; cases hp
        | some c => rw [e] at hp; cases hp; exact ⟨c, rfl, rfl⟩
      have m3 : (10 : Int).natAbs < 18446744073709551616 := by decide
      have m4 : (10 : Int) ^ (18 : Int).toNat = 1000000000000000000 := by decide
      simp! [m3, m4, Int.reduceNeg, Int.reducePow, Int.reduceLT, Int.reduceLE, Nat.reducePow]
      by_cases hc2 : (1000000000000000000 : Int) ≤ c
      · simp only [hc2, decide_true, if_true]
        refine ⟨by rw [List.length_map]; have := (show (63 : Nat) < sizeLine by decide); omega, is ++ [c], by simp, by simp; omega, fun j hj => ?_⟩
        rcases List.mem_append.mp hj with hj | hj
        · exact hn j hj
        · rw [List.mem_singleton.mp hj]; omega
      · simp only [hc2, decide_false, Bool.false_eq_true, if_false]
        exact ⟨is, rfl, by omega, hn⟩
    · have s3 : (0 + 1 + 1 + 1 : Nat) ≤ sizeLine := by decide
      refine ⟨_, rfl, s3, ?_⟩
      have := hR sd is h0 h1 hn
      simpa using this
abbrev pt (n : Nat) : Hi := [.potI, .potO 0 n]
theorem take_pt {m : Int} {n : Nat} {R : PV → Hi → Prop} (m0 : 0 < m) (m1 : m < 1073741824) (h : ∀ d : Int, 0 ≤ d → d < m → R (.int d) (pt n)) : spTake [.ref 1, .int m] (pt (n + 1)) R :=
  ⟨1, 0, n, m, rfl, by decide, rfl, rfl, m0, m1, h⟩
def spOf : FSpec := fun args et R => ∃ (n : Nat) (xs : List PV), args = [.ref 1, .lst xs] ∧ et = pt (n + 1) ∧ 0 < xs.length ∧ xs.length < 1073741824 ∧ ∀ x ∈ xs, R x (pt n)
theorem of_ok (args : List PV) (et : Hi) (R : PV → Hi → Prop) (h : spOf args et R) : r__law_of spTake (env0 N__law_of args) et (retK R) := by
  obtain ⟨n, xs, rfl, rfl, h0, h1, hR⟩ := h
  show r__law_of spTake [.val (.ref 1), .val (.lst xs)] _ (retK R)
  unfold r__law_of
  have hlen : gLen [.lst xs] = some (.int xs.length) := rfl
  simp! [hlen]
  refine take_pt (by omega) (by omega) fun d d0 d1 => ?_
  obtain ⟨j, rfl⟩ : ∃ j : Nat, d = (j : Int) := ⟨d.toNat, by omega⟩
  have hj : j < xs.length := by omega
  have e : atI xs (j : Int) = some xs[j] := atI_nat (List.getElem?_eq_getElem hj)
  simp! [e]
  exact hR _ (List.getElem_mem hj)
def isWord (x : Str) : Bool := decide (1 ≤ x.cps.size) && decide (x.cps.size ≤ 8) && x.cps.toList.all fun c => decide (97 ≤ c) && decide (c ≤ 122)
def letters : Str := "abcdefghijklmnopqrstuvwxyz"
theorem letters_list : letters.cps.toList = (List.range 26).map (· + 97) := by decide +kernel
def endsL : List Str := ["", "zq", "x", "qqzzx", "zqzqzqz"]
theorem endsL_ok : ∀ x ∈ endsL, x.cps.size ≤ 7 ∧ (x.cps.toList.all fun c => decide (97 ≤ c) && decide (c ≤ 122)) = true := by decide +kernel
theorem cps_append (x y : Str) : (x ++ y).cps = x.cps ++ y.cps := rfl
theorem len_cps (x : Str) : x.length = x.cps.size := rfl
def wd (f t k : Nat) : Str := ⟨#[97 + (f + t * k) % 26]⟩ ++ endsL[(f + k * k) % 5]!
theorem ends_get (j : Nat) : endsL[j % 5]! ∈ endsL := by
  have : j % 5 < endsL.length := Nat.mod_lt _ (by decide)
  rw [getElem!_pos endsL (j % 5) this]; exact List.getElem_mem this
theorem wd_ok (f t k : Nat) : isWord (wd f t k) = true := by
  obtain ⟨h1, h2⟩ := endsL_ok _ (ends_get (f + k * k))
  unfold isWord wd
  rw [cps_append]
  have h3 : (f + t * k) % 26 < 26 := Nat.mod_lt _ (by decide)
  simp only [Array.size_append, Array.toList_append, List.all_append, h2]
  simp only [List.all_cons, List.all_nil, Bool.and_true, Bool.and_eq_true, decide_eq_true_eq]
  refine ⟨⟨?_, ?_⟩, ?_, ?_⟩
  · show 1 ≤ 1 + _; omega
  · show 1 + _ ≤ 8; omega
  · omega
  · omega
theorem wd_first (f t k : Nat) : (wd f t k).cps.toList[0]? = some (97 + (f + t * k) % 26) := by
  unfold wd; rw [cps_append, Array.toList_append]; rfl
def turns : List Nat := [1, 3, 5, 7, 9, 11]
theorem turn_inj : ∀ t ∈ turns, ∀ d : Nat, d < 26 → t * d % 26 = 0 → d = 0 := by decide
theorem wd_inj {f t j k : Nat} (ht : t ∈ turns) (hj : j < 26) (hk : k < 26) (h : wd f t j = wd f t k) : j = k := by
  have h1 := wd_first f t j
  rw [h, wd_first] at h1
  have h2 : (f + t * k) % 26 = (f + t * j) % 26 := by
    have := Option.some.inj h1; omega
  rcases Nat.le_total j k with hle | hle
  · obtain ⟨d, rfl⟩ := Nat.exists_eq_add_of_le hle
    have h3 : t * (j + d) = t * j + t * d := Nat.mul_add _ _ _
    have := turn_inj t ht d (by omega) (by omega)
    omega
  · obtain ⟨d, rfl⟩ := Nat.exists_eq_add_of_le hle
    have h3 : t * (k + d) = t * k + t * d := Nat.mul_add _ _ _
    have := turn_inj t ht d (by omega) (by omega)
    omega
def wds (f t n : Nat) : List Str := (List.range n).map (wd f t)
theorem wds_ok (f t n : Nat) : ∀ x ∈ wds f t n, isWord x = true := fun x hx => by
  obtain ⟨k, _, rfl⟩ := List.mem_map.mp hx; exact wd_ok f t k
theorem nodup_map_on {α β : Type} {f : α → β} : ∀ {l : List α}, l.Nodup → (∀ x ∈ l, ∀ y ∈ l, f x = f y → x = y) → (l.map f).Nodup
  | [], _, _ => by simp
  | a :: l, h, hi => by
    rw [List.map_cons, List.nodup_cons]
    rw [List.nodup_cons] at h
    refine ⟨fun hm => ?_, nodup_map_on h.2 fun x hx y hy => hi x (by simp [hx]) y (by simp [hy])⟩
    obtain ⟨b, hb, e⟩ := List.mem_map.mp hm
    exact h.1 (hi b (by simp [hb]) a (by simp) e ▸ hb)
theorem wds_nodup {f t n : Nat} (ht : t ∈ turns) (hn : n ≤ 26) : (wds f t n).Nodup := nodup_map_on List.nodup_range fun x hx y hy h =>
  wd_inj ht (by have := List.mem_range.mp hx; omega) (by have := List.mem_range.mp hy; omega) h
def spWords : FSpec := fun args et R => ∃ (n many : Nat), args = [.ref 1, .int many] ∧ many ≤ 26 ∧ et = pt (n + 2) ∧
  ∀ ws : List Str, ws.length = many → (∀ x ∈ ws, isWord x = true) → ws.Nodup → R (.lst (ws.map .str)) (pt n)
theorem words_ok (args : List PV) (et : Hi) (R : PV → Hi → Prop) (h : spWords args et R) : r__law_words spOf spTake (env0 N__law_words args) et (retK R) := by
  obtain ⟨n, many, rfl, hm, rfl, hR⟩ := h
  show r__law_words spOf spTake [.val (.ref 1), .val (.int many), .no, .no, .no, .no, .no, .no, .no] _ (retK R)
  unfold r__law_words
  simp!
  unfold r__law_words_0
  simp!
  refine take_pt (by decide) (by decide) fun f f0 f1 => ?_
  have s6 : (0 + 1 + 1 + 1 + 1 + 1 + 1 : Nat) ≤ sizeLine := by decide
  refine ⟨s6, n, _, rfl, rfl, by simp, by simp, fun x hx => ?_⟩
  obtain ⟨t, ht, rfl⟩ : ∃ t : Nat, t ∈ turns ∧ x = .int t := by
    simp only [List.mem_cons, List.not_mem_nil, or_false] at hx
    rcases hx with rfl | rfl | rfl | rfl | rfl | rfl
    · exact ⟨1, by decide, rfl⟩
    · exact ⟨3, by decide, rfl⟩
    · exact ⟨5, by decide, rfl⟩
    · exact ⟨7, by decide, rfl⟩
    · exact ⟨9, by decide, rfl⟩
    · exact ⟨11, by decide, rfl⟩
  obtain ⟨f, rfl⟩ : ∃ j : Nat, f = (j : Int) := ⟨f.toNat, by omega⟩
  refine ⟨_, _, rfl, ?_⟩
  unfold r__law_words_1
  simp!
  refine ⟨by decide, ?_⟩
  unfold r__law_words_2
  simp!
  refine ⟨by decide, ?_⟩
  unfold r__law_words_3
  simp!
  refine ⟨many, rfl, by omega, by omega, fun i ep et1 => et1 = pt n ∧ ∃ s1 s2, ep = [.val (.ref 1), .val (.int many), .val (.str letters), .val (.int f), .val (.int t), .val (.lst (endsL.map .str)), .own (.lst ((wds f t i).map .str)), s1, s2], ⟨rfl, _, _, rfl⟩, ?_⟩
  rintro i ep et1 ⟨rfl, s1, s2, rfl⟩
  have hlenR : (rng 0 (many : Int).toNat).length = many := by simp [rng]
  refine ⟨rfl, fun p hp => ⟨_, rfl, ?_⟩, fun hi => ?_⟩
  · have hi : i < many := by
      have := (List.getElem?_eq_some_iff.mp hp).1
      rw [hlenR] at this; exact this
    have hpe : p = .int i := by
      unfold rng at hp
      rw [List.getElem?_map, List.getElem?_range (by omega)] at hp
      cases hp; simp
    subst hpe
    unfold r__law_words_4
    have ht26 : t ≤ 11 := by
      simp only [turns, List.mem_cons, List.not_mem_nil, or_false] at ht
      omega
    have m1 : (-18446744073709551616 : Int) < t ∧ (t : Int) < 18446744073709551616 := ⟨by omega, by omega⟩
    have m2 : (-18446744073709551616 : Int) < i ∧ (i : Int) < 18446744073709551616 := ⟨by omega, by omega⟩
    have l1 : letters.length ≤ sizeLine := by decide +kernel
    have e1 : atI letters.cps.toList (((f : Int) + t * i) % 26) = some (97 + (f + t * i) % 26) := by
      have : ((f : Int) + t * i) % 26 = (((f + t * i) % 26 : Nat) : Int) := by simp
      rw [this]
      refine atI_nat ?_
      rw [letters_list, List.getElem?_map, List.getElem?_range (Nat.mod_lt _ (by decide))]
      simp [Nat.add_comm]
    simp! [m1, m2, Int.reduceNeg, Int.reducePow, Int.reduceLT, l1, e1, Option.map_some]
    unfold r__law_words_5
    have e2 : atI (endsL.map PV.str) (((f : Int) + i * i) % 5) = some (.str endsL[(f + i * i) % 5]!) := by
      have : ((f : Int) + i * i) % 5 = (((f + i * i) % 5 : Nat) : Int) := by simp
      rw [this]
      refine atI_nat ?_
      have hlt : (f + i * i) % 5 < endsL.length := Nat.mod_lt _ (by decide)
      rw [List.getElem?_map, List.getElem?_eq_getElem hlt, getElem!_pos endsL _ hlt]; rfl
    have hel := (endsL_ok _ (ends_get (f + i * i))).1
    have l2 : (⟨#[97 + (f + t * i) % 26]⟩ : Str).length + (endsL[(f + i * i) % 5]!).length ≤ sizeLine := by
      rw [len_cps, len_cps]
      have : (8 : Nat) ≤ sizeLine := by decide
      show 1 + _ ≤ _
      omega
    have l3 : ((wds f t i).map PV.str).length < sizeLine := by
      rw [List.length_map]; unfold wds; rw [List.length_map, List.length_range]
      have : (26 : Nat) < sizeLine := by decide
      omega
    simp! [m1, m2, Int.reduceNeg, Int.reducePow, Int.reduceLT, e2, l2, gmAppend, l3]
    have : (wds f t (i + 1)).map PV.str = (wds f t i).map PV.str ++ [.str (wd f t i)] := by
      unfold wds; rw [List.range_succ, List.map_append, List.map_append]; rfl
    rw [this]
    exact ⟨_, _, rfl, _, _, rfl⟩
  · rw [hlenR] at hi
    unfold r__law_words_6
    simp!
    exact hR _ (by rw [hi]; simp [wds]) (wds_ok f t i) (wds_nodup ht (by omega))
inductive Tw where
  | plus | minus | less | same | both
  deriving DecidableEq
def Tw.str : Tw → Str
  | .plus => "plus" | .minus => "minus" | .less => "less" | .same => "same" | .both => "both"
inductive Sm where
  | val (n : Nat) | wrd (x : Str) | wts (x : Str) | not (a : Sm) | two (w : Tw) (a b : Sm)
def Sm.pv : Sm → PV
  | .val n => .int n
  | .wrd x => .str x
  | .wts x => .tup [.str "waits", .str x]
  | .not a => .tup [.str "not", a.pv]
  | .two w a b => .tup [.str w.str, a.pv, b.pv]
def Sm.dep : Sm → Nat
  | .val _ => 1
  | .wrd _ => 1
  | .wts _ => 1
  | .not a => a.dep + 1
  | .two _ a b => max a.dep b.dep + 1
def Sm.ok (ws bs : List Str) : Sm → Prop
  | .val n => n ≤ 9
  | .wrd x => x ∈ ws
  | .wts x => x ∈ bs
  | .not a => a.ok ws bs
  | .two _ a b => a.ok ws bs ∧ b.ok ws bs
theorem isWord_strOk {x : Str} (h : isWord x = true) : PyData.strOk x = true := by
  unfold isWord at h
  simp only [Bool.and_eq_true, List.all_eq_true, decide_eq_true_eq] at h
  unfold PyData.strOk
  rw [← Array.all_toList, List.all_eq_true]
  intro c hc
  have := h.2 c hc
  simp; omega
theorem doks_words {ws : List Str} (h : ∀ x ∈ ws, isWord x = true) : doks (ws.map .str) = true ∧ dpts (ws.map .str) = 0 := by
  induction ws with
  | nil => simp [doks, dpts]
  | cons x ws ih =>
    have := ih fun y hy => h y (by simp [hy])
    simp [doks, dpts, dok, dpt, isWord_strOk (h x (by simp)), this]
theorem gNe_words {ws : List Str} (h : ∀ x ∈ ws, isWord x = true) : gNe (.lst (ws.map .str)) (.lst []) = some (.bl (!ws.isEmpty)) := by
  rw [gNe_nil (doks_words h).1 (by rw [(doks_words h).2]; omega)]
  cases ws <;> rfl
def cs : Nat → Nat
  | 0 => 4
  | k + 1 => 2 * cs k + 2
def spSum : Nat → FSpec := fun j args et R => ∃ (n deep : Nat) (ws bs : List Str), args = [.ref 1, .lst (ws.map .str), .lst (bs.map .str), .int deep] ∧ deep < j ∧ (∀ x ∈ ws, isWord x = true) ∧ (∀ x ∈ bs, isWord x = true) ∧ ws.length < 1000 ∧ bs.length < 1000 ∧ et = pt (n + cs deep) ∧
  ∀ n', n ≤ n' → ∀ s : Sm, s.dep ≤ max 1 deep → s.ok ws bs → R s.pv (pt n')
end Lw
namespace Vl
open PySem L2 Mw Lw
theorem lc_rel {src want : List PV} {tg : PV → En → Option En} {me : EM PV} {epw : En} {ps rs : List PV} {et : Hi} {R : PV → Hi → Prop} (h : src.map (deref et) = want) (hl : ps.length ≤ sizeLine) (hr : ps.length = rs.length)
    (step : ∀ (i : Nat) (p r : PV), ps[i]? = some p → rs[i]? = some r → ∃ ep1, tg p epw = some ep1 ∧ ∀ Q : PV → Hi → Prop, Q r et → me ep1 et Q) (fin : R (.lst rs) et) : lcGo src want tg mYes me epw ps et R := by
  refine ⟨fun i acc et1 => et1 = et ∧ acc = rs.take i ∧ i ≤ ps.length, ⟨rfl, by simp, Nat.zero_le _⟩, ?_⟩
  rintro i acc et1 ⟨rfl, rfl, hi⟩
  refine ⟨h, fun p hp => ?_, fun e => ?_⟩
  · have hlt := (List.getElem?_eq_some_iff.mp hp).1
    obtain ⟨ep1, h1, h2⟩ := step i p rs[i] hp (List.getElem?_eq_getElem (by omega))
    refine ⟨ep1, h1, ?_⟩
    simp only [mYes, if_true]
    refine h2 _ ⟨by rw [List.length_take]; omega, rfl, ?_, hlt⟩
    rw [List.take_succ, List.getElem?_eq_getElem (by omega)]; rfl
  · rw [e, hr, List.take_length]; exact fin
end Vl
namespace Wb
open PySem L2 Mw Lw
def r_parts_of_0 : SM := (mRet (mTup mNil))
def r_parts_of_1 : SM := (mRet (mSl gSlA (mPeek 0) (mO1 (mC (.int 1))) mO0))
def r_parts_of : SM := (mSeq (mIf (mOrT (mNotT (mAsT (mArg gIsi (mCons (mPeek 0) (mCons (mC (.ty .tup)) mNil))))) (mBinT gEq (mBin gIx (mPeek 0) (mC (.int 0))) (mC (.str "waits")))) (r_parts_of_0) mNext) (r_parts_of_1))
abbrev N_parts_of : List Str := ["told"]
def r_words_in_0 : SM := (mRet (mLst (mCons (mVar 0) mNil)))
def r_words_in_3 (S_words_in : FSpec) : SM := (mExprX (mMut 1 gmExtend (mCons (mCall 1 S_words_in (mCons (mVar 2) mNil)) mNil)))
def r_words_in_4 : SM := (mFrz [1] (mRet (mVar 1)))
def r_words_in_2 (S_parts_of : FSpec) (S_words_in : FSpec) : SM := (mSeq (mFor (mIter (mCall 1 S_parts_of (mCons (mVar 0) mNil))) (tgN 2) (r_words_in_3 S_words_in)) (r_words_in_4))
def r_words_in_1 (S_parts_of : FSpec) (S_words_in : FSpec) : SM := (mSeq (mSetN 1 (mLst mNil)) (r_words_in_2 S_parts_of S_words_in))
def r_words_in (S_parts_of : FSpec) (S_words_in : FSpec) : SM := (mSeq (mIf (mAsT (mArg gIsi (mCons (mPeek 0) (mCons (mC (.ty .str)) mNil)))) (r_words_in_0) mNext) (r_words_in_1 S_parts_of S_words_in))
abbrev N_words_in : List Str := ["told", "found", "part"]
def r_bells_in_0 : SM := (mRet (mLst (mCons (mBin gIx (mPeek 0) (mC (.int 1))) mNil)))
def r_bells_in_3 (S_bells_in : FSpec) : SM := (mExprX (mMut 1 gmExtend (mCons (mCall 1 S_bells_in (mCons (mVar 2) mNil)) mNil)))
def r_bells_in_4 : SM := (mFrz [1] (mRet (mVar 1)))
def r_bells_in_2 (S_parts_of : FSpec) (S_bells_in : FSpec) : SM := (mSeq (mFor (mIter (mCall 1 S_parts_of (mCons (mVar 0) mNil))) (tgN 2) (r_bells_in_3 S_bells_in)) (r_bells_in_4))
def r_bells_in_1 (S_parts_of : FSpec) (S_bells_in : FSpec) : SM := (mSeq (mSetN 1 (mLst mNil)) (r_bells_in_2 S_parts_of S_bells_in))
def r_bells_in (S_parts_of : FSpec) (S_bells_in : FSpec) : SM := (mSeq (mIf (mAndT (mAsT (mArg gIsi (mCons (mPeek 0) (mCons (mC (.ty .tup)) mNil)))) (mBinT gEq (mBin gIx (mPeek 0) (mC (.int 0))) (mC (.str "waits")))) (r_bells_in_0) mNext) (r_bells_in_1 S_parts_of S_bells_in))
abbrev N_bells_in : List Str := ["told", "found", "part"]
def r_words_of (S_words_in : FSpec) : SM := (mRet (mArg gTuple (mCons (mUn gSortedSet (mCall 1 S_words_in (mCons (mVar 0) mNil))) mNil)))
abbrev N_words_of : List Str := ["told"]
def r_bells_of (S_bells_in : FSpec) : SM := (mRet (mArg gTuple (mCons (mUn gSortedSet (mCall 1 S_bells_in (mCons (mVar 0) mNil))) mNil)))
abbrev N_bells_of : List Str := ["told"]
def wordsL : Sm → List Str
  | .val _ => []
  | .wrd x => [x]
  | .wts _ => []
  | .not a => wordsL a
  | .two _ a b => wordsL a ++ wordsL b
def bellsL : Sm → List Str
  | .val _ => []
  | .wrd _ => []
  | .wts x => [x]
  | .not a => bellsL a
  | .two _ a b => bellsL a ++ bellsL b
def partsL : Sm → List Sm
  | .not a => [a]
  | .two _ a b => [a, b]
  | _ => []
theorem parts_dep {s a : Sm} (h : a ∈ partsL s) : a.dep + 1 ≤ s.dep := by
  cases s <;> simp [partsL, Sm.dep] at h ⊢
  · subst h; omega
  · rcases h with rfl | rfl <;> omega
theorem parts_words (s : Sm) : (∀ x, s ≠ .wrd x) → wordsL s = (partsL s).flatMap wordsL := fun h => by
  cases s <;> simp [partsL, wordsL]
  exact h _ rfl
theorem parts_bells (s : Sm) : (∀ x, s ≠ .wts x) → bellsL s = (partsL s).flatMap bellsL := fun h => by
  cases s <;> simp [partsL, bellsL]
  exact h _ rfl
def lvs : Sm → Nat
  | .not a => lvs a
  | .two _ a b => lvs a + lvs b
  | _ => 1
theorem lvs_dep : ∀ s : Sm, lvs s ≤ 2 ^ (s.dep - 1)
  | .val _ => Nat.le_refl _
  | .wrd _ => Nat.le_refl _
  | .wts _ => Nat.le_refl _
  | .not a => Nat.le_trans (lvs_dep a) (Nat.pow_le_pow_right (by decide) (by simp [Sm.dep]))
  | .two _ a b => by
    have h1 := lvs_dep a
    have h2 := lvs_dep b
    have e : (Sm.two ‹_› a b).dep - 1 = max a.dep b.dep := rfl
    have ha : 1 ≤ a.dep := by cases a <;> simp [Sm.dep]
    have h3 : 2 ^ (a.dep - 1) ≤ 2 ^ (max a.dep b.dep - 1) := Nat.pow_le_pow_right (by decide) (by omega)
    have h4 : 2 ^ (b.dep - 1) ≤ 2 ^ (max a.dep b.dep - 1) := Nat.pow_le_pow_right (by decide) (by omega)
    have h5 : 2 ^ (max a.dep b.dep) = 2 * 2 ^ (max a.dep b.dep - 1) := by
      have : max a.dep b.dep = (max a.dep b.dep - 1) + 1 := by omega
      rw [this, Nat.pow_succ]; simp [Nat.mul_comm]
    show lvs a + lvs b ≤ 2 ^ (max a.dep b.dep)
    omega
theorem words_len : ∀ s : Sm, (wordsL s).length ≤ lvs s
  | .val _ => Nat.zero_le _
  | .wrd _ => Nat.le_refl _
  | .wts _ => Nat.zero_le _
  | .not a => words_len a
  | .two _ a b => by rw [wordsL, List.length_append]; exact Nat.add_le_add (words_len a) (words_len b)
theorem bells_len : ∀ s : Sm, (bellsL s).length ≤ lvs s
  | .val _ => Nat.zero_le _
  | .wrd _ => Nat.zero_le _
  | .wts _ => Nat.le_refl _
  | .not a => bells_len a
  | .two _ a b => by rw [bellsL, List.length_append]; exact Nat.add_le_add (bells_len a) (bells_len b)
theorem lvs_small {s : Sm} (h : s.dep ≤ 5) : lvs s ≤ 16 := Nat.le_trans (lvs_dep s) (Nat.le_trans (Nat.pow_le_pow_right (by decide) (show s.dep - 1 ≤ 4 by omega)) (by decide))
def spParts : FSpec := fun args et R => ∃ s : Sm, args = [s.pv] ∧ R (.tup ((partsL s).map Sm.pv)) et
theorem parts_ok (args : List PV) (et : Hi) (R : PV → Hi → Prop) (h : spParts args et R) : r_parts_of (env0 N_parts_of args) et (retK R) := by
  obtain ⟨s, rfl, hR⟩ := h
  show r_parts_of [.val s.pv] et (retK R)
  unfold r_parts_of
  have flat : ∀ p : PV, deref et p = p → gIsi [p, .ty .tup] = some (.bl false) → R (.tup []) et → (mIf (mOrT (mNotT (mAsT (mArg gIsi (mCons (mPeek 0) (mCons (mC (.ty .tup)) mNil))))) (mBinT gEq (mBin gIx (mPeek 0) (mC (.int 0))) (mC (.str "waits")))) (r_parts_of_0) mNext) [.val p] et (fun f ep1 et1 => match f with
      | .nx => r_parts_of_1 ep1 et1 (retK R)
      | f => retK R f ep1 et1) := fun p hp e hR => by
    simp! [hp, e]
    unfold r_parts_of_0
    simp!
    exact ⟨by decide, hR⟩
  cases s with
  | val n => exact flat (.int n) rfl rfl hR
  | wrd x => exact flat (.str x) rfl rfl hR
  | wts x =>
    have e : gIsi [PV.tup [.str "waits", .str x], .ty .tup] = some (.bl true) := rfl
    simp! [Sm.pv, e, decide_true]
    unfold r_parts_of_0
    simp!
    exact ⟨by decide, hR⟩
  | not a =>
    have e : gIsi [PV.tup [.str "not", a.pv], .ty .tup] = some (.bl true) := rfl
    have e1 : decide (Str.ofString "not" = Str.ofString "waits") = false := by decide
    simp! [Sm.pv, e, e1]
    unfold r_parts_of_1
    have esl : gSlA (PV.tup [.str "not", a.pv]) (some 1) none = some (.tup [a.pv]) := rfl
    simp! [esl]
    exact hR
  | two t a b =>
    have e : gIsi [PV.tup [.str t.str, a.pv, b.pv], .ty .tup] = some (.bl true) := rfl
    have e1 : decide (t.str = Str.ofString "waits") = false := by cases t <;> decide
    simp! [Sm.pv, e, e1]
    unfold r_parts_of_1
    have esl : gSlA (PV.tup [.str t.str, a.pv, b.pv]) (some 1) none = some (.tup [a.pv, b.pv]) := rfl
    simp! [esl]
    exact hR
def spTexts (f : Sm → List Str) : Nat → FSpec := fun j args et R => ∃ s : Sm, args = [s.pv] ∧ s.dep ≤ j ∧ s.dep ≤ 5 ∧ R (.lst ((f s).map .str)) et
theorem isi_sm (s : Sm) : gIsi [s.pv, .ty .str] = some (.bl (match s with | .wrd _ => true | _ => false)) := by cases s <;> rfl
theorem deref_sm (et : Hi) (s : Sm) : deref et s.pv = s.pv := by cases s <;> rfl
theorem flat_take {f : Sm → List Str} {l : List Sm} {i : Nat} {s : Sm} (h : l[i]? = some s) : (l.take (i + 1)).flatMap f = (l.take i).flatMap f ++ f s := by
  rw [List.take_succ, h, List.flatMap_append]; simp
theorem take_flat_len {f : Sm → List Str} (l : List Sm) (n : Nat) : ((l.take n).flatMap f).length ≤ (l.flatMap f).length := by
  have e : l.flatMap f = (l.take n).flatMap f ++ (l.drop n).flatMap f := by rw [← List.flatMap_append, List.take_append_drop]
  rw [e, List.length_append]; omega
theorem ext_ok {f : Sm → List Str} {l : List Sm} {i : Nat} {a : Sm} (ha : l[i]? = some a) (hl : (l.flatMap f).length ≤ 100) (d : PV → PV) (hd : d (.lst ((f a).map .str)) = .lst ((f a).map .str)) :
    gmExtend d (.lst (((l.take i).flatMap f).map .str)) [.lst ((f a).map .str)] = some (.lst (((l.take (i + 1)).flatMap f).map .str), .non) := by
  have h1 := take_flat_len (f := f) l (i + 1)
  rw [flat_take ha] at h1 ⊢
  unfold gmExtend
  rw [List.length_append] at h1
  have h100 : (100 : Nat) ≤ sizeLine := by decide
  simp only [hd]
  rw [if_pos (by rw [List.length_map, List.length_map]; omega), List.map_append]
theorem words_ok (j : Nat) (args : List PV) (et : Hi) (R : PV → Hi → Prop) (h : spTexts wordsL (j + 1) args et R) : r_words_in spParts (spTexts wordsL j) (env0 N_words_in args) et (retK R) := by
  obtain ⟨s, rfl, hj, h5, hR⟩ := h
  show r_words_in _ _ [.val s.pv, .no, .no] et (retK R)
  unfold r_words_in
  by_cases hw : ∃ x, s = .wrd x
  · obtain ⟨x, rfl⟩ := hw
    have e : gIsi [PV.str x, .ty .str] = some (.bl true) := rfl
    simp! [Sm.pv, e]
    unfold r_words_in_0
    simp!
    exact ⟨by show (1 : Nat) ≤ sizeLine; decide, hR⟩
  have e : gIsi [s.pv, .ty .str] = some (.bl false) := by
    rw [isi_sm]
    cases s <;> first | rfl | exact absurd ⟨_, rfl⟩ hw
  simp! [deref_sm, e]
  unfold r_words_in_1
  simp!
  refine ⟨by decide, ?_⟩
  unfold r_words_in_2
  simp!
  refine ⟨s, rfl, ?_⟩
  simp! [itemsP]
  refine ⟨fun i ep et1 => et1 = et ∧ ∃ s2, ep = [.val s.pv, .own (.lst (((partsL s).take i |>.flatMap wordsL).map .str)), s2], ⟨rfl, _, rfl⟩, ?_⟩
  rintro i ep et1 ⟨rfl, s2, rfl⟩
  refine ⟨rfl, fun p hp => ⟨_, rfl, ?_⟩, fun e => ?_⟩
  · rw [List.getElem?_map] at hp
    obtain ⟨a, ha, rfl⟩ : ∃ a, (partsL s)[i]? = some a ∧ p = a.pv := by
      cases e : (partsL s)[i]? with
      | none => rw [e] at hp; cases hp
      | some c => rw [e] at hp; cases hp; exact ⟨c, rfl, rfl⟩
    have hd := parts_dep (List.mem_of_getElem? ha)
    unfold r_words_in_3
    simp!
    refine ⟨a, rfl, by omega, by omega, ?_⟩
    have hlen : ((partsL s).flatMap wordsL).length ≤ 100 := by
      rw [← parts_words s fun x h => hw ⟨x, h⟩]
      have := words_len s
      have := lvs_small h5
      omega
    exact ⟨_, _, ext_ok ha hlen _ rfl, rfl, _, rfl⟩
  · rw [List.length_map] at e
    subst e
    unfold r_words_in_4
    simp!
    rw [List.take_length, ← parts_words s fun x h => hw ⟨x, h⟩]
    exact hR
theorem bells_ok (j : Nat) (args : List PV) (et : Hi) (R : PV → Hi → Prop) (h : spTexts bellsL (j + 1) args et R) : r_bells_in spParts (spTexts bellsL j) (env0 N_bells_in args) et (retK R) := by
  obtain ⟨s, rfl, hj, h5, hR⟩ := h
  show r_bells_in _ _ [.val s.pv, .no, .no] et (retK R)
  unfold r_bells_in
  by_cases hw : ∃ x, s = .wts x
  · obtain ⟨x, rfl⟩ := hw
    have e : gIsi [PV.tup [.str "waits", .str x], .ty .tup] = some (.bl true) := rfl
    simp! [Sm.pv, e, decide_true]
    unfold r_bells_in_0
    simp!
    exact ⟨by show (1 : Nat) ≤ sizeLine; decide, hR⟩
  have go : r_bells_in_1 spParts (spTexts bellsL j) [.val s.pv, .no, .no] et (retK R) := by
    unfold r_bells_in_1
    simp!
    refine ⟨by decide, ?_⟩
    unfold r_bells_in_2
    simp!
    refine ⟨s, rfl, ?_⟩
    simp! [itemsP]
    refine ⟨fun i ep et1 => et1 = et ∧ ∃ s2, ep = [.val s.pv, .own (.lst (((partsL s).take i |>.flatMap bellsL).map .str)), s2], ⟨rfl, _, rfl⟩, ?_⟩
    rintro i ep et1 ⟨rfl, s2, rfl⟩
    refine ⟨rfl, fun p hp => ⟨_, rfl, ?_⟩, fun e => ?_⟩
    · rw [List.getElem?_map] at hp
      obtain ⟨a, ha, rfl⟩ : ∃ a, (partsL s)[i]? = some a ∧ p = a.pv := by
        cases e : (partsL s)[i]? with
        | none => rw [e] at hp; cases hp
        | some c => rw [e] at hp; cases hp; exact ⟨c, rfl, rfl⟩
      have hd := parts_dep (List.mem_of_getElem? ha)
      unfold r_bells_in_3
      simp!
      refine ⟨a, rfl, by omega, by omega, ?_⟩
      have hlen : ((partsL s).flatMap bellsL).length ≤ 100 := by
        rw [← parts_bells s fun x h => hw ⟨x, h⟩]
        have := bells_len s
        have := lvs_small h5
        omega
      exact ⟨_, _, ext_ok ha hlen _ rfl, rfl, _, rfl⟩
    · rw [List.length_map] at e
      subst e
      unfold r_bells_in_4
      simp!
      rw [List.take_length, ← parts_bells s fun x h => hw ⟨x, h⟩]
      exact hR
  cases s with
  | val n =>
    have e : gIsi [PV.int n, .ty .tup] = some (.bl false) := rfl
    simp! [Sm.pv, e]
    exact go
  | wrd n =>
    have e : gIsi [PV.str n, .ty .tup] = some (.bl false) := rfl
    simp! [Sm.pv, e]
    exact go
  | wts x => exact absurd ⟨_, rfl⟩ hw
  | not a =>
    have e : gIsi [PV.tup [.str "not", a.pv], .ty .tup] = some (.bl true) := rfl
    have e1 : decide (Str.ofString "not" = Str.ofString "waits") = false := by decide
    simp! [Sm.pv, e, e1]
    exact go
  | two t a b =>
    have e : gIsi [PV.tup [.str t.str, a.pv, b.pv], .ty .tup] = some (.bl true) := rfl
    have e1 : decide (t.str = Str.ofString "waits") = false := by cases t <;> decide
    simp! [Sm.pv, e, e1]
    exact go
def spSet (f : Sm → List Str) : FSpec := fun args et R => ∃ s : Sm, args = [s.pv] ∧ s.dep ≤ 5 ∧ R (.tup ((setS (f s)).map .str)) et
theorem sset {ss : List Str} (h : ss.length < 64) : gSortedSet (.lst (ss.map .str)) = some (.lst ((setS ss).map .str)) := by
  unfold gSortedSet
  have : strsP (ss.map .str) = some ss := by
    induction ss with
    | nil => rfl
    | cons x xs ih => simp [strsP, ih (by simp at h; omega)]
  simp only [this, Option.bind_some, if_pos h]
theorem words_of_ok (args : List PV) (et : Hi) (R : PV → Hi → Prop) (h : spSet wordsL args et R) : r_words_of (spTexts wordsL 5) (env0 N_words_of args) et (retK R) := by
  obtain ⟨s, rfl, h5, hR⟩ := h
  show r_words_of _ [.val s.pv] et (retK R)
  unfold r_words_of
  simp!
  refine ⟨s, rfl, h5, h5, ?_⟩
  have := words_len s
  have := lvs_small h5
  simp! [sset (show (wordsL s).length < 64 by omega)]
  exact ⟨_, rfl, hR⟩
theorem bells_of_ok (args : List PV) (et : Hi) (R : PV → Hi → Prop) (h : spSet bellsL args et R) : r_bells_of (spTexts bellsL 5) (env0 N_bells_of args) et (retK R) := by
  obtain ⟨s, rfl, h5, hR⟩ := h
  show r_bells_of _ [.val s.pv] et (retK R)
  unfold r_bells_of
  simp!
  refine ⟨s, rfl, h5, h5, ?_⟩
  have := bells_len s
  have := lvs_small h5
  simp! [sset (show (bellsL s).length < 64 by omega)]
  exact ⟨_, rfl, hR⟩
end Wb
namespace Sx
open PySem L2 Mw Lw Vl Wb
end Sx
namespace Cw
open PySem L2 Mw Lw
def r__law_words_0 (S__law_take : FSpec) : SM := (mRet (mArg gSorted (mCons (mLc (mRng1 (mCons (mVar 2) mNil)) [5] (tgN 5) mYes (mMutR gmPopAt (mVar 4) (mCons (mCall 2 S__law_take (mCons (mVar 0) (mCons (mArg gLen (mCons (mPeek 4) mNil)) mNil))) mNil))) mNil)))
def r__law_words (S__law_take : FSpec) : SM := (mSeq (mSet 4 (mShare (mLc (mIter (mLst (mCons (mC (.str "a")) (mCons (mC (.str "b")) (mCons (mC (.str "c")) (mCons (mC (.str "d")) (mCons (mC (.str "e")) (mCons (mC (.str "zz")) mNil)))))))) [3] (tgN 3) mYes (mBin gAdd (mPeek 1) (mPeek 3))))) (r__law_words_0 S__law_take))
abbrev N__law_words : List Str := ["_law_pot_here", "_law_stem", "_law_many", "_law_one", "_law_left", "_law_k"]
def r__law_deed_5 (S__law_waits : FSpec) : SM := (mExprX (mMut 8 gmExtend (mCons (mCall 4 S__law_waits (mCons (mVar 0) (mCons (mVar 7) (mCons (mVar 6) (mCons (mArg gLen (mCons (mPeek 8) mNil)) mNil))))) mNil)))
def r__law_deed_8 (S__law_pick : FSpec) : SM := (mExprX (mMut 8 gmAppend (mCons (mTup (mCons (mVar 11) (mCons (mCall 2 S__law_pick (mCons (mVar 0) (mCons (mVar 6) mNil))) mNil))) mNil)))
def r__law_deed_7 (S__law_pick : FSpec) : SM := (mSeq (mSet 11 (mBin gIx (mLst (mCons (mC (.str "call")) (mCons (mC (.str "all")) mNil))) (mArg gInt (mCons (mAndE (mBin gEq (mPeek 4) (mC (.str "when free"))) (mBin gEq (mPeek 10) (mC (.int 3)))) mNil)))) (r__law_deed_8 S__law_pick))
def r__law_deed_10 (S__law_do : FSpec) : SM := (mExprX (mMut 8 gmAppend (mCons (mCall 4 S__law_do (mCons (mVar 0) (mCons (mVar 2) (mCons (mVar 5) (mCons (mVar 7) mNil))))) mNil)))
def r__law_deed_13 (S__law_take : FSpec) : SM := (mExprX (mMut 8 gmAppend (mCons (mTup (mCons (mC (.str "tell")) (mCons (mCall 2 S__law_take (mCons (mVar 0) (mCons (mC (.int 10)) mNil))) mNil))) mNil)))
def r__law_deed_12 (S__law_take : FSpec) (S__law_sum : FSpec) : SM := (mSeq (mExprX (mMut 8 gmAppend (mCons (mTup (mCons (mC (.str "unless")) (mCons (mCall 4 S__law_sum (mCons (mVar 0) (mCons (mVar 7) (mCons (mVar 6) (mCons (mC (.int 2)) mNil))))) (mCons (mBin gAdd (mArg gLen (mCons (mPeek 8) mNil)) (mC (.int 2))) mNil)))) mNil))) (r__law_deed_13 S__law_take))
def r__law_deed_15 (S__law_pick : FSpec) (S__law_sum : FSpec) : SM := (mExprX (mMut 8 gmAppend (mCons (mTup (mCons (mC (.str "put")) (mCons (mCall 2 S__law_pick (mCons (mVar 0) (mCons (mVar 5) mNil))) (mCons (mCall 4 S__law_sum (mCons (mVar 0) (mCons (mVar 7) (mCons (mVar 6) (mCons (mC (.int 2)) mNil))))) mNil)))) mNil)))
def r__law_deed_16 (S__law_sum : FSpec) : SM := (mExprX (mMut 8 gmAppend (mCons (mTup (mCons (mC (.str "tell")) (mCons (mCall 4 S__law_sum (mCons (mVar 0) (mCons (mVar 7) (mCons (mVar 6) (mCons (mC (.int 1)) mNil))))) mNil))) mNil)))
def r__law_deed_14 (S__law_pick : FSpec) (S__law_sum : FSpec) : SM := (mIf (mAndT (mBinT gLt (mPeek 10) (mC (.int 8))) (mBinT gNe (mPeek 5) (mLst mNil))) (r__law_deed_15 S__law_pick S__law_sum) (r__law_deed_16 S__law_sum))
def r__law_deed_11 (S__law_take : FSpec) (S__law_pick : FSpec) (S__law_sum : FSpec) : SM := (mIf (mBinT gEq (mPeek 10) (mC (.int 5))) (r__law_deed_12 S__law_take S__law_sum) (r__law_deed_14 S__law_pick S__law_sum))
def r__law_deed_9 (S__law_take : FSpec) (S__law_pick : FSpec) (S__law_do : FSpec) (S__law_sum : FSpec) : SM := (mIf (mAndT (mBinT gEq (mPeek 10) (mC (.int 4))) (mBinT gNe (mPeek 2) (mLst mNil))) (r__law_deed_10 S__law_do) (r__law_deed_11 S__law_take S__law_pick S__law_sum))
def r__law_deed_6 (S__law_take : FSpec) (S__law_pick : FSpec) (S__law_do : FSpec) (S__law_sum : FSpec) : SM := (mIf (mAndT (mBinT gLt (mPeek 10) (mC (.int 4))) (mBinT gNe (mPeek 6) (mLst mNil))) (r__law_deed_7 S__law_pick) (r__law_deed_9 S__law_take S__law_pick S__law_do S__law_sum))
def r__law_deed_4 (S__law_take : FSpec) (S__law_waits : FSpec) (S__law_pick : FSpec) (S__law_do : FSpec) (S__law_sum : FSpec) : SM := (mIf (mAndT (mBinT gLt (mPeek 10) (mC (.int 2))) (mBinT gNe (mPeek 6) (mLst mNil))) (r__law_deed_5 S__law_waits) (r__law_deed_6 S__law_take S__law_pick S__law_do S__law_sum))
def r__law_deed_3 (S__law_take : FSpec) (S__law_waits : FSpec) (S__law_pick : FSpec) (S__law_do : FSpec) (S__law_sum : FSpec) : SM := (mSeq (mSet 10 (mCall 2 S__law_take (mCons (mVar 0) (mCons (mC (.int 9)) mNil)))) (r__law_deed_4 S__law_take S__law_waits S__law_pick S__law_do S__law_sum))
def r__law_deed_17 : SM := (mRet (mArg gTuple (mCons (mPeek 8) mNil)))
def r__law_deed_2 (S__law_take : FSpec) (S__law_waits : FSpec) (S__law_pick : FSpec) (S__law_do : FSpec) (S__law_sum : FSpec) : SM := (mSeq (mFor (mRng1 (mCons (mBin gAdd (mC (.int 1)) (mCall 2 S__law_take (mCons (mVar 0) (mCons (mVar 3) mNil)))) mNil)) (tgN 9) (r__law_deed_3 S__law_take S__law_waits S__law_pick S__law_do S__law_sum)) (r__law_deed_17))
def r__law_deed_1 (S__law_take : FSpec) (S__law_waits : FSpec) (S__law_pick : FSpec) (S__law_do : FSpec) (S__law_sum : FSpec) : SM := (mSeq (mSetN 8 (mLst mNil)) (r__law_deed_2 S__law_take S__law_waits S__law_pick S__law_do S__law_sum))
def r__law_deed_0 (S__law_take : FSpec) (S__law_waits : FSpec) (S__law_pick : FSpec) (S__law_do : FSpec) (S__law_sum : FSpec) : SM := (mSeq (mSet 7 (mBin gCat (mPeek 5) (mLst (mCons (mC (.str "given")) mNil)))) (r__law_deed_1 S__law_take S__law_waits S__law_pick S__law_do S__law_sum))
def r__law_deed (S__law_take : FSpec) (S__law_waits : FSpec) (S__law_pick : FSpec) (S__law_do : FSpec) (S__law_sum : FSpec) : SM := (mSeq (mAsg (tgT [(tgN 4), (tgN 5), (tgN 6)]) (mVar 1)) (r__law_deed_0 S__law_take S__law_waits S__law_pick S__law_do S__law_sum))
abbrev N__law_deed : List Str := ["_law_pot_here", "_law_room_here", "_law_goals", "_law_most", "_law_manner", "_law_things", "_law_bells", "_law_words_here", "_law_rows", "_law_k", "_law_way", "_law_word"]
def r__law_room_6 (S__law_deed : FSpec) : SM := (mExprX (mMut 8 gmAppend (mCons (mTup (mCons (mVar 9) (mCons (mCall 4 S__law_deed (mCons (mVar 0) (mCons (mTup (mCons (mVar 5) (mCons (mVar 6) (mCons (mVar 7) mNil)))) (mCons (mVar 12) (mCons (mC (.int 4)) mNil))))) mNil))) mNil)))
def r__law_room_5 (S__law_take : FSpec) (S__law_deed : FSpec) : SM := (mSeq (mSet 12 (mBin gCat (mPeek 2) (mBin gRep (mPeek 11) (mArg gInt (mCons (mBin gEq (mCall 2 S__law_take (mCons (mVar 0) (mCons (mC (.int 5)) mNil))) (mC (.int 0))) mNil))))) (r__law_room_6 S__law_deed))
def r__law_room_4 (S__law_take : FSpec) (S__law_deed : FSpec) : SM := (mSeq (mSet 11 (mLc (mIter (mVar 8)) [10] (tgN 10) mYes (mTup (mCons (mVar 1) (mCons (mBin gIx (mPeek 10) (mC (.int 0))) mNil))))) (r__law_room_5 S__law_take S__law_deed))
def r__law_room_8 (S__law_take : FSpec) : SM := (mRet (mTup (mCons (mVar 1) (mCons (mVar 5) (mCons (mArg gTuple (mCons (mLc (mIter (mVar 6)) [15] (tgN 15) mYes (mTup (mCons (mVar 15) (mCons (mCall 2 S__law_take (mCons (mVar 0) (mCons (mC (.int 3)) mNil))) mNil)))) mNil)) (mCons (mVar 14) (mCons (mArg gTuple (mCons (mPeek 8) mNil)) mNil)))))))
def r__law_room_7 (S__law_take : FSpec) : SM := (mSeq (mSet 14 (mArg gTuple (mCons (mLc (mIter (mVar 7)) [13] (tgN 13) mYes (mTup (mCons (mVar 13) (mCons (mBin gIx (mLst (mCons (mC (.str "row")) (mCons (mC (.str "turns")) mNil))) (mCall 2 S__law_take (mCons (mVar 0) (mCons (mC (.int 2)) mNil)))) mNil)))) mNil))) (r__law_room_8 S__law_take))
def r__law_room_3 (S__law_words : FSpec) (S__law_take : FSpec) (S__law_deed : FSpec) : SM := (mSeq (mFor (mIter (mCall 3 S__law_words (mCons (mVar 0) (mCons (mC (.str "")) (mCons (mBin gAdd (mC (.int 1)) (mCall 2 S__law_take (mCons (mVar 0) (mCons (mC (.int 3)) mNil)))) mNil))))) (tgN 9) (r__law_room_4 S__law_take S__law_deed)) (r__law_room_7 S__law_take))
def r__law_room_2 (S__law_words : FSpec) (S__law_take : FSpec) (S__law_deed : FSpec) : SM := (mSeq (mSet 8 (mShare (mLst mNil))) (r__law_room_3 S__law_words S__law_take S__law_deed))
def r__law_room_1 (S__law_words : FSpec) (S__law_take : FSpec) (S__law_deed : FSpec) : SM := (mSeq (mSet 7 (mCall 3 S__law_words (mCons (mVar 0) (mCons (mC (.str "")) (mCons (mCall 2 S__law_take (mCons (mVar 0) (mCons (mBin gAdd (mPeek 4) (mC (.int 1))) mNil))) mNil))))) (r__law_room_2 S__law_words S__law_take S__law_deed))
def r__law_room_0 (S__law_words : FSpec) (S__law_take : FSpec) (S__law_deed : FSpec) : SM := (mSeq (mSet 6 (mCall 3 S__law_words (mCons (mVar 0) (mCons (mC (.str "")) (mCons (mBin gIx (mLst (mCons (mC (.int 1)) (mCons (mC (.int 1)) (mCons (mC (.int 2)) (mCons (mC (.int 0)) mNil))))) (mCall 2 S__law_take (mCons (mVar 0) (mCons (mC (.int 4)) mNil)))) mNil))))) (r__law_room_1 S__law_words S__law_take S__law_deed))
def r__law_room (S__law_pick : FSpec) (S__law_words : FSpec) (S__law_take : FSpec) (S__law_deed : FSpec) : SM := (mSeq (mSet 5 (mCall 2 S__law_pick (mCons (mVar 0) (mCons (mVar 3) mNil)))) (r__law_room_0 S__law_words S__law_take S__law_deed))
abbrev N__law_room : List Str := ["_law_pot_here", "_law_name", "_law_goals", "_law_manners", "_law_bells_most", "_law_manner", "_law_things", "_law_bells", "_law_deeds", "_law_word", "_law_deed_here", "_law_here", "_law_some", "_law_bell", "_law_sorts", "_law_thing"]
def PC (is : List Int) : Prop := ∃ a b c : Int, is = [a, b, c] ∧ 0 ≤ a ∧ 0 ≤ b ∧ b < 2305843009213693951 ∧ 0 ≤ c
abbrev potC : Cell := potP PC
abbrev spTk : FSpec := spDraw PC
theorem tk {r : Nat} {m : Int} {et : Hi} {R : PV → Hi → Prop} (hp : et[r]? = some potC) (m0 : 0 < m) (m1 : m < 1073741824) (h : ∀ d : Int, 0 ≤ d → d < m → R (.int d) et) : spTk [.ref r, .int m] et R := ⟨r, m, rfl, hp, m0, m1, h⟩
theorem atI_some {xs : List PV} {d : Int} (d0 : 0 ≤ d) (d1 : d < xs.length) : ∃ x ∈ xs, atI xs d = some x := by
  obtain ⟨j, rfl⟩ : ∃ j : Nat, d = (j : Int) := ⟨d.toNat, by omega⟩
  have hj : j < xs.length := by omega
  exact ⟨xs[j], List.getElem_mem hj, atI_nat (List.getElem?_eq_getElem hj)⟩
def spPick : FSpec := fun args et R => ∃ (r : Nat) (xs : List PV), args = [.ref r, .lst xs] ∧ et[r]? = some potC ∧ 0 < xs.length ∧ xs.length < 1073741824 ∧ ∀ x ∈ xs, R x et
theorem pick {r : Nat} {xs : List PV} {et : Hi} {R : PV → Hi → Prop} (hp : et[r]? = some potC) (h0 : 0 < xs.length) (h1 : xs.length < 1073741824) (h : ∀ x ∈ xs, R x et) : spPick [.ref r, .lst xs] et R := ⟨r, xs, rfl, hp, h0, h1, h⟩
def baseC : List Str := ["a", "b", "c", "d", "e", "zz"]
structure WordsOf (stem : Str) (many : Nat) (ws : List Str) : Prop where
  len : ws.length = many
  srt : ws.Pairwise leS
  nd : ws.Nodup
  from_ : ∀ x ∈ ws, ∃ e ∈ baseC, x = stem ++ e
theorem gSorted_strs {l : List Str} (h : l.length < 64) : gSorted [.lst (l.map .str)] = some (.lst ((srtS l).map .str)) := by
  unfold gSorted
  have : strsP (l.map .str) = some l := by
    clear h
    induction l with
    | nil => rfl
    | cons x xs ih => simp [strsP, ih]
  simp only [this, Option.bind_some, if_pos h]
theorem app_inj {s x y : Str} (h : s ++ x = s ++ y) : x = y := by
  have h1 : (s ++ x).cps = (s ++ y).cps := by rw [h]
  rw [cps_append, cps_append] at h1
  cases x; cases y
  congr 1
  exact Array.append_right_inj s.cps |>.mp h1
theorem stems_nodup (stem : Str) : (baseC.map fun e => stem ++ e).Nodup := nodup_map_on (by decide) fun x _ y _ h => app_inj h
theorem er_map {α β : Type} (f : α → β) : ∀ (l : List α) (j : Nat), (l.map f).eraseIdx j = (l.eraseIdx j).map f
  | [], _ => by simp
  | x :: l, 0 => by simp
  | x :: l, j + 1 => by simp [er_map f l j]
theorem er_perm {α : Type} {l : List α} {j : Nat} (h : j < l.length) : l.Perm (l[j] :: l.eraseIdx j) := by
  rw [List.eraseIdx_eq_take_drop_succ]
  have e : l = l.take j ++ l[j] :: l.drop (j + 1) := by
    rw [← List.drop_eq_getElem_cons h, List.take_append_drop]
  exact (List.Perm.of_eq e).trans List.perm_middle
def spWordsJ : FSpec := fun args et R => ∃ (r : Nat) (stem : Str) (many : Nat), args = [.ref r, .str stem, .int many] ∧ et[r]? = some potC ∧ many ≤ 6 ∧ stem.length ≤ 100 ∧ ∀ ws c, WordsOf stem many ws → R (.lst (ws.map .str)) (et ++ [c])
theorem words_ok (args : List PV) (et : Hi) (R : PV → Hi → Prop) (h : spWordsJ args et R) : r__law_words spTk (env0 N__law_words args) et (retK R) := by
  obtain ⟨r, stem, many, rfl, hr, h6, hs, hR⟩ := h
  show r__law_words _ [.val (.ref r), .val (.str stem), .val (.int many), .no, .no, .no] et (retK R)
  have hrl := (List.getElem?_eq_some_iff.mp hr).1
  unfold r__law_words
  simp! [itemsP]
  refine ⟨by decide, ?_⟩
  refine Vl.lc_rel (rs := (baseC.map fun e => stem ++ e).map .str) rfl (by show (6 : Nat) ≤ sizeLine; decide) rfl (fun i p q hp hq => ?_) ?_
  · obtain ⟨e, he, rfl, rfl⟩ : ∃ e ∈ baseC, p = .str e ∧ q = .str (stem ++ e) := by
      have : (baseC.map PV.str)[i]? = some p := hp
      rw [List.getElem?_map] at this
      rw [List.map_map, List.getElem?_map] at hq
      cases ee : baseC[i]? with
      | none => rw [ee] at this; cases this
      | some e => rw [ee] at this hq; cases this; cases hq; exact ⟨e, List.mem_of_getElem? ee, rfl, rfl⟩
    refine ⟨_, rfl, fun Q hQ => ?_⟩
    simp!
    have hl : e.length ≤ 2 := by
      have : ∀ e ∈ baseC, e.length ≤ 2 := by decide
      exact this e he
    exact ⟨_, if_pos (by have : (200 : Nat) ≤ sizeLine := by decide
                         omega), hQ⟩
  · refine ⟨_, rfl, ?_⟩
    show r__law_words_0 _ _ (et ++ [.lst ((baseC.map fun e => stem ++ e).map .str)]) _
    unfold r__law_words_0
    simp!
    refine ⟨many, rfl, by omega, by omega, ?_⟩
    rw [Int.toNat_natCast]
    refine ⟨fun i acc et1 => ∃ left chosen : List Str, et1 = et ++ [.lst (left.map .str)] ∧ acc = chosen.map .str ∧ chosen.length = i ∧ (left ++ chosen).Perm (baseC.map fun e => stem ++ e), ⟨_, [], rfl, rfl, rfl, by simp⟩, ?_⟩
    rintro i acc et1 ⟨left, chosen, rfl, rfl, hc, pm⟩
    have hlen : left.length + chosen.length = 6 := by
      have := pm.length_eq
      simpa [baseC] using this
    refine ⟨rfl, fun p hp => ⟨_, rfl, ?_⟩, fun e => ?_⟩
    · have hi : i < many := by
        have := (List.getElem?_eq_some_iff.mp hp).1
        simpa [rng] using this
      have hn : (et ++ [Cell.lst (left.map .str)])[et.length]? = some (.lst (left.map .str)) := by rw [List.getElem?_append_right (by omega)]; simp
      have hd : deref (et ++ [Cell.lst (left.map .str)]) (.ref et.length) = .lst (left.map .str) := deref_ref hn
      have hg : gLen [.lst (left.map .str)] = some (.int left.length) := by show some (PV.int ((left.map PV.str).length : Int)) = _; rw [List.length_map]
      simp! [hd, hg]
      refine tk (by rw [List.getElem?_append_left hrl]; exact hr) (by omega) (by omega) fun d d0 d1 => ?_
      obtain ⟨j, rfl⟩ : ∃ j : Nat, d = (j : Int) := ⟨d.toNat, by omega⟩
      have hj : j < left.length := by omega
      have hix : ixN (left.map PV.str).length (j : Int) = some j := by unfold ixN; rw [List.length_map, if_pos (by omega), if_pos (by omega)]; simp
      have hpop : gmPopAt (deref (et ++ [Cell.lst (left.map .str)])) (.lst (left.map .str)) [.int j] = some (.lst ((left.eraseIdx j).map .str), .str left[j]) := by
        unfold gmPopAt
        simp only
        rw [if_pos ⟨by omega, by omega⟩, hix]
        simp [List.getElem?_eq_getElem hj, er_map]
      simp! [hd, hpop, Prod.mk.injEq]
      refine ⟨_, _, _, ⟨rfl, rfl⟩, rfl, ?_, left.eraseIdx j, chosen ++ [left[j]], ?_, by rw [List.map_append]; rfl, by simp [hc], ?_⟩
      · rw [List.length_map]
        have : (100 : Nat) ≤ sizeLine := by decide
        omega
      · rw [List.set_append_right _ _ (Nat.le_refl _)]; simp
      · refine List.Perm.trans ?_ pm
        have e1 : left.Perm (left[j] :: left.eraseIdx j) := er_perm hj
        refine List.Perm.trans ?_ (e1.symm.append_right chosen)
        rw [← List.append_assoc]
        exact List.perm_append_singleton _ _
    · have hm : i = many := by rw [e]; simp [rng]
      subst hm
      simp only [deref_lst, gSorted_strs (l := chosen) (by omega), Option.some.injEq, exists_eq_left']
      have pc : (srtS chosen).Perm chosen := srt_perm chosen
      have nd : chosen.Nodup := by
        have := pm.nodup_iff.mpr (stems_nodup stem)
        exact (List.nodup_append.mp this).2.1
      exact hR (srtS chosen) _ ⟨by rw [pc.length_eq, hc], srt_pw _, pc.nodup_iff.mpr nd, fun x hx => by
        have : x ∈ baseC.map fun e => stem ++ e := pm.mem_iff.mp (List.mem_append_right _ (pc.mem_iff.mp hx))
        obtain ⟨e, he, rfl⟩ := List.mem_map.mp this
        exact ⟨e, he, rfl⟩⟩
def Pot (r : Nat) (et : Hi) : Prop := et[r]? = some potC ∧ ∀ d ∈ et, belC et.length d
def spWords : FSpec := fun args et R => ∃ (r : Nat) (stem : Str) (many : Nat), args = [.ref r, .str stem, .int many] ∧ Pot r et ∧ many ≤ 6 ∧ stem.length ≤ 100 ∧ ∀ ws, WordsOf stem many ws → R (.lst (ws.map .str)) et
theorem stem_word {stem : Str} (hs : stem = "" ∨ stem = "p" ∨ stem = "o") {x : Str} (h : ∃ e ∈ baseC, x = stem ++ e) : isWord x = true := by
  obtain ⟨e, he, rfl⟩ := h
  have k : ∀ t ∈ (["", "p", "o"] : List Str), ∀ e ∈ baseC, isWord (t ++ e) = true := by decide +kernel
  exact k stem (by rcases hs with rfl | rfl | rfl <;> simp) e he
theorem WordsOf.words {stem : Str} {n : Nat} {ws : List Str} (h : WordsOf stem n ws) (hs : stem = "" ∨ stem = "p" ∨ stem = "o") : ∀ x ∈ ws, isWord x = true := fun x hx => stem_word hs (h.from_ x hx)
def spSum : Nat → FSpec := fun j args et R => ∃ (r deep : Nat) (ws bs : List Str), args = [.ref r, .lst (ws.map .str), .lst (bs.map .str), .int deep] ∧ Pot r et ∧ deep < j ∧ (∀ x ∈ ws, isWord x = true) ∧ (∀ x ∈ bs, isWord x = true) ∧ ws.length < 1000 ∧ bs.length < 1000 ∧
  ∀ s : Sm, s.dep ≤ deep + 1 → s.ok ws bs → R s.pv et
theorem bl_int (b : Bool) : gInt [.bl b] = some (.int (if b then 1 else 0)) := rfl
inductive Row where
  | put (x : Str) (s : Sm) | unl (s : Sm) (k : Nat) | go (k : Nat) | doo (g : Option Str) (rm dd : Str) (s : Sm) | wait (b : Str) (s : Sm)
  | call (b : Str) | all (b : Str) | tell (s : Sm) | take (p : Str) | give (p : Str) | pass (p q : Str) | say (s : Sm)
def optPV : Option Str → PV
  | none => .non
  | some x => .str x
def Row.pv : Row → PV
  | .put x s => .tup [.str "put", .str x, s.pv]
  | .unl s k => .tup [.str "unless", s.pv, .int k]
  | .go k => .tup [.str "go", .int k]
  | .doo g rm dd s => .tup [.str "do", optPV g, .str rm, .str dd, s.pv]
  | .wait b s => .tup [.str "wait", .str b, s.pv]
  | .call b => .tup [.str "call", .str b]
  | .all b => .tup [.str "all", .str b]
  | .tell s => .tup [.str "tell", s.pv]
  | .take p => .tup [.str "take", .str p]
  | .give p => .tup [.str "give", .str p]
  | .pass p q => .tup [.str "pass", .str p, .str q]
  | .say s => .tup [.str "say", s.pv]
def okS (ws bs : List Str) (s : Sm) : Prop := s.ok ws bs ∧ s.dep ≤ 5
def Row.okD (ws ts bs : List Str) (gs : List (Str × Str)) (n : Nat) : Row → Prop
  | .put x s => x ∈ ts ∧ okS ws bs s
  | .unl s k => okS ws bs s ∧ k ≤ n
  | .go k => k ≤ n
  | .doo g rm dd s => (∀ x, g = some x → x ∈ ts) ∧ (rm, dd) ∈ gs ∧ okS ws bs s
  | .wait b s => b ∈ bs ∧ okS ws bs s
  | .call b => b ∈ bs
  | .all b => b ∈ bs
  | .tell s => okS ws bs s
  | _ => False
def Row.okH (ws ps : List Str) (gs : List (Str × Str)) (n : Nat) : Row → Prop
  | .put x s => x ∈ ws ∧ okS ws [] s
  | .unl s k => okS ws [] s ∧ k ≤ n
  | .go k => k ≤ n
  | .doo g rm dd s => (∀ x, g = some x → x ∈ ws) ∧ (rm, dd) ∈ gs ∧ okS ws [] s
  | .take p => p ∈ ps
  | .give p => p ∈ ps
  | .pass p q => p ∈ ps ∧ q ∈ ps
  | .say s => okS ws [] s
  | _ => False
theorem Row.okD_mono {ws ts bs : List Str} {gs : List (Str × Str)} {n m : Nat} (h : n ≤ m) : ∀ r : Row, r.okD ws ts bs gs n → r.okD ws ts bs gs m
  | .put _ _, h' => h'
  | .unl _ _, h' => ⟨h'.1, Nat.le_trans h'.2 h⟩
  | .go _, h' => Nat.le_trans h' h
  | .doo _ _ _ _, h' => h'
  | .wait _ _, h' => h'
  | .call _, h' => h'
  | .all _, h' => h'
  | .tell _, h' => h'
theorem ok_nobell {ws bs : List Str} : ∀ s : Sm, s.ok ws [] → s.ok ws bs
  | .val _, h => h
  | .wrd _, h => h
  | .wts _, h => by cases h
  | .not a, h => ok_nobell a h
  | .two _ a b, h => ⟨ok_nobell a h.1, ok_nobell b h.2⟩
theorem sumi {j r deep : Nat} {ws bs : List Str} {et : Hi} {R : PV → Hi → Prop} (hp : Pot r et) (hd : deep < j) (hw : ∀ x ∈ ws, isWord x = true) (hb : ∀ x ∈ bs, isWord x = true) (lw : ws.length < 1000) (lb : bs.length < 1000) (h : ∀ s : Sm, s.dep ≤ deep + 1 → s.ok ws bs → R s.pv et) :
    spSum j [.ref r, .lst (ws.map .str), .lst (bs.map .str), .int deep] et R := ⟨r, deep, ws, bs, rfl, hp, hd, hw, hb, lw, lb, h⟩
theorem pickS {r : Nat} {xs : List Str} {et : Hi} {R : PV → Hi → Prop} (hp : Pot r et) (h0 : xs ≠ []) (h1 : xs.length < 1000) (h : ∀ x ∈ xs, R (.str x) et) : spPick [.ref r, .lst (xs.map .str)] et R :=
  pick hp.1 (by rw [List.length_map]; exact List.length_pos_iff.mpr h0) (by rw [List.length_map]; omega) fun y hy => by
    obtain ⟨z, hz, rfl⟩ := List.mem_map.mp hy
    exact h z hz
def spWaits : FSpec := fun args et R => ∃ (r n : Nat) (ws bs : List Str), args = [.ref r, .lst (ws.map .str), .lst (bs.map .str), .int n] ∧ Pot r et ∧ (∀ x ∈ ws, isWord x = true) ∧ (∀ x ∈ bs, isWord x = true) ∧ ws.length < 1000 ∧ bs.length < 1000 ∧ bs ≠ [] ∧ ("given" : Str) ∈ ws ∧
  ∀ rows : List Row, rows.length ≤ 3 → 1 ≤ rows.length → (∀ row ∈ rows, ∀ ts gs, row.okD ws ts bs gs (n + rows.length)) → R (.lst (rows.map Row.pv)) et
def goalPV (g : Str × Str) : PV := .tup [.str g.1, .str g.2]
def okG (gs : List (Str × Str)) : Prop := ∀ g ∈ gs, isWord g.1 = true ∧ isWord g.2 = true
theorem doks_goals {gs : List (Str × Str)} (h : okG gs) : doks (gs.map goalPV) = true ∧ dpts (gs.map goalPV) ≤ 1 := by
  induction gs with
  | nil => exact ⟨rfl, Nat.zero_le _⟩
  | cons g gs ih =>
    obtain ⟨h1, h2⟩ := ih fun x hx => h x (by simp [hx])
    obtain ⟨h3, h4⟩ := h g (by simp)
    refine ⟨by simp [doks, dok, goalPV, h1, isWord_strOk h3, isWord_strOk h4], ?_⟩
    simp only [List.map_cons, dpts, goalPV, dpt]; omega
theorem gNe_goals {gs : List (Str × Str)} (h : okG gs) : gNe (.lst (gs.map goalPV)) (.lst []) = some (.bl (!gs.isEmpty)) := by
  obtain ⟨h1, h2⟩ := doks_goals h
  rw [gNe_nil h1 (by omega)]
  cases gs <;> rfl
def spDo : FSpec := fun args et R => ∃ (r : Nat) (gs : List (Str × Str)) (ts ws : List Str), args = [.ref r, .lst (gs.map goalPV), .lst (ts.map .str), .lst (ws.map .str)] ∧ Pot r et ∧ gs ≠ [] ∧ gs.length < 1000 ∧ ts.length < 1000 ∧ ws.length < 1000 ∧ (∀ x ∈ ws, isWord x = true) ∧
  ∀ (g : Option Str) (rm dd : Str) (s : Sm), (∀ x, g = some x → x ∈ ts) → (rm, dd) ∈ gs → s.ok ws [] → s.dep ≤ 5 → R (Row.doo g rm dd s).pv et
def spDeed : FSpec := fun args et R => ∃ (r most : Nat) (mn : Str) (ts bs : List Str) (gs : List (Str × Str)), args = [.ref r, .tup [.str mn, .lst (ts.map .str), .lst (bs.map .str)], .lst (gs.map goalPV), .int most] ∧ Pot r et ∧ 0 < most ∧ most ≤ 10 ∧
  (∀ x ∈ ts, isWord x = true) ∧ (∀ x ∈ bs, isWord x = true) ∧ okG gs ∧ ts.length < 100 ∧ bs.length < 100 ∧ gs.length < 1000 ∧
  ∀ rows : List Row, 1 ≤ rows.length → rows.length ≤ 30 → (∀ row ∈ rows, row.okD (ts ++ [("given" : Str)]) ts bs gs rows.length) → R (.tup (rows.map Row.pv)) et
abbrev epD (r most : Nat) (mn : Str) (ts bs ws : List Str) (gs : List (Str × Str)) (L : List PV) (s9 s10 s11 : Mw.Slot) : En := [.val (.ref r), .val (.tup [.str mn, .lst (ts.map .str), .lst (bs.map .str)]), .val (.lst (gs.map goalPV)), .val (.int most), .val (.str mn), .val (.lst (ts.map .str)), .val (.lst (bs.map .str)), .val (.lst (ws.map .str)), .own (.lst L), s9, s10, s11]
theorem deed_ok (args : List PV) (et : Hi) (R : PV → Hi → Prop) (h : spDeed args et R) : r__law_deed spTk spWaits spPick spDo (spSum 3) (env0 N__law_deed args) et (retK R) := by
  obtain ⟨r, most, mn, ts, bs, gs, rfl, hp, hm0, hm1, ht, hb, hg, htl, hbl, hgl, hR⟩ := h
  show r__law_deed _ _ _ _ _ [.val (.ref r), .val (.tup [.str mn, .lst (ts.map .str), .lst (bs.map .str)]), .val (.lst (gs.map goalPV)), .val (.int most), .no, .no, .no, .no, .no, .no, .no, .no] et (retK R)
  have big : (2000 : Nat) ≤ sizeLine := by decide
  generalize hW : ts ++ [("given" : Str)] = ws at hR
  have hw : ∀ x ∈ ws, isWord x = true := fun x hx => by
    rw [← hW] at hx
    rcases List.mem_append.mp hx with hx | hx
    · exact ht x hx
    · rw [List.mem_singleton.mp hx]; decide +kernel
  have hwl : ws.length < 1000 := by rw [← hW]; simp; omega
  have hgv : ("given" : Str) ∈ ws := by rw [← hW]; simp
  have hsub : ∀ x ∈ ts, x ∈ ws := fun x hx => by rw [← hW]; simp [hx]
  unfold r__law_deed
  simp!
  refine ⟨_, rfl, ?_⟩
  unfold r__law_deed_0
  have ec : gCat (.lst (ts.map .str)) (.lst [.str "given"]) = some (.lst (ws.map .str)) := by
    show (if (ts.map PV.str).length + [PV.str "given"].length ≤ sizeLine then some (PV.lst (ts.map .str ++ [.str "given"])) else none) = _
    rw [if_pos (by rw [List.length_map]; simp; omega), ← hW, List.map_append]; rfl
  simp! [ec]
  refine ⟨by decide, ?_⟩
  unfold r__law_deed_1
  simp!
  refine ⟨by decide, ?_⟩
  unfold r__law_deed_2
  simp!
  refine tk hp.1 (by omega) (by omega) fun dn n0 n1 => ?_
  simp!
  refine ⟨1 + dn, rfl, by omega, by omega, ?_⟩
  obtain ⟨n, hn⟩ : ∃ n : Nat, (1 + dn).toNat = n + 1 := ⟨dn.toNat, by omega⟩
  have hn10 : n + 1 ≤ 10 := by omega
  rw [hn]
  refine ⟨fun i ep et1 => et1 = et ∧ ∃ (rows : List Row) (s9 s10 s11 : Mw.Slot), ep = [.val (.ref r), .val (.tup [.str mn, .lst (ts.map .str), .lst (bs.map .str)]), .val (.lst (gs.map goalPV)), .val (.int most), .val (.str mn), .val (.lst (ts.map .str)), .val (.lst (bs.map .str)), .val (.lst (ws.map .str)), .own (.lst (rows.map Row.pv)), s9, s10, s11] ∧
    i ≤ rows.length ∧ rows.length ≤ 3 * i ∧ ∀ row ∈ rows, row.okD ws ts bs gs rows.length, ⟨rfl, [], _, _, _, rfl, Nat.le_refl _, Nat.le_refl _, by simp⟩, ?_⟩
  rintro i ep et1 ⟨rfl, rows, s9, s10, s11, rfl, hi1, hi2, hrows⟩
  refine ⟨rfl, fun p hpi => ⟨_, rfl, ?_⟩, fun e => ?_⟩
  · have hi : i < n + 1 := by
      have := (List.getElem?_eq_some_iff.mp hpi).1
      simpa [rng] using this
    have fin : ∀ (more : List Row) (t9 t10 t11 : Mw.Slot), 1 ≤ more.length → more.length ≤ 3 → (∀ row ∈ more, row.okD ws ts bs gs (rows.length + more.length)) →
        ∃ (rows' : List Row) (s9 s10 s11 : Mw.Slot), epD r most mn ts bs ws gs (rows.map Row.pv ++ more.map Row.pv) t9 t10 t11 = epD r most mn ts bs ws gs (rows'.map Row.pv) s9 s10 s11 ∧ i + 1 ≤ rows'.length ∧ rows'.length ≤ 3 * (i + 1) ∧ ∀ row ∈ rows', row.okD ws ts bs gs rows'.length := fun more t9 t10 t11 h1 h2 h3 => by
      refine ⟨rows ++ more, t9, t10, t11, by rw [List.map_append], by rw [List.length_append]; omega, by rw [List.length_append]; omega, fun row hrow => ?_⟩
      rw [List.length_append]
      rcases List.mem_append.mp hrow with h | h
      · exact Row.okD_mono (by omega) row (hrows row h)
      · exact h3 row h
    have hrl : (rows.map Row.pv).length = rows.length := List.length_map _
    have app : ∀ (d : PV → PV) (row : Row), gmAppend d (.lst (rows.map Row.pv)) [row.pv] = some (.lst (rows.map Row.pv ++ [row].map Row.pv), .non) := fun d row => by
      show (if (rows.map Row.pv).length < sizeLine then some (PV.lst (rows.map Row.pv ++ [row.pv]), PV.non) else none) = _
      rw [if_pos (by omega)]; rfl
    have app2 : ∀ (d : PV → PV) (r1 row : Row), gmAppend d (.lst (rows.map Row.pv ++ [r1].map Row.pv)) [row.pv] = some (.lst (rows.map Row.pv ++ [r1, row].map Row.pv), .non) := fun d r1 row => by
      show (if (rows.map Row.pv ++ [r1].map Row.pv).length < sizeLine then some (PV.lst (rows.map Row.pv ++ [r1].map Row.pv ++ [row.pv]), PV.non) else none) = _
      rw [if_pos (by rw [List.length_append]; simp; omega)]; simp
    have ext : ∀ (d : PV → PV) (more : List Row), d (.lst (more.map Row.pv)) = .lst (more.map Row.pv) → more.length ≤ 3 → gmExtend d (.lst (rows.map Row.pv)) [.lst (more.map Row.pv)] = some (.lst (rows.map Row.pv ++ more.map Row.pv), .non) := fun d more hd h3 => by
      unfold gmExtend
      simp only [hd]
      rw [if_pos (by rw [List.length_map, List.length_map]; omega)]
    have glen : gLen [.lst (rows.map Row.pv)] = some (.int rows.length) := by show some (PV.int ((rows.map Row.pv).length : Int)) = _; rw [hrl]
    unfold r__law_deed_3
    simp!
    refine tk hp.1 (by decide) (by decide) fun d d0 d1 => ?_
    have tell : ∀ (t9 t11 : Mw.Slot) (Q : Fl → En → Hi → Prop), (∀ s, okS ws bs s → Q .nx (epD r most mn ts bs ws gs (rows.map Row.pv ++ [Row.tell s].map Row.pv) t9 (.val (.int d)) t11) et1) → r__law_deed_16 (spSum 3) (epD r most mn ts bs ws gs (rows.map Row.pv) t9 (.val (.int d)) t11) et1 Q := fun t9 t11 Q hQ => by
      unfold r__law_deed_16
      simp! [epD]
      refine sumi (deep := 1) hp (by decide) hw hb hwl (by omega) fun s hs ho => ⟨by decide, ?_⟩
      exact ⟨_, _, app _ (.tell s), hQ s ⟨ho, by omega⟩⟩
    have put : ∀ (t9 t11 : Mw.Slot) (Q : Fl → En → Hi → Prop), (∀ more : List Row, 1 ≤ more.length → more.length ≤ 3 → (∀ row ∈ more, row.okD ws ts bs gs (rows.length + more.length)) → Q .nx (epD r most mn ts bs ws gs (rows.map Row.pv ++ more.map Row.pv) t9 (.val (.int d)) t11) et1) → r__law_deed_14 spPick (spSum 3) (epD r most mn ts bs ws gs (rows.map Row.pv) t9 (.val (.int d)) t11) et1 Q := fun t9 t11 Q hQ => by
      have other : r__law_deed_16 (spSum 3) (epD r most mn ts bs ws gs (rows.map Row.pv) t9 (.val (.int d)) t11) et1 Q := tell t9 t11 Q fun s hs => hQ [.tell s] (by simp) (by simp) fun row hrow => by rw [List.mem_singleton.mp hrow]; exact hs
      unfold r__law_deed_14
      simp! [epD, gNe_words ht]
      by_cases h8 : d < 8
      · simp only [h8, decide_true, if_true]
        refine ⟨by decide, ?_⟩
        cases hts : ts with
        | nil =>
          subst hts
          simp only [List.isEmpty_nil, Bool.not_true, Bool.false_eq_true, if_false]
          exact other
        | cons x xs =>
          simp only [List.isEmpty_cons, Bool.not_false, if_true]
          rw [← hts]
          unfold r__law_deed_15
          simp!
          refine pickS hp (by rw [hts]; simp) (by omega) fun x hx => ?_
          refine sumi (deep := 2) hp (by decide) hw hb hwl (by omega) fun s hs ho => ⟨by decide, ?_⟩
          exact ⟨_, _, app _ (.put x s), hQ [.put x s] (by simp) (by simp) fun row hrow => by rw [List.mem_singleton.mp hrow]; exact ⟨hx, ho, by omega⟩⟩
      · have h8' : decide (d < 8) = false := by simpa using h8
        simp only [h8', Bool.false_eq_true, if_false]
        exact other
    have unl : ∀ (t9 t11 : Mw.Slot) (Q : Fl → En → Hi → Prop), (∀ more : List Row, 1 ≤ more.length → more.length ≤ 3 → (∀ row ∈ more, row.okD ws ts bs gs (rows.length + more.length)) → Q .nx (epD r most mn ts bs ws gs (rows.map Row.pv ++ more.map Row.pv) t9 (.val (.int d)) t11) et1) → r__law_deed_11 spTk spPick (spSum 3) (epD r most mn ts bs ws gs (rows.map Row.pv) t9 (.val (.int d)) t11) et1 Q := fun t9 t11 Q hQ => by
      unfold r__law_deed_11
      simp! [epD]
      by_cases h5 : d = 5
      · simp only [h5, decide_true, if_true]
        unfold r__law_deed_12
        simp! [glen]
        refine sumi (deep := 2) hp (by decide) hw hb hwl (by omega) fun s hs ho => ⟨by decide, ?_⟩
        refine ⟨_, _, app _ (.unl s (rows.length + 2)), ?_⟩
        unfold r__law_deed_13
        simp!
        refine tk hp.1 (by decide) (by decide) fun d2 e0 e1 => ⟨by decide, ?_⟩
        have e : (PV.int d2) = (Sm.val d2.toNat).pv := by simp only [Sm.pv]; congr 1; omega
        rw [e]
        refine ⟨_, _, app2 _ (.unl s (rows.length + 2)) (.tell (.val d2.toNat)), ?_⟩
        rw [h5] at hQ
        refine hQ [.unl s (rows.length + 2), .tell (.val d2.toNat)] (by simp) (by simp) fun row hrow => ?_
        simp only [List.mem_cons, List.not_mem_nil, or_false] at hrow
        rcases hrow with rfl | rfl
        · exact ⟨⟨ho, by omega⟩, by simp⟩
        · exact ⟨show d2.toNat ≤ 9 by omega, by simp [Sm.dep]⟩
      · simp only [h5, decide_false, Bool.false_eq_true, if_false]
        exact put t9 t11 Q hQ
    have doo : ∀ (t9 t11 : Mw.Slot) (Q : Fl → En → Hi → Prop), (∀ more : List Row, 1 ≤ more.length → more.length ≤ 3 → (∀ row ∈ more, row.okD ws ts bs gs (rows.length + more.length)) → Q .nx (epD r most mn ts bs ws gs (rows.map Row.pv ++ more.map Row.pv) t9 (.val (.int d)) t11) et1) → r__law_deed_9 spTk spPick spDo (spSum 3) (epD r most mn ts bs ws gs (rows.map Row.pv) t9 (.val (.int d)) t11) et1 Q := fun t9 t11 Q hQ => by
      unfold r__law_deed_9
      simp! [epD, gNe_goals hg]
      by_cases h4 : d = 4
      · simp only [h4, decide_true, if_true]
        refine ⟨by decide, ?_⟩
        cases hgs : gs with
        | nil =>
          subst hgs
          simp only [List.isEmpty_nil, Bool.not_true, Bool.false_eq_true, if_false]
          rw [h4] at unl hQ
          exact unl t9 t11 Q hQ
        | cons x xs =>
          simp only [List.isEmpty_cons, Bool.not_false, if_true]
          rw [← hgs]
          unfold r__law_deed_10
          simp!
          refine ⟨r, gs, ts, ws, rfl, hp, by rw [hgs]; simp, hgl, by omega, hwl, hw, fun g rm dd s k1 k2 k3 k4 => ?_⟩
          rw [h4] at hQ
          exact ⟨_, _, app _ (.doo g rm dd s), hQ [.doo g rm dd s] (by simp) (by simp) fun row hrow => by rw [List.mem_singleton.mp hrow]; exact ⟨k1, k2, ok_nobell s k3, k4⟩⟩
      · simp only [h4, decide_false, Bool.false_eq_true, if_false]
        exact unl t9 t11 Q hQ
    have call : ∀ (t9 t11 : Mw.Slot) (Q : Fl → En → Hi → Prop), (∀ (more : List Row) (u11 : Mw.Slot), 1 ≤ more.length → more.length ≤ 3 → (∀ row ∈ more, row.okD ws ts bs gs (rows.length + more.length)) → Q .nx (epD r most mn ts bs ws gs (rows.map Row.pv ++ more.map Row.pv) t9 (.val (.int d)) u11) et1) → r__law_deed_6 spTk spPick spDo (spSum 3) (epD r most mn ts bs ws gs (rows.map Row.pv) t9 (.val (.int d)) t11) et1 Q := fun t9 t11 Q hQ => by
      unfold r__law_deed_6
      simp! [epD, gNe_words hb]
      by_cases h4 : d < 4
      · simp only [h4, decide_true, if_true]
        refine ⟨by decide, ?_⟩
        cases hbs : bs with
        | nil =>
          subst hbs
          simp only [List.isEmpty_nil, Bool.not_true, Bool.false_eq_true, if_false]
          exact doo t9 t11 Q fun more => hQ more t11
        | cons x xs =>
          simp only [List.isEmpty_cons, Bool.not_false, if_true]
          rw [← hbs]
          unfold r__law_deed_7
          simp!
          refine ⟨by decide, ?_⟩
          have cont : ∀ w : Str, (w = "call" ∨ w = "all") → r__law_deed_8 spPick (epD r most mn ts bs ws gs (rows.map Row.pv) t9 (.val (.int d)) (.val (.str w))) et1 Q := fun w hw' => by
            unfold r__law_deed_8
            simp! [epD]
            refine pickS hp (by rw [hbs]; simp) (by omega) fun b hbm => ⟨by decide, ?_⟩
            rcases hw' with rfl | rfl
            · exact ⟨_, _, app _ (.call b), hQ [.call b] _ (by simp) (by simp) fun row hrow => by rw [List.mem_singleton.mp hrow]; exact hbm⟩
            · exact ⟨_, _, app _ (.all b), hQ [.all b] _ (by simp) (by simp) fun row hrow => by rw [List.mem_singleton.mp hrow]; exact hbm⟩
          by_cases hmn : mn = "when free"
          · have hm1 : decide (mn = ("when free" : Str)) = true := decide_eq_true hmn
            by_cases h3 : d = 3
            · have h31 : decide (d = 3) = true := decide_eq_true h3
              simp only [hm1, h31, if_true, bl_int, Option.some.injEq, exists_eq_left']
              exact ⟨_, rfl, cont "all" (.inr rfl)⟩
            · have h31 : decide (d = 3) = false := decide_eq_false h3
              simp only [hm1, h31, if_true, Bool.false_eq_true, if_false, bl_int, Option.some.injEq, exists_eq_left']
              exact ⟨_, rfl, cont "call" (.inl rfl)⟩
          · have hm1 : decide (mn = ("when free" : Str)) = false := decide_eq_false hmn
            simp only [hm1, Bool.false_eq_true, if_false, bl_int, Option.some.injEq, exists_eq_left']
            exact ⟨_, rfl, cont "call" (.inl rfl)⟩
      · have h4' : decide (d < 4) = false := by simpa using h4
        simp only [h4', Bool.false_eq_true, if_false]
        exact doo t9 t11 Q fun more => hQ more t11
    unfold r__law_deed_4
    simp! [gNe_words hb]
    by_cases h2 : d < 2
    · simp only [h2, decide_true, if_true]
      refine ⟨by decide, ?_⟩
      cases hbs : bs with
      | nil =>
        subst hbs
        simp only [List.isEmpty_nil, Bool.not_true, Bool.false_eq_true, if_false]
        exact call _ _ _ fun more u11 h1 h2 h3 => ⟨rfl, fin more _ _ _ h1 h2 h3⟩
      | cons x xs =>
        simp only [List.isEmpty_cons, Bool.not_false, if_true]
        rw [← hbs]
        unfold r__law_deed_5
        simp! [glen]
        refine ⟨r, rows.length, ws, bs, rfl, hp, hw, hb, hwl, by omega, by rw [hbs]; simp, hgv, fun more h3 h1 hok => ?_⟩
        exact ⟨_, _, ext _ more rfl h3, rfl, fin more _ _ _ h1 h3 fun row hrow => hok row hrow ts gs⟩
    · have h2' : decide (d < 2) = false := by simpa using h2
      simp only [h2', Bool.false_eq_true, if_false]
      exact call _ _ _ fun more u11 h1 h2 h3 => ⟨rfl, fin more _ _ _ h1 h2 h3⟩
  · have hm : i = n + 1 := by rw [e]; simp [rng]
    subst hm
    unfold r__law_deed_17
    have gt : gTuple [.lst (rows.map Row.pv)] = some (.tup (rows.map Row.pv)) := rfl
    simp! [gt]
    exact hR rows (by omega) (by omega) hrows
theorem lc_key {α β : Type} {src want : List PV} {tg : PV → En → Option En} {me : EM PV} {epw : En} {et : Hi} {R : PV → Hi → Prop} {xs : List α} (f : α → PV) (g : β → PV) (key : β → α) (P : β → Prop) (h : src.map (deref et) = want) (hl : xs.length ≤ sizeLine)
    (step : ∀ x ∈ xs, ∃ ep1, tg (f x) epw = some ep1 ∧ ∀ Q : PV → Hi → Prop, (∀ b, key b = x → P b → Q (g b) et) → me ep1 et Q) (fin : ∀ bs : List β, bs.map key = xs → (∀ b ∈ bs, P b) → R (.lst (bs.map g)) et) : lcGo src want tg mYes me epw (xs.map f) et R := by
  refine ⟨fun i acc et1 => et1 = et ∧ i ≤ xs.length ∧ ∃ bs : List β, acc = bs.map g ∧ bs.map key = xs.take i ∧ ∀ b ∈ bs, P b, ⟨rfl, Nat.zero_le _, [], rfl, rfl, by simp⟩, ?_⟩
  rintro i acc et1 ⟨rfl, hi, bs, rfl, hk, hP⟩
  refine ⟨h, fun p hp => ?_, fun e => ?_⟩
  · rw [List.getElem?_map] at hp
    obtain ⟨x, hx, rfl⟩ : ∃ x, xs[i]? = some x ∧ p = f x := by
      cases e : xs[i]? with
      | none => rw [e] at hp; cases hp
      | some c => rw [e] at hp; cases hp; exact ⟨c, rfl, rfl⟩
    have hlt := (List.getElem?_eq_some_iff.mp hx).1
    obtain ⟨ep1, h1, h2⟩ := step x (List.mem_of_getElem? hx)
    refine ⟨ep1, h1, ?_⟩
    simp only [mYes, if_true]
    refine h2 _ fun b hb hPb => ⟨?_, rfl, hlt, bs ++ [b], by rw [List.map_append]; rfl, ?_, fun c hc => ?_⟩
    · rw [List.length_map]
      have := congrArg List.length hk
      rw [List.length_map, List.length_take] at this
      omega
    · rw [List.map_append, hk, List.take_succ, hx]; simp [hb]
    · rcases List.mem_append.mp hc with hc | hc
      · exact hP c hc
      · rw [List.mem_singleton.mp hc]; exact hPb
  · have hi2 : i = xs.length := by rw [e, List.length_map]
    subst hi2
    rw [List.take_length] at hk
    exact fin bs hk hP
theorem lc_map {α : Type} {src want : List PV} {tg : PV → En → Option En} {me : EM PV} {epw : En} {et : Hi} {R : PV → Hi → Prop} {xs : List α} (f g : α → PV) (h : src.map (deref et) = want) (hl : xs.length ≤ sizeLine)
    (step : ∀ x ∈ xs, ∃ ep1, tg (f x) epw = some ep1 ∧ ∀ Q : PV → Hi → Prop, Q (g x) et → me ep1 et Q) (fin : R (.lst (xs.map g)) et) : lcGo src want tg mYes me epw (xs.map f) et R :=
  lc_key f g id (fun _ => True) h hl (fun x hx => by
    obtain ⟨ep1, h1, h2⟩ := step x hx
    exact ⟨ep1, h1, fun Q hQ => h2 Q (hQ x rfl trivial)⟩) fun bs hb _ => by rw [List.map_id] at hb; subst hb; exact fin
abbrev Deed := Str × List Row
def progPV (p : List Row) : PV := .tup (p.map Row.pv)
def deedPV (d : Deed) : PV := .tup [.str d.1, progPV d.2]
def pairPV (p : Str × Int) : PV := .tup [.str p.1, .int p.2]
def sortS (t : Bool) : Str := if t = true then "turns" else "row"
def bellPV (b : Str × Bool) : PV := .tup [.str b.1, .str (sortS b.2)]
def mnS (f : Bool) : Str := if f = true then "when free" else "at once"
structure Rm where
  name : Str
  free : Bool
  things : List (Str × Int)
  bells : List (Str × Bool)
  deeds : List Deed
def Rm.pv (r : Rm) : PV := .tup [.str r.name, .str (mnS r.free), .tup (r.things.map pairPV), .tup (r.bells.map bellPV), .tup (r.deeds.map deedPV)]
def Rm.ts (r : Rm) : List Str := r.things.map (·.1)
def Rm.bs (r : Rm) : List Str := r.bells.map (·.1)
def Rm.goals (r : Rm) : List (Str × Str) := r.deeds.map fun d => (r.name, d.1)
structure RoomOk (gs : List (Str × Str)) (r : Rm) : Prop where
  nm : isWord r.name = true
  tw : ∀ x ∈ r.ts, isWord x = true
  tn : r.ts.Nodup
  tv : ∀ p ∈ r.things, 0 ≤ p.2 ∧ p.2 ≤ 9
  bw : ∀ x ∈ r.bs, isWord x = true
  bn : r.bs.Nodup
  dw : ∀ d ∈ r.deeds, isWord d.1 = true
  dn : (r.deeds.map (·.1)).Nodup
  d0 : r.deeds ≠ []
  tl : r.things.length ≤ 6
  bl : r.bells.length ≤ 6
  dl : r.deeds.length ≤ 6
  rows : ∀ d ∈ r.deeds, 1 ≤ d.2.length ∧ d.2.length ≤ 30 ∧ ∀ row ∈ d.2, row.okD (r.ts ++ [("given" : Str)]) r.ts r.bs (gs ++ r.goals) d.2.length
theorem Row.okD_goals {ws ts bs : List Str} {gs gs' : List (Str × Str)} {n : Nat} (h : ∀ g ∈ gs, g ∈ gs') : ∀ r : Row, r.okD ws ts bs gs n → r.okD ws ts bs gs' n
  | .put _ _, h' => h'
  | .unl _ _, h' => h'
  | .go _, h' => h'
  | .doo _ _ _ _, h' => ⟨h'.1, h _ h'.2.1, h'.2.2⟩
  | .wait _ _, h' => h'
  | .call _, h' => h'
  | .all _, h' => h'
  | .tell _, h' => h'
theorem bel_sm (n : Nat) : ∀ s : Sm, bel n s.pv = true
  | .val _ => rfl
  | .wrd _ => rfl
  | .wts _ => rfl
  | .not a => by simp [Sm.pv, bel, bels, bel_sm n a]
  | .two _ a b => by simp [Sm.pv, bel, bels, bel_sm n a, bel_sm n b]
theorem bel_row (n : Nat) (r : Row) : bel n r.pv = true := by
  cases r with
  | doo g rm dd s => cases g <;> simp [Row.pv, optPV, bel, bels, bel_sm]
  | _ => simp [Row.pv, bel, bels, bel_sm]
theorem bels_map {α : Type} {n : Nat} {f : α → PV} (h : ∀ x, bel n (f x) = true) (xs : List α) : bels n (xs.map f) = true := by
  induction xs with
  | nil => rfl
  | cons x xs ih => simp [bels, h, ih]
theorem bel_deed (n : Nat) (d : Deed) : bel n (deedPV d) = true := by simp [deedPV, progPV, bel, bels, bels_map (bel_row n)]
mutual
theorem bel_mono {n m : Nat} (h : n ≤ m) : ∀ p : PV, bel n p = true → bel m p = true
  | .ref k, hp => by simp only [bel, decide_eq_true_eq] at *; omega
  | .tup xs, hp => by simp only [bel] at *; exact bels_mono h xs hp
  | .lst xs, hp => by simp only [bel] at *; exact bels_mono h xs hp
  | .dic xs, hp => by simp only [bel] at *; exact belk_mono h xs hp
  | .non, _ => rfl
  | .bl _, _ => rfl
  | .int _, _ => rfl
  | .str _, _ => rfl
  | .scr _, _ => rfl
  | .glo _, _ => rfl
  | .ty _, _ => rfl
  | .dik xs, hp => by simp only [bel] at *; exact belk_mono h xs hp
theorem bels_mono {n m : Nat} (h : n ≤ m) : ∀ p : List PV, bels n p = true → bels m p = true
  | [], _ => rfl
  | x :: xs, hp => by
    simp only [bels, Bool.and_eq_true] at *
    exact ⟨bel_mono h x hp.1, bels_mono h xs hp.2⟩
theorem belk_mono {n m : Nat} (h : n ≤ m) : ∀ p : List (Key × PV), belk n p = true → belk m p = true
  | [], _ => rfl
  | (_, x) :: xs, hp => by
    simp only [belk, Bool.and_eq_true] at *
    exact ⟨bel_mono h x hp.1, belk_mono h xs hp.2⟩
end
theorem belf_mono {n m : Nat} (h : n ≤ m) : ∀ p : List (Str × PV), belf n p = true → belf m p = true
  | [], _ => rfl
  | (_, x) :: xs, hp => by
    simp only [belf, Bool.and_eq_true] at *
    exact ⟨bel_mono h x hp.1, belf_mono h xs hp.2⟩
theorem beln_mono {n m : Nat} (h : n ≤ m) : ∀ p : List (PV × PV), beln n p = true → beln m p = true
  | [], _ => rfl
  | (x, y) :: xs, hp => by
    simp only [beln, Bool.and_eq_true] at *
    exact ⟨⟨bel_mono h x hp.1.1, bel_mono h y hp.1.2⟩, beln_mono h xs hp.2⟩
theorem belC_mono {n m : Nat} (h : n ≤ m) {d : Cell} (hd : belC n d) : belC m d := by
  cases d with
  | lst xs => exact bels_mono h xs hd
  | dic xs => exact belk_mono h xs hd
  | ins c fs => exact belf_mono h fs hd
  | potO k c => exact Nat.lt_of_lt_of_le hd h
  | dead => trivial
  | potI => trivial
  | inv _ => trivial
  | nd kvs => exact beln_mono h kvs hd
  | td hs kvs => exact beln_mono h kvs hd
  | exc _ _ => trivial
theorem Pot.push {r : Nat} {et : Hi} {c : Cell} (h : Pot r et) (hc : belC (et.length + 1) c) : Pot r (et ++ [c]) := by
  refine ⟨by rw [List.getElem?_append_left (List.getElem?_eq_some_iff.mp h.1).1]; exact h.1, fun d hd => ?_⟩
  rw [List.length_append, List.length_singleton]
  rcases List.mem_append.mp hd with hd | hd
  · exact belC_mono (by omega) (h.2 d hd)
  · rw [List.mem_singleton.mp hd]; exact hc
theorem last_at' (et : Hi) (c : Cell) : (et ++ [c])[et.length]? = some c := by rw [List.getElem?_append_right (Nat.le_refl _)]; simp
theorem set_last (et : Hi) (c c' : Cell) : (et ++ [c]).set et.length c' = et ++ [c'] := by rw [List.set_append_right _ _ (Nat.le_refl _)]; simp
theorem der_last (et : Hi) (xs : List PV) : deref (et ++ [.lst xs]) (.ref et.length) = .lst xs := deref_ref (last_at' et _)
def spRoomJ : FSpec := fun args et R => ∃ (r bm : Nat) (name : Str) (gs : List (Str × Str)) (mns : List Bool), args = [.ref r, .str name, .lst (gs.map goalPV), .lst (mns.map fun m => .str (mnS m)), .int bm] ∧ Pot r et ∧ isWord name = true ∧ okG gs ∧ gs.length < 900 ∧ mns ≠ [] ∧ mns.length < 100 ∧ bm ≤ 5 ∧
  ∀ (rm : Rm) (c : Cell), rm.name = name → RoomOk gs rm → rm.free ∈ mns → rm.bells.length ≤ bm → R rm.pv (et ++ [c])
theorem WordsOf.len6 {stem : Str} {n : Nat} {ws : List Str} (h : WordsOf stem n ws) (hn : n ≤ 6) : ws.length ≤ 6 := by rw [h.len]; exact hn
theorem atI_draw {xs : List PV} {d : Int} (ys : List Nat) (e : xs = ys.map fun (k : Nat) => PV.int k) (d0 : 0 ≤ d) (d1 : d < xs.length) : ∃ k ∈ ys, atI xs d = some (.int (k : Nat)) := by
  obtain ⟨x, hx, h⟩ := atI_some d0 d1
  rw [e] at hx
  obtain ⟨k, hk, rfl⟩ := List.mem_map.mp hx
  exact ⟨k, hk, h⟩
theorem rep_if {α : Type} (b : Bool) (l : List α) : (List.replicate (if b = true then (1 : Int) else 0).toNat l).flatten = if b = true then l else [] := by cases b <;> simp
theorem room_ok (args : List PV) (et : Hi) (R : PV → Hi → Prop) (h : spRoomJ args et R) : r__law_room spPick spWords spTk spDeed (env0 N__law_room args) et (retK R) := by
  obtain ⟨r, bm, name, gs, mns, rfl, hp, hnm, hg, hgl, hm0, hml, hbm, hR⟩ := h
  show r__law_room _ _ _ _ [.val (.ref r), .val (.str name), .val (.lst (gs.map goalPV)), .val (.lst (mns.map fun m => .str (mnS m))), .val (.int bm), .no, .no, .no, .no, .no, .no, .no, .no, .no, .no, .no] et (retK R)
  have big : (2000 : Nat) ≤ sizeLine := by decide
  unfold r__law_room
  simp!
  refine pick hp.1 (by rw [List.length_map]; exact List.length_pos_iff.mpr hm0) (by rw [List.length_map]; omega) fun y hy => ?_
  obtain ⟨free, hfree, rfl⟩ := List.mem_map.mp hy
  unfold r__law_room_0
  simp!
  refine ⟨by decide, tk hp.1 (by decide) (by decide) fun d d0 d1 => ?_⟩
  obtain ⟨k, hk, e⟩ := atI_draw (xs := [.int 1, .int 1, .int 2, .int 0]) [1, 1, 2, 0] rfl d0 (by simpa using d1)
  simp! [e]
  have hk2 : k ≤ 2 := by simp at hk; omega
  refine ⟨r, "", k, rfl, hp, by omega, by decide, fun ts hts => ?_⟩
  have htw := hts.words (.inl rfl)
  have htl := hts.len6 (by omega)
  unfold r__law_room_1
  simp!
  refine tk hp.1 (by omega) (by omega) fun d d0 d1 => ?_
  refine ⟨r, "", d.toNat, by rw [Int.toNat_of_nonneg d0], hp, by omega, by decide, fun bs hbs => ?_⟩
  have hbw := hbs.words (.inl rfl)
  have hbl : bs.length ≤ bm := by rw [hbs.len]; omega
  unfold r__law_room_2
  simp!
  refine ⟨by decide, ?_⟩
  show r__law_room_3 _ _ _ [.val (.ref r), .val (.str name), .val (.lst (gs.map goalPV)), .val (.lst (mns.map fun m => .str (mnS m))), .val (.int bm), .val (.str (mnS free)), .val (.lst (ts.map .str)), .val (.lst (bs.map .str)), .val (.ref et.length), .no, .no, .no, .no, .no, .no, .no] (et ++ [.lst []]) (retK R)
  have hp1 : Pot r (et ++ [.lst []]) := hp.push rfl
  unfold r__law_room_3
  simp!
  refine tk hp1.1 (by decide) (by decide) fun d d0 d1 => ?_
  simp!
  refine ⟨r, "", (1 + d).toNat, by rw [Int.toNat_of_nonneg (by omega)], hp1, by omega, by decide, fun ws hws => ?_⟩
  have hww := hws.words (.inl rfl)
  have hwl := hws.len6 (by omega)
  simp! [itemsP]
  refine ⟨fun i ep et1 => ∃ (deeds : List Deed) (s9 s10 s11 s12 : Mw.Slot), et1 = et ++ [.lst (deeds.map deedPV)] ∧ ep = [.val (.ref r), .val (.str name), .val (.lst (gs.map goalPV)), .val (.lst (mns.map fun m => .str (mnS m))), .val (.int bm), .val (.str (mnS free)), .val (.lst (ts.map .str)), .val (.lst (bs.map .str)), .val (.ref et.length), s9, s10, s11, s12, .no, .no, .no] ∧
    deeds.map (·.1) = ws.take i ∧ i ≤ ws.length ∧ ∀ d ∈ deeds, 1 ≤ d.2.length ∧ d.2.length ≤ 30 ∧ ∀ row ∈ d.2, row.okD (ts ++ [("given" : Str)]) ts bs (gs ++ deeds.map fun d => (name, d.1)) d.2.length, ⟨[], _, _, _, _, rfl, rfl, rfl, Nat.zero_le _, by simp⟩, ?_⟩
  rintro i ep et1 ⟨deeds, s9, s10, s11, s12, rfl, rfl, hdn, hi, hd⟩
  have hdl : deeds.length ≤ 6 := by
    have := congrArg List.length hdn
    rw [List.length_map, List.length_take] at this; omega
  have hdw : ∀ d ∈ deeds, isWord d.1 = true := fun d hd' => hww d.1 (List.mem_of_mem_take (hdn ▸ List.mem_map_of_mem hd'))
  have hpc : ∀ ds : List Deed, Pot r (et ++ [.lst (ds.map deedPV)]) := fun ds => hp.push (bels_map (bel_deed _) ds)
  have hn := last_at' et (.lst (deeds.map deedPV))
  have hde := der_last et (deeds.map deedPV)
  refine ⟨rfl, fun p hpi => ⟨_, rfl, ?_⟩, fun e => ?_⟩
  · rw [List.getElem?_map] at hpi
    obtain ⟨x, hx, rfl⟩ : ∃ x, ws[i]? = some x ∧ p = .str x := by
      cases e : ws[i]? with
      | none => rw [e] at hpi; cases hpi
      | some c => rw [e] at hpi; cases hpi; exact ⟨c, rfl, rfl⟩
    have hxi := (List.getElem?_eq_some_iff.mp hx).1
    unfold r__law_room_4
    simp! [itemsP, hde]
    refine lc_map deedPV (fun d => goalPV (name, d.1)) (by simp [hde]) (by omega) (fun d hd' => ⟨_, rfl, fun Q hQ => ?_⟩) ?_
    · simp!
      exact ⟨_, rfl, by decide, hQ⟩
    · unfold r__law_room_5
      simp!
      refine tk (hpc deeds).1 (by decide) (by decide) fun d5 e0 e1 => ?_
      generalize hb5 : decide (d5 = 0) = b5
      have erep : gRep (.lst (deeds.map fun d => goalPV (name, d.1))) (.int (if b5 = true then 1 else 0)) = some (.lst ((if b5 = true then deeds.map (fun d => (name, d.1)) else []).map goalPV)) := by
        unfold gRep
        simp only
        rw [if_pos (by rw [List.length_map]; cases b5 <;> simp <;> omega), rep_if]
        cases b5 <;> simp
      generalize hhs : (if b5 = true then deeds.map (fun d => (name, d.1)) else []) = hs at erep
      have hhm : ∀ g ∈ hs, g ∈ deeds.map fun d => (name, d.1) := fun g hg' => by
        rw [← hhs] at hg'
        cases b5 <;> simp at hg' ⊢
        exact hg'
      have hhl : hs.length ≤ 6 := by rw [← hhs]; cases b5 <;> simp; omega
      have ecat : gCat (.lst (gs.map goalPV)) (.lst (hs.map goalPV)) = some (.lst ((gs ++ hs).map goalPV)) := by
        unfold gCat
        simp only
        rw [if_pos (by rw [List.length_map, List.length_map]; omega), List.map_append]
      simp! [hb5, bl_int, erep, ecat]
      unfold r__law_room_6
      simp! [hde]
      refine ⟨by decide, r, 4, mnS free, ts, bs, gs ++ hs, rfl, hpc deeds, by decide, by decide, htw, hbw, ?_, by omega, by omega, by simp; omega, fun rows h1 h2 h3 => ?_⟩
      · intro g hg'
        rcases List.mem_append.mp hg' with hg' | hg'
        · exact hg g hg'
        · obtain ⟨d, hd', rfl⟩ := List.mem_map.mp (hhm g hg')
          exact ⟨hnm, hdw d hd'⟩
      · have app : gmAppend (deref (et ++ [.lst (deeds.map deedPV)])) (.lst (deeds.map deedPV)) [.tup [.str x, .tup (rows.map Row.pv)]] = some (.lst ((deeds ++ [(x, rows)]).map deedPV), .non) := by
          show (if (deeds.map deedPV).length < sizeLine then some (PV.lst (deeds.map deedPV ++ [deedPV (x, rows)]), PV.non) else none) = _
          rw [if_pos (by rw [List.length_map]; omega), List.map_append]; rfl
        refine ⟨by decide, _, _, _, (by rw [hde]; exact app), (by rw [hde]), rfl, ?_⟩
        refine ⟨deeds ++ [(x, rows)], _, _, _, _, set_last .., rfl, by rw [List.map_append, hdn, List.take_succ, hx]; rfl, by omega, fun d hd' => ?_⟩
        have sub1 : ∀ g ∈ gs ++ deeds.map (fun d => (name, d.1)), g ∈ gs ++ (deeds ++ [(x, rows)]).map fun d => (name, d.1) := fun g hg' => by
          rw [List.map_append, ← List.append_assoc]; exact List.mem_append_left _ hg'
        rcases List.mem_append.mp hd' with hd' | hd'
        · obtain ⟨a1, a2, a3⟩ := hd d hd'
          exact ⟨a1, a2, fun row hrow => Row.okD_goals sub1 row (a3 row hrow)⟩
        · rw [List.mem_singleton.mp hd']
          refine ⟨h1, h2, fun row hrow => Row.okD_goals (fun g hg' => sub1 g ?_) row (h3 row hrow)⟩
          rcases List.mem_append.mp hg' with hg' | hg'
          · exact List.mem_append_left _ hg'
          · exact List.mem_append_right _ (hhm g hg')
  · have hi2 : i = ws.length := by rw [e, List.length_map]
    subst hi2
    rw [List.take_length] at hdn
    unfold r__law_room_7
    simp! [itemsP]
    refine lc_key PV.str bellPV (·.1) (fun _ => True) rfl (by omega) (fun b hb' => ⟨_, rfl, fun Q hQ => ?_⟩) fun bells hbk _ => ?_
    · simp!
      refine ⟨by decide, tk (hpc deeds).1 (by decide) (by decide) fun d2 e0 e1 => ?_⟩
      have et2 : atI [PV.str "row", PV.str "turns"] d2 = some (.str (sortS (decide (d2 = 1)))) := by
        rcases (show d2 = 0 ∨ d2 = 1 by omega) with rfl | rfl <;> rfl
      simp! [et2]
      exact ⟨by decide, hQ (b, _) rfl trivial⟩
    · have gt : ∀ l, gTuple [.lst l] = some (.tup l) := fun _ => rfl
      simp! [gt]
      unfold r__law_room_8
      simp! [itemsP]
      refine lc_key PV.str pairPV (·.1) (fun p => 0 ≤ p.2 ∧ p.2 ≤ 9) rfl (by omega) (fun b hb' => ⟨_, rfl, fun Q hQ => ?_⟩) fun things htk htv => ?_
      · simp!
        refine tk (hpc deeds).1 (by decide) (by decide) fun d2 e0 e1 => ?_
        exact ⟨by decide, hQ (b, d2) rfl ⟨e0, by omega⟩⟩
      · simp! [gt, hde]
        refine ⟨by decide, ?_⟩
        have e1 : things.map (·.1) = ts := htk
        have e2 : bells.map (·.1) = bs := hbk
        have l1 : things.length = ts.length := by rw [← e1, List.length_map]
        have l2 : bells.length = bs.length := by rw [← e2, List.length_map]
        refine hR ⟨name, free, things, bells, deeds⟩ _ rfl ?_ hfree (by show bells.length ≤ bm; omega)
        refine ⟨hnm, ?_, ?_, htv, ?_, ?_, hdw, by rw [hdn]; exact hws.nd, ?_, by show things.length ≤ 6; omega, by show bells.length ≤ 6; omega, hdl, ?_⟩
        · show ∀ x ∈ things.map (·.1), _; rw [e1]; exact htw
        · show (things.map (·.1)).Nodup; rw [e1]; exact hts.nd
        · show ∀ x ∈ bells.map (·.1), _; rw [e2]; exact hbw
        · show (bells.map (·.1)).Nodup; rw [e2]; exact hbs.nd
        · intro z
          have z' : deeds = [] := z
          have := hws.len
          rw [← hdn, z'] at this; simp at this; omega
        · show ∀ d ∈ deeds, 1 ≤ d.2.length ∧ d.2.length ≤ 30 ∧ ∀ row ∈ d.2, row.okD (things.map (·.1) ++ [("given" : Str)]) (things.map (·.1)) (bells.map (·.1)) (gs ++ deeds.map fun d => (name, d.1)) d.2.length
          rw [e1, e2]; exact hd
def spRoom : FSpec := fun args et R => ∃ (r bm : Nat) (name : Str) (gs : List (Str × Str)) (mns : List Bool), args = [.ref r, .str name, .lst (gs.map goalPV), .lst (mns.map fun m => .str (mnS m)), .int bm] ∧ Pot r et ∧ isWord name = true ∧ okG gs ∧ gs.length < 900 ∧ mns ≠ [] ∧ mns.length < 100 ∧ bm ≤ 5 ∧
  ∀ (rm : Rm), rm.name = name → RoomOk gs rm → rm.free ∈ mns → rm.bells.length ≤ bm → R rm.pv et
theorem RoomOk.mono {gs gs' : List (Str × Str)} {r : Rm} (h : ∀ g ∈ gs, g ∈ gs') (o : RoomOk gs r) : RoomOk gs' r :=
  { o with rows := fun d hd => ⟨(o.rows d hd).1, (o.rows d hd).2.1, fun row hrow => Row.okD_goals (fun g hg => by
      rcases List.mem_append.mp hg with hg | hg
      · exact List.mem_append_left _ (h g hg)
      · exact List.mem_append_right _ hg) row ((o.rows d hd).2.2 row hrow)⟩ }
def goalsOf (rs : List Rm) : List (Str × Str) := rs.flatMap Rm.goals
abbrev Hand := List (Str × Int) × List Row
def handPV (h : Hand) : PV := .tup [.tup (h.1.map pairPV), progPV h.2]
structure Wld where
  rooms : List Rm
  passes : List (Str × Int)
  shared : List (Str × Int)
  hands : List Hand
def Wld.pv (w : Wld) : PV := .tup [.tup (w.rooms.map Rm.pv), .tup (w.passes.map pairPV), .tup (w.shared.map pairPV), .tup (w.hands.map handPV)]
abbrev nm (ps : List (Str × Int)) : List Str := ps.map (·.1)
end Cw
namespace Sc
open PySem L2 Mw Lw Cw
abbrev k_NOBODY : PV := .int (-1)
structure RoomS where
  vals : List Int
  inside : Int
  line : List Int
  late : List Int
  rows : List (List (Int × Int))
structure FrameS where
  room : Int
  deed : Int
  row : Int
  given : Int
  answer : Int
abbrev PassS := Int × List Int
abbrev HandN := List Int × List FrameS
structure Scene where
  rooms : List RoomS
  passes : List PassS
  shared : List Int
  hands : List HandN
def intsPV (l : List Int) : PV := .tup (l.map .int)
def waitPV (p : Int × Int) : PV := .tup [.int p.1, .int p.2]
def rowPV (q : List (Int × Int)) : PV := .tup (q.map waitPV)
def RoomS.pv (r : RoomS) : PV := .tup [intsPV r.vals, .int r.inside, intsPV r.line, intsPV r.late, .tup (r.rows.map rowPV)]
def FrameS.pv (f : FrameS) : PV := .tup [.int f.room, .int f.deed, .int f.row, .int f.given, .int f.answer]
def passPV (p : PassS) : PV := .tup [.int p.1, intsPV p.2]
def handNPV (h : HandN) : PV := .tup [intsPV h.1, .tup (h.2.map FrameS.pv)]
def Scene.pv (s : Scene) : PV := .tup [.tup (s.rooms.map RoomS.pv), .tup (s.passes.map passPV), intsPV s.shared, .tup (s.hands.map handNPV)]
abbrev vals (ps : List (Str × Int)) : List Int := ps.map (·.2)
end Sc
namespace Sa
open PySem L2 Mw Lw Cw Sc
end Sa
namespace St
open PySem L2 Mw Lw Cw Sc
abbrev k_NOBODY : PV := .int (-1)
theorem atI_map {α : Type} {f : α → PV} {l : List α} {n : Nat} {x : α} (h : l[n]? = some x) : atI (l.map f) (n : Int) = some (f x) := atI_nat (by rw [List.getElem?_map, h]; rfl)
end St
namespace Fl
open PySem L2 Mw Lw Cw Sc St Vl
abbrev k_NOBODY : PV := .int (-1)
def r_Floor_things_for_3 : SM := (mRet (mArg gDictZip (mCons (mLc (mIter (mVar 3)) [5, 6] (tgT [(tgN 5), (tgN 6)]) mYes (mVar 5)) (mCons (mPeek 4) mNil))))
def r_Floor_things_for_2 : SM := (mSeq (mSet 4 (mBin gAdd (mFld ["RoomNow", "HandNow"] "contents" (mBin gIx (mFld ["Floor"] "hands" (mVar 0)) (mPeek 1))) (mFld ["Floor"] "shared" (mVar 0)))) (r_Floor_things_for_3))
def r_Floor_things_for_1 : SM := (mSeq (mSet 3 (mBin gAdd (mBin gIx (mBin gIx (mBin gIx (mFld ["Floor"] "world" (mVar 0)) (mC (.int 3))) (mPeek 1)) (mC (.int 0))) (mBin gIx (mFld ["Floor"] "world" (mVar 0)) (mC (.int 2))))) (r_Floor_things_for_2))
def r_Floor_things_for_7 : SM := (mFrz [7] (mRet (mVar 7)))
def r_Floor_things_for_6 : SM := (mSeq (mDPutN 7 (mFld ["Frame"] "given" (mVar 2)) (mC (.str "given"))) (r_Floor_things_for_7))
def r_Floor_things_for_5 : SM := (mSeq (mSetN 7 (mArg gDictZip (mCons (mLc (mIter (mVar 3)) [5, 6] (tgT [(tgN 5), (tgN 6)]) mYes (mVar 5)) (mCons (mFld ["RoomNow", "HandNow"] "contents" (mBin gIx (mFld ["Floor"] "rooms" (mVar 0)) (mFld ["Frame"] "room" (mVar 2)))) mNil)))) (r_Floor_things_for_6))
def r_Floor_things_for_4 : SM := (mSeq (mSet 3 (mBin gIx (mBin gIx (mBin gIx (mFld ["Floor"] "world" (mVar 0)) (mC (.int 0))) (mFld ["Frame"] "room" (mVar 2))) (mC (.int 2)))) (r_Floor_things_for_5))
def r_Floor_things_for_0 : SM := (mSeq (mIf (mBinT gEq (mFld ["Frame"] "room" (mVar 2)) (mC k_NOBODY)) (r_Floor_things_for_1) mNext) (r_Floor_things_for_4))
def r_Floor_things_for (S_Floor_last_frame : FSpec) : SM := (mSeq (mSet 2 (mObj "Floor" "last_frame" 2 S_Floor_last_frame (mVar 0) (mCons (mVar 1) mNil))) (r_Floor_things_for_0))
abbrev N_Floor_things_for : List Str := ["self", "hand", "frame", "words", "contents", "word", "value", "things"]
inductive Ro where
  | floor | rooms | room (i : Nat) | vals (i : Nat) | line (i : Nat) | late (i : Nat) | rws (i : Nat) | rw (i j : Nat)
  | passes | pass (i : Nat) | pline (i : Nat) | shared | hands | hand (i : Nat) | cont (i : Nat) | frames (i : Nat) | frame (i j : Nat)
  deriving DecidableEq
def roomFs (ad : Ro → Nat) (i : Nat) (x : Int) : List (Str × PV) := [("contents", .ref (ad (.vals i))), ("inside", .int x), ("line", .ref (ad (.line i))), ("late_ones", .ref (ad (.late i))), ("waiting_rows", .ref (ad (.rws i)))]
def passFs (ad : Ro → Nat) (i : Nat) (x : Int) : List (Str × PV) := [("on_hand", .int x), ("line", .ref (ad (.pline i)))]
def frameFs (f : FrameS) : List (Str × PV) := [("room", .int f.room), ("deed", .int f.deed), ("row", .int f.row), ("given", .int f.given), ("answer", .int f.answer)]
def handFs (ad : Ro → Nat) (i : Nat) : List (Str × PV) := [("contents", .ref (ad (.cont i))), ("frames", .ref (ad (.frames i)))]
def floorFs (ad : Ro → Nat) (w : Wld) : List (Str × PV) := [("world", w.pv), ("rooms", .ref (ad .rooms)), ("passes", .ref (ad .passes)), ("shared", .ref (ad .shared)), ("hands", .ref (ad .hands))]
def intsC (l : List Int) : Cell := .lst (l.map .int)
def refsC (n : Nat) (f : Nat → Nat) : Cell := .lst ((List.range n).map fun i => .ref (f i))
def cellOf (ad : Ro → Nat) (w : Wld) (s : Scene) : Ro → Option Cell
  | .floor => some (.ins "Floor" (floorFs ad w))
  | .rooms => some (refsC s.rooms.length fun i => ad (.room i))
  | .room i => s.rooms[i]?.map fun r => .ins "RoomNow" (roomFs ad i r.inside)
  | .vals i => s.rooms[i]?.map fun r => intsC r.vals
  | .line i => s.rooms[i]?.map fun r => intsC r.line
  | .late i => s.rooms[i]?.map fun r => intsC r.late
  | .rws i => s.rooms[i]?.map fun r => refsC r.rows.length fun j => ad (.rw i j)
  | .rw i j => (s.rooms[i]?.bind fun r => r.rows[j]?).map fun q => .lst (q.map waitPV)
  | .passes => some (refsC s.passes.length fun i => ad (.pass i))
  | .pass i => s.passes[i]?.map fun p => .ins "PassNow" (passFs ad i p.1)
  | .pline i => s.passes[i]?.map fun p => intsC p.2
  | .shared => some (intsC s.shared)
  | .hands => some (refsC s.hands.length fun i => ad (.hand i))
  | .hand i => s.hands[i]?.map fun _ => .ins "HandNow" (handFs ad i)
  | .cont i => s.hands[i]?.map fun h => intsC h.1
  | .frames i => s.hands[i]?.map fun h => refsC h.2.length fun j => ad (.frame i j)
  | .frame i j => (s.hands[i]?.bind fun h => h.2[j]?).map fun f => .ins "Frame" (frameFs f)
structure FloorAt (et : Hi) (n0 : Nat) (ad : Ro → Nat) (w : Wld) (s : Scene) : Prop where
  at_ : ∀ r c, cellOf ad w s r = some c → et[ad r]? = some c
  inj : ∀ r r', (cellOf ad w s r).isSome = true → (cellOf ad w s r').isSome = true → ad r = ad r' → r = r'
  lo : ∀ r, (cellOf ad w s r).isSome = true → n0 ≤ ad r
theorem roomFs_contents {ad i x} : (roomFs ad i x).lookup ("contents" : Str) = some (PV.ref (ad (.vals i))) := rfl
section
variable {et : Hi} {n0 : Nat} {ad : Ro → Nat} {w : Wld} {s : Scene} {i : Nat} {q : RoomS}
theorem F_at_room (F : FloorAt et n0 ad w s) (hq : s.rooms[i]? = some q) : et[ad (.room i)]? = some (.ins "RoomNow" (roomFs ad i q.inside)) := F.at_ (.room i) _ (by simp [cellOf, hq])
theorem F_at_vals (F : FloorAt et n0 ad w s) (hq : s.rooms[i]? = some q) : et[ad (.vals i)]? = some (.lst (q.vals.map .int)) := F.at_ (.vals i) _ (by simp [cellOf, hq, intsC])
end
theorem deref_at {et : Hi} {n : Nat} {xs : List PV} (h : et[n]? = some (.lst xs)) : deref et (.ref n) = .lst xs := by
  unfold deref; simp only [h]
theorem gi_range (f : Nat → Nat) {n b : Nat} (h : b < n) : atI ((List.range n).map fun j => PV.ref (f j)) (b : Int) = some (.ref (f b)) := atI_nat (by rw [List.getElem?_map, List.getElem?_range h]; rfl)
theorem deref_refs {et : Hi} {n k : Nat} {f : Nat → Nat} (h : et[n]? = some (refsC k f)) : deref et (.ref n) = .lst ((List.range k).map fun j => .ref (f j)) := deref_at h
theorem frameFs_room {f} : (frameFs f).lookup ("room" : Str) = some (PV.int f.room) := rfl
theorem frameFs_given {f} : (frameFs f).lookup ("given" : Str) = some (PV.int f.given) := rfl
section
variable {et : Hi} {n0 : Nat} {ad : Ro → Nat} {w : Wld} {s : Scene} {i : Nat} {h : HandN}
theorem F_at_hand (F : FloorAt et n0 ad w s) (hh : s.hands[i]? = some h) : et[ad (.hand i)]? = some (.ins "HandNow" (handFs ad i)) := F.at_ (.hand i) _ (by simp [cellOf, hh])
theorem F_at_cont (F : FloorAt et n0 ad w s) (hh : s.hands[i]? = some h) : et[ad (.cont i)]? = some (.lst (h.1.map .int)) := F.at_ (.cont i) _ (by simp [cellOf, hh, intsC])
theorem F_at_frame (F : FloorAt et n0 ad w s) (hh : s.hands[i]? = some h) {j : Nat} {f : FrameS} (hf : h.2[j]? = some f) : et[ad (.frame i j)]? = some (.ins "Frame" (frameFs f)) := F.at_ (.frame i j) _ (by simp [cellOf, hh, hf])
theorem F_at_floor (F : FloorAt et n0 ad w s) : et[ad .floor]? = some (.ins "Floor" (floorFs ad w)) := F.at_ .floor _ rfl
theorem F_at_rooms (F : FloorAt et n0 ad w s) : et[ad .rooms]? = some (refsC s.rooms.length fun i => ad (.room i)) := F.at_ .rooms _ rfl
theorem F_at_hands (F : FloorAt et n0 ad w s) : et[ad .hands]? = some (refsC s.hands.length fun i => ad (.hand i)) := F.at_ .hands _ rfl
theorem F_at_shared (F : FloorAt et n0 ad w s) : et[ad .shared]? = some (.lst (s.shared.map .int)) := F.at_ .shared _ rfl
end
theorem handFs_contents {ad i} : (handFs ad i).lookup ("contents" : Str) = some (PV.ref (ad (.cont i))) := rfl
theorem floorFs_world {ad w} : (floorFs ad w).lookup ("world" : Str) = some w.pv := rfl
theorem floorFs_rooms {ad w} : (floorFs ad w).lookup ("rooms" : Str) = some (PV.ref (ad .rooms)) := rfl
theorem floorFs_shared {ad w} : (floorFs ad w).lookup ("shared" : Str) = some (PV.ref (ad .shared)) := rfl
theorem floorFs_hands {ad w} : (floorFs ad w).lookup ("hands" : Str) = some (PV.ref (ad .hands)) := rfl
def spLast : FSpec := fun args et R => ∃ n0 ad w s i h, args = [.ref (ad .floor), .int (i : Nat)] ∧ FloorAt et n0 ad w s ∧ s.hands[i]? = some h ∧ h.2 ≠ [] ∧ R (.ref (ad (.frame i (h.2.length - 1)))) et
end Fl
namespace Fl
open PySem L2 Mw Lw Cw Sc St Vl
def keysW (ps : List (Str × Int)) : List Key := ps.map fun p => .inr p.1
def dictZ (ns : List (Str × Int)) (vs : List Int) : List (Key × PV) := mergeP [] ((keysW ns).zip (vs.map .int))
def contOf (s : Scene) (i : Nat) : List Int := ((s.hands[i]?).map (·.1)).getD []
def handsThings (w : Wld) (i : Nat) : List (Str × Int) := ((w.hands[i]?).map (·.1)).getD []
def roomThings (w : Wld) (r : Int) : List (Str × Int) := ((w.rooms[r.toNat]?).map (·.things)).getD []
def roomVals (s : Scene) (r : Int) : List Int := ((s.rooms[r.toNat]?).map (·.vals)).getD []
def thingsOf (w : Wld) (s : Scene) (i : Nat) (f : FrameS) : List (Key × PV) :=
  if f.room = -1 then dictZ (handsThings w i ++ w.shared) (contOf s i ++ s.shared)
  else putP (dictZ (roomThings w f.room) (roomVals s f.room)) (.inr "given") (.int f.given)
structure HandAt (w : Wld) (s : Scene) (i : Nat) (wh : Hand) (h : HandN) (f : FrameS) : Prop where
  hw : w.hands[i]? = some wh
  hs : s.hands[i]? = some h
  la : h.2.getLast? = some f
  l1 : wh.1.length ≤ 1000
  l2 : w.shared.length ≤ 1000
  l3 : h.1.length ≤ 1000
  l4 : s.shared.length ≤ 1000
structure RoomAt (w : Wld) (s : Scene) (f : FrameS) (ri : Nat) (rm : Rm) (q : RoomS) : Prop where
  er : f.room = (ri : Nat)
  wr : w.rooms[ri]? = some rm
  sr : s.rooms[ri]? = some q
  l1 : rm.things.length ≤ 1000
  l2 : rm.bells.length ≤ 1000
  l3 : q.vals.length ≤ 1000
  l4 : q.rows.length ≤ 1000
def InRoom (w : Wld) (s : Scene) (f : FrameS) : Prop := f.room = -1 ∨ ∃ ri rm q, RoomAt w s f ri rm q
section
variable {et : Hi} {n0 : Nat} {ad : Ro → Nat} {w : Wld} {s : Scene} {i : Nat} {wh : Hand} {h : HandN} {f : FrameS}
theorem HandAt.ne (A : HandAt w s i wh h f) : h.2 ≠ [] := fun e => by have := A.la; rw [e] at this; cases this
theorem HandAt.get (A : HandAt w s i wh h f) : h.2[h.2.length - 1]? = some f := by
  have := A.la
  rwa [List.getLast?_eq_getElem?] at this
theorem HandAt.frame (A : HandAt w s i wh h f) (F : FloorAt et n0 ad w s) : et[ad (.frame i (h.2.length - 1))]? = some (.ins "Frame" (frameFs f)) := F_at_frame F A.hs A.get
end
theorem keysZ_map {α : Type} (l : List α) (k : α → Str) : keysZ (l.map fun x => PV.str (k x)) = some (l.map fun x => (.inr (k x) : Key)) := by
  induction l with
  | nil => rfl
  | cons x l ih =>
    rw [List.map_cons, List.map_cons]
    show ((keyP (PV.str (k x))).bind fun y => (keysZ (l.map fun x => PV.str (k x))).map fun ks => y :: ks) = _
    rw [ih]; rfl
theorem gDictZip_of {α : Type} (l : List α) (k : α → Str) (ys : List PV) : gDictZip [.lst (l.map fun x => PV.str (k x)), .lst ys] = some (.dic (mergeP [] ((l.map fun x => (.inr (k x) : Key)).zip ys))) := by
  show (keysZ (l.map fun x => PV.str (k x))).map _ = _
  rw [keysZ_map]; rfl
theorem floorFs_last {ad w} : (floorFs ad w).lookup ("last_frame" : Str) = none := rfl
theorem merge_len (more : List (Key × PV)) : ∀ ks : List (Key × PV), (mergeP ks more).length ≤ ks.length + more.length := by
  induction more with
  | nil => intro ks; exact Nat.le_refl _
  | cons x r ih =>
    intro ks
    show (mergeP (putP ks x.1 x.2) r).length ≤ _
    have := ih (putP ks x.1 x.2)
    have h2 : (putP ks x.1 x.2).length ≤ ks.length + 1 := by unfold putP; split <;> simp
    rw [List.length_cons]; omega
def spThings : FSpec := fun args et R => ∃ n0 ad w s i wh h f, args = [.ref (ad .floor), .int (i : Nat)] ∧ FloorAt et n0 ad w s ∧ HandAt w s i wh h f ∧ InRoom w s f ∧ R (.dic (thingsOf w s i f)) et
theorem things_ok (args : List PV) (et : Hi) (R : PV → Hi → Prop) (h : spThings args et R) : r_Floor_things_for spLast (env0 N_Floor_things_for args) et (retK R) := by
  obtain ⟨n0, ad, w, s, i, wh, h, f, rfl, F, A, hin, hR⟩ := h
  show r_Floor_things_for _ [.val (.ref (ad .floor)), .val (.int i), .no, .no, .no, .no, .no, .no] et (retK R)
  have big : (3000 : Nat) ≤ sizeLine := by decide
  have e0 := F_at_floor F
  have e1 := A.frame F
  unfold r_Floor_things_for
  simp! only [e0]
  refine ⟨floorFs_last, n0, ad, w, s, i, h, rfl, F, A.hs, A.ne, ?_⟩
  have dpw : ∀ et', deref et' w.pv = w.pv := fun _ => rfl
  have g0 : gIx w.pv (.int 0) = some (.tup (w.rooms.map Rm.pv)) := rfl
  have g2 : gIx w.pv (.int 2) = some (.tup (w.shared.map pairPV)) := rfl
  have g3 : gIx w.pv (.int 3) = some (.tup (w.hands.map handPV)) := rfl
  have gh : atI (w.hands.map handPV) (i : Int) = some (handPV wh) := atI_map A.hw
  have gh0 : gIx (handPV wh) (.int 0) = some (.tup (wh.1.map pairPV)) := rfl
  have dh : ∀ et', deref et' (handPV wh) = handPV wh := fun _ => rfl
  have dic : ∀ (ks : List (Key × PV)) et', deref et' (.dic ks) = .dic ks := fun _ _ => rfl
  unfold r_Floor_things_for_0
  simp! only [e1, frameFs_room]
  rcases hin with hr | ⟨ri, rm, q, hr⟩
  · have hd : decide (f.room = -1) = true := decide_eq_true hr
    have hi := (List.getElem?_eq_some_iff.mp A.hs).1
    have e2 := F_at_hands F
    have e3 := F_at_hand F A.hs
    have e4 := F_at_cont F A.hs
    have e5 := F_at_shared F
    have gr := gi_range (fun j => ad (.hand j)) hi
    simp only [hd, if_true]
    unfold r_Floor_things_for_1
    have hl1 : (wh.1.map pairPV).length + (w.shared.map pairPV).length ≤ sizeLine := by rw [List.length_map, List.length_map]; have := A.l1; have := A.l2; omega
    have hl2 : (h.1.map PV.int).length + (s.shared.map PV.int).length ≤ sizeLine := by rw [List.length_map, List.length_map]; have := A.l3; have := A.l4; omega
    simp! only [e0, floorFs_world, Wld.pv, gh, handPV]
    rw [if_pos hl1]
    unfold r_Floor_things_for_2
    simp! only [e0, floorFs_hands, floorFs_shared, deref_refs e2, gr, e3, handFs_contents, deref_at e4, deref_at e5]
    rw [if_pos hl2]
    unfold r_Floor_things_for_3
    simp! [itemsP]
    have hl3 : (wh.1 ++ w.shared).length ≤ sizeLine := by rw [List.length_append]; have := A.l1; have := A.l2; omega
    rw [← List.map_append, ← List.map_append]
    refine lc_map pairPV (fun p => .str p.1) rfl hl3 (fun p hp => ⟨_, rfl, fun Q hQ => ?_⟩) ?_
    · simp!
      exact hQ
    · simp! [gDictZip_of (wh.1 ++ w.shared) (·.1)]
      have ed : thingsOf w s i f = mergeP [] (((wh.1 ++ w.shared).map fun p => (.inr p.1 : Key)).zip ((h.1 ++ s.shared).map .int)) := by
        unfold thingsOf handsThings contOf
        rw [if_pos hr, A.hw, A.hs]; rfl
      rw [ed] at hR
      exact hR
  · have hn : ¬ f.room = -1 := by rw [hr.er]; omega
    have hd : decide (f.room = -1) = false := decide_eq_false hn
    simp only [hd]
    have hri := (List.getElem?_eq_some_iff.mp hr.sr).1
    have e2 := F_at_rooms F
    have e3 := F_at_room F hr.sr
    have e4 := F_at_vals F hr.sr
    have gr := gi_range (fun j => ad (.room j)) hri
    have gw : atI (w.rooms.map Rm.pv) (ri : Int) = some rm.pv := atI_map hr.wr
    unfold r_Floor_things_for_4
    simp! only [e0, floorFs_world, Wld.pv, e1, frameFs_room, hr.er, gw, Rm.pv]
    unfold r_Floor_things_for_5
    have hl3 : rm.things.length ≤ sizeLine := by have := hr.l1; omega
    simp! [itemsP]
    refine lc_map pairPV (fun p => .str p.1) rfl hl3 (fun p hp => ⟨_, rfl, fun Q hQ => ?_⟩) ?_
    · simp!
      exact hQ
    · simp! only [e0, e1, floorFs_rooms, frameFs_room, hr.er, deref_refs e2, gr, e3, roomFs_contents, deref_at e4, gDictZip_of rm.things (·.1)]
      unfold r_Floor_things_for_6
      have kl := merge_len ((rm.things.map fun p => (.inr p.1 : Key)).zip (q.vals.map PV.int)) []
      rw [List.length_zip, List.length_map] at kl
      have kl2 : (mergeP [] ((rm.things.map fun p => (.inr p.1 : Key)).zip (q.vals.map PV.int))).length < sizeLine := by have := hr.l1; have := Nat.min_le_left rm.things.length (q.vals.map PV.int).length; simp only [List.length_nil] at kl; omega
      have kg : keyP (.str "given") = some (.inr "given") := rfl
      simp! only [e1, frameFs_given, kg]
      refine ⟨_, rfl, kl2, ?_⟩
      unfold r_Floor_things_for_7
      simp!
      have ed : thingsOf w s i f = putP (mergeP [] ((rm.things.map fun p => (.inr p.1 : Key)).zip (q.vals.map .int))) (.inr "given") (.int f.given) := by
        unfold thingsOf roomThings roomVals
        rw [if_neg hn, hr.er, Int.toNat_natCast, hr.wr, hr.sr]; rfl
      rw [ed] at hR
      exact hR
end Fl
namespace Fl
open PySem L2 Mw Lw Cw Sc St Vl
local macro_rules | `(tactic| dsimp!) => `(tactic| first | (show (0 : Nat) < 1000; decide) | (show (1 : Nat) < 1000; decide) | (show (2 : Nat) < 1000; decide) | (show (3 : Nat) < 1000; decide) | (show (4 : Nat) < 1000; decide) | (show (5 : Nat) < 1000; decide))
end Fl
namespace Fl
open PySem L2 Mw Lw Cw Sc St Vl
local macro_rules | `(tactic| dsimp!) => `(tactic| first | (show (0 : Nat) < 1000; decide) | (show (1 : Nat) < 1000; decide) | (show (2 : Nat) < 1000; decide) | (show (3 : Nat) < 1000; decide) | (show (4 : Nat) < 1000; decide) | (show (5 : Nat) < 1000; decide))
def fl (s : Scene) (i : Nat) : Nat := ((s.hands[i]?).map (·.2.length)).getD 0
end Fl
namespace Fl
open PySem L2 Mw Lw Cw Sc St Vl
local macro_rules | `(tactic| dsimp!) => `(tactic| first | (show (0 : Nat) < 1000; decide) | (show (1 : Nat) < 1000; decide) | (show (2 : Nat) < 1000; decide) | (show (3 : Nat) < 1000; decide) | (show (4 : Nat) < 1000; decide) | (show (5 : Nat) < 1000; decide))
end Fl
namespace Sp
open PySem L2 Mw Lw Cw Sc St Vl Fl
end Sp
namespace Sp
open PySem L2 Mw Lw Cw Sc St Vl Fl
end Sp
namespace Sp
open PySem L2 Mw Lw Cw Sc St Vl Fl
end Sp
namespace Sp
open PySem L2 Mw Lw Cw Sc St Vl Fl
end Sp
namespace Sp
open PySem L2 Mw Lw Cw Sc St Vl Fl
end Sp
namespace Sp
open PySem L2 Mw Lw Cw Sc St Vl Fl
end Sp
namespace Sp
open PySem L2 Mw Lw Cw Sc St Vl Fl
end Sp
namespace Sp
open PySem L2 Mw Lw Cw Sc St Vl Fl
end Sp
namespace Sp
open PySem L2 Mw Lw Cw Sc St Vl Fl
end Sp
namespace Lk
open PySem L2 Mw Lw Cw Sc St Vl Fl Sp
end Lk
namespace Wk
open PySem L2 Mw Lw Cw Sc St Vl Fl Sp
end Wk
namespace Lk
open PySem L2 Mw Lw Cw Sc St Vl Fl Sp
end Lk
namespace Rt
open PySem L2 Mw Lw Cw Sc St Vl Fl Sp
end Rt
namespace Inn
open PySem L2 Mw Lw Cw Sc St Vl Fl Sp Rt Lk
end Inn
namespace Dw
open PySem L2 Mw Lw Cw Sc St Sa Vl Fl Sp Lk Wk Inn
theorem sl_drop (xs : List PV) (n : Nat) : gSlA (.lst xs) (some (n : Int)) none = some (.lst (xs.drop n)) := by
  show some (PV.lst (cutP xs (some (n : Int)) none)) = _
  unfold cutP
  rw [HT.sIx_nat, HT.sIx_none]
  congr 2
  by_cases h : n ≤ xs.length
  · rw [Nat.min_eq_left h]
    exact List.take_of_length_le (by rw [List.length_drop]; exact Nat.le_refl _)
  · rw [Nat.min_eq_right (by omega), List.drop_eq_nil_of_le (Nat.le_refl _), List.drop_eq_nil_of_le (by omega)]; simp
theorem sl_take (xs : List PV) (n : Nat) : gSlA (.lst xs) none (some (n : Int)) = some (.lst (xs.take n)) := by
  show some (PV.lst (cutP xs none (some (n : Int)))) = _
  unfold cutP
  rw [HT.sIx_nat, HT.sIx_none]
  congr 2
  rw [List.drop_zero, Nat.sub_zero]
  by_cases h : n ≤ xs.length
  · rw [Nat.min_eq_left h]
  · rw [Nat.min_eq_right (by omega), List.take_length, List.take_of_length_le (by omega)]
end Dw
namespace De
open PySem L2 Mw Lw Cw
end De
namespace Df
open PySem L2 Mw Lw Cw
def allF (f : Bool) : Row → Prop
  | .all _ => f = true
  | _ => True
def doT : Row → Option (Str × Str)
  | .doo _ r d _ => some (r, d)
  | _ => none
def Rk (rs : List Rm) : Prop := ∃ rk : Str × Str → Nat, ∀ rm ∈ rs, ∀ d ∈ rm.deeds, ∀ row ∈ d.2, ∀ g, doT row = some g → rk g < rk (rm.name, d.1)
end Df
namespace Bq
open PySem L2 Mw Lw Cw
def r__law_of (S__law_take : FSpec) : SM := (mRet (mBin gIx (mPeek 1) (mCall 2 S__law_take (mCons (mVar 0) (mCons (mArg gLen (mCons (mPeek 1) mNil)) mNil)))))
abbrev N__law_of : List Str := ["_law_pot_here", "_law_some_here"]
def r__law_words_5 : SM := (mExprX (mMut 6 gmAppend (mCons (mBin gAdd (mPeek 8) (mBin gIx (mPeek 5) (mBin gMod (mBin gAdd (mPeek 3) (mBin gMul (mPeek 7) (mPeek 7))) (mC (.int 5))))) mNil)))
def r__law_words_4 : SM := (mSeq (mSet 8 (mBin gIx (mPeek 2) (mBin gMod (mBin gAdd (mPeek 3) (mBin gMul (mPeek 4) (mPeek 7))) (mC (.int 26))))) (r__law_words_5))
def r__law_words_6 : SM := (mFrz [6] (mRet (mVar 6)))
def r__law_words_3 : SM := (mSeq (mFor (mRng1 (mCons (mVar 1) mNil)) (tgN 7) (r__law_words_4)) (r__law_words_6))
def r__law_words_2 : SM := (mSeq (mSetN 6 (mLst mNil)) (r__law_words_3))
def r__law_words_1 : SM := (mSeq (mSet 5 (mLst (mCons (mC (.str "")) (mCons (mC (.str "zq")) (mCons (mC (.str "x")) (mCons (mC (.str "qqzzx")) (mCons (mC (.str "zqzqzqz")) mNil))))))) (r__law_words_2))
def r__law_words_0 (S__law_of : FSpec) (S__law_take : FSpec) : SM := (mSeq (mPar 3 4 (mCons (mCall 2 S__law_take (mCons (mVar 0) (mCons (mC (.int 26)) mNil))) (mCons (mCall 2 S__law_of (mCons (mVar 0) (mCons (mLst (mCons (mC (.int 1)) (mCons (mC (.int 3)) (mCons (mC (.int 5)) (mCons (mC (.int 7)) (mCons (mC (.int 9)) (mCons (mC (.int 11)) mNil))))))) mNil))) mNil))) (r__law_words_1))
def r__law_words (S__law_of : FSpec) (S__law_take : FSpec) : SM := (mSeq (mSet 2 (mC (.str "abcdefghijklmnopqrstuvwxyz"))) (r__law_words_0 S__law_of S__law_take))
abbrev N__law_words : List Str := ["_law_pot_here", "_law_many", "_law_letters", "_law_first", "_law_turn", "_law_ends", "_law_found", "_law_k", "_law_sign"]
def po (e : Hi) (r k n : Nat) : Hi := e.set r (.potO k n)
structure Po (e : Hi) (r k : Nat) : Prop where
  ne : r ≠ k
  lr : r < e.length
  k : e[k]? = some .potI
theorem po_po (e : Hi) (r k n m : Nat) : po (po e r k n) r k m = po e r k m := by unfold po; rw [List.set_set]
theorem po_len (e : Hi) (r k n : Nat) : (po e r k n).length = e.length := by unfold po; rw [List.length_set]
theorem po_bel {e : Hi} {r k : Nat} (p : Po e r k) (h : ∀ d ∈ e, belC e.length d) (n : Nat) : ∀ d ∈ po e r k n, belC (po e r k n).length d := fun d hd => by
  rw [po_len]
  rcases List.mem_or_eq_of_mem_set hd with h1 | rfl
  · exact h d h1
  · exact (List.getElem?_eq_some_iff.mp p.k).1
theorem tq {e : Hi} {r k n : Nat} {m : Int} {R : PV → Hi → Prop} (p : Po e r k) (hn : 1 ≤ n) (m0 : 0 < m) (m1 : m < 1073741824) (h : ∀ d : Int, 0 ≤ d → d < m → R (.int d) (po e r k (n - 1))) : spTake [.ref r, .int m] (po e r k n) R := by
  refine ⟨r, k, n - 1, m, rfl, p.ne, ?_, ?_, m0, m1, fun d d0 d1 => ?_⟩
  · unfold po
    rw [List.getElem?_set_self p.lr]
    congr 2; omega
  · unfold po
    rw [List.getElem?_set_ne p.ne]; exact p.k
  · have := po_po e r k n (n - 1)
    unfold po at this ⊢
    rw [this]
    exact h d d0 d1
def spOfQ : FSpec := fun args et R => ∃ (r k : Nat) (xs : List PV) (e : Hi) (n : Nat), args = [.ref r, .lst xs] ∧ et = po e r k n ∧ Po e r k ∧ 1 ≤ n ∧ 0 < xs.length ∧ xs.length < 1073741824 ∧ ∀ x ∈ xs, R x (po e r k (n - 1))
theorem of_ok (args : List PV) (et : Hi) (R : PV → Hi → Prop) (h : spOfQ args et R) : r__law_of spTake (env0 N__law_of args) et (retK R) := by
  obtain ⟨r, k, xs, e, n, rfl, rfl, p, hn, h0, h1, hR⟩ := h
  have hlen : gLen [.lst xs] = some (.int xs.length) := rfl
  show r__law_of _ [.val (.ref r), .val (.lst xs)] (po e r k n) (retK R)
  simp! [r__law_of, hlen]
  refine tq p hn (by omega) (by omega) fun d d0 d1 => ?_
  obtain ⟨x, hx, e⟩ := atI_some d0 d1
  simp! [e]
  exact hR x hx
theorem oq {e : Hi} {r k n : Nat} {xs : List PV} {R : PV → Hi → Prop} (p : Po e r k) (hn : 1 ≤ n) (h0 : 0 < xs.length) (h1 : xs.length < 1073741824) (h : ∀ x ∈ xs, R x (po e r k (n - 1))) : spOfQ [.ref r, .lst xs] (po e r k n) R := ⟨r, k, xs, e, n, rfl, rfl, p, hn, h0, h1, h⟩
def spWordsQ : FSpec := fun args et R => ∃ (r k many : Nat) (e : Hi) (n : Nat), args = [.ref r, .int many] ∧ et = po e r k n ∧ Po e r k ∧ 2 ≤ n ∧ many ≤ 26 ∧ ∀ f t : Nat, t ∈ turns → R (.lst ((wds f t many).map .str)) (po e r k (n - 2))
theorem words_ok (args : List PV) (et : Hi) (R : PV → Hi → Prop) (h : spWordsQ args et R) : r__law_words spOfQ spTake (env0 N__law_words args) et (retK R) := by
  obtain ⟨r, k, many, e, n, rfl, rfl, p, hn, hm, hR⟩ := h
  show r__law_words spOfQ spTake [.val (.ref r), .val (.int many), .no, .no, .no, .no, .no, .no, .no] (po e r k n) (retK R)
  unfold r__law_words
  simp!
  unfold r__law_words_0
  simp!
  refine tq p (by omega) (by decide) (by decide) fun f f0 f1 => ?_
  have s6 : (0 + 1 + 1 + 1 + 1 + 1 + 1 : Nat) ≤ sizeLine := by decide
  refine ⟨s6, oq p (by omega) (by simp) (by simp) fun x hx => ?_⟩
  obtain ⟨t, ht, rfl⟩ : ∃ t : Nat, t ∈ turns ∧ x = .int t := by
    simp only [List.mem_cons, List.not_mem_nil, or_false] at hx
    rcases hx with rfl | rfl | rfl | rfl | rfl | rfl
    · exact ⟨1, by decide, rfl⟩
    · exact ⟨3, by decide, rfl⟩
    · exact ⟨5, by decide, rfl⟩
    · exact ⟨7, by decide, rfl⟩
    · exact ⟨9, by decide, rfl⟩
    · exact ⟨11, by decide, rfl⟩
  obtain ⟨f, rfl⟩ : ∃ j : Nat, f = (j : Int) := ⟨f.toNat, by omega⟩
  refine ⟨_, _, rfl, ?_⟩
  unfold r__law_words_1
  simp!
  refine ⟨by decide, ?_⟩
  unfold r__law_words_2
  simp!
  refine ⟨by decide, ?_⟩
  unfold r__law_words_3
  simp!
  have en : n - 1 - 1 = n - 2 := by omega
  rw [en]
  refine ⟨many, rfl, by omega, by omega, fun i ep et1 => et1 = po e r k (n - 2) ∧ ∃ s1 s2, ep = [.val (.ref r), .val (.int many), .val (.str letters), .val (.int f), .val (.int t), .val (.lst (endsL.map .str)), .own (.lst ((wds f t i).map .str)), s1, s2], ⟨rfl, _, _, rfl⟩, ?_⟩
  rintro i ep et1 ⟨rfl, s1, s2, rfl⟩
  have hlenR : (rng 0 (many : Int).toNat).length = many := by simp [rng]
  refine ⟨rfl, fun p hp => ⟨_, rfl, ?_⟩, fun hi => ?_⟩
  · have hi : i < many := by
      have := (List.getElem?_eq_some_iff.mp hp).1
      rw [hlenR] at this; exact this
    have hpe : p = .int i := by
      unfold rng at hp
      rw [List.getElem?_map, List.getElem?_range (by omega)] at hp
      cases hp; simp
    subst hpe
    unfold r__law_words_4
    have ht26 : t ≤ 11 := by
      simp only [turns, List.mem_cons, List.not_mem_nil, or_false] at ht
      omega
    have m1 : (-18446744073709551616 : Int) < t ∧ (t : Int) < 18446744073709551616 := ⟨by omega, by omega⟩
    have m2 : (-18446744073709551616 : Int) < i ∧ (i : Int) < 18446744073709551616 := ⟨by omega, by omega⟩
    have l1 : letters.length ≤ sizeLine := by decide +kernel
    have e1 : atI letters.cps.toList (((f : Int) + t * i) % 26) = some (97 + (f + t * i) % 26) := by
      have : ((f : Int) + t * i) % 26 = (((f + t * i) % 26 : Nat) : Int) := by simp
      rw [this]
      refine atI_nat ?_
      rw [letters_list, List.getElem?_map, List.getElem?_range (Nat.mod_lt _ (by decide))]
      simp [Nat.add_comm]
    simp! [m1, m2, Int.reduceNeg, Int.reducePow, Int.reduceLT, l1, e1, Option.map_some]
    unfold r__law_words_5
    have e2 : atI (endsL.map PV.str) (((f : Int) + i * i) % 5) = some (.str endsL[(f + i * i) % 5]!) := by
      have : ((f : Int) + i * i) % 5 = (((f + i * i) % 5 : Nat) : Int) := by simp
      rw [this]
      refine atI_nat ?_
      have hlt : (f + i * i) % 5 < endsL.length := Nat.mod_lt _ (by decide)
      rw [List.getElem?_map, List.getElem?_eq_getElem hlt, getElem!_pos endsL _ hlt]; rfl
    have hel := (endsL_ok _ (ends_get (f + i * i))).1
    have l2 : (⟨#[97 + (f + t * i) % 26]⟩ : Str).length + (endsL[(f + i * i) % 5]!).length ≤ sizeLine := by
      rw [len_cps, len_cps]
      have : (8 : Nat) ≤ sizeLine := by decide
      show 1 + _ ≤ _
      omega
    have l3 : ((wds f t i).map PV.str).length < sizeLine := by
      rw [List.length_map]; unfold wds; rw [List.length_map, List.length_range]
      have : (26 : Nat) < sizeLine := by decide
      omega
    simp! [m1, m2, Int.reduceNeg, Int.reducePow, Int.reduceLT, e2, l2, gmAppend, l3]
    have : (wds f t (i + 1)).map PV.str = (wds f t i).map PV.str ++ [.str (wd f t i)] := by
      unfold wds; rw [List.range_succ, List.map_append, List.map_append]; rfl
    rw [this]
    exact ⟨_, _, rfl, _, _, rfl⟩
  · rw [hlenR] at hi
    unfold r__law_words_6
    simp!
    have := hR f t ht
    rw [hi]; exact this
structure Some_ (ws : List Str) (m : Nat) (xs : List Str) : Prop where
  l : xs.length = min m ws.length
  s : xs.Pairwise leS
  n : xs.Nodup
  sub : ∀ x ∈ xs, x ∈ ws
end Bq
namespace Sq
open PySem L2 Mw Lw
abbrev k_LETTERS : PV := .str "abcdefghijklmnopqrstuvwxyz"
abbrev k_MOST_DEEP : PV := .int 5
abbrev k_MOST_SIGNS : PV := .int 8
abbrev k_MOST_VALUE : PV := .int 9
abbrev k_TWO_PARTS : PV := .tup [.str "plus", .str "minus", .str "less", .str "same", .str "both"]
def r_is_word_0 : SM := (mRet (mC (.bl false)))
def r_is_word_1 : SM := (mRet (mArg gAll (mCons (mLc (mIter (mVar 0)) [1] (tgN 1) mYes (mBin gIn (mPeek 1) (mC k_LETTERS))) mNil)))
def r_is_word : SM := (mSeq (mIf (mOrT (mNotT (mAsT (mArg gIsi (mCons (mPeek 0) (mCons (mC (.ty .str)) mNil))))) (mNotT (mChainT gLe gLe (mC (.int 1)) (mArg gLen (mCons (mPeek 0) mNil)) (mC k_MOST_SIGNS)))) (r_is_word_0) mNext) (r_is_word_1))
abbrev N_is_word : List Str := ["thing", "sign"]
def r_is_value : SM := (mRet (mAndE (mArg gIsi (mCons (mPeek 0) (mCons (mC (.ty .int)) mNil))) (mAndE (mNotE (mArg gIsi (mCons (mPeek 0) (mCons (mC (.ty .bool)) mNil)))) (mChain gLe gLe (mC (.int 0)) (mPeek 0) (mC k_MOST_VALUE)))))
abbrev N_is_value : List Str := ["thing"]
def r_is_sum_within_0 : SM := (mRet (mC (.bl false)))
def r_is_sum_within_2 (S_is_word : FSpec) (S_is_value : FSpec) : SM := (mRet (mOrE (mCall 1 S_is_value (mCons (mVar 0) mNil)) (mCall 1 S_is_word (mCons (mVar 0) mNil))))
def r_is_sum_within_4 : SM := (mRet (mC (.bl false)))
def r_is_sum_within_6 (S_is_word : FSpec) : SM := (mRet (mAndE (mBin gEq (mArg gLen (mCons (mPeek 0) mNil)) (mC (.int 2))) (mCall 1 S_is_word (mCons (mBin gIx (mPeek 0) (mC (.int 1))) mNil))))
def r_is_sum_within_8 (S_is_sum_within : FSpec) : SM := (mRet (mAndE (mBin gEq (mArg gLen (mCons (mPeek 0) mNil)) (mC (.int 2))) (mCall 2 S_is_sum_within (mCons (mBin gIx (mPeek 0) (mC (.int 1))) (mCons (mBin gSubI (mPeek 1) (mC (.int 1))) mNil)))))
def r_is_sum_within_10 : SM := (mRet (mC (.bl false)))
def r_is_sum_within_11 (S_is_sum_within : FSpec) : SM := (mRet (mAndE (mCall 2 S_is_sum_within (mCons (mBin gIx (mPeek 0) (mC (.int 1))) (mCons (mBin gSubI (mPeek 1) (mC (.int 1))) mNil))) (mCall 2 S_is_sum_within (mCons (mBin gIx (mPeek 0) (mC (.int 2))) (mCons (mBin gSubI (mPeek 1) (mC (.int 1))) mNil)))))
def r_is_sum_within_9 (S_is_sum_within : FSpec) : SM := (mSeq (mIf (mOrT (mBinT gNotIn (mBin gIx (mPeek 0) (mC (.int 0))) (mC k_TWO_PARTS)) (mBinT gNe (mArg gLen (mCons (mPeek 0) mNil)) (mC (.int 3)))) (r_is_sum_within_10) mNext) (r_is_sum_within_11 S_is_sum_within))
def r_is_sum_within_7 (S_is_sum_within : FSpec) : SM := (mSeq (mIf (mBinT gEq (mBin gIx (mPeek 0) (mC (.int 0))) (mC (.str "not"))) (r_is_sum_within_8 S_is_sum_within) mNext) (r_is_sum_within_9 S_is_sum_within))
def r_is_sum_within_5 (S_is_word : FSpec) (S_is_sum_within : FSpec) : SM := (mSeq (mIf (mBinT gEq (mBin gIx (mPeek 0) (mC (.int 0))) (mC (.str "waits"))) (r_is_sum_within_6 S_is_word) mNext) (r_is_sum_within_7 S_is_sum_within))
def r_is_sum_within_3 (S_is_word : FSpec) (S_is_sum_within : FSpec) : SM := (mSeq (mIf (mOrT (mBinT gLt (mArg gLen (mCons (mPeek 0) mNil)) (mC (.int 2))) (mNotT (mAsT (mArg gIsi (mCons (mBin gIx (mPeek 0) (mC (.int 0))) (mCons (mC (.ty .str)) mNil)))))) (r_is_sum_within_4) mNext) (r_is_sum_within_5 S_is_word S_is_sum_within))
def r_is_sum_within_1 (S_is_word : FSpec) (S_is_value : FSpec) (S_is_sum_within : FSpec) : SM := (mSeq (mIf (mNotT (mAsT (mArg gIsi (mCons (mPeek 0) (mCons (mC (.ty .tup)) mNil))))) (r_is_sum_within_2 S_is_word S_is_value) mNext) (r_is_sum_within_3 S_is_word S_is_sum_within))
def r_is_sum_within (S_is_word : FSpec) (S_is_value : FSpec) (S_is_sum_within : FSpec) : SM := (mSeq (mIf (mBinT gEq (mPeek 1) (mC (.int 0))) (r_is_sum_within_0) mNext) (r_is_sum_within_1 S_is_word S_is_value S_is_sum_within))
abbrev N_is_sum_within : List Str := ["thing", "deep"]
def r_is_sum (S_is_sum_within : FSpec) : SM := (mRet (mCall 2 S_is_sum_within (mCons (mVar 0) (mCons (mC k_MOST_DEEP) mNil))))
abbrev N_is_sum : List Str := ["thing"]
theorem lc_pure {src want : List PV} {tg : PV → En → Option En} {me : EM PV} {epw : En} {ps : List PV} {et : Hi} {R : PV → Hi → Prop} (f : PV → PV) (h : src.map (deref et) = want) (hl : ps.length ≤ sizeLine)
    (step : ∀ p ∈ ps, ∃ ep1, tg p epw = some ep1 ∧ ∀ Q : PV → Hi → Prop, Q (f p) et → me ep1 et Q) (fin : R (.lst (ps.map f)) et) : lcGo src want tg mYes me epw ps et R := by
  refine ⟨fun i acc et1 => et1 = et ∧ acc = (ps.take i).map f ∧ i ≤ ps.length, ⟨rfl, by simp, Nat.zero_le _⟩, ?_⟩
  rintro i acc et1 ⟨rfl, rfl, hi⟩
  refine ⟨h, fun p hp => ?_, fun e => ?_⟩
  · obtain ⟨ep1, h1, h2⟩ := step p (List.mem_of_getElem? hp)
    have hlt := (List.getElem?_eq_some_iff.mp hp).1
    refine ⟨ep1, h1, ?_⟩
    simp only [mYes, if_true]
    refine h2 _ ⟨by rw [List.length_map, List.length_take]; omega, rfl, ?_, hlt⟩
    rw [List.take_succ, hp, List.map_append]; rfl
  · rw [e, List.take_length]; exact fin
def wordB : PV → Bool
  | .str x => isWord x
  | _ => false
def valB : PV → Bool
  | .int i => decide (0 ≤ i) && decide (i ≤ 9)
  | _ => false
def fitP : PV → Bool
  | .non => true
  | .bl _ => true
  | .int _ => true
  | .str x => decide (x.cps.size ≤ sizeLine)
  | .tup _ => true
  | .lst _ => true
  | .dic _ => true
  | _ => false
def spPure (f : PV → PV) (dom : PV → Bool) : FSpec := fun args et R => ∃ p, args = [p] ∧ dom p = true ∧ R (f p) et
theorem isi_str {p : PV} (h : fitP p = true) : gIsi [p, .ty .str] = some (.bl (match p with | .str _ => true | _ => false)) := by cases p <;> first | rfl | cases h
theorem isi_int {p : PV} (h : fitP p = true) : gIsi [p, .ty .int] = some (.bl (match p with | .int _ => true | .bl _ => true | _ => false)) := by cases p <;> first | rfl | cases h
theorem isi_bool {p : PV} (h : fitP p = true) : gIsi [p, .ty .bool] = some (.bl (match p with | .bl _ => true | _ => false)) := by cases p <;> first | rfl | cases h
theorem isi_tup {p : PV} (h : fitP p = true) : gIsi [p, .ty .tup] = some (.bl (match p with | .tup _ => true | _ => false)) := by cases p <;> first | rfl | cases h
theorem fit_deref {p : PV} {et : Hi} (h : fitP p = true) : deref et p = p := by cases p <;> first | rfl | cases h
theorem bls_map (f : PV → Bool) (xs : List PV) : bls (xs.map fun p => .bl (f p)) = some (xs.map f) := by
  induction xs with
  | nil => rfl
  | cons x xs ih => simp [bls, ih]
theorem letters_mem (c : Nat) : c ∈ letters.cps.toList ↔ 97 ≤ c ∧ c ≤ 122 := by
  rw [letters_list]
  simp only [List.mem_map, List.mem_range]
  constructor
  · rintro ⟨j, h, rfl⟩; omega
  · intro h; exact ⟨c - 97, by omega, by omega⟩
theorem is_word_ok (args : List PV) (et : Hi) (R : PV → Hi → Prop) (h : spPure (fun p => .bl (wordB p)) fitP args et R) : r_is_word (env0 N_is_word args) et (retK R) := by
  obtain ⟨p, rfl, hp, hR⟩ := h
  show r_is_word [.val p, .no] et (retK R)
  unfold r_is_word
  have hd := fit_deref (et := et) hp
  simp! [hd, isi_str hp]
  cases p with
  | str x =>
    simp only [fitP, decide_eq_true_eq] at hp
    have hlen : gLen [.str x] = some (.int x.cps.size) := by show (if x.length ≤ sizeLine then some (PV.int x.length) else none) = _; rw [if_pos (show x.length ≤ sizeLine from hp)]; rfl
    simp! [hlen]
    by_cases h1 : (1 : Int) ≤ x.cps.size
    · simp only [h1, decide_true, if_true]
      by_cases h2 : (x.cps.size : Int) ≤ 8
      · simp only [h2, decide_true, Bool.not_true, Bool.false_eq_true, if_false]
        unfold r_is_word_1
        simp! [itemsP]
        refine lc_pure (fun p => .bl (match p with | .str s => decide (s.cps.getD 0 0 ∈ letters.cps.toList) | _ => false)) rfl (by unfold signs; rw [List.length_map, Array.length_toList]; exact hp) (fun q hq => ?_) ?_
        · obtain ⟨c, hc, rfl⟩ := List.mem_map.mp hq
          refine ⟨_, rfl, fun Q hQ => ?_⟩
          simp!
          exact ⟨_, rfl, hQ⟩
        · have e : (List.map (fun p => match p with | PV.str s => decide (s.cps.getD 0 0 ∈ letters.cps.toList) | _ => false) (signs x)).all id = wordB (.str x) := by
            unfold signs wordB isWord
            have g1 : 1 ≤ x.cps.size := by omega
            have g2 : x.cps.size ≤ 8 := by omega
            simp only [g1, g2, decide_true, Bool.true_and, List.map_map, List.all_map]
            congr 1
            funext c
            simp only [Function.comp, id]
            show decide (c ∈ letters.cps.toList) = _
            rw [Bool.eq_iff_iff, decide_eq_true_eq, letters_mem]
            simp
          refine ⟨.bl (wordB (.str x)), ?_, hR⟩
          show (bls (List.map (fun p => PV.bl (match p with | PV.str s => decide (s.cps.getD 0 0 ∈ letters.cps.toList) | _ => false)) (signs x))).map _ = _
          rw [bls_map (fun p => match p with | PV.str s => decide (s.cps.getD 0 0 ∈ letters.cps.toList) | _ => false)]
          simp only [Option.map_some, e]
      · simp only [h2, decide_false, Bool.not_false, if_true]
        unfold r_is_word_0
        simp!
        have : wordB (.str x) = false := by unfold wordB isWord; have : ¬ x.cps.size ≤ 8 := by omega
                                            simp [this]
        simp only [this] at hR; exact hR
    · simp only [h1, decide_false, Bool.false_eq_true, if_false, Bool.not_false, if_true]
      unfold r_is_word_0
      simp!
      have : wordB (.str x) = false := by unfold wordB isWord; have : ¬ 1 ≤ x.cps.size := by omega
                                          simp [this]
      simp only [this] at hR; exact hR
  | _ => first | (cases hp; done) | (simp!; unfold r_is_word_0; simp!; exact hR)
theorem is_value_ok (args : List PV) (et : Hi) (R : PV → Hi → Prop) (h : spPure (fun p => .bl (valB p)) fitP args et R) : r_is_value (env0 N_is_value args) et (retK R) := by
  obtain ⟨p, rfl, hp, hR⟩ := h
  show r_is_value [.val p] et (retK R)
  unfold r_is_value
  have hd := fit_deref (et := et) hp
  simp! [hd, isi_int hp, isi_bool hp]
  cases p with
  | int i =>
    simp!
    by_cases h1 : (0 : Int) ≤ i
    · simp only [h1, decide_true, if_true]
      have : valB (.int i) = decide (i ≤ 9) := by simp [valB, h1]
      simp only [this] at hR
      exact hR
    · simp only [h1, decide_false, Bool.false_eq_true, if_false]
      have : valB (.int i) = false := by simp [valB, h1]
      simp only [this] at hR
      exact hR
  | _ => first | (cases hp; done) | (simp!; exact hR)
def twoB (w : Str) : Bool := decide (w = "plus") || decide (w = "minus") || decide (w = "less") || decide (w = "same") || decide (w = "both")
def sumIn : Nat → PV → Bool
  | 0, _ => false
  | n + 1, .tup xs => match xs with
    | .str w :: a :: r => if w = "waits" then r.isEmpty && wordB a else if w = "not" then r.isEmpty && sumIn n a else if twoB w = true then (match r with
      | [b] => sumIn n a && sumIn n b
      | _ => false) else false
    | _ => false
  | _ + 1, p => valB p || wordB p
def fits : Nat → PV → Bool
  | 0, p => fitP p
  | n + 1, .tup xs => decide (xs.length ≤ sizeLine) && xs.all fun x => fits n x
  | _ + 1, p => fitP p
theorem fits_fit : ∀ {n : Nat} {p : PV}, fits n p = true → fitP p = true
  | 0, p, h => h
  | n + 1, p, h => by cases p <;> first | exact h | rfl
def spWithin : Nat → FSpec := fun j args et R => ∃ (p : PV) (deep : Nat), args = [p, .int deep] ∧ deep < j ∧ fits deep p = true ∧ R (.bl (sumIn deep p)) et
abbrev spWord : FSpec := spPure (fun p => .bl (wordB p)) fitP
abbrev spValue : FSpec := spPure (fun p => .bl (valB p)) fitP
theorem within_ok (j : Nat) (args : List PV) (et : Hi) (R : PV → Hi → Prop) (h : spWithin (j + 1) args et R) : r_is_sum_within spWord spValue (spWithin j) (env0 N_is_sum_within args) et (retK R) := by
  obtain ⟨p, deep, rfl, hj, hf, hR⟩ := h
  show r_is_sum_within _ _ _ [.val p, .val (.int deep)] et (retK R)
  have hp := fits_fit hf
  have hd := fit_deref (et := et) hp
  unfold r_is_sum_within
  simp!
  cases deep with
  | zero =>
    simp only [Int.natCast_zero, decide_true, if_true]
    unfold r_is_sum_within_0
    simp!
    exact hR
  | succ k =>
    have h0 : ¬ ((k + 1 : Nat) : Int) = 0 := by omega
    simp only [h0, decide_false, Bool.false_eq_true, if_false]
    unfold r_is_sum_within_1
    simp! [hd, isi_tup hp]
    have plain : (∀ xs, p ≠ .tup xs) → r_is_sum_within_2 spWord spValue [.val p, .val (.int ((k + 1 : Nat) : Int))] et (retK R) := fun hn => by
      unfold r_is_sum_within_2
      simp!
      have e : sumIn (k + 1) p = (valB p || wordB p) := by cases p <;> first | rfl | exact absurd rfl (hn _)
      rw [e] at hR
      refine ⟨p, rfl, hp, _, rfl, ?_⟩
      cases hv : valB p with
      | true => simp only [if_true]; rw [hv] at hR; exact hR
      | false => simp only [Bool.false_eq_true, if_false]; rw [hv] at hR; exact ⟨p, rfl, hp, hR⟩
    cases p with
    | tup xs =>
      simp only [Bool.not_true, Bool.false_eq_true, if_false]
      unfold r_is_sum_within_3
      have hlen : gLen [.tup xs] = some (.int xs.length) := rfl
      simp! [hlen]
      simp only [fits, Bool.and_eq_true, decide_eq_true_eq] at hf
      have no : sumIn (k + 1) (.tup xs) = false → r_is_sum_within_4 [.val (.tup xs), .val (.int ((k + 1 : Nat) : Int))] et (retK R) := fun e => by
        unfold r_is_sum_within_4
        simp!
        rw [e] at hR; exact hR
      by_cases h2 : (xs.length : Int) < 2
      · simp only [h2, decide_true, if_true]
        refine no ?_
        match xs, h2 with
        | [], _ => rfl
        | [x], _ => cases x <;> rfl
      · simp only [h2, decide_false, Bool.false_eq_true, if_false]
        match xs, h2, hf, hR, no with
        | [], h2, _, _, _ => exact absurd (by simp) h2
        | [_], h2, _, _, _ => exact absurd (by simp) h2
        | x :: a :: r, _, hf, hR, no =>
          have hfx : fits k x = true := by have := hf.2; simp at this; exact this.1
          have hfa : fits k a = true := by have := hf.2; simp at this; exact this.2.1
          have hix : gIx (.tup (x :: a :: r)) (.int 0) = some x := atI_c0 _ _
          have hpx := fits_fit hfx
          have hdx := fit_deref (et := et) hpx
          have hia : gIx (.tup (x :: a :: r)) (.int 1) = some a := atI_c1 _ _ _
          refine ⟨x, atI_c0 _ _, ?_⟩
          simp! [hdx, isi_str hpx]
          have ek : (((k + 1 : Nat) : Int) - 1) = (k : Int) := by omega
          cases x with
          | str w =>
            simp!
            unfold r_is_sum_within_5
            simp!
            by_cases hw : w = "waits"
            · simp only [hw, decide_true, if_true]
              unfold r_is_sum_within_6
              have hlen2 : gLen [.tup (.str "waits" :: a :: r)] = some (.int ((r.length + 1 + 1 : Nat) : Int)) := rfl
              simp! [hlen2]
              have e : sumIn (k + 1) (.tup (.str w :: a :: r)) = (r.isEmpty && wordB a) := by simp only [sumIn, hw, if_true]
              rw [hw] at e; rw [hw, e] at hR
              cases r with
              | nil =>
                have h3 : ((([] : List PV).length + 1 + 1 : Nat) : Int) = 2 := rfl
                simp only [h3, decide_true, if_true]
                refine ⟨a, rfl, fits_fit hfa, ?_⟩
                simpa using hR
              | cons b r =>
                have : ¬ (((b :: r).length + 1 + 1 : Nat) : Int) = 2 := by simp only [List.length_cons]; omega
                simp only [this, decide_false, Bool.false_eq_true, if_false]
                simpa using hR
            simp only [hw, decide_false, Bool.false_eq_true, if_false]
            unfold r_is_sum_within_7
            simp!
            by_cases hn : w = "not"
            · simp only [hn, decide_true, if_true]
              unfold r_is_sum_within_8
              have hlen2 : gLen [.tup (.str "not" :: a :: r)] = some (.int ((r.length + 1 + 1 : Nat) : Int)) := rfl
              simp! [hlen2, ek]
              have e : sumIn (k + 1) (.tup (.str w :: a :: r)) = (r.isEmpty && sumIn k a) := by simp only [sumIn, hw, hn, if_true, if_false]; rw [if_neg (by decide)]
              rw [e] at hR
              cases r with
              | nil =>
                have h3 : ((([] : List PV).length + 1 + 1 : Nat) : Int) = 2 := rfl
                simp only [h3, decide_true, if_true]
                refine ⟨a, k, rfl, by omega, hfa, ?_⟩
                simpa using hR
              | cons b r =>
                have : ¬ (((b :: r).length + 1 + 1 : Nat) : Int) = 2 := by simp only [List.length_cons]; omega
                simp only [this, decide_false, Bool.false_eq_true, if_false]
                simpa using hR
            simp only [hn, decide_false, Bool.false_eq_true, if_false]
            unfold r_is_sum_within_9
            have hin : gNotIn (.str w) k_TWO_PARTS = some (.bl (!twoB w)) := by
              show some (PV.bl (!([PV.str "plus", .str "minus", .str "less", .str "same", .str "both"].any fun y => eqP y (.str w)))) = _
              have e1 : ∀ z : Str, eqP (.str z) (.str w) = decide (w = z) := fun z => by show decide (z = w) = _; rw [Bool.eq_iff_iff]; simp [eq_comm]
              simp only [List.any_cons, List.any_nil, e1, Bool.or_false, twoB, Bool.or_assoc]
            simp! [hin, hlen]
            cases ht : twoB w with
            | false =>
              simp only [Bool.not_false, if_true]
              unfold r_is_sum_within_10
              simp!
              have e : sumIn (k + 1) (.tup (.str w :: a :: r)) = false := by simp only [sumIn, hw, hn, if_false, ht, Bool.false_eq_true]
              rw [e] at hR; exact hR
            | true =>
              simp only [Bool.not_true, Bool.false_eq_true, if_false]
              by_cases h3 : ((r.length + 1 + 1 : Nat) : Int) = 3
              · simp only [h3, decide_true, Bool.not_true, Bool.false_eq_true, if_false]
                unfold r_is_sum_within_11
                match r, h3, hf, hR with
                | [b], _, hf, hR =>
                  have hfb : fits k b = true := by have := hf.2; simp at this; exact this.2.2
                  simp! [ek]
                  have e : sumIn (k + 1) (.tup [.str w, a, b]) = (sumIn k a && sumIn k b) := by simp only [sumIn, hw, hn, if_false, ht, if_true]
                  rw [e] at hR
                  refine ⟨a, k, rfl, by omega, hfa, _, rfl, ?_⟩
                  cases hv : sumIn k a with
                  | true => simp only [if_true]; rw [hv] at hR; exact ⟨b, k, rfl, by omega, hfb, hR⟩
                  | false => simp only [Bool.false_eq_true, if_false]; rw [hv] at hR; exact hR
              · simp only [h3, decide_false, Bool.not_false, if_true]
                unfold r_is_sum_within_10
                simp!
                have e : sumIn (k + 1) (.tup (.str w :: a :: r)) = false := by
                  simp only [sumIn, hw, hn, if_false, ht, if_true]
                  match r, h3 with
                  | [], _ => rfl
                  | [b], h3 => exact absurd rfl h3
                  | _ :: _ :: _, _ => rfl
                rw [e] at hR; exact hR
          | _ => first | (cases hpx; done) | (simp!; exact no rfl)
    | _ => first | (cases hp; done) | (simp only [Bool.not_false, if_true]; exact plain (by simp))
def r__law_truth : SM := (mRet (mAndE (mArg gIsi (mCons (mPeek 0) (mCons (mC (.ty .bool)) mNil))) (mBin gEq (mPeek 0) (mPeek 1))))
abbrev N__law_truth : List Str := ["_law_found", "_law_due"]
def r_law_4 : SM := (mRet (mC (.bl false)))
def r_law_8 : SM := (mRet (mC (.bl false)))
def r_law_10 : SM := (mRet (mC (.bl false)))
def r_law_9 (S__law_truth : FSpec) (S_is_sum : FSpec) : SM := (mIf (mNotT (mAsT (mCall 2 S__law_truth (mCons (mCall 1 S_is_sum (mCons (mTup (mCons (mC (.str "both")) (mCons (mTup (mCons (mC (.str "waits")) (mCons (mVar 6) mNil))) (mCons (mVar 7) mNil)))) mNil)) (mCons (mAndE (mChain gLt gLt (mC (.int 0)) (mArg gLen (mCons (mPeek 6) mNil)) (mC (.int 9))) (mChain gLe gLt (mC (.int 0)) (mPeek 7) (mC (.int 10)))) mNil))))) (r_law_10) mNext)
def r_law_7 (S__law_truth : FSpec) (S_is_sum : FSpec) : SM := (mSeq (mIf (mOrT (mNotT (mAsT (mCall 2 S__law_truth (mCons (mCall 1 S_is_sum (mCons (mVar 6) mNil)) (mCons (mChain gLt gLt (mC (.int 0)) (mArg gLen (mCons (mPeek 6) mNil)) (mC (.int 9))) mNil))))) (mNotT (mAsT (mCall 2 S__law_truth (mCons (mCall 1 S_is_sum (mCons (mVar 7) mNil)) (mCons (mChain gLe gLt (mC (.int 0)) (mPeek 7) (mC (.int 10))) mNil)))))) (r_law_8) mNext) (r_law_9 S__law_truth S_is_sum))
def r_law_6 (S__law_truth : FSpec) (S_is_sum : FSpec) (S__law_take : FSpec) : SM := (mSeq (mSet 7 (mBin gSubI (mCall 2 S__law_take (mCons (mVar 1) (mCons (mC (.int 17)) mNil))) (mC (.int 3)))) (r_law_7 S__law_truth S_is_sum))
def r_law_5 (S__law_truth : FSpec) (S_is_sum : FSpec) (S__law_take : FSpec) : SM := (mSeq (mSet 6 (mMeth .str gJoin (mC (.str "")) (mCons (mLc (mRng1 (mCons (mBin gMod (mPeek 3) (mC (.int 11))) mNil)) [5] (tgN 5) mYes (mBin gIx (mC (.str "abcdefghijklmnopqrstuvwxyz")) (mCall 2 S__law_take (mCons (mVar 1) (mCons (mC (.int 26)) mNil))))) mNil))) (r_law_6 S__law_truth S_is_sum S__law_take))
def r_law_3 (S__law_truth : FSpec) (S_is_sum : FSpec) (S__law_chain : FSpec) (S__law_take : FSpec) : SM := (mSeq (mIf (mNotT (mAsT (mCall 2 S__law_truth (mCons (mCall 1 S_is_sum (mCons (mCall 3 S__law_chain (mCons (mVar 1) (mCons (mVar 2) (mCons (mVar 4) mNil)))) mNil)) (mCons (mBin gLt (mPeek 4) (mC (.int 6))) mNil))))) (r_law_4) mNext) (r_law_5 S__law_truth S_is_sum S__law_take))
def r_law_2 (S__law_truth : FSpec) (S_is_sum : FSpec) (S__law_chain : FSpec) (S__law_take : FSpec) : SM := (mSeq (mSet 4 (mBin gAdd (mC (.int 1)) (mBin gMod (mPeek 3) (mC (.int 8))))) (r_law_3 S__law_truth S_is_sum S__law_chain S__law_take))
def r_law_11 : SM := (mRet (mC (.bl true)))
def r_law_1 (S__law_truth : FSpec) (S_is_sum : FSpec) (S__law_chain : FSpec) (S__law_take : FSpec) : SM := (mSeq (mFor (mRng1 (mCons (mArg gMax2 (mCons (mC (.int 16)) (mCons (mArg gMin2 (mCons (mC (.int 60)) (mCons (mArg gLen (mCons (mPeek 0) mNil)) mNil))) mNil))) mNil)) (tgN 3) (r_law_2 S__law_truth S_is_sum S__law_chain S__law_take)) (r_law_11))
def r_law_0 (S__law_words : FSpec) (S__law_truth : FSpec) (S_is_sum : FSpec) (S__law_chain : FSpec) (S__law_take : FSpec) : SM := (mSeq (mSet 2 (mCall 2 S__law_words (mCons (mVar 1) (mCons (mC (.int 4)) mNil)))) (r_law_1 S__law_truth S_is_sum S__law_chain S__law_take))
def r_law (S__law_pot : FSpec) (S__law_words : FSpec) (S__law_truth : FSpec) (S_is_sum : FSpec) (S__law_chain : FSpec) (S__law_take : FSpec) : SM := (mSeq (mSet 1 (mCall 1 S__law_pot (mCons (mVar 0) mNil))) (r_law_0 S__law_words S__law_truth S_is_sum S__law_chain S__law_take))
abbrev N_law : List Str := ["_law_script", "_law_pot_here", "_law_words_here", "_law_k", "_law_deep", "_law_turn", "_law_word", "_law_value"]
abbrev spWithin6 : FSpec := spWithin 6
def spIsSum : FSpec := fun args et R => ∃ p : PV, args = [p] ∧ fits 5 p = true ∧ R (.bl (sumIn 5 p)) et
theorem is_sum_ok (args : List PV) (et : Hi) (R : PV → Hi → Prop) (h : spIsSum args et R) : r_is_sum spWithin6 (env0 N_is_sum args) et (retK R) := by
  obtain ⟨p, rfl, hf, hR⟩ := h
  show r_is_sum _ [.val p] et (retK R)
  unfold r_is_sum
  simp!
  exact ⟨p, 5, rfl, by decide, hf, hR⟩
def spTruth : FSpec := fun args et R => ∃ a b : Bool, args = [.bl a, .bl b] ∧ R (.bl (a == b)) et
theorem truth_ok (args : List PV) (et : Hi) (R : PV → Hi → Prop) (h : spTruth args et R) : r__law_truth (env0 N__law_truth args) et (retK R) := by
  obtain ⟨a, b, rfl, hR⟩ := h
  show r__law_truth [.val (.bl a), .val (.bl b)] et (retK R)
  unfold r__law_truth
  have e1 : gIsi [.bl a, .ty .bool] = some (.bl true) := rfl
  have e2 : gEq (.bl a) (.bl b) = some (.bl (a == b)) := by cases a <;> cases b <;> rfl
  simp! [e1, e2]
  exact hR
theorem dep_pos (s : Sm) : 1 ≤ s.dep := by cases s <;> simp [Sm.dep]
def spChain : FSpec := fun args et R => ∃ (n deep : Nat) (ws : List Str), args = [.ref 1, .lst (ws.map .str), .int deep] ∧ 1 ≤ deep ∧ deep ≤ 8 ∧ (∀ x ∈ ws, isWord x = true) ∧ 2 ≤ ws.length ∧ ws.length < 1000 ∧ et = pt (n + 2000) ∧
  ∀ n', n ≤ n' → ∀ s : Sm, s.dep = deep → s.ok ws ws → R s.pv (pt n')
theorem tw_facts (t : Tw) : t.str ≠ Str.ofString "waits" ∧ t.str ≠ Str.ofString "not" ∧ twoB t.str = true := by cases t <;> exact ⟨by decide, by decide, by decide⟩
theorem sumIn_sm {ws bs : List Str} (hw : ∀ x ∈ ws, isWord x = true) (hb : ∀ x ∈ bs, isWord x = true) : ∀ (s : Sm) (n : Nat), s.ok ws bs → sumIn n s.pv = decide (s.dep ≤ n)
  | s, 0, _ => by
    have := dep_pos s
    show false = _
    symm; rw [decide_eq_false_iff_not]; omega
  | .val v, n + 1, h => by
    show (valB (.int v) || wordB (.int v)) = decide (1 ≤ n + 1)
    have h9 : v ≤ 9 := h
    have : valB (.int (v : Int)) = true := by
      simp only [valB, Bool.and_eq_true, decide_eq_true_eq]; omega
    simp [this]
  | .wrd x, n + 1, h => by
    show (valB (.str x) || wordB (.str x)) = decide (1 ≤ n + 1)
    have : wordB (.str x) = true := hw x h
    simp [this]
  | .wts x, n + 1, h => by
    have h1 : isWord x = true := hb x h
    show sumIn (n + 1) (.tup [.str "waits", .str x]) = decide (1 ≤ n + 1)
    simp [sumIn, wordB, h1]
  | .not a, n + 1, h => by
    show sumIn (n + 1) (.tup [.str "not", a.pv]) = decide (a.dep + 1 ≤ n + 1)
    have h1 : ("not" : Str) ≠ ("waits" : Str) := by decide
    simp [sumIn, h1, sumIn_sm hw hb a n h]
  | .two t a b, n + 1, h => by
    show sumIn (n + 1) (.tup [.str t.str, a.pv, b.pv]) = decide (max a.dep b.dep + 1 ≤ n + 1)
    obtain ⟨h1, h2, h3⟩ := tw_facts t
    simp only [sumIn, h1, h2, h3, if_false, if_true, sumIn_sm hw hb a n h.1, sumIn_sm hw hb b n h.2]
    rw [Bool.eq_iff_iff]; simp only [Bool.and_eq_true, decide_eq_true_eq]; omega
theorem word_fit {x : Str} (h : isWord x = true) : fitP (.str x) = true := by
  unfold isWord at h
  simp only [Bool.and_eq_true, decide_eq_true_eq] at h
  have : (8 : Nat) ≤ sizeLine := by decide
  simp only [fitP, decide_eq_true_eq]; omega
theorem fits_sm {ws bs : List Str} (hw : ∀ x ∈ ws, isWord x = true) (hb : ∀ x ∈ bs, isWord x = true) : ∀ (s : Sm) (n : Nat), s.ok ws bs → fits n s.pv = true
  | .val v, 0, h => rfl
  | .val v, n + 1, h => rfl
  | .wrd x, 0, h => word_fit (hw x h)
  | .wrd x, n + 1, h => word_fit (hw x h)
  | .wts x, 0, h => rfl
  | .wts x, n + 1, h => by
    show (decide ((2 : Nat) ≤ sizeLine) && [PV.str "waits", PV.str x].all fun y => fits n y) = true
    have h1 : fits n (.str x) = true := by cases n <;> exact word_fit (hb x h)
    have h2 : fits n (.str "waits") = true := by cases n <;> rfl
    simp [h1, h2]; decide
  | .not a, 0, h => rfl
  | .not a, n + 1, h => by
    show (decide ((2 : Nat) ≤ sizeLine) && [PV.str "not", a.pv].all fun y => fits n y) = true
    have h2 : fits n (.str "not") = true := by cases n <;> rfl
    simp [h2, fits_sm hw hb a n h]; decide
  | .two t a b, 0, h => rfl
  | .two t a b, n + 1, h => by
    show (decide ((3 : Nat) ≤ sizeLine) && [PV.str t.str, a.pv, b.pv].all fun y => fits n y) = true
    have h2 : fits n (.str t.str) = true := by cases n <;> cases t <;> rfl
    simp [h2, fits_sm hw hb a n h.1, fits_sm hw hb b n h.2]; decide
def ltr (n : Nat) : Str := ⟨#[97 + n % 26]⟩
theorem strsP_map (xs : List Str) : strsP (xs.map .str) = some xs := by
  induction xs with
  | nil => rfl
  | cons x xs ih => simp [strsP, ih]
theorem join_nil (xs : List Str) : (Txt.join (Str.ofString "") xs).cps.toList = xs.flatMap fun x => x.cps.toList := by
  show (Builtin.Str.glued (Str.ofString "") xs).cps.toList = _
  rw [StrLaws.glued_eq_join]
  induction xs with
  | nil => rfl
  | cons x xs ih =>
    cases xs with
    | nil => simp [Str.join]
    | cons y ys =>
      have : Str.join (Str.ofString "") (x :: y :: ys) = x ++ Str.ofString "" ++ Str.join (Str.ofString "") (y :: ys) := rfl
      rw [this, cps_append, Array.toList_append, cps_append, Array.toList_append, ih, List.flatMap_cons]
      have e : (Str.ofString "").cps.toList = [] := by decide
      rw [e, List.append_nil]; rfl
def ltrs (js : List Nat) : Str := Txt.join (Str.ofString "") (js.map ltr)
theorem ltrs_cps (js : List Nat) : (ltrs js).cps.toList = js.map fun n => 97 + n % 26 := by
  unfold ltrs
  rw [join_nil, List.flatMap_map]
  induction js with
  | nil => rfl
  | cons j js ih => rw [List.flatMap_cons, ih]; rfl
theorem ltrs_size (js : List Nat) : (ltrs js).cps.size = js.length := by
  rw [← Array.length_toList, ltrs_cps, List.length_map]
theorem ltrs_word (js : List Nat) : isWord (ltrs js) = (decide (0 < js.length) && decide (js.length < 9)) := by
  unfold isWord
  rw [ltrs_size, ltrs_cps]
  have : (js.map fun n => 97 + n % 26).all (fun c => decide (97 ≤ c) && decide (c ≤ 122)) = true := by
    rw [List.all_eq_true]
    intro c hc
    obtain ⟨n, _, rfl⟩ := List.mem_map.mp hc
    simp only [Bool.and_eq_true, decide_eq_true_eq]; omega
  rw [this, Bool.and_true, Bool.eq_iff_iff]
  simp only [Bool.and_eq_true, decide_eq_true_eq]; omega
theorem join_ltrs {js : List Nat} (h : js.length ≤ 1000) : gJoin (.str (Str.ofString "")) [.lst (js.map fun n => .str (ltr n))] = some (.str (ltrs js)) := by
  show ((strsP (js.map fun n => PV.str (ltr n))).bind _) = _
  have e : (js.map fun n => PV.str (ltr n)) = (js.map ltr).map .str := by rw [List.map_map]; rfl
  rw [e, strsP_map, Option.bind_some]
  refine if_pos ?_
  have : ((js.map ltr).map (·.length)).sum = js.length := by
    rw [List.map_map]
    have : ((fun x : Str => x.length) ∘ ltr) = fun _ => 1 := rfl
    rw [this]
    induction js with
    | nil => rfl
    | cons j js ih => rw [List.map_cons, List.sum_cons, ih (by simp at h; omega) (by rw [List.map_map]; rfl), List.length_cons, Nat.add_comm]
  rw [this]
  have : (Str.ofString "").length = 0 := by decide
  rw [this]; omega
theorem truth_true {a b : Bool} {et : Hi} {R : PV → Hi → Prop} (h : a = b) (k : R (.bl true) et) : spTruth [.bl a, .bl b] et R := ⟨a, b, rfl, by subst h; cases a <;> exact k⟩
theorem truth_chain {p q : Prop} [Decidable p] [Decidable q] {a : Bool} {et : Hi} {R : PV → Hi → Prop} (h : a = (decide p && decide q)) (k : R (.bl true) et) : if decide p = true then spTruth [.bl a, .bl (decide q)] et R else spTruth [.bl a, .bl false] et R := by
  split
  · rename_i e; rw [e, Bool.true_and] at h; exact truth_true h k
  · rename_i e; rw [Bool.eq_false_iff.mpr e, Bool.false_and] at h; exact truth_true h k
theorem truth_chain2 {p q r s : Prop} [Decidable p] [Decidable q] [Decidable r] [Decidable s] {a : Bool} {et : Hi} {R : PV → Hi → Prop} (h : a = ((decide p && decide q) && (decide r && decide s))) (k : R (.bl true) et) :
    if decide p = true then (if decide q = true then (if decide r = true then spTruth [.bl a, .bl (decide s)] et R else spTruth [.bl a, .bl false] et R) else spTruth [.bl a, .bl false] et R) else spTruth [.bl a, .bl false] et R := by
  split
  · rename_i e; rw [e, Bool.true_and] at h
    split
    · rename_i e; rw [e, Bool.true_and] at h
      exact truth_chain h k
    · rename_i e; rw [Bool.eq_false_iff.mpr e, Bool.false_and] at h; exact truth_true h k
  · rename_i e; rw [Bool.eq_false_iff.mpr e, Bool.false_and, Bool.false_and] at h; exact truth_true h k
def spLaw : FSpec := fun args et R => ∃ ns : List Int, args = [.scr ns] ∧ ns.length ≤ 63 ∧ et = [] ∧ ∀ et', R (.bl true) et'
theorem law_ok (args : List PV) (et : Hi) (R : PV → Hi → Prop) (h : spLaw args et R) : r_law spPot spWords spTruth spIsSum spChain spTake (env0 N_law args) et (retK R) := by
  obtain ⟨ns, rfl, hl, rfl, hR⟩ := h
  show r_law _ _ _ _ _ _ [.val (.scr ns), .no, .no, .no, .no, .no, .no, .no] _ (retK R)
  unfold r_law
  simp!
  refine ⟨ns, rfl, hl, ?_⟩
  show r_law_0 _ _ _ _ _ [.val (.scr ns), .val (.ref 1), .no, .no, .no, .no, .no, .no] (pt 1099511627776) (retK R)
  unfold r_law_0
  simp!
  refine ⟨1099511627774, 4, rfl, by decide, rfl, fun ws wl hw _ => ?_⟩
  unfold r_law_1
  have hlen : gLen [.scr ns] = some (.int ns.length) := rfl
  have hmin : gMin2 [.int 60, .int ns.length] = some (.int (min 60 ns.length : Nat)) := by
    unfold gMin2
    simp only []
    split <;> (congr 2; omega)
  have hmax : gMax2 [.int 16, .int (min 60 ns.length : Nat)] = some (.int (max 16 (min 60 ns.length) : Nat)) := by
    unfold gMax2
    simp only []
    split <;> (congr 2; omega)
  simp! [hlen, hmin, hmax]
  refine ⟨(max 16 (min 60 ns.length) : Nat), rfl, by omega, by omega, fun i ep et1 => ∃ (n1 : Nat) (s3 s4 s5 s6 s7 : Slot), ep = [.val (.scr ns), .val (.ref 1), .val (.lst (ws.map .str)), s3, s4, s5, s6, s7] ∧ et1 = pt n1 ∧ 3000 * (60 - i) ≤ n1,
    ⟨1099511627774, _, _, _, _, _, rfl, rfl, by omega⟩, ?_⟩
  rintro i ep et1 ⟨n1, s3, s4, s5, s6, s7, rfl, rfl, hn1⟩
  have hlenR : (rng 0 (max 16 (min 60 ns.length) : Nat)).length = max 16 (min 60 ns.length) := by simp [rng]
  refine ⟨rfl, fun p hp => ⟨_, rfl, ?_⟩, fun e => ?_⟩
  · have hi : i < max 16 (min 60 ns.length) := by
      have := (List.getElem?_eq_some_iff.mp hp).1
      simpa [rng] using this
    have hpe : p = .int (i : Int) := by
      simp only [Int.toNat_natCast] at hp
      unfold rng at hp
      rw [List.getElem?_map, List.getElem?_range (by omega)] at hp
      cases hp; simp
    subst hpe
    unfold r_law_2
    simp! [Int.reduceLT]
    have hdeep : (1 + (i : Int) % 8) = ((1 + i % 8 : Nat) : Int) := by omega
    rw [hdeep]
    generalize hD : 1 + i % 8 = deep
    unfold r_law_3
    simp!
    obtain ⟨n2, rfl⟩ : ∃ n2, n1 = n2 + 2000 := ⟨n1 - 2000, by omega⟩
    refine ⟨n2, deep, ws, rfl, by omega, by omega, hw, by omega, by omega, rfl, fun n3 hn3 s hs ho => ?_⟩
    refine ⟨s.pv, rfl, fits_sm hw hw s 5 ho, ?_⟩
    simp!
    refine ⟨_, _, rfl, ?_⟩
    have hb : (sumIn 5 s.pv == decide ((deep : Int) < 6)) = true := by
      rw [sumIn_sm hw hw s 5 ho, hs, beq_iff_eq, Bool.eq_iff_iff, decide_eq_true_eq, decide_eq_true_eq]; omega
    rw [hb]
    simp!
    unfold r_law_5
    simp! [Int.reduceLT]
    refine ⟨by decide, ((i % 11 : Nat) : Int), by simp, by omega, by omega, fun j acc et1 => ∃ (n4 : Nat) (js : List Nat), et1 = pt n4 ∧ acc = js.map (fun n => .str (ltr n)) ∧ js.length = j ∧ j ≤ i % 11 ∧ n3 ≤ n4 + j, ⟨n3, [], rfl, rfl, rfl, by omega, by omega⟩, ?_⟩
    have hlenR2 : (rng 0 ((i % 11 : Nat) : Int).toNat).length = i % 11 := by rw [Int.toNat_natCast]; simp [rng]
    rintro j acc et1 ⟨n4, js, rfl, rfl, hjs, hj, hn4⟩
    refine ⟨rfl, fun q hq => ⟨_, rfl, ?_⟩, fun e => ?_⟩
    · simp!
      have hj' : js.length < i % 11 := by
        have := (List.getElem?_eq_some_iff.mp hq).1
        rw [hlenR2] at this; omega
      obtain ⟨n5, rfl⟩ : ∃ n5, n4 = n5 + 1 := ⟨n4 - 1, by omega⟩
      refine take_pt (n := n5) (by decide) (by decide) fun d d0 d1 => ?_
      obtain ⟨d, rfl⟩ : ∃ d' : Nat, d = (d' : Int) := ⟨d.toNat, by omega⟩
      have hx : gIx (.str letters) (.int (d : Int)) = some (.str (ltr d)) := by
        have l1 : letters.length ≤ sizeLine := by decide +kernel
        have e1 : atI letters.cps.toList (d : Int) = some (97 + d % 26) := by
          refine atI_nat ?_
          rw [letters_list, List.getElem?_map, List.getElem?_range (by omega)]
          simp [Nat.add_comm]; omega
        show (if letters.length ≤ sizeLine then (atI letters.cps.toList (d : Int)).map _ else none) = _
        rw [if_pos l1, e1]; rfl
      refine ⟨_, hx, ?_, n5, js ++ [d], rfl, by simp, by simp; omega, by omega, by omega⟩
      have : (1000 : Nat) ≤ sizeLine := by decide
      simp; omega
    · simp!
      have hje : js.length = i % 11 := by rw [hlenR2] at e; omega
      refine ⟨_, join_ltrs (by omega), ?_⟩
      have hwd := ltrs_word js
      have hsz := ltrs_size js
      generalize ltrs js = x at hwd hsz
      unfold r_law_6
      simp!
      obtain ⟨n5, rfl⟩ : ∃ n5, n4 = n5 + 1 := ⟨n4 - 1, by omega⟩
      refine take_pt (n := n5) (by decide) (by decide) fun d d0 d1 => ?_
      simp!
      have s1000 : (1000 : Nat) ≤ sizeLine := by decide
      have hl1 : gLen [.str x] = some (.int x.cps.size) := by show (if x.length ≤ sizeLine then some (PV.int x.length) else none) = _; rw [if_pos (show x.length ≤ sizeLine from show x.cps.size ≤ sizeLine by omega)]; rfl
      have fx : fitP (.str x) = true := by simp only [fitP, decide_eq_true_eq]; omega
      generalize hv : d - 3 = v
      -- what the code says, and what is so
      have w1 : sumIn 5 (.str x) = isWord x := rfl
      have v1 : sumIn 5 (.int v) = (decide (0 ≤ v) && decide (v ≤ 9)) := by
        show ((decide (0 ≤ v) && decide (v ≤ 9)) || false) = _
        rw [Bool.or_false]
      have b1 : sumIn 5 (.tup [.str "both", .tup [.str "waits", .str x], .int v]) = (isWord x && (decide (0 ≤ v) && decide (v ≤ 9))) := by
        show (sumIn 4 (.tup [.str "waits", .str x]) && ((decide (0 ≤ v) && decide (v ≤ 9)) || false)) = _
        rw [Bool.or_false]
        rfl
      unfold r_law_7
      simp!
      refine ⟨_, rfl, by simp only [fits]; exact fx, ?_⟩
      simp! [hl1, w1]
      refine truth_chain (by rw [hwd, hsz, Bool.eq_iff_iff]; simp; omega) ?_
      simp!
      refine ⟨_, rfl, rfl, ?_⟩
      simp! [v1]
      refine truth_chain (by rw [Bool.eq_iff_iff]; simp; omega) ?_
      simp!
      unfold r_law_9
      simp! [hl1]
      refine ⟨by decide, by decide, _, rfl, ?_, ?_⟩
      · have f3 : fits 3 (.str x) = true := fx
        have f4 : (decide ((2 : Nat) ≤ sizeLine) && [PV.str "waits", PV.str x].all fun y => fits 3 y) = true := by
          simp [f3]; exact ⟨by decide, rfl⟩
        show (decide ((3 : Nat) ≤ sizeLine) && [PV.str "both", PV.tup [PV.str "waits", PV.str x], PV.int v].all fun y => fits 4 y) = true
        have f5 : fits 4 (PV.tup [PV.str "waits", PV.str x]) = true := f4
        simp [f5]; exact ⟨by decide, rfl, rfl⟩
      rw [b1]
      refine truth_chain2 (by rw [hwd, hsz, Bool.eq_iff_iff]; simp; omega) ?_
      simp!
      exact ⟨n5, _, _, _, _, _, rfl, rfl, by omega⟩
  · unfold r_law_11
    simp!
    exact hR _
end Sq
namespace Iw
open PySem L2 Mw Lw Sq Cw
abbrev k_GIVEN : PV := .str "given"
abbrev k_IN_DEEDS : PV := .tup [.str "wait", .str "call", .str "all", .str "tell"]
abbrev k_IN_HANDS : PV := .tup [.str "take", .str "give", .str "pass", .str "say"]
abbrev k_MANNERS : PV := .tup [.str "at once", .str "when free"]
abbrev k_MOST_BELLS : PV := .int 3
abbrev k_MOST_DEEDS : PV := .int 4
abbrev k_MOST_HANDS : PV := .int 4
abbrev k_MOST_OPEN : PV := .int 16
abbrev k_MOST_OWN : PV := .int 8
abbrev k_MOST_PASSES : PV := .int 16
abbrev k_MOST_ROOMS : PV := .int 4
abbrev k_MOST_ROOM_THINGS : PV := .int 4
abbrev k_MOST_ROWS : PV := .int 40
abbrev k_SORTS : PV := .tup [.str "row", .str "turns"]
abbrev k_WHEN_FREE : PV := .str "when free"
abbrev tt_FORMS : List (Str × List Str) := [("put", ["word", "sum"]), ("unless", ["sum", "place"]), ("go", ["place"]), ("do", ["goal", "word", "word", "sum"]), ("wait", ["word", "sum"]), ("call", ["word"]), ("all", ["word"]), ("tell", ["sum"]), ("take", ["word"]), ("give", ["word"]), ("pass", ["word", "word"]), ("say", ["sum"])]
def r_firsts : SM := (mRet (mLc (mIter (mVar 0)) [1] (tgN 1) mYes (mBin gIx (mPeek 1) (mC (.int 0)))))
abbrev N_firsts : List Str := ["pairs", "pair"]
def r_is_tuple_of : SM := (mRet (mAndE (mArg gIsi (mCons (mPeek 0) (mCons (mC (.ty .tup)) mNil))) (mBin gEq (mArg gLen (mCons (mPeek 0) mNil)) (mPeek 1))))
abbrev N_is_tuple_of : List Str := ["thing", "many"]
def r_is_rising : SM := (mRet (mArg gAll (mCons (mLc (mZip (mCons (mVar 0) (mCons (mSl gSlA (mPeek 0) (mO1 (mC (.int 1))) mO0) mNil))) [1, 2] (tgT [(tgN 1), (tgN 2)]) mYes (mBin gLt (mPeek 1) (mPeek 2))) mNil)))
abbrev N_is_rising : List Str := ["words", "one", "other"]
def r_is_place : SM := (mRet (mAndE (mArg gIsi (mCons (mPeek 0) (mCons (mC (.ty .int)) mNil))) (mAndE (mNotE (mArg gIsi (mCons (mPeek 0) (mCons (mC (.ty .bool)) mNil)))) (mChain gLe gLe (mC (.int 0)) (mPeek 0) (mPeek 1)))))
abbrev N_is_place : List Str := ["thing", "many"]
def r_is_part_0 (S_is_word : FSpec) : SM := (mRet (mCall 1 S_is_word (mCons (mVar 0) mNil)))
def r_is_part_2 (S_is_sum : FSpec) : SM := (mRet (mCall 1 S_is_sum (mCons (mVar 0) mNil)))
def r_is_part_4 (S_is_place : FSpec) : SM := (mRet (mCall 2 S_is_place (mCons (mVar 0) (mCons (mVar 2) mNil))))
def r_is_part_5 (S_is_word : FSpec) : SM := (mRet (mOrE (mBin gIs (mPeek 0) (mC .non)) (mCall 1 S_is_word (mCons (mVar 0) mNil))))
def r_is_part_3 (S_is_word : FSpec) (S_is_place : FSpec) : SM := (mSeq (mIf (mBinT gEq (mPeek 1) (mC (.str "place"))) (r_is_part_4 S_is_place) mNext) (r_is_part_5 S_is_word))
def r_is_part_1 (S_is_word : FSpec) (S_is_sum : FSpec) (S_is_place : FSpec) : SM := (mSeq (mIf (mBinT gEq (mPeek 1) (mC (.str "sum"))) (r_is_part_2 S_is_sum) mNext) (r_is_part_3 S_is_word S_is_place))
def r_is_part (S_is_word : FSpec) (S_is_sum : FSpec) (S_is_place : FSpec) : SM := (mSeq (mIf (mBinT gEq (mPeek 1) (mC (.str "word"))) (r_is_part_0 S_is_word) mNext) (r_is_part_1 S_is_word S_is_sum S_is_place))
abbrev N_is_part : List Str := ["thing", "form", "many"]
def r_is_row_0 : SM := (mRet (mC (.bl false)))
def r_is_row_3 : SM := (mRet (mC (.bl false)))
def r_is_row_4 (S_is_part : FSpec) : SM := (mRet (mArg gAll (mCons (mLc (mZip (mCons (mSl gSlA (mPeek 0) (mO1 (mC (.int 1))) mO0) (mCons (mVar 2) mNil))) [3, 4] (tgT [(tgN 3), (tgN 4)]) mYes (mCall 3 S_is_part (mCons (mVar 3) (mCons (mVar 4) (mCons (mVar 1) mNil))))) mNil)))
def r_is_row_2 (S_is_part : FSpec) : SM := (mSeq (mIf (mBinT gNe (mArg gLen (mCons (mPeek 0) mNil)) (mBin gAdd (mC (.int 1)) (mArg gLen (mCons (mPeek 2) mNil)))) (r_is_row_3) mNext) (r_is_row_4 S_is_part))
def r_is_row_1 (S_is_part : FSpec) : SM := (mSeq (mSet 2 (mTabT tt_FORMS (mBin gIx (mPeek 0) (mC (.int 0))))) (r_is_row_2 S_is_part))
def r_is_row (S_is_part : FSpec) : SM := (mSeq (mIf (mOrT (mNotT (mAsT (mArg gIsi (mCons (mPeek 0) (mCons (mC (.ty .tup)) mNil))))) (mOrT (mBinT gEq (mArg gLen (mCons (mPeek 0) mNil)) (mC (.int 0))) (mOrT (mNotT (mAsT (mArg gIsi (mCons (mBin gIx (mPeek 0) (mC (.int 0))) (mCons (mC (.ty .str)) mNil))))) (mBinT (gInTab "FORMS" tt_FORMS true) (mBin gIx (mPeek 0) (mC (.int 0))) (mC (.glo "FORMS")))))) (r_is_row_0) mNext) (r_is_row_1 S_is_part))
abbrev N_is_row : List Str := ["thing", "many", "forms", "part", "form"]
def r_is_program_0 : SM := (mRet (mC (.bl false)))
def r_is_program_1 (S_is_row : FSpec) : SM := (mRet (mArg gAll (mCons (mLc (mIter (mVar 0)) [1] (tgN 1) mYes (mCall 2 S_is_row (mCons (mVar 1) (mCons (mArg gLen (mCons (mPeek 0) mNil)) mNil)))) mNil)))
def r_is_program (S_is_row : FSpec) : SM := (mSeq (mIf (mOrT (mNotT (mAsT (mArg gIsi (mCons (mPeek 0) (mCons (mC (.ty .tup)) mNil))))) (mNotT (mChainT gLe gLe (mC (.int 1)) (mArg gLen (mCons (mPeek 0) mNil)) (mC k_MOST_ROWS)))) (r_is_program_0) mNext) (r_is_program_1 S_is_row))
abbrev N_is_program : List Str := ["thing", "row"]
def r_is_pass (S_is_value : FSpec) (S_is_word : FSpec) (S_is_tuple_of : FSpec) : SM := (mRet (mAndE (mCall 2 S_is_tuple_of (mCons (mVar 0) (mCons (mC (.int 2)) mNil))) (mAndE (mCall 1 S_is_word (mCons (mBin gIx (mPeek 0) (mC (.int 0))) mNil)) (mCall 1 S_is_value (mCons (mBin gIx (mPeek 0) (mC (.int 1))) mNil)))))
abbrev N_is_pass : List Str := ["thing"]
def r_are_passes_0 : SM := (mRet (mC (.bl false)))
def r_are_passes_1 (S_is_rising : FSpec) (S_firsts : FSpec) : SM := (mRet (mCall 1 S_is_rising (mCons (mCall 1 S_firsts (mCons (mVar 0) mNil)) mNil)))
def r_are_passes (S_is_pass : FSpec) (S_is_rising : FSpec) (S_firsts : FSpec) : SM := (mSeq (mIf (mOrT (mNotT (mAsT (mArg gIsi (mCons (mPeek 0) (mCons (mC (.ty .tup)) mNil))))) (mOrT (mBinT gGt (mArg gLen (mCons (mPeek 0) mNil)) (mPeek 1)) (mNotT (mAsT (mArg gAll (mCons (mLc (mIter (mVar 0)) [2] (tgN 2) mYes (mCall 1 S_is_pass (mCons (mVar 2) mNil))) mNil)))))) (r_are_passes_0) mNext) (r_are_passes_1 S_is_rising S_firsts))
abbrev N_are_passes : List Str := ["thing", "most", "one"]
def r_are_things (S_firsts : FSpec) (S_are_passes : FSpec) : SM := (mRet (mAndE (mCall 2 S_are_passes (mCons (mVar 0) (mCons (mVar 1) mNil))) (mBin gNotIn (mC k_GIVEN) (mCall 1 S_firsts (mCons (mVar 0) mNil)))))
abbrev N_are_things : List Str := ["thing", "most"]
def r_is_bell (S_is_word : FSpec) (S_is_tuple_of : FSpec) : SM := (mRet (mAndE (mCall 2 S_is_tuple_of (mCons (mVar 0) (mCons (mC (.int 2)) mNil))) (mAndE (mCall 1 S_is_word (mCons (mBin gIx (mPeek 0) (mC (.int 0))) mNil)) (mAndE (mArg gIsi (mCons (mBin gIx (mPeek 0) (mC (.int 1))) (mCons (mC (.ty .str)) mNil))) (mBin gIn (mBin gIx (mPeek 0) (mC (.int 1))) (mC k_SORTS))))))
abbrev N_is_bell : List Str := ["thing"]
def r_is_deed (S_is_program : FSpec) (S_is_word : FSpec) (S_is_tuple_of : FSpec) : SM := (mRet (mAndE (mCall 2 S_is_tuple_of (mCons (mVar 0) (mCons (mC (.int 2)) mNil))) (mAndE (mCall 1 S_is_word (mCons (mBin gIx (mPeek 0) (mC (.int 0))) mNil)) (mCall 1 S_is_program (mCons (mBin gIx (mPeek 0) (mC (.int 1))) mNil)))))
abbrev N_is_deed : List Str := ["thing"]
def r_is_room_0 : SM := (mRet (mC (.bl false)))
def r_is_room_3 : SM := (mRet (mC (.bl false)))
def r_is_room_5 : SM := (mRet (mC (.bl false)))
def r_is_room_7 : SM := (mRet (mC (.bl false)))
def r_is_room_8 (S_is_rising : FSpec) (S_firsts : FSpec) : SM := (mRet (mAndE (mCall 1 S_is_rising (mCons (mCall 1 S_firsts (mCons (mVar 4) mNil)) mNil)) (mCall 1 S_is_rising (mCons (mCall 1 S_firsts (mCons (mVar 5) mNil)) mNil))))
def r_is_room_6 (S_is_deed : FSpec) (S_is_bell : FSpec) (S_is_rising : FSpec) (S_firsts : FSpec) : SM := (mSeq (mIf (mOrT (mNotT (mAsT (mArg gAll (mCons (mLc (mIter (mVar 4)) [6] (tgN 6) mYes (mCall 1 S_is_bell (mCons (mVar 6) mNil))) mNil)))) (mNotT (mAsT (mArg gAll (mCons (mLc (mIter (mVar 5)) [6] (tgN 6) mYes (mCall 1 S_is_deed (mCons (mVar 6) mNil))) mNil))))) (r_is_room_7) mNext) (r_is_room_8 S_is_rising S_firsts))
def r_is_room_4 (S_is_deed : FSpec) (S_is_bell : FSpec) (S_is_rising : FSpec) (S_firsts : FSpec) : SM := (mSeq (mIf (mOrT (mBinT gGt (mArg gLen (mCons (mPeek 4) mNil)) (mC k_MOST_BELLS)) (mNotT (mChainT gLe gLe (mC (.int 1)) (mArg gLen (mCons (mPeek 5) mNil)) (mC k_MOST_DEEDS)))) (r_is_room_5) mNext) (r_is_room_6 S_is_deed S_is_bell S_is_rising S_firsts))
def r_is_room_2 (S_are_things : FSpec) (S_is_deed : FSpec) (S_is_bell : FSpec) (S_is_rising : FSpec) (S_firsts : FSpec) : SM := (mSeq (mIf (mOrT (mNotT (mAsT (mCall 2 S_are_things (mCons (mVar 3) (mCons (mC k_MOST_ROOM_THINGS) mNil))))) (mOrT (mNotT (mAsT (mArg gIsi (mCons (mPeek 4) (mCons (mC (.ty .tup)) mNil))))) (mNotT (mAsT (mArg gIsi (mCons (mPeek 5) (mCons (mC (.ty .tup)) mNil))))))) (r_is_room_3) mNext) (r_is_room_4 S_is_deed S_is_bell S_is_rising S_firsts))
def r_is_room_1 (S_are_things : FSpec) (S_is_deed : FSpec) (S_is_bell : FSpec) (S_is_rising : FSpec) (S_firsts : FSpec) : SM := (mSeq (mAsg (tgT [(tgN 1), (tgN 2), (tgN 3), (tgN 4), (tgN 5)]) (mVar 0)) (r_is_room_2 S_are_things S_is_deed S_is_bell S_is_rising S_firsts))
def r_is_room (S_is_word : FSpec) (S_is_tuple_of : FSpec) (S_are_things : FSpec) (S_is_deed : FSpec) (S_is_bell : FSpec) (S_is_rising : FSpec) (S_firsts : FSpec) : SM := (mSeq (mIf (mOrT (mNotT (mAsT (mCall 2 S_is_tuple_of (mCons (mVar 0) (mCons (mC (.int 5)) mNil))))) (mOrT (mNotT (mAsT (mCall 1 S_is_word (mCons (mBin gIx (mPeek 0) (mC (.int 0))) mNil)))) (mOrT (mNotT (mAsT (mArg gIsi (mCons (mBin gIx (mPeek 0) (mC (.int 1))) (mCons (mC (.ty .str)) mNil))))) (mBinT gNotIn (mBin gIx (mPeek 0) (mC (.int 1))) (mC k_MANNERS))))) (r_is_room_0) mNext) (r_is_room_1 S_are_things S_is_deed S_is_bell S_is_rising S_firsts))
abbrev N_is_room : List Str := ["thing", "name", "manner", "things", "bells", "deeds", "one"]
def r_is_hand (S_is_program : FSpec) (S_are_things : FSpec) (S_is_tuple_of : FSpec) : SM := (mRet (mAndE (mCall 2 S_is_tuple_of (mCons (mVar 0) (mCons (mC (.int 2)) mNil))) (mAndE (mCall 2 S_are_things (mCons (mBin gIx (mPeek 0) (mC (.int 0))) (mCons (mC k_MOST_OWN) mNil))) (mCall 1 S_is_program (mCons (mBin gIx (mPeek 0) (mC (.int 1))) mNil)))))
abbrev N_is_hand : List Str := ["thing"]
def r_is_formed_0 : SM := (mRet (mC (.bl false)))
def r_is_formed_3 : SM := (mRet (mC (.bl false)))
def r_is_formed_5 : SM := (mRet (mC (.bl false)))
def r_is_formed_6 (S_are_things : FSpec) (S_are_passes : FSpec) (S_is_rising : FSpec) (S_firsts : FSpec) : SM := (mRet (mAndE (mCall 1 S_is_rising (mCons (mCall 1 S_firsts (mCons (mVar 1) mNil)) mNil)) (mAndE (mCall 2 S_are_passes (mCons (mVar 2) (mCons (mC k_MOST_PASSES) mNil))) (mCall 2 S_are_things (mCons (mVar 3) (mCons (mC k_MOST_OPEN) mNil))))))
def r_is_formed_4 (S_is_hand : FSpec) (S_is_room : FSpec) (S_are_things : FSpec) (S_are_passes : FSpec) (S_is_rising : FSpec) (S_firsts : FSpec) : SM := (mSeq (mIf (mOrT (mNotT (mAsT (mArg gAll (mCons (mLc (mIter (mVar 1)) [5] (tgN 5) mYes (mCall 1 S_is_room (mCons (mVar 5) mNil))) mNil)))) (mNotT (mAsT (mArg gAll (mCons (mLc (mIter (mVar 4)) [5] (tgN 5) mYes (mCall 1 S_is_hand (mCons (mVar 5) mNil))) mNil))))) (r_is_formed_5) mNext) (r_is_formed_6 S_are_things S_are_passes S_is_rising S_firsts))
def r_is_formed_2 (S_is_hand : FSpec) (S_is_room : FSpec) (S_are_things : FSpec) (S_are_passes : FSpec) (S_is_rising : FSpec) (S_firsts : FSpec) : SM := (mSeq (mIf (mOrT (mBinT gGt (mArg gLen (mCons (mPeek 1) mNil)) (mC k_MOST_ROOMS)) (mNotT (mChainT gLe gLe (mC (.int 1)) (mArg gLen (mCons (mPeek 4) mNil)) (mC k_MOST_HANDS)))) (r_is_formed_3) mNext) (r_is_formed_4 S_is_hand S_is_room S_are_things S_are_passes S_is_rising S_firsts))
def r_is_formed_1 (S_is_hand : FSpec) (S_is_room : FSpec) (S_are_things : FSpec) (S_are_passes : FSpec) (S_is_rising : FSpec) (S_firsts : FSpec) : SM := (mSeq (mAsg (tgT [(tgN 1), (tgN 2), (tgN 3), (tgN 4)]) (mVar 0)) (r_is_formed_2 S_is_hand S_is_room S_are_things S_are_passes S_is_rising S_firsts))
def r_is_formed (S_is_tuple_of : FSpec) (S_is_hand : FSpec) (S_is_room : FSpec) (S_are_things : FSpec) (S_are_passes : FSpec) (S_is_rising : FSpec) (S_firsts : FSpec) : SM := (mSeq (mIf (mOrT (mNotT (mAsT (mCall 2 S_is_tuple_of (mCons (mVar 0) (mCons (mC (.int 4)) mNil))))) (mOrT (mNotT (mAsT (mArg gIsi (mCons (mBin gIx (mPeek 0) (mC (.int 0))) (mCons (mC (.ty .tup)) mNil))))) (mNotT (mAsT (mArg gIsi (mCons (mBin gIx (mPeek 0) (mC (.int 3))) (mCons (mC (.ty .tup)) mNil))))))) (r_is_formed_0) mNext) (r_is_formed_1 S_is_hand S_is_room S_are_things S_are_passes S_is_rising S_firsts))
abbrev N_is_formed : List Str := ["thing", "rooms", "passes", "open_things", "hands", "one"]
def r_are_among : SM := (mRet (mArg gAll (mCons (mLc (mIter (mVar 0)) [2] (tgN 2) mYes (mBin gIn (mPeek 2) (mPeek 1))) mNil)))
abbrev N_are_among : List Str := ["words", "others", "word"]
def r_sums_in : SM := (mRet (mLc (mZip (mCons (mSl gSlA (mPeek 0) (mO1 (mC (.int 1))) mO0) (mCons (mTabT tt_FORMS (mBin gIx (mPeek 0) (mC (.int 0)))) mNil))) [1, 2] (tgT [(tgN 1), (tgN 2)]) (mBinT gEq (mPeek 2) (mC (.str "sum"))) (mVar 1)))
abbrev N_sums_in : List Str := ["row", "part", "form"]
def r_is_put_right_1 : SM := (mRet (mC (.bl false)))
def r_is_put_right_0 (S_are_among : FSpec) (S_bells_of : FSpec) (S_words_of : FSpec) : SM := (mIf (mOrT (mNotT (mAsT (mCall 2 S_are_among (mCons (mCall 1 S_words_of (mCons (mVar 4) mNil)) (mCons (mVar 1) mNil))))) (mNotT (mAsT (mCall 2 S_are_among (mCons (mCall 1 S_bells_of (mCons (mVar 4) mNil)) (mCons (mVar 3) mNil)))))) (r_is_put_right_1) mNext)
def r_is_put_right_3 : SM := (mRet (mBin gIn (mBin gIx (mPeek 0) (mC (.int 1))) (mPeek 2)))
def r_is_put_right_4 : SM := (mRet (mOrE (mBin gNe (mBin gIx (mPeek 0) (mC (.int 0))) (mC (.str "do"))) (mOrE (mBin gIs (mBin gIx (mPeek 0) (mC (.int 1))) (mC .non)) (mBin gIn (mBin gIx (mPeek 0) (mC (.int 1))) (mPeek 2)))))
def r_is_put_right_2 : SM := (mSeq (mIf (mBinT gEq (mBin gIx (mPeek 0) (mC (.int 0))) (mC (.str "put"))) (r_is_put_right_3) mNext) (r_is_put_right_4))
def r_is_put_right (S_sums_in : FSpec) (S_are_among : FSpec) (S_bells_of : FSpec) (S_words_of : FSpec) : SM := (mSeq (mFor (mIter (mCall 1 S_sums_in (mCons (mVar 0) mNil))) (tgN 4) (r_is_put_right_0 S_are_among S_bells_of S_words_of)) (r_is_put_right_2))
abbrev N_is_put_right : List Str := ["row", "words", "goals", "bells", "told"]
def r_is_deed_there (S_firsts : FSpec) : SM := (mRet (mArg gAny (mCons (mLc (mIter (mVar 0)) [2] (tgN 2) mYes (mAndE (mBin gEq (mBin gIx (mPeek 2) (mC (.int 0))) (mBin gIx (mPeek 1) (mC (.int 2)))) (mBin gIn (mBin gIx (mPeek 1) (mC (.int 3))) (mCall 1 S_firsts (mCons (mBin gIx (mPeek 2) (mC (.int 4))) mNil))))) mNil)))
abbrev N_is_deed_there : List Str := ["rooms", "row", "room"]
def r_stands_in_deed_2 : SM := (mRet (mC (.bl false)))
def r_stands_in_deed_4 (S_is_deed_there : FSpec) : SM := (mRet (mCall 2 S_is_deed_there (mCons (mVar 0) (mCons (mVar 2) mNil))))
def r_stands_in_deed_6 (S_firsts : FSpec) : SM := (mRet (mAndE (mBin gIn (mBin gIx (mPeek 2) (mC (.int 1))) (mCall 1 S_firsts (mCons (mVar 6) mNil))) (mOrE (mBin gNe (mBin gIx (mPeek 2) (mC (.int 0))) (mC (.str "all"))) (mBin gEq (mPeek 4) (mC k_WHEN_FREE)))))
def r_stands_in_deed_7 : SM := (mRet (mC (.bl true)))
def r_stands_in_deed_5 (S_firsts : FSpec) : SM := (mSeq (mIf (mBinT gIn (mBin gIx (mPeek 2) (mC (.int 0))) (mTup (mCons (mC (.str "wait")) (mCons (mC (.str "call")) (mCons (mC (.str "all")) mNil))))) (r_stands_in_deed_6 S_firsts) mNext) (r_stands_in_deed_7))
def r_stands_in_deed_3 (S_firsts : FSpec) (S_is_deed_there : FSpec) : SM := (mSeq (mIf (mBinT gEq (mBin gIx (mPeek 2) (mC (.int 0))) (mC (.str "do"))) (r_stands_in_deed_4 S_is_deed_there) mNext) (r_stands_in_deed_5 S_firsts))
def r_stands_in_deed_1 (S_firsts : FSpec) (S_is_put_right : FSpec) (S_is_deed_there : FSpec) : SM := (mSeq (mIf (mOrT (mBinT gIn (mBin gIx (mPeek 2) (mC (.int 0))) (mC k_IN_HANDS)) (mNotT (mAsT (mCall 4 S_is_put_right (mCons (mVar 2) (mCons (mBin gCat (mPeek 8) (mLst (mCons (mC k_GIVEN) mNil))) (mCons (mVar 8) (mCons (mCall 1 S_firsts (mCons (mVar 6) mNil)) mNil)))))))) (r_stands_in_deed_2) mNext) (r_stands_in_deed_3 S_firsts S_is_deed_there))
def r_stands_in_deed_0 (S_firsts : FSpec) (S_is_put_right : FSpec) (S_is_deed_there : FSpec) : SM := (mSeq (mSet 8 (mCall 1 S_firsts (mCons (mVar 5) mNil))) (r_stands_in_deed_1 S_firsts S_is_put_right S_is_deed_there))
def r_stands_in_deed (S_firsts : FSpec) (S_is_put_right : FSpec) (S_is_deed_there : FSpec) : SM := (mSeq (mAsg (tgT [(tgN 3), (tgN 4), (tgN 5), (tgN 6), (tgN 7)]) (mVar 1)) (r_stands_in_deed_0 S_firsts S_is_put_right S_is_deed_there))
abbrev N_stands_in_deed : List Str := ["rooms", "room", "row", "name", "manner", "things", "bells", "deeds", "goals"]
def r_stands_in_hand_1 : SM := (mRet (mC (.bl false)))
def r_stands_in_hand_3 (S_is_deed_there : FSpec) : SM := (mRet (mCall 2 S_is_deed_there (mCons (mVar 3) (mCons (mVar 2) mNil))))
def r_stands_in_hand_4 (S_are_among : FSpec) (S_firsts : FSpec) : SM := (mRet (mOrE (mBin gNotIn (mBin gIx (mPeek 2) (mC (.int 0))) (mTup (mCons (mC (.str "take")) (mCons (mC (.str "give")) (mCons (mC (.str "pass")) mNil))))) (mCall 2 S_are_among (mCons (mSl gSlA (mPeek 2) (mO1 (mC (.int 1))) mO0) (mCons (mCall 1 S_firsts (mCons (mVar 4) mNil)) mNil)))))
def r_stands_in_hand_2 (S_is_deed_there : FSpec) (S_are_among : FSpec) (S_firsts : FSpec) : SM := (mSeq (mIf (mBinT gEq (mBin gIx (mPeek 2) (mC (.int 0))) (mC (.str "do"))) (r_stands_in_hand_3 S_is_deed_there) mNext) (r_stands_in_hand_4 S_are_among S_firsts))
def r_stands_in_hand_0 (S_is_put_right : FSpec) (S_is_deed_there : FSpec) (S_are_among : FSpec) (S_firsts : FSpec) : SM := (mSeq (mIf (mOrT (mBinT gIn (mBin gIx (mPeek 2) (mC (.int 0))) (mC k_IN_DEEDS)) (mNotT (mAsT (mCall 4 S_is_put_right (mCons (mVar 2) (mCons (mVar 1) (mCons (mVar 1) (mCons (mLst mNil) mNil)))))))) (r_stands_in_hand_1) mNext) (r_stands_in_hand_2 S_is_deed_there S_are_among S_firsts))
def r_stands_in_hand (S_is_put_right : FSpec) (S_is_deed_there : FSpec) (S_are_among : FSpec) (S_firsts : FSpec) : SM := (mSeq (mAsg (tgT [(tgN 3), (tgN 4), (tgN 5), (tgN 6)]) (mVar 0)) (r_stands_in_hand_0 S_is_put_right S_is_deed_there S_are_among S_firsts))
abbrev N_stands_in_hand : List Str := ["world", "goals", "row", "rooms", "passes", "open_things", "hands"]
def r_is_room_right_1 : SM := (mRet (mC (.bl false)))
def r_is_room_right_0 (S_stands_in_deed : FSpec) : SM := (mIf (mNotT (mAsT (mArg gAll (mCons (mLc (mIter (mVar 3)) [4] (tgN 4) mYes (mCall 3 S_stands_in_deed (mCons (mVar 0) (mCons (mVar 1) (mCons (mVar 4) mNil))))) mNil)))) (r_is_room_right_1) mNext)
def r_is_room_right_2 : SM := (mRet (mC (.bl true)))
def r_is_room_right (S_stands_in_deed : FSpec) : SM := (mSeq (mFor (mIter (mBin gIx (mPeek 1) (mC (.int 4)))) (tgT [(tgN 2), (tgN 3)]) (r_is_room_right_0 S_stands_in_deed)) (r_is_room_right_2))
abbrev N_is_room_right : List Str := ["rooms", "room", "name", "program", "row"]
def r_is_hand_right_2 : SM := (mRet (mC (.bl false)))
def r_is_hand_right_3 (S_firsts : FSpec) (S_stands_in_hand : FSpec) : SM := (mRet (mArg gAll (mCons (mLc (mIter (mVar 3)) [6] (tgN 6) mYes (mCall 3 S_stands_in_hand (mCons (mVar 0) (mCons (mBin gAdd (mCall 1 S_firsts (mCons (mVar 2) mNil)) (mPeek 4)) (mCons (mVar 6) mNil))))) mNil)))
def r_is_hand_right_1 (S_firsts : FSpec) (S_stands_in_hand : FSpec) : SM := (mSeq (mIf (mAsT (mArg gAny (mCons (mLc (mIter (mCall 1 S_firsts (mCons (mVar 2) mNil))) [5] (tgN 5) mYes (mBin gIn (mPeek 5) (mPeek 4))) mNil))) (r_is_hand_right_2) mNext) (r_is_hand_right_3 S_firsts S_stands_in_hand))
def r_is_hand_right_0 (S_firsts : FSpec) (S_stands_in_hand : FSpec) : SM := (mSeq (mSet 4 (mCall 1 S_firsts (mCons (mBin gIx (mPeek 0) (mC (.int 2))) mNil))) (r_is_hand_right_1 S_firsts S_stands_in_hand))
def r_is_hand_right (S_firsts : FSpec) (S_stands_in_hand : FSpec) : SM := (mSeq (mAsg (tgT [(tgN 2), (tgN 3)]) (mVar 1)) (r_is_hand_right_0 S_firsts S_stands_in_hand))
abbrev N_is_hand_right : List Str := ["world", "hand", "things", "program", "opened", "word", "row"]
def r_deeds_done_3 : SM := (mExprX (mMut 2 gmExtend (mCons (mLc (mIter (mVar 5)) [6] (tgN 6) (mBinT gEq (mBin gIx (mPeek 6) (mC (.int 0))) (mC (.str "do"))) (mTup (mCons (mBin gIx (mPeek 6) (mC (.int 2))) (mCons (mBin gIx (mPeek 6) (mC (.int 3))) mNil)))) mNil)))
def r_deeds_done_2 : SM := (mIf (mBinT gEq (mTup (mCons (mBin gIx (mPeek 3) (mC (.int 0))) (mCons (mVar 4) mNil))) (mPeek 1)) (r_deeds_done_3) mNext)
def r_deeds_done_1 : SM := (mFor (mIter (mBin gIx (mPeek 3) (mC (.int 4)))) (tgT [(tgN 4), (tgN 5)]) (r_deeds_done_2))
def r_deeds_done_4 : SM := (mRet (mVar 2))
def r_deeds_done_0 : SM := (mSeq (mFor (mIter (mVar 0)) (tgN 3) (r_deeds_done_1)) (r_deeds_done_4))
def r_deeds_done : SM := (mSeq (mSet 2 (mShare (mLst mNil))) (r_deeds_done_0))
abbrev N_deeds_done : List Str := ["rooms", "deed", "found", "room", "name", "program", "row"]
def r_comes_to_itself_5 (S_deeds_done : FSpec) : SM := (mExprX (mMut 3 gmExtend (mCons (mCall 2 S_deeds_done (mCons (mVar 0) (mCons (mVar 4) mNil))) mNil)))
def r_comes_to_itself_4 (S_td_hash : NestedKey → Int) (S_deeds_done : FSpec) : SM := (mSeq (mTdPut S_td_hash (mC (.bl true)) (mVar 2) (mVar 4)) (r_comes_to_itself_5 S_deeds_done))
def r_comes_to_itself_3 (S_td_hash : NestedKey → Int) (S_deeds_done : FSpec) : SM := (mIf (mAsT (mTdIn S_td_hash true (mVar 4) (mVar 2))) (r_comes_to_itself_4 S_td_hash S_deeds_done) mNext)
def r_comes_to_itself_2 (S_td_hash : NestedKey → Int) (S_deeds_done : FSpec) : SM := (mSeq (mSetX 4 (mMut 3 gmPop mNil)) (r_comes_to_itself_3 S_td_hash S_deeds_done))
def r_comes_to_itself_6 (S_td_hash : NestedKey → Int) : SM := (mRet (mTdIn S_td_hash false (mVar 1) (mVar 2)))
def r_comes_to_itself_1 (S_td_hash : NestedKey → Int) (S_deeds_done : FSpec) : SM := (mSeq (mWhile (mBinT gNe (mPeek 3) (mLst mNil)) (r_comes_to_itself_2 S_td_hash S_deeds_done)) (r_comes_to_itself_6 S_td_hash))
def r_comes_to_itself_0 (S_td_hash : NestedKey → Int) (S_deeds_done : FSpec) : SM := (mSeq (mSet 3 (mCall 2 S_deeds_done (mCons (mVar 0) (mCons (mVar 1) mNil)))) (r_comes_to_itself_1 S_td_hash S_deeds_done))
def r_comes_to_itself (S_td_hash : NestedKey → Int) (S_deeds_done : FSpec) : SM := (mSeq (mSet 2 (mTdSh S_td_hash mDic0)) (r_comes_to_itself_0 S_td_hash S_deeds_done))
abbrev N_comes_to_itself : List Str := ["rooms", "deed", "found", "waiting", "other"]
def r_is_world_0 : SM := (mRet (mC (.bl false)))
def r_is_world_3 : SM := (mRet (mC (.bl false)))
def r_is_world_5 : SM := (mRet (mC (.bl false)))
def r_is_world_7 : SM := (mRet (mC (.bl false)))
def r_is_world_10 : SM := (mRet (mC (.bl false)))
def r_is_world_9 (S_firsts : FSpec) (S_comes_to_itself : FSpec) : SM := (mIf (mAsT (mArg gAny (mCons (mLc (mIter (mCall 1 S_firsts (mCons (mBin gIx (mPeek 6) (mC (.int 4))) mNil))) [5] (tgN 5) mYes (mCall 2 S_comes_to_itself (mCons (mVar 1) (mCons (mTup (mCons (mBin gIx (mPeek 6) (mC (.int 0))) (mCons (mVar 5) mNil))) mNil)))) mNil))) (r_is_world_10) mNext)
def r_is_world_11 : SM := (mRet (mC (.bl true)))
def r_is_world_8 (S_firsts : FSpec) (S_comes_to_itself : FSpec) : SM := (mSeq (mFor (mIter (mVar 1)) (tgN 6) (r_is_world_9 S_firsts S_comes_to_itself)) (r_is_world_11))
def r_is_world_6 (S_firsts : FSpec) (S_is_hand_right : FSpec) (S_comes_to_itself : FSpec) : SM := (mSeq (mIf (mNotT (mAsT (mArg gAll (mCons (mLc (mIter (mVar 4)) [7] (tgN 7) mYes (mCall 2 S_is_hand_right (mCons (mVar 0) (mCons (mVar 7) mNil)))) mNil)))) (r_is_world_7) mNext) (r_is_world_8 S_firsts S_comes_to_itself))
def r_is_world_4 (S_firsts : FSpec) (S_is_room_right : FSpec) (S_is_hand_right : FSpec) (S_comes_to_itself : FSpec) : SM := (mSeq (mIf (mNotT (mAsT (mArg gAll (mCons (mLc (mIter (mVar 1)) [6] (tgN 6) mYes (mCall 2 S_is_room_right (mCons (mVar 1) (mCons (mVar 6) mNil)))) mNil)))) (r_is_world_5) mNext) (r_is_world_6 S_firsts S_is_hand_right S_comes_to_itself))
def r_is_world_2 (S_firsts : FSpec) (S_is_room_right : FSpec) (S_is_hand_right : FSpec) (S_comes_to_itself : FSpec) : SM := (mSeq (mIf (mAsT (mArg gAny (mCons (mLc (mIter (mCall 1 S_firsts (mCons (mVar 1) mNil))) [5] (tgN 5) mYes (mBin gIn (mPeek 5) (mCall 1 S_firsts (mCons (mVar 2) mNil)))) mNil))) (r_is_world_3) mNext) (r_is_world_4 S_firsts S_is_room_right S_is_hand_right S_comes_to_itself))
def r_is_world_1 (S_firsts : FSpec) (S_is_room_right : FSpec) (S_is_hand_right : FSpec) (S_comes_to_itself : FSpec) : SM := (mSeq (mAsg (tgT [(tgN 1), (tgN 2), (tgN 3), (tgN 4)]) (mVar 0)) (r_is_world_2 S_firsts S_is_room_right S_is_hand_right S_comes_to_itself))
def r_is_world (S_is_formed : FSpec) (S_firsts : FSpec) (S_is_room_right : FSpec) (S_is_hand_right : FSpec) (S_comes_to_itself : FSpec) : SM := (mSeq (mIf (mNotT (mAsT (mCall 1 S_is_formed (mCons (mVar 0) mNil)))) (r_is_world_0) mNext) (r_is_world_1 S_firsts S_is_room_right S_is_hand_right S_comes_to_itself))
abbrev N_is_world : List Str := ["thing", "rooms", "passes", "open_things", "hands", "name", "room", "hand"]
def fst0 : PV → PV
  | .tup (x :: _) => x
  | _ => .non
def spFirsts : FSpec := fun args et R => ∃ xs : List PV, args = [.tup xs] ∧ xs.length ≤ sizeLine ∧ (∀ x ∈ xs, ∃ y r, x = .tup (y :: r)) ∧ R (.lst (xs.map fst0)) et
theorem firsts_ok (args : List PV) (et : Hi) (R : PV → Hi → Prop) (h : spFirsts args et R) : r_firsts (env0 N_firsts args) et (retK R) := by
  obtain ⟨xs, rfl, hl, hx, hR⟩ := h
  show r_firsts [.val (.tup xs), .no] et (retK R)
  unfold r_firsts
  simp! [itemsP]
  refine lc_pure fst0 rfl hl (fun p hp => ?_) hR
  obtain ⟨y, r, rfl⟩ := hx p hp
  refine ⟨_, rfl, fun Q hQ => ?_⟩
  simp!
  exact hQ
def tupB (k : Nat) : PV → Bool
  | .tup xs => decide (xs.length = k)
  | _ => false
def spTup : FSpec := fun args et R => ∃ (p : PV) (k : Nat), args = [p, .int k] ∧ fitP p = true ∧ R (.bl (tupB k p)) et
theorem tuple_ok (args : List PV) (et : Hi) (R : PV → Hi → Prop) (h : spTup args et R) : r_is_tuple_of (env0 N_is_tuple_of args) et (retK R) := by
  obtain ⟨p, k, rfl, hp, hR⟩ := h
  show r_is_tuple_of [.val p, .val (.int k)] et (retK R)
  unfold r_is_tuple_of
  have hd := fit_deref (et := et) hp
  simp! [hd, isi_tup hp]
  cases p with
  | tup xs =>
    have hlen : gLen [.tup xs] = some (.int xs.length) := rfl
    simp! [hlen]
    have e : decide ((xs.length : Int) = k) = tupB k (.tup xs) := by unfold tupB; rw [Bool.eq_iff_iff]; simp; omega
    rw [e]; exact hR
  | _ => first | (cases hp; done) | (simp!; exact hR)
theorem cut1 {α : Type} (xs : List α) : cutP xs (some 1) none = xs.drop 1 := by
  have e1 : HT.sIx xs.length 0 (some 1) = min 1 xs.length := by
    unfold HT.sIx
    simp
  have e2 : HT.sIx xs.length xs.length none = xs.length := rfl
  unfold cutP
  rw [e1, e2]
  cases xs with
  | nil => rfl
  | cons x r => simp
theorem bls_mapA {α : Type} (f : α → Bool) (xs : List α) : bls (xs.map fun p => .bl (f p)) = some (xs.map f) := by
  induction xs with
  | nil => rfl
  | cons x xs ih => rw [List.map_cons, List.map_cons]; simp [bls, ih]
def risB (ws : List Str) : Bool := (ws.zip (ws.drop 1)).all fun p => decide (p.1.cps.toList < p.2.cps.toList)
def spRis : FSpec := fun args et R => ∃ ws : List Str, args = [.lst (ws.map .str)] ∧ ws.length ≤ sizeLine ∧ R (.bl (risB ws)) et
theorem rising_ok (args : List PV) (et : Hi) (R : PV → Hi → Prop) (h : spRis args et R) : r_is_rising (env0 N_is_rising args) et (retK R) := by
  obtain ⟨ws, rfl, hl, hR⟩ := h
  show r_is_rising [.val (.lst (ws.map .str)), .no, .no] et (retK R)
  unfold r_is_rising
  simp! [gSlA]
  rw [cut1, ← List.map_drop]
  have ez : zipP (ws.map PV.str) ((ws.drop 1).map .str) = (ws.zip (ws.drop 1)).map fun p => PV.tup [.str p.1, .str p.2] := by
    unfold zipP
    rw [List.zip_map, List.map_map]
    rfl
  refine ⟨_, _, _, _, rfl, .inl ⟨rfl, rfl⟩, ?_⟩
  rw [ez]
  have hz : (ws.zip (ws.drop 1)).length ≤ sizeLine := by rw [List.length_zip]; omega
  refine lc_pure (fun p => match p with | .tup [.str a, .str b] => .bl (decide (a.cps.toList < b.cps.toList)) | _ => .non) (by first | rfl | (simp only [List.map_cons, List.map_nil]; rfl)) (by rw [List.length_map]; exact hz) (fun p hp => ?_) ?_
  · obtain ⟨⟨a, b⟩, hq, rfl⟩ := List.mem_map.mp hp
    refine ⟨_, rfl, fun Q hQ => ?_⟩
    simp!
    exact hQ
  · rw [List.map_map]
    refine ⟨.bl (risB ws), ?_, hR⟩
    show (bls (List.map (fun p : Str × Str => PV.bl (decide (p.1.cps.toList < p.2.cps.toList))) (ws.zip (ws.drop 1)))).map _ = _
    rw [bls_mapA fun p : Str × Str => decide (p.1.cps.toList < p.2.cps.toList)]
    simp only [Option.map_some, risB, List.all_map]
    rfl
def placeB (k : Nat) : PV → Bool
  | .int i => decide (0 ≤ i) && decide (i ≤ k)
  | _ => false
def spPlace : FSpec := fun args et R => ∃ (p : PV) (k : Nat), args = [p, .int k] ∧ fitP p = true ∧ R (.bl (placeB k p)) et
theorem place_ok (args : List PV) (et : Hi) (R : PV → Hi → Prop) (h : spPlace args et R) : r_is_place (env0 N_is_place args) et (retK R) := by
  obtain ⟨p, k, rfl, hp, hR⟩ := h
  show r_is_place [.val p, .val (.int k)] et (retK R)
  unfold r_is_place
  have hd := fit_deref (et := et) hp
  simp! [hd, isi_int hp, isi_bool hp]
  cases p with
  | int i =>
    simp!
    by_cases h1 : (0 : Int) ≤ i
    · simp only [h1, decide_true, if_true]
      have : placeB k (.int i) = decide (i ≤ k) := by simp [placeB, h1]
      rw [this] at hR
      exact hR
    · simp only [h1, decide_false, Bool.false_eq_true, if_false]
      have : placeB k (.int i) = false := by simp [placeB, h1]
      rw [this] at hR
      exact hR
  | _ => first | (cases hp; done) | (simp!; exact hR)
def nonB : PV → Bool
  | .non => true
  | _ => false
def partB (form : Str) (k : Nat) (p : PV) : Bool := if form = "word" then wordB p else if form = "sum" then sumIn 5 p else if form = "place" then placeB k p else nonB p || wordB p
def spPart : FSpec := fun args et R => ∃ (p : PV) (form : Str) (k : Nat), args = [p, .str form, .int k] ∧ fits 5 p = true ∧ R (.bl (partB form k p)) et
theorem gIs_non {p : PV} (h : fitP p = true) : gIs p .non = some (.bl (nonB p)) := by cases p <;> first | rfl | cases h
theorem part_ok (args : List PV) (et : Hi) (R : PV → Hi → Prop) (h : spPart args et R) : r_is_part spWord spIsSum spPlace (env0 N_is_part args) et (retK R) := by
  obtain ⟨p, form, k, rfl, hf, hR⟩ := h
  show r_is_part _ _ _ [.val p, .val (.str form), .val (.int k)] et (retK R)
  have hp := fits_fit hf
  have hd := fit_deref (et := et) hp
  unfold r_is_part
  simp!
  unfold partB at hR
  by_cases h1 : form = "word"
  · simp only [h1, decide_true, if_true] at hR ⊢
    unfold r_is_part_0
    simp!
    exact ⟨p, rfl, hp, hR⟩
  simp only [h1, decide_false, Bool.false_eq_true, if_false] at hR ⊢
  unfold r_is_part_1
  simp!
  by_cases h2 : form = "sum"
  · simp only [h2, decide_true, if_true] at hR ⊢
    unfold r_is_part_2
    simp!
    exact ⟨p, rfl, hf, hR⟩
  simp only [h2, decide_false, Bool.false_eq_true, if_false] at hR ⊢
  unfold r_is_part_3
  simp!
  by_cases h3 : form = "place"
  · simp only [h3, decide_true, if_true] at hR ⊢
    unfold r_is_part_4
    simp!
    exact ⟨p, k, rfl, hp, hR⟩
  simp only [h3, decide_false, Bool.false_eq_true, if_false] at hR ⊢
  unfold r_is_part_5
  simp! [hd, gIs_non hp]
  cases hn : nonB p with
  | true => simp only [if_true]; rw [hn] at hR; exact hR
  | false => simp only [Bool.false_eq_true, if_false]; rw [hn] at hR; exact ⟨p, rfl, hp, hR⟩
def rowB (k : Nat) : PV → Bool
  | .tup (.str w :: r) => match tt_FORMS.lookup w with
    | some fs => decide (r.length = fs.length) && (r.zip fs).all fun x => partB x.2 k x.1
    | none => false
  | _ => false
def spRow : FSpec := fun args et R => ∃ (p : PV) (k : Nat), args = [p, .int k] ∧ fits 6 p = true ∧ R (.bl (rowB k p)) et
theorem fits_tup {n : Nat} {xs : List PV} (h : fits (n + 1) (.tup xs) = true) : xs.length ≤ sizeLine ∧ ∀ x ∈ xs, fits n x = true := by
  simpa [fits] using h
theorem row_ok (args : List PV) (et : Hi) (R : PV → Hi → Prop) (h : spRow args et R) : r_is_row spPart (env0 N_is_row args) et (retK R) := by
  obtain ⟨p, k, rfl, hf, hR⟩ := h
  show r_is_row _ [.val p, .val (.int k), .no, .no, .no] et (retK R)
  have hp := fits_fit hf
  have hd := fit_deref (et := et) hp
  have no : rowB k p = false → r_is_row_0 [.val p, .val (.int k), .no, .no, .no] et (retK R) := fun e => by
    unfold r_is_row_0
    simp!
    rw [e] at hR; exact hR
  unfold r_is_row
  simp! [hd, isi_tup hp]
  cases p with
  | tup xs =>
    have hlen : gLen [.tup xs] = some (.int xs.length) := rfl
    obtain ⟨hl, hx⟩ := fits_tup hf
    simp! [hlen]
    cases xs with
    | nil =>
      simp!
      exact no rfl
    | cons x r =>
      have h0 : ¬ (((r.length + 1 : Nat) : Int) = 0) := by omega
      have hix : gIx (.tup (x :: r)) (.int 0) = some x := atI_c0 _ _
      have hfx := hx x (List.mem_cons_self ..)
      have hpx := fits_fit hfx
      have hdx := fit_deref (et := et) hpx
      simp! [h0, decide_false, hdx, isi_str hpx]
      cases x with
      | str w =>
        have hgl : deref et (.glo "FORMS") = .glo "FORMS" := rfl
        simp! [hgl, gInTab]
        cases e : tt_FORMS.lookup w with
        | none =>
          simp only [Option.isSome_none, Bool.xor_false, if_true]
          refine no ?_
          simp only [rowB, e]
        | some fs =>
          simp only [Option.isSome_some, Bool.xor_self, Bool.false_eq_true, if_false]
          unfold r_is_row_1
          simp!
          simp! [mTabT]
          refine ⟨w, fs, rfl, e, ?_⟩
          unfold r_is_row_2
          have hlen1 : gLen [.tup (.str w :: r)] = some (.int ((r.length + 1 : Nat) : Int)) := rfl
          have hlen2 : gLen [.tup (fs.map PV.str)] = some (.int (fs.length : Nat)) := by show some (PV.int ((fs.map PV.str).length)) = _; rw [List.length_map]
          simp! [hlen1, hlen2]
          by_cases h2 : r.length = fs.length
          · have h3 : ((r.length + 1 : Nat) : Int) = 1 + (fs.length : Nat) := by omega
            simp only [h3, decide_true, Bool.not_true, Bool.false_eq_true, if_false]
            unfold r_is_row_4
            simp! [gSlA, cut1, List.drop_one, List.tail_cons]
            refine ⟨_, _, _, _, rfl, .inr ⟨rfl, rfl⟩, ?_⟩
            have ez : zipP r (fs.map .str) = (r.zip fs).map fun p => PV.tup [p.1, .str p.2] := by
              unfold zipP
              rw [List.zip_map_right, List.map_map]
              rfl
            rw [ez]
            have hrl : r.length ≤ sizeLine := by simp only [List.length_cons] at hl; omega
            have hz : (r.zip fs).length ≤ sizeLine := by rw [List.length_zip]; omega
            refine lc_pure (fun p => match p with | .tup [a, .str b] => .bl (partB b k a) | _ => .non) (by first | rfl | (simp only [List.map_cons, List.map_nil]; rfl)) (by rw [List.length_map]; exact hz) (fun p hp => ?_) ?_
            · obtain ⟨⟨a, b⟩, hq, rfl⟩ := List.mem_map.mp hp
              have ha : a ∈ r := (List.of_mem_zip hq).1
              refine ⟨_, rfl, fun Q hQ => ?_⟩
              simp!
              exact ⟨a, b, k, rfl, hx a (List.mem_cons_of_mem _ ha), hQ⟩
            · rw [List.map_map]
              refine ⟨.bl (rowB k (.tup (.str w :: r))), ?_, hR⟩
              show (bls (List.map (fun p : PV × Str => PV.bl (partB p.2 k p.1)) (r.zip fs))).map _ = _
              rw [bls_mapA fun p : PV × Str => partB p.2 k p.1]
              simp only [Option.map_some, rowB, e, h2, decide_true, Bool.true_and, List.all_map]
              rfl
          · have h3 : ¬ ((r.length + 1 : Nat) : Int) = 1 + (fs.length : Nat) := by omega
            simp only [h3, decide_false, Bool.not_false, if_true]
            unfold r_is_row_3
            simp!
            have : rowB k (.tup (.str w :: r)) = false := by simp only [rowB, e, h2, decide_false, Bool.false_and]
            rw [this] at hR; exact hR
      | _ => first | (cases hpx; done) | (simp!; exact no rfl)
  | _ => first | (cases hp; done) | (simp!; exact no rfl)
def progB : PV → Bool
  | .tup rs => decide (1 ≤ rs.length) && decide (rs.length ≤ 40) && rs.all (rowB rs.length)
  | _ => false
def spProg : FSpec := fun args et R => ∃ (p : PV), args = [p] ∧ fits 7 p = true ∧ R (.bl (progB p)) et
theorem prog_ok (args : List PV) (et : Hi) (R : PV → Hi → Prop) (h : spProg args et R) : r_is_program spRow (env0 N_is_program args) et (retK R) := by
  obtain ⟨p, rfl, hf, hR⟩ := h
  show r_is_program _ [.val p, .no] et (retK R)
  have hp := fits_fit hf
  have hd := fit_deref (et := et) hp
  have no : progB p = false → r_is_program_0 [.val p, .no] et (retK R) := fun e => by
    unfold r_is_program_0
    simp!
    rw [e] at hR; exact hR
  unfold r_is_program
  simp! [hd, isi_tup hp]
  cases p with
  | tup xs =>
    have hlen : gLen [.tup xs] = some (.int xs.length) := rfl
    obtain ⟨hl, hx⟩ := fits_tup hf
    simp! [hlen]
    by_cases h1 : (1 : Int) ≤ xs.length
    · simp only [h1, decide_true, if_true]
      by_cases h2 : (xs.length : Int) ≤ 40
      · simp only [h2, decide_true, Bool.not_true, Bool.false_eq_true, if_false]
        unfold r_is_program_1
        simp! [itemsP]
        refine lc_pure (fun p => .bl (rowB xs.length p)) rfl hl (fun p hp => ?_) ?_
        · refine ⟨_, rfl, fun Q hQ => ?_⟩
          simp! [hlen]
          exact ⟨p, xs.length, rfl, hx p hp, hQ⟩
        · refine ⟨.bl (progB (.tup xs)), ?_, hR⟩
          show (bls (List.map (fun p => PV.bl (rowB xs.length p)) xs)).map _ = _
          have g1 : 1 ≤ xs.length := by omega
          have g2 : xs.length ≤ 40 := by omega
          rw [bls_mapA fun p => rowB xs.length p]
          simp only [Option.map_some, progB, g1, g2, decide_true, Bool.true_and, List.all_map]
          rfl
      · simp only [h2, decide_false, Bool.not_false, if_true]
        have g2 : ¬ xs.length ≤ 40 := by omega
        exact no (by simp [progB, g2])
    · simp only [h1, decide_false, Bool.false_eq_true, if_false, Bool.not_false, if_true]
      have g1 : ¬ 1 ≤ xs.length := by omega
      exact no (by simp [progB, g1])
  | _ => first | (cases hp; done) | (simp!; exact no rfl)
theorem fits_le : ∀ {n : Nat} {p : PV}, fits (n + 1) p = true → fits n p = true
  | 0, p, h => by cases p <;> first | exact h | rfl
  | n + 1, .tup xs, h => by
    obtain ⟨h1, h2⟩ := fits_tup h
    simp only [fits, h1, decide_true, Bool.true_and, List.all_eq_true]
    exact fun x hx => fits_le (h2 x hx)
  | n + 1, .non, h => h
  | n + 1, .bl _, h => h
  | n + 1, .int _, h => h
  | n + 1, .str _, h => h
  | n + 1, .lst _, h => h
  | n + 1, .dic _, h => h
  | n + 1, .scr _, h => h
  | n + 1, .ref _, h => h
  | n + 1, .glo _, h => h
  | n + 1, .ty _, h => h
  | n + 1, .dik _, h => h
theorem fits_mono {n m : Nat} {p : PV} (hm : m ≤ n) (h : fits n p = true) : fits m p = true := by
  induction hm with
  | refl => exact h
  | step _ ih => exact ih (fits_le h)
theorem tup2 {p : PV} (h : tupB 2 p = true) : ∃ a b, p = .tup [a, b] := by
  cases p with
  | tup xs =>
    simp only [tupB, decide_eq_true_eq] at h
    match xs, h with
    | [a, b], _ => exact ⟨a, b, rfl⟩
  | _ => cases h
theorem tup2n {p : PV} (h : tupB 2 p = false) (a b : PV) : p ≠ .tup [a, b] := fun e => by subst e; cases h
def nm0 : PV → Str
  | .tup (.str x :: _) => x
  | _ => ""
def passB : PV → Bool
  | .tup [a, v] => wordB a && valB v
  | _ => false
def spPass : FSpec := spPure (fun p => .bl (passB p)) (fits 1)
theorem pass_ok (args : List PV) (et : Hi) (R : PV → Hi → Prop) (h : spPass args et R) : r_is_pass spValue spWord spTup (env0 N_is_pass args) et (retK R) := by
  obtain ⟨p, rfl, hf, hR⟩ := h
  have hR : R (.bl (passB p)) et := hR
  show r_is_pass _ _ _ [.val p] et (retK R)
  unfold r_is_pass
  simp!
  refine ⟨p, 2, rfl, fits_fit hf, _, rfl, ?_⟩
  cases ht : tupB 2 p with
  | false =>
    simp only [Bool.false_eq_true, if_false]
    have : passB p = false := by
      unfold passB
      split
      · exact absurd rfl (tup2n ht _ _)
      · rfl
    rw [this] at hR; exact hR
  | true =>
    obtain ⟨a, v, rfl⟩ := tup2 ht
    obtain ⟨_, hx⟩ := fits_tup hf
    simp!
    refine ⟨a, rfl, hx a (by simp), _, rfl, ?_⟩
    cases hw : wordB a with
    | false => simp only [Bool.false_eq_true, if_false]; simp only [passB, hw, Bool.false_and] at hR; exact hR
    | true => simp only [if_true]; simp only [passB, hw, Bool.true_and] at hR; exact ⟨v, rfl, hx v (by simp), hR⟩
def bellB : PV → Bool
  | .tup [a, .str s] => wordB a && (decide (s = "row") || decide (s = "turns"))
  | _ => false
def spBell : FSpec := spPure (fun p => .bl (bellB p)) (fits 1)
theorem in_two (s x y : Str) : gIn (.str s) (.tup [.str x, .str y]) = some (.bl (decide (s = x) || decide (s = y))) := by
  show some (PV.bl ([PV.str x, .str y].any fun z => eqP z (.str s))) = _
  have e1 : ∀ z : Str, eqP (.str z) (.str s) = decide (s = z) := fun z => by show decide (z = s) = _; rw [Bool.eq_iff_iff]; simp [eq_comm]
  simp only [List.any_cons, List.any_nil, e1, Bool.or_false]
theorem bell_ok (args : List PV) (et : Hi) (R : PV → Hi → Prop) (h : spBell args et R) : r_is_bell spWord spTup (env0 N_is_bell args) et (retK R) := by
  obtain ⟨p, rfl, hf, hR⟩ := h
  have hR : R (.bl (bellB p)) et := hR
  show r_is_bell _ _ [.val p] et (retK R)
  unfold r_is_bell
  simp!
  refine ⟨p, 2, rfl, fits_fit hf, _, rfl, ?_⟩
  cases ht : tupB 2 p with
  | false =>
    simp only [Bool.false_eq_true, if_false]
    have : bellB p = false := by
      unfold bellB
      split
      · exact absurd rfl (tup2n ht _ _)
      · rfl
    rw [this] at hR; exact hR
  | true =>
    obtain ⟨a, v, rfl⟩ := tup2 ht
    obtain ⟨_, hx⟩ := fits_tup hf
    simp!
    refine ⟨a, rfl, hx a (by simp), _, rfl, ?_⟩
    have hv : fitP v = true := hx v (by simp)
    cases hw : wordB a with
    | false =>
      simp only [Bool.false_eq_true, if_false]
      have : bellB (.tup [a, v]) = false := by cases v <;> first | rfl | simp [bellB, hw]
      rw [this] at hR; exact hR
    | true =>
      have hdv := fit_deref (et := et) hv
      simp! [hdv, isi_str hv]
      cases v with
      | str s =>
        simp! [in_two]
        simp only [bellB, hw, Bool.true_and] at hR
        exact hR
      | _ => first | (cases hv; done) | (simp!; exact hR)
def deedB : PV → Bool
  | .tup [a, p] => wordB a && progB p
  | _ => false
def spDeed : FSpec := spPure (fun p => .bl (deedB p)) (fits 8)
theorem deed_ok (args : List PV) (et : Hi) (R : PV → Hi → Prop) (h : spDeed args et R) : r_is_deed spProg spWord spTup (env0 N_is_deed args) et (retK R) := by
  obtain ⟨p, rfl, hf, hR⟩ := h
  have hR : R (.bl (deedB p)) et := hR
  show r_is_deed _ _ _ [.val p] et (retK R)
  unfold r_is_deed
  simp!
  refine ⟨p, 2, rfl, fits_fit hf, _, rfl, ?_⟩
  cases ht : tupB 2 p with
  | false =>
    simp only [Bool.false_eq_true, if_false]
    have : deedB p = false := by
      unfold deedB
      split
      · exact absurd rfl (tup2n ht _ _)
      · rfl
    rw [this] at hR; exact hR
  | true =>
    obtain ⟨a, v, rfl⟩ := tup2 ht
    obtain ⟨_, hx⟩ := fits_tup hf
    simp!
    refine ⟨a, rfl, fits_fit (hx a (by simp)), _, rfl, ?_⟩
    cases hw : wordB a with
    | false => simp only [Bool.false_eq_true, if_false]; simp only [deedB, hw, Bool.false_and] at hR; exact hR
    | true => simp only [if_true]; simp only [deedB, hw, Bool.true_and] at hR; exact ⟨v, rfl, hx v (by simp), hR⟩
def passesB (m : Nat) : PV → Bool
  | .tup xs => decide (xs.length ≤ m) && xs.all passB && risB (xs.map nm0)
  | _ => false
def spPasses : FSpec := fun args et R => ∃ (p : PV) (m : Nat), args = [p, .int m] ∧ fits 2 p = true ∧ R (.bl (passesB m p)) et
theorem wordB_str {p : PV} (h : wordB p = true) : ∃ x, p = .str x ∧ isWord x = true := by
  cases p with
  | str x => exact ⟨x, rfl, h⟩
  | _ => cases h
theorem passB_is {p : PV} (h : passB p = true) : ∃ x v, p = .tup [.str x, v] ∧ isWord x = true ∧ valB v = true := by
  unfold passB at h
  split at h
  · rw [Bool.and_eq_true] at h
    obtain ⟨x, rfl, hw⟩ := wordB_str h.1
    exact ⟨x, _, rfl, hw, h.2⟩
  · cases h
theorem bellB_is {p : PV} (h : bellB p = true) : ∃ x s, p = .tup [.str x, .str s] ∧ isWord x = true ∧ (s = "row" ∨ s = "turns") := by
  unfold bellB at h
  split at h
  · rw [Bool.and_eq_true] at h
    obtain ⟨x, rfl, hw⟩ := wordB_str h.1
    exact ⟨x, _, rfl, hw, by simpa using h.2⟩
  · cases h
theorem deedB_is {p : PV} (h : deedB p = true) : ∃ x q, p = .tup [.str x, q] ∧ isWord x = true ∧ progB q = true := by
  unfold deedB at h
  split at h
  · rw [Bool.and_eq_true] at h
    obtain ⟨x, rfl, hw⟩ := wordB_str h.1
    exact ⟨x, _, rfl, hw, h.2⟩
  · cases h
def Named (p : PV) : Prop := ∃ x r, p = .tup (.str x :: r)
theorem firsts_named {xs : List PV} (h : ∀ x ∈ xs, Named x) : xs.map fst0 = (xs.map nm0).map .str := by
  rw [List.map_map]
  refine List.map_congr_left fun x hx => ?_
  obtain ⟨y, r, rfl⟩ := h x hx
  rfl
theorem named_first {xs : List PV} (h : ∀ x ∈ xs, Named x) : ∀ x ∈ xs, ∃ y r, x = .tup (y :: r) := fun x hx => by
  obtain ⟨y, r, e⟩ := h x hx
  exact ⟨_, r, e⟩
theorem passes_ok (args : List PV) (et : Hi) (R : PV → Hi → Prop) (h : spPasses args et R) : r_are_passes spPass spRis spFirsts (env0 N_are_passes args) et (retK R) := by
  obtain ⟨p, m, rfl, hf, hR⟩ := h
  show r_are_passes _ _ _ [.val p, .val (.int m), .no] et (retK R)
  have hp := fits_fit hf
  have hd := fit_deref (et := et) hp
  have no : passesB m p = false → r_are_passes_0 [.val p, .val (.int m), .no] et (retK R) := fun e => by
    unfold r_are_passes_0
    simp!
    rw [e] at hR; exact hR
  unfold r_are_passes
  simp! [hd, isi_tup hp]
  cases p with
  | tup xs =>
    have hlen : gLen [.tup xs] = some (.int xs.length) := rfl
    obtain ⟨hl, hx⟩ := fits_tup hf
    simp! [hlen]
    by_cases h1 : (m : Int) < xs.length
    · simp only [h1, decide_true, if_true]
      have g1 : ¬ xs.length ≤ m := by omega
      exact no (by simp [passesB, g1])
    · simp only [h1, decide_false, Bool.false_eq_true, if_false]
      have g1 : xs.length ≤ m := by omega
      simp! [itemsP]
      refine lc_pure (fun p => .bl (passB p)) rfl hl (fun p hp => ?_) ?_
      · refine ⟨_, rfl, fun Q hQ => ?_⟩
        simp!
        exact ⟨p, rfl, hx p hp, hQ⟩
      · refine ⟨.bl (xs.all passB), ?_, ?_⟩
        · show (bls (List.map (fun p => PV.bl (passB p)) xs)).map _ = _
          rw [bls_mapA passB]
          simp only [Option.map_some, List.all_map]
          rfl
        · cases ha : xs.all passB with
          | false =>
            simp!
            exact no (by simp [passesB, ha])
          | true =>
            simp!
            unfold r_are_passes_1
            have hn : ∀ x ∈ xs, Named x := fun x hx => by
              obtain ⟨y, v, e, _⟩ := passB_is (List.all_eq_true.mp ha x hx)
              exact ⟨y, _, e⟩
            simp!
            refine ⟨xs, rfl, hl, named_first hn, xs.map nm0, by rw [firsts_named hn], by rw [List.length_map]; exact hl, ?_⟩
            simp only [passesB, ha, g1, decide_true, Bool.true_and] at hR
            exact hR
  | _ => first | (cases hp; done) | (simp!; exact no rfl)
def thingsB (m : Nat) (p : PV) : Bool := passesB m p && (match p with | .tup xs => !decide (("given" : Str) ∈ xs.map nm0) | _ => false)
def spThings : FSpec := fun args et R => ∃ (p : PV) (m : Nat), args = [p, .int m] ∧ fits 2 p = true ∧ R (.bl (thingsB m p)) et
theorem in_strs (x : Str) (ws : List Str) : gIn (.str x) (.lst (ws.map .str)) = some (.bl (decide (x ∈ ws))) := by
  have e : inB (.str x) (.lst (ws.map .str)) = some ((ws.map PV.str).any fun y => eqP y (.str x)) := by
    show (if flatP (.str x) = true ∧ (ws.map PV.str).all flatP = true then _ else _) = _
    exact if_pos ⟨rfl, by rw [List.all_map]; exact List.all_eq_true.mpr fun _ _ => rfl⟩
  unfold gIn
  rw [e, Option.map_some]
  congr 2
  rw [List.any_map, Bool.eq_iff_iff]
  simp only [List.any_eq_true, Function.comp, decide_eq_true_eq]
  constructor
  · rintro ⟨y, hy, h⟩
    have : decide (y = x) = true := h
    rw [decide_eq_true_eq] at this
    exact this ▸ hy
  · exact fun h => ⟨x, h, show decide (x = x) = true by simp⟩
theorem notIn_strs (x : Str) (ws : List Str) : gNotIn (.str x) (.lst (ws.map .str)) = some (.bl (!decide (x ∈ ws))) := by
  have h := in_strs x ws
  unfold gIn at h
  unfold gNotIn
  cases e : inB (.str x) (.lst (ws.map .str)) with
  | none => rw [e] at h; cases h
  | some b => rw [e, Option.map_some] at h; cases h; rfl
theorem things_ok (args : List PV) (et : Hi) (R : PV → Hi → Prop) (h : spThings args et R) : r_are_things spFirsts spPasses (env0 N_are_things args) et (retK R) := by
  obtain ⟨p, m, rfl, hf, hR⟩ := h
  show r_are_things _ _ [.val p, .val (.int m)] et (retK R)
  unfold r_are_things
  simp!
  refine ⟨p, m, rfl, hf, _, rfl, ?_⟩
  unfold thingsB at hR
  cases hp : passesB m p with
  | false => simp only [Bool.false_eq_true, if_false]; rw [hp, Bool.false_and] at hR; exact hR
  | true =>
    cases p with
    | tup xs =>
      rw [hp, Bool.true_and] at hR
      simp!
      have hp' := hp
      simp only [passesB, Bool.and_eq_true] at hp'
      have hn : ∀ x ∈ xs, Named x := fun x hx => by
        obtain ⟨y, v, e, _⟩ := passB_is (List.all_eq_true.mp hp'.1.2 x hx)
        exact ⟨y, _, e⟩
      refine ⟨xs, rfl, (fits_tup hf).1, named_first hn, ?_⟩
      simp! [firsts_named hn, notIn_strs]
      exact hR
    | _ => cases hp
theorem tup5 {p : PV} (h : tupB 5 p = true) : ∃ a b c d e, p = .tup [a, b, c, d, e] := by
  cases p with
  | tup xs =>
    simp only [tupB, decide_eq_true_eq] at h
    match xs, h with
    | [a, b, c, d, e], _ => exact ⟨a, b, c, d, e, rfl⟩
  | _ => cases h
theorem tup4 {p : PV} (h : tupB 4 p = true) : ∃ a b c d, p = .tup [a, b, c, d] := by
  cases p with
  | tup xs =>
    simp only [tupB, decide_eq_true_eq] at h
    match xs, h with
    | [a, b, c, d], _ => exact ⟨a, b, c, d, rfl⟩
  | _ => cases h
theorem notIn_two (s x y : Str) : gNotIn (.str s) (.tup [.str x, .str y]) = some (.bl (!(decide (s = x) || decide (s = y)))) := by
  have h := in_two s x y
  unfold gIn at h
  unfold gNotIn
  cases e : inB (.str s) (.tup [.str x, .str y]) with
  | none => rw [e] at h; cases h
  | some b => rw [e, Option.map_some] at h; cases h; rfl
def roomB : PV → Bool
  | .tup [a, .str m, t, .tup bs, .tup ds] => wordB a && (decide (m = "at once") || decide (m = "when free")) && thingsB 4 t && decide (bs.length ≤ 3) && (decide (1 ≤ ds.length) && decide (ds.length ≤ 4)) && bs.all bellB && ds.all deedB && (risB (bs.map nm0) && risB (ds.map nm0))
  | _ => false
def spRoom : FSpec := fun args et R => ∃ p : PV, args = [p] ∧ fits 10 p = true ∧ R (.bl (roomB p)) et
theorem room_ok (args : List PV) (et : Hi) (R : PV → Hi → Prop) (h : spRoom args et R) : r_is_room spWord spTup spThings spDeed spBell spRis spFirsts (env0 N_is_room args) et (retK R) := by
  obtain ⟨p, rfl, hf, hR⟩ := h
  show r_is_room _ _ _ _ _ _ _ [.val p, .no, .no, .no, .no, .no, .no] et (retK R)
  have no : roomB p = false → r_is_room_0 [.val p, .no, .no, .no, .no, .no, .no] et (retK R) := fun e => by
    unfold r_is_room_0
    simp!
    rw [e] at hR; exact hR
  unfold r_is_room
  simp!
  refine ⟨p, 5, rfl, fits_fit hf, _, rfl, ?_⟩
  cases ht : tupB 5 p with
  | false =>
    simp!
    refine no ?_
    unfold roomB
    split
    · cases ht
    · rfl
  | true =>
    obtain ⟨a, m, t, b, d, rfl⟩ := tup5 ht
    obtain ⟨_, hx⟩ := fits_tup hf
    have fa := fits_fit (hx a (by simp))
    have fm := fits_fit (hx m (by simp))
    have fb := fits_fit (hx b (by simp))
    have fd := fits_fit (hx d (by simp))
    have hdm := fit_deref (et := et) fm
    simp!
    refine ⟨a, rfl, fa, _, rfl, ?_⟩
    cases hw : wordB a with
    | false =>
      simp!
      refine no ?_
      unfold roomB
      split
      · rename_i e; cases e; simp [hw]
      · rfl
    | true =>
      simp! [hdm, isi_str fm]
      cases m with
      | str s =>
        simp! [notIn_two]
        cases hm : (decide (s = "at once") || decide (s = "when free")) with
        | false =>
          simp!
          refine no ?_
          unfold roomB
          split
          · rename_i e; cases e; simp [hm]
          · rfl
        | true =>
          simp!
          unfold r_is_room_1
          simp!
          have no3 : roomB (.tup [a, .str s, t, b, d]) = false → r_is_room_3 [.val (.tup [a, .str s, t, b, d]), .val a, .val (.str s), .val t, .val b, .val d, .no] et (retK R) := fun e => by
            unfold r_is_room_3
            simp!
            rw [e] at hR; exact hR
          refine ⟨_, rfl, ?_⟩
          unfold r_is_room_2
          simp!
          have hdb := fit_deref (et := et) fb
          have hdd := fit_deref (et := et) fd
          refine ⟨t, 4, rfl, fits_mono (by omega) (hx t (by simp)), _, rfl, ?_⟩
          cases hts : thingsB 4 t with
          | false =>
            simp!
            refine no3 ?_
            unfold roomB
            split
            · rename_i e; cases e; simp [hts]
            · rfl
          | true =>
            simp! [hdb, isi_tup fb]
            cases b with
            | tup bs =>
              simp! [hdd, isi_tup fd]
              cases d with
              | tup ds =>
                simp!
                obtain ⟨lb, xb⟩ := fits_tup (hx (.tup bs) (by simp))
                obtain ⟨ld, xd⟩ := fits_tup (hx (.tup ds) (by simp))
                have lenb : gLen [.tup bs] = some (.int bs.length) := rfl
                have lend : gLen [.tup ds] = some (.int ds.length) := rfl
                have no5 : roomB (.tup [a, .str s, t, .tup bs, .tup ds]) = false → r_is_room_5 [.val (.tup [a, .str s, t, .tup bs, .tup ds]), .val a, .val (.str s), .val t, .val (.tup bs), .val (.tup ds), .no] et (retK R) := fun e => by
                  unfold r_is_room_5
                  simp!
                  rw [e] at hR; exact hR
                have no7 : roomB (.tup [a, .str s, t, .tup bs, .tup ds]) = false → r_is_room_7 [.val (.tup [a, .str s, t, .tup bs, .tup ds]), .val a, .val (.str s), .val t, .val (.tup bs), .val (.tup ds), .no] et (retK R) := fun e => by
                  unfold r_is_room_7
                  simp!
                  rw [e] at hR; exact hR
                simp only [roomB, hw, hm, hts, Bool.true_and] at hR no5 no7
                unfold r_is_room_4
                simp! [lenb, lend]
                by_cases h1 : (3 : Int) < bs.length
                · have g1 : ¬ bs.length ≤ 3 := by omega
                  simp only [h1, decide_true, if_true]
                  exact no5 (by simp [g1])
                have g1 : bs.length ≤ 3 := by omega
                simp only [h1, decide_false, Bool.false_eq_true, if_false]
                by_cases h2 : (1 : Int) ≤ ds.length
                · simp only [h2, decide_true, if_true]
                  by_cases h3 : (ds.length : Int) ≤ 4
                  · simp only [h3, decide_true, Bool.not_true, Bool.false_eq_true, if_false]
                    have g2 : 1 ≤ ds.length := by omega
                    have g3 : ds.length ≤ 4 := by omega
                    simp only [g1, g2, g3, decide_true, Bool.true_and] at hR no7
                    unfold r_is_room_6
                    simp! [itemsP]
                    refine lc_pure (fun p => .bl (bellB p)) rfl lb (fun p hp => ⟨_, rfl, fun Q hQ => ?_⟩) ⟨.bl (bs.all bellB), ?_, ?_⟩
                    · simp!
                      exact ⟨p, rfl, fits_mono (by omega) (xb p hp), hQ⟩
                    · show (bls (List.map (fun p => PV.bl (bellB p)) bs)).map _ = _
                      rw [bls_mapA bellB]
                      simp only [Option.map_some, List.all_map]
                      rfl
                    cases hab : bs.all bellB with
                    | false => simp!; exact no7 (by simp [hab])
                    | true =>
                      simp only [hab, Bool.true_and] at hR no7
                      simp! [itemsP]
                      refine lc_pure (fun p => .bl (deedB p)) rfl ld (fun p hp => ⟨_, rfl, fun Q hQ => ?_⟩) ⟨.bl (ds.all deedB), ?_, ?_⟩
                      · simp!
                        exact ⟨p, rfl, xd p hp, hQ⟩
                      · show (bls (List.map (fun p => PV.bl (deedB p)) ds)).map _ = _
                        rw [bls_mapA deedB]
                        simp only [Option.map_some, List.all_map]
                        rfl
                      cases had : ds.all deedB with
                      | false => simp!; exact no7 (by simp [had])
                      | true =>
                        simp only [had, Bool.true_and] at hR
                        simp!
                        unfold r_is_room_8
                        have nb : ∀ x ∈ bs, Named x := fun x hx => by
                          obtain ⟨y, v, e, _⟩ := bellB_is (List.all_eq_true.mp hab x hx)
                          exact ⟨y, _, e⟩
                        have nd : ∀ x ∈ ds, Named x := fun x hx => by
                          obtain ⟨y, v, e, _⟩ := deedB_is (List.all_eq_true.mp had x hx)
                          exact ⟨y, _, e⟩
                        simp!
                        refine ⟨bs, rfl, lb, named_first nb, bs.map nm0, by rw [firsts_named nb], by rw [List.length_map]; exact lb, _, rfl, ?_⟩
                        cases hr : risB (bs.map nm0) with
                        | false => simp only [Bool.false_eq_true, if_false]; rw [hr, Bool.false_and] at hR; exact hR
                        | true =>
                          simp only [if_true]
                          rw [hr, Bool.true_and] at hR
                          exact ⟨ds, rfl, ld, named_first nd, ds.map nm0, by rw [firsts_named nd], by rw [List.length_map]; exact ld, hR⟩
                  · have g3 : ¬ ds.length ≤ 4 := by omega
                    simp only [h3, decide_false, Bool.not_false, if_true]
                    exact no5 (by simp [g3])
                · have g2 : ¬ 1 ≤ ds.length := by omega
                  simp only [h2, decide_false, Bool.false_eq_true, if_false, Bool.not_false, if_true]
                  exact no5 (by simp [g2])
              | _ => first | (cases fd; done) | (simp!; exact no3 rfl)
            | _ => first | (cases fb; done) | (simp!; exact no3 rfl)
      | _ => first | (cases fm; done) | (simp!; exact no rfl)
def handB : PV → Bool
  | .tup [t, p] => thingsB 8 t && progB p
  | _ => false
def spHand : FSpec := fun args et R => ∃ p : PV, args = [p] ∧ fits 8 p = true ∧ R (.bl (handB p)) et
theorem hand_ok (args : List PV) (et : Hi) (R : PV → Hi → Prop) (h : spHand args et R) : r_is_hand spProg spThings spTup (env0 N_is_hand args) et (retK R) := by
  obtain ⟨p, rfl, hf, hR⟩ := h
  show r_is_hand _ _ _ [.val p] et (retK R)
  unfold r_is_hand
  simp!
  refine ⟨p, 2, rfl, fits_fit hf, _, rfl, ?_⟩
  cases ht : tupB 2 p with
  | false =>
    simp only [Bool.false_eq_true, if_false]
    have : handB p = false := by
      unfold handB
      split
      · exact absurd rfl (tup2n ht _ _)
      · rfl
    rw [this] at hR; exact hR
  | true =>
    obtain ⟨a, v, rfl⟩ := tup2 ht
    obtain ⟨_, hx⟩ := fits_tup hf
    simp!
    refine ⟨a, 8, rfl, fits_mono (by omega) (hx a (by simp)), _, rfl, ?_⟩
    cases hw : thingsB 8 a with
    | false => simp only [Bool.false_eq_true, if_false]; simp only [handB, hw, Bool.false_and] at hR; exact hR
    | true => simp only [if_true]; simp only [handB, hw, Bool.true_and] at hR; exact ⟨v, rfl, hx v (by simp), hR⟩
theorem roomB_named {p : PV} (h : roomB p = true) : Named p := by
  unfold roomB at h
  split at h
  · simp only [Bool.and_eq_true] at h
    obtain ⟨x, rfl, _⟩ := wordB_str h.1.1.1.1.1.1.1
    exact ⟨x, _, rfl⟩
  · cases h
def formB : PV → Bool
  | .tup [.tup rs, ps, os, .tup hs] => decide (rs.length ≤ 4) && (decide (1 ≤ hs.length) && decide (hs.length ≤ 4)) && rs.all roomB && hs.all handB && (risB (rs.map nm0) && (passesB 16 ps && thingsB 16 os))
  | _ => false
def spFormed : FSpec := fun args et R => ∃ p : PV, args = [p] ∧ fits 12 p = true ∧ R (.bl (formB p)) et
theorem formed_ok (args : List PV) (et : Hi) (R : PV → Hi → Prop) (h : spFormed args et R) : r_is_formed spTup spHand spRoom spThings spPasses spRis spFirsts (env0 N_is_formed args) et (retK R) := by
  obtain ⟨p, rfl, hf, hR⟩ := h
  show r_is_formed _ _ _ _ _ _ _ [.val p, .no, .no, .no, .no, .no] et (retK R)
  have no : formB p = false → r_is_formed_0 [.val p, .no, .no, .no, .no, .no] et (retK R) := fun e => by
    unfold r_is_formed_0
    simp!
    rw [e] at hR; exact hR
  unfold r_is_formed
  simp!
  refine ⟨p, 4, rfl, fits_fit hf, _, rfl, ?_⟩
  cases ht : tupB 4 p with
  | false =>
    simp!
    refine no ?_
    unfold formB
    split
    · cases ht
    · rfl
  | true =>
    obtain ⟨b, ps, os, d, rfl⟩ := tup4 ht
    obtain ⟨_, hx⟩ := fits_tup hf
    have fb := fits_fit (hx b (by simp))
    have fd := fits_fit (hx d (by simp))
    have hdb := fit_deref (et := et) fb
    have hdd := fit_deref (et := et) fd
    have hi3 : gIx (.tup [b, ps, os, d]) (.int 3) = some d := rfl
    simp! [hdb, isi_tup fb, hi3]
    cases b with
    | tup bs =>
      simp! [hdd, isi_tup fd, hi3]
      cases d with
      | tup ds =>
        simp!
        obtain ⟨lb, xb⟩ := fits_tup (hx (.tup bs) (by simp))
        obtain ⟨ld, xd⟩ := fits_tup (hx (.tup ds) (by simp))
        have lenb : gLen [.tup bs] = some (.int bs.length) := rfl
        have lend : gLen [.tup ds] = some (.int ds.length) := rfl
        unfold r_is_formed_1
        simp!
        refine ⟨_, rfl, ?_⟩
        have no3 : formB (.tup [.tup bs, ps, os, .tup ds]) = false → r_is_formed_3 [.val (.tup [.tup bs, ps, os, .tup ds]), .val (.tup bs), .val ps, .val os, .val (.tup ds), .no] et (retK R) := fun e => by
          unfold r_is_formed_3
          simp!
          rw [e] at hR; exact hR
        have no5 : formB (.tup [.tup bs, ps, os, .tup ds]) = false → r_is_formed_5 [.val (.tup [.tup bs, ps, os, .tup ds]), .val (.tup bs), .val ps, .val os, .val (.tup ds), .no] et (retK R) := fun e => by
          unfold r_is_formed_5
          simp!
          rw [e] at hR; exact hR
        simp only [formB] at hR no3 no5
        unfold r_is_formed_2
        simp! [lenb, lend]
        by_cases h1 : (4 : Int) < bs.length
        · have g1 : ¬ bs.length ≤ 4 := by omega
          simp only [h1, decide_true, if_true]
          exact no3 (by simp [g1])
        have g1 : bs.length ≤ 4 := by omega
        simp only [h1, decide_false, Bool.false_eq_true, if_false]
        by_cases h2 : (1 : Int) ≤ ds.length
        · simp only [h2, decide_true, if_true]
          by_cases h3 : (ds.length : Int) ≤ 4
          · simp only [h3, decide_true, Bool.not_true, Bool.false_eq_true, if_false]
            have g2 : 1 ≤ ds.length := by omega
            have g3 : ds.length ≤ 4 := by omega
            simp only [g1, g2, g3, decide_true, Bool.true_and] at hR no5
            unfold r_is_formed_4
            simp! [itemsP]
            refine lc_pure (fun p => .bl (roomB p)) rfl lb (fun p hp => ⟨_, rfl, fun Q hQ => ?_⟩) ⟨.bl (bs.all roomB), ?_, ?_⟩
            · simp!
              exact ⟨p, rfl, xb p hp, hQ⟩
            · show (bls (List.map (fun p => PV.bl (roomB p)) bs)).map _ = _
              rw [bls_mapA roomB]
              simp only [Option.map_some, List.all_map]
              rfl
            cases hab : bs.all roomB with
            | false => simp!; exact no5 (by simp [hab])
            | true =>
              simp only [hab, Bool.true_and] at hR no5
              simp! [itemsP]
              refine lc_pure (fun p => .bl (handB p)) rfl ld (fun p hp => ⟨_, rfl, fun Q hQ => ?_⟩) ⟨.bl (ds.all handB), ?_, ?_⟩
              · simp!
                exact ⟨p, rfl, fits_mono (by omega) (xd p hp), hQ⟩
              · show (bls (List.map (fun p => PV.bl (handB p)) ds)).map _ = _
                rw [bls_mapA handB]
                simp only [Option.map_some, List.all_map]
                rfl
              cases had : ds.all handB with
              | false => simp!; exact no5 (by simp [had])
              | true =>
                simp only [had, Bool.true_and] at hR
                simp!
                unfold r_is_formed_6
                have nb : ∀ x ∈ bs, Named x := fun x hx => roomB_named (List.all_eq_true.mp hab x hx)
                simp!
                refine ⟨bs, rfl, lb, named_first nb, bs.map nm0, by rw [firsts_named nb], by rw [List.length_map]; exact lb, _, rfl, ?_⟩
                cases hr : risB (bs.map nm0) with
                | false => simp only [Bool.false_eq_true, if_false]; rw [hr, Bool.false_and] at hR; exact hR
                | true =>
                  simp only [if_true]
                  rw [hr, Bool.true_and] at hR
                  refine ⟨ps, 16, rfl, fits_mono (by omega) (hx ps (by simp)), _, rfl, ?_⟩
                  cases hpp : passesB 16 ps with
                  | false => simp only [Bool.false_eq_true, if_false]; rw [hpp, Bool.false_and] at hR; exact hR
                  | true =>
                    simp only [if_true]
                    rw [hpp, Bool.true_and] at hR
                    exact ⟨os, 16, rfl, fits_mono (by omega) (hx os (by simp)), hR⟩
          · have g3 : ¬ ds.length ≤ 4 := by omega
            simp only [h3, decide_false, Bool.not_false, if_true]
            exact no3 (by simp [g3])
        · have g2 : ¬ 1 ≤ ds.length := by omega
          simp only [h2, decide_false, Bool.false_eq_true, if_false, Bool.not_false, if_true]
          exact no3 (by simp [g2])
      | _ => first | (cases fd; done) | (simp!; exact no rfl)
    | _ => first | (cases fb; done) | (simp!; exact no rfl)
def spAmong : FSpec := fun args et R => ∃ ws os : List Str, args = [.tup (ws.map .str), .lst (os.map .str)] ∧ ws.length ≤ sizeLine ∧ R (.bl (ws.all fun x => decide (x ∈ os))) et
theorem among_ok (args : List PV) (et : Hi) (R : PV → Hi → Prop) (h : spAmong args et R) : r_are_among (env0 N_are_among args) et (retK R) := by
  obtain ⟨ws, os, rfl, hl, hR⟩ := h
  show r_are_among [.val (.tup (ws.map .str)), .val (.lst (os.map .str)), .no] et (retK R)
  unfold r_are_among
  simp! [itemsP]
  refine lc_pure (fun p => match p with | .str x => .bl (decide (x ∈ os)) | _ => .non) rfl (by rw [List.length_map]; exact hl) (fun p hp => ?_) ?_
  · obtain ⟨x, hx, rfl⟩ := List.mem_map.mp hp
    refine ⟨_, rfl, fun Q hQ => ?_⟩
    simp! [in_strs]
    exact hQ
  · rw [List.map_map]
    refine ⟨.bl (ws.all fun x => decide (x ∈ os)), ?_, hR⟩
    show (bls (List.map (fun x : Str => PV.bl (decide (x ∈ os))) ws)).map _ = _
    rw [bls_mapA fun x : Str => decide (x ∈ os)]
    simp only [Option.map_some, List.all_map]
    rfl
theorem lc_filt {src want : List PV} {tg : PV → En → Option En} {mt : EM Bool} {me : EM PV} {epw : En} {ps : List PV} {et : Hi} {R : PV → Hi → Prop} (g : PV → Bool) (f : PV → PV) (h : src.map (deref et) = want) (hl : ps.length ≤ sizeLine)
    (step : ∀ p ∈ ps, ∃ ep1, tg p epw = some ep1 ∧ (∀ Q : Bool → Hi → Prop, Q (g p) et → mt ep1 et Q) ∧ ∀ Q : PV → Hi → Prop, Q (f p) et → me ep1 et Q) (fin : R (.lst ((ps.filter g).map f)) et) : lcGo src want tg mt me epw ps et R := by
  refine ⟨fun i acc et1 => et1 = et ∧ acc = ((ps.take i).filter g).map f ∧ i ≤ ps.length, ⟨rfl, by simp, Nat.zero_le _⟩, ?_⟩
  rintro i acc et1 ⟨rfl, rfl, hi⟩
  refine ⟨h, fun p hp => ?_, fun e => ?_⟩
  · obtain ⟨ep1, h1, h2, h3⟩ := step p (List.mem_of_getElem? hp)
    have hlt := (List.getElem?_eq_some_iff.mp hp).1
    refine ⟨ep1, h1, h2 _ ?_⟩
    have etk : ps.take (i + 1) = ps.take i ++ [p] := by rw [List.take_succ, hp]; rfl
    cases hg : g p with
    | true =>
      simp only [if_true]
      refine h3 _ ⟨?_, rfl, ?_, hlt⟩
      · rw [List.length_map]
        have := List.length_filter_le g (ps.take i)
        rw [List.length_take] at this
        omega
      · rw [etk, List.filter_append, List.map_append]; simp [hg]
    | false =>
      simp only [Bool.false_eq_true, if_false]
      refine ⟨trivial, ?_, hlt⟩
      rw [etk, List.filter_append, List.map_append]; simp [hg]
  · rw [e, List.take_length]; exact fin
theorem sums_walk {w : Str} {r : List PV} {fs : List Str} {et : Hi} {R : PV → Hi → Prop} (e : tt_FORMS.lookup w = some fs) (hl : r.length ≤ sizeLine) (hR : R (.lst (((r.zip fs).filter fun x => decide (x.2 = ("sum" : Str))).map (·.1))) et) :
    r_sums_in [.val (.tup (.str w :: r)), .no, .no] et (retK R) := by
  unfold r_sums_in
  simp! [gSlA, cut1, mTabT, List.drop_one, List.tail_cons]
  refine ⟨w, fs, rfl, e, _, _, _, _, rfl, .inr ⟨rfl, rfl⟩, ?_⟩
  have ez : zipP r (fs.map .str) = (r.zip fs).map fun p => PV.tup [p.1, .str p.2] := by
    unfold zipP
    rw [List.zip_map_right, List.map_map]
    rfl
  rw [ez]
  refine lc_filt (fun p => match p with | .tup [_, .str b] => decide (b = ("sum" : Str)) | _ => false) (fun p => match p with | .tup [a, _] => a | _ => .non) (by first | rfl | (simp only [List.map_cons, List.map_nil]; rfl)) (by rw [List.length_map, List.length_zip]; omega) (fun p hp => ?_) ?_
  · obtain ⟨⟨a, b⟩, hq, rfl⟩ := List.mem_map.mp hp
    refine ⟨_, rfl, fun Q hQ => ?_, fun Q hQ => ?_⟩
    · simp!
      exact hQ
    · simp!
      exact hQ
  · rw [List.filter_map, List.map_map]
    exact hR
def sumsR : Row → List Sm
  | .put _ s => [s]
  | .unl s _ => [s]
  | .doo _ _ _ s => [s]
  | .wait _ s => [s]
  | .tell s => [s]
  | .say s => [s]
  | _ => []
def spSumsIn : FSpec := fun args et R => ∃ r : Row, args = [r.pv] ∧ R (.lst ((sumsR r).map Sm.pv)) et
theorem sums_in_ok (args : List PV) (et : Hi) (R : PV → Hi → Prop) (h : spSumsIn args et R) : r_sums_in (env0 N_sums_in args) et (retK R) := by
  obtain ⟨r, rfl, hR⟩ := h
  show r_sums_in [.val r.pv, .no, .no] et (retK R)
  cases r with
  | put x s => exact sums_walk (fs := ["word", "sum"]) rfl (show (2 : Nat) ≤ sizeLine by decide) hR
  | unl s k => exact sums_walk (fs := ["sum", "place"]) rfl (show (2 : Nat) ≤ sizeLine by decide) hR
  | go k => exact sums_walk (fs := ["place"]) rfl (show (1 : Nat) ≤ sizeLine by decide) hR
  | doo g rm dd s => exact sums_walk (fs := ["goal", "word", "word", "sum"]) rfl (show (4 : Nat) ≤ sizeLine by decide) hR
  | wait b s => exact sums_walk (fs := ["word", "sum"]) rfl (show (2 : Nat) ≤ sizeLine by decide) hR
  | call b => exact sums_walk (fs := ["word"]) rfl (show (1 : Nat) ≤ sizeLine by decide) hR
  | all b => exact sums_walk (fs := ["word"]) rfl (show (1 : Nat) ≤ sizeLine by decide) hR
  | tell s => exact sums_walk (fs := ["sum"]) rfl (show (1 : Nat) ≤ sizeLine by decide) hR
  | take p => exact sums_walk (fs := ["word"]) rfl (show (1 : Nat) ≤ sizeLine by decide) hR
  | give p => exact sums_walk (fs := ["word"]) rfl (show (1 : Nat) ≤ sizeLine by decide) hR
  | pass p q => exact sums_walk (fs := ["word", "word"]) rfl (show (2 : Nat) ≤ sizeLine by decide) hR
  | say s => exact sums_walk (fs := ["sum"]) rfl (show (1 : Nat) ≤ sizeLine by decide) hR
def sumR (ws bs : List Str) (s : Sm) : Bool := (Wb.wordsL s).all (fun x => decide (x ∈ ws)) && (Wb.bellsL s).all fun x => decide (x ∈ bs)
def putB (r : Row) (ws gs bs : List Str) : Bool := (sumsR r).all (sumR ws bs) && (match r with
  | .put x _ => decide (x ∈ gs)
  | .doo (some x) _ _ _ => decide (x ∈ gs)
  | _ => true)
def SumsOk (r : Row) : Prop := ∀ s ∈ sumsR r, s.dep ≤ 5
def spPutRight : FSpec := fun args et R => ∃ (r : Row) (ws gs bs : List Str), args = [r.pv, .lst (ws.map .str), .lst (gs.map .str), .lst (bs.map .str)] ∧ SumsOk r ∧ R (.bl (putB r ws gs bs)) et
theorem setS_all (f : Str → Bool) (l : List Str) : (setS l).all f = l.all f := by
  rw [Bool.eq_iff_iff]
  have m : ∀ k, k ∈ setS l ↔ k ∈ l := fun k => ((srt_perm _).mem_iff).trans (once_mem l k)
  simp only [List.all_eq_true, m]
theorem once_len : ∀ l : List Str, (onceS l).length ≤ l.length
  | [] => Nat.le_refl _
  | x :: r => by
    unfold onceS
    have := once_len r
    split
    · simp only [List.length_cons]; omega
    · simp only [List.length_cons]; omega
theorem set_len (l : List Str) : (setS l).length ≤ l.length := by
  unfold setS
  rw [(srt_perm _).length_eq]
  exact once_len l
theorem words16 {s : Sm} (h : s.dep ≤ 5) : (setS (Wb.wordsL s)).length ≤ sizeLine := by
  have h1 := set_len (Wb.wordsL s)
  have h2 := Wb.words_len s
  have h3 := Wb.lvs_small h
  have : (16 : Nat) ≤ sizeLine := by decide
  omega
theorem bells16 {s : Sm} (h : s.dep ≤ 5) : (setS (Wb.bellsL s)).length ≤ sizeLine := by
  have h1 := set_len (Wb.bellsL s)
  have h2 := Wb.bells_len s
  have h3 := Wb.lvs_small h
  have : (16 : Nat) ≤ sizeLine := by decide
  omega
theorem put_right_ok (args : List PV) (et : Hi) (R : PV → Hi → Prop) (h : spPutRight args et R) : r_is_put_right spSumsIn spAmong (Wb.spSet Wb.bellsL) (Wb.spSet Wb.wordsL) (env0 N_is_put_right args) et (retK R) := by
  obtain ⟨r, ws, gs, bs, rfl, hs, hR⟩ := h
  show r_is_put_right _ _ _ _ [.val r.pv, .val (.lst (ws.map .str)), .val (.lst (gs.map .str)), .val (.lst (bs.map .str)), .no] et (retK R)
  unfold r_is_put_right
  simp!
  refine ⟨r, rfl, ?_⟩
  simp! [itemsP]
  refine ⟨fun i ep et1 => et1 = et ∧ ((sumsR r).take i).all (sumR ws bs) = true ∧ ∃ t4, ep = [.val r.pv, .val (.lst (ws.map .str)), .val (.lst (gs.map .str)), .val (.lst (bs.map .str)), t4], ⟨rfl, rfl, _, rfl⟩, ?_⟩
  rintro i ep et1 ⟨rfl, ha, t4, rfl⟩
  refine ⟨rfl, fun p hpi => ⟨_, rfl, ?_⟩, fun e => ?_⟩
  · rw [List.getElem?_map] at hpi
    obtain ⟨s, hsi, rfl⟩ := Option.map_eq_some_iff.mp hpi
    have hmem := List.mem_of_getElem? hsi
    unfold r_is_put_right_0
    simp!
    have hd5 := hs s hmem
    have no : sumR ws bs s = false → R (.bl false) et1 := fun e => by
      have : putB r ws gs bs = false := by
        have : (sumsR r).all (sumR ws bs) = false := by
          rw [List.all_eq_false]
          exact ⟨s, hmem, by rw [e]; decide⟩
        unfold putB
        rw [this, Bool.false_and]
      rw [this] at hR; exact hR
    refine ⟨s, rfl, hd5, setS (Wb.wordsL s), ws, rfl, words16 hd5, _, rfl, ?_⟩
    rw [setS_all]
    cases hw : (Wb.wordsL s).all (fun x => decide (x ∈ ws)) with
    | false =>
      simp only [Bool.not_false, if_true]
      unfold r_is_put_right_1
      simp!
      exact no (by unfold sumR; rw [hw, Bool.false_and])
    | true =>
      simp only [Bool.not_true, Bool.false_eq_true, if_false]
      refine ⟨s, rfl, hd5, setS (Wb.bellsL s), bs, rfl, bells16 hd5, _, rfl, ?_⟩
      rw [setS_all]
      cases hb : (Wb.bellsL s).all (fun x => decide (x ∈ bs)) with
      | false =>
        simp only [Bool.not_false, if_true]
        unfold r_is_put_right_1
        simp!
        exact no (by unfold sumR; rw [hb, Bool.and_false])
      | true =>
        simp only [Bool.not_true, Bool.false_eq_true, if_false]
        refine ⟨trivial, ?_, _, rfl⟩
        rw [List.take_succ, hsi, List.all_append, ha]
        simp [sumR, hw, hb]
  · rw [List.length_map] at e
    rw [e, List.take_length] at ha
    unfold putB at hR
    rw [ha, Bool.true_and] at hR
    unfold r_is_put_right_2
    cases r with
    | put x s =>
      have hi1 : gIx (.tup [.str "put", .str x, s.pv]) (.int 1) = some (.str x) := rfl
      simp! [Row.pv]
      unfold r_is_put_right_3
      simp! [in_strs, hi1]
      exact hR
    | doo g rm dd s =>
      have hi1 : gIx (.tup [.str "do", optPV g, .str rm, .str dd, s.pv]) (.int 1) = some (optPV g) := rfl
      simp! [Row.pv]
      rw [if_neg (by decide)]
      unfold r_is_put_right_4
      simp! [hi1]
      rw [if_neg (by decide)]
      cases g with
      | none => simp! [optPV, gIs]; exact hR
      | some x => simp! [optPV, gIs, in_strs]; exact hR
    | _ =>
      simp! [Row.pv]
      rw [if_neg (by decide)]
      unfold r_is_put_right_4
      simp!
      rw [if_pos (by decide)]
      exact hR
def thereB (rs : List Rm) (rm dd : Str) : Bool := rs.any fun r => decide (r.name = rm) && decide (dd ∈ r.deeds.map (·.1))
def RmsS (rs : List Rm) : Prop := rs.length ≤ 4 ∧ ∀ r ∈ rs, r.deeds.length ≤ 4 ∧ r.things.length ≤ 4 ∧ r.bells.length ≤ 3
def spThere : FSpec := fun args et R => ∃ (rs : List Rm) (g : Option Str) (rm dd : Str) (s : Sm), args = [.tup (rs.map Rm.pv), (Row.doo g rm dd s).pv] ∧ RmsS rs ∧ R (.bl (thereB rs rm dd)) et
theorem deeds_named (ds : List Deed) : ∀ x ∈ ds.map deedPV, Named x := fun x hx => by
  obtain ⟨d, _, rfl⟩ := List.mem_map.mp hx
  exact ⟨d.1, _, rfl⟩
theorem deeds_firsts (ds : List Deed) : (ds.map deedPV).map fst0 = (ds.map (·.1)).map .str := by
  rw [List.map_map, List.map_map]
  rfl
theorem four_le {n : Nat} (h : n ≤ 4) : n ≤ sizeLine := Nat.le_trans h (by decide)
theorem there_ok (args : List PV) (et : Hi) (R : PV → Hi → Prop) (h : spThere args et R) : r_is_deed_there spFirsts (env0 N_is_deed_there args) et (retK R) := by
  obtain ⟨rs, g, rm, dd, s, rfl, hs, hR⟩ := h
  show r_is_deed_there _ [.val (.tup (rs.map Rm.pv)), .val (Row.doo g rm dd s).pv, .no] et (retK R)
  have i2 : gIx (Row.doo g rm dd s).pv (.int 2) = some (.str rm) := rfl
  have i3 : gIx (Row.doo g rm dd s).pv (.int 3) = some (.str dd) := rfl
  have hdr : deref et (Row.doo g rm dd s).pv = (Row.doo g rm dd s).pv := rfl
  unfold r_is_deed_there
  simp! [itemsP]
  have hstep : ∀ p ∈ rs.map Rm.pv, ∃ r ∈ rs, p = r.pv := fun p hp => by
    obtain ⟨r, hr, rfl⟩ := List.mem_map.mp hp
    exact ⟨r, hr, rfl⟩
  refine lc_pure (fun p => match p with | .tup [.str n, _, _, _, .tup ds] => .bl (decide (n = rm) && decide (dd ∈ ds.map nm0)) | _ => .non) rfl (by rw [List.length_map]; exact four_le hs.1) (fun p hp => ?_) ?_
  · obtain ⟨r, hr, rfl⟩ := hstep p hp
    refine ⟨_, rfl, fun Q hQ => ?_⟩
    have r0 : gIx r.pv (.int 0) = some (.str r.name) := rfl
    have r4 : gIx r.pv (.int 4) = some (.tup (r.deeds.map deedPV)) := rfl
    have hdr2 : deref et r.pv = r.pv := rfl
    simp! [hdr, hdr2, r0, i2]
    have hQ : Q (.bl (decide (r.name = rm) && decide (dd ∈ (r.deeds.map deedPV).map nm0))) et := hQ
    have en : (r.deeds.map deedPV).map nm0 = r.deeds.map (·.1) := by rw [List.map_map]; rfl
    rw [en] at hQ
    refine ⟨.str r.name, r0, .str rm, i2, .bl (decide (r.name = rm)), gEq_str _ _, _, rfl, ?_⟩
    cases hn : decide (r.name = rm) with
    | false =>
      simp!
      rw [hn, Bool.false_and] at hQ; exact hQ
    | true =>
      rw [hn, Bool.true_and] at hQ
      simp only [if_true]
      refine ⟨.str dd, i3, .tup (r.deeds.map deedPV), r4, r.deeds.map deedPV, rfl, by rw [List.length_map]; exact four_le (hs.2 r hr).1, named_first (deeds_named _), ?_⟩
      rw [deeds_firsts]
      exact ⟨_, in_strs _ _, hQ⟩
  · rw [List.map_map]
    refine ⟨.bl (thereB rs rm dd), ?_, hR⟩
    have e : (rs.map ((fun p => match p with | PV.tup [.str n, _, _, _, .tup ds] => PV.bl (decide (n = rm) && decide (dd ∈ ds.map nm0)) | _ => .non) ∘ Rm.pv)) = rs.map fun r => PV.bl (decide (r.name = rm) && decide (dd ∈ r.deeds.map (·.1))) := by
      refine List.map_congr_left fun r _ => ?_
      have en : (r.deeds.map deedPV).map nm0 = r.deeds.map (·.1) := by rw [List.map_map]; rfl
      show PV.bl (decide (r.name = rm) && decide (dd ∈ (r.deeds.map deedPV).map nm0)) = _
      rw [en]
    rw [e]
    show (bls (rs.map fun r => PV.bl (decide (r.name = rm) && decide (dd ∈ r.deeds.map (·.1))))).map _ = _
    rw [bls_mapA fun r : Rm => decide (r.name = rm) && decide (dd ∈ r.deeds.map (·.1))]
    simp only [Option.map_some, List.any_map]
    rfl
def tag : Row → Str
  | .put _ _ => "put" | .unl _ _ => "unless" | .go _ => "go" | .doo _ _ _ _ => "do" | .wait _ _ => "wait" | .call _ => "call"
  | .all _ => "all" | .tell _ => "tell" | .take _ => "take" | .give _ => "give" | .pass _ _ => "pass" | .say _ => "say"
theorem tag_ix (r : Row) : gIx r.pv (.int 0) = some (.str (tag r)) := by cases r <;> rfl
theorem row_deref (et : Hi) (r : Row) : deref et r.pv = r.pv := by cases r <;> rfl
def inHands : Row → Bool
  | .take _ => true | .give _ => true | .pass _ _ => true | .say _ => true
  | _ => false
def inDeeds : Row → Bool
  | .wait _ _ => true | .call _ => true | .all _ => true | .tell _ => true
  | _ => false
theorem hands_in (r : Row) : gIn (.str (tag r)) k_IN_HANDS = some (.bl (inHands r)) := by cases r <;> rfl
theorem deeds_in (r : Row) : gIn (.str (tag r)) k_IN_DEEDS = some (.bl (inDeeds r)) := by cases r <;> rfl
def sidB (rs : List Rm) (rm : Rm) (row : Row) : Bool := !inHands row && putB row (rm.ts ++ [("given" : Str)]) rm.ts rm.bs && (match row with
  | .doo _ r d _ => thereB rs r d
  | .wait b _ => decide (b ∈ rm.bs)
  | .call b => decide (b ∈ rm.bs)
  | .all b => decide (b ∈ rm.bs) && rm.free
  | _ => true)
def spSid : FSpec := fun args et R => ∃ (rs : List Rm) (rm : Rm) (row : Row), args = [.tup (rs.map Rm.pv), rm.pv, row.pv] ∧ RmsS rs ∧ rm ∈ rs ∧ SumsOk row ∧ R (.bl (sidB rs rm row)) et
theorem pairs_named (ds : List (Str × Int)) : ∀ x ∈ ds.map pairPV, Named x := fun x hx => by
  obtain ⟨d, _, rfl⟩ := List.mem_map.mp hx
  exact ⟨d.1, _, rfl⟩
theorem pairs_firsts (ds : List (Str × Int)) : (ds.map pairPV).map fst0 = (ds.map (·.1)).map .str := by
  rw [List.map_map, List.map_map]
  rfl
theorem bells_named (ds : List (Str × Bool)) : ∀ x ∈ ds.map bellPV, Named x := fun x hx => by
  obtain ⟨d, _, rfl⟩ := List.mem_map.mp hx
  exact ⟨d.1, _, rfl⟩
theorem bells_firsts (ds : List (Str × Bool)) : (ds.map bellPV).map fst0 = (ds.map (·.1)).map .str := by
  rw [List.map_map, List.map_map]
  rfl
theorem sid_ok (args : List PV) (et : Hi) (R : PV → Hi → Prop) (h : spSid args et R) : r_stands_in_deed spFirsts spPutRight spThere (env0 N_stands_in_deed args) et (retK R) := by
  obtain ⟨rs, rm, row, rfl, hs, hm, hso, hR⟩ := h
  show r_stands_in_deed _ _ _ [.val (.tup (rs.map Rm.pv)), .val rm.pv, .val row.pv, .no, .no, .no, .no, .no, .no] et (retK R)
  obtain ⟨d4, t4, b3⟩ := hs.2 rm hm
  unfold r_stands_in_deed
  simp!
  refine ⟨_, rfl, ?_⟩
  unfold r_stands_in_deed_0
  simp!
  refine ⟨rm.things.map pairPV, rfl, by rw [List.length_map]; exact four_le t4, named_first (pairs_named _), ?_⟩
  rw [pairs_firsts]
  unfold r_stands_in_deed_1
  simp!
  refine ⟨.str (tag row), by rw [row_deref]; exact tag_ix row, inHands row, hands_in row, ?_⟩
  have no : sidB rs rm row = false → r_stands_in_deed_2 [.val (.tup (rs.map Rm.pv)), .val rm.pv, .val row.pv, .val (.str rm.name), .val (.str (mnS rm.free)), .val (.tup (rm.things.map pairPV)), .val (.tup (rm.bells.map bellPV)), .val (.tup (rm.deeds.map deedPV)), .val (.lst ((rm.things.map (·.1)).map .str))] et (retK R) := fun e => by
    unfold r_stands_in_deed_2
    simp!
    rw [e] at hR; exact hR
  cases hh : inHands row with
  | true =>
    simp only [if_true]
    exact no (by unfold sidB; rw [hh]; rfl)
  | false =>
    simp only [Bool.false_eq_true, if_false]
    have ecat : gCat (.lst ((rm.things.map (·.1)).map .str)) (.lst [k_GIVEN]) = some (.lst ((rm.ts ++ [("given" : Str)]).map .str)) := by
      have five : (5 : Nat) ≤ sizeLine := by decide
      have hle : ((rm.things.map (·.1)).map PV.str).length + [k_GIVEN].length ≤ sizeLine := by
        rw [List.length_map, List.length_map]
        show rm.things.length + 1 ≤ sizeLine
        omega
      show (if _ then _ else _) = _
      rw [if_pos hle, List.map_append]
      rfl
    refine ⟨by decide, _, ecat, rm.bells.map bellPV, rfl, by rw [List.length_map]; exact four_le (by omega), named_first (bells_named _), ?_⟩
    rw [bells_firsts]
    refine ⟨row, rm.ts ++ [("given" : Str)], rm.ts, rm.bs, rfl, hso, _, rfl, ?_⟩
    cases hp : putB row (rm.ts ++ [("given" : Str)]) rm.ts rm.bs with
    | false =>
      simp only [Bool.not_false, if_true]
      simp only [sidB, hh, hp, Bool.not_false, Bool.true_and, Bool.false_and] at no
      unfold r_stands_in_deed_2
      simp!
      unfold sidB at hR
      rw [hp, Bool.and_false, Bool.false_and] at hR
      exact hR
    | true =>
      simp only [Bool.not_true, Bool.false_eq_true, if_false]
      simp only [sidB, hh, hp, Bool.not_false, Bool.true_and] at hR
      unfold r_stands_in_deed_3
      cases row with
      | doo g r d s =>
        simp! [Row.pv]
        rw [if_pos (by decide)]
        unfold r_stands_in_deed_4
        simp!
        exact ⟨rs, g, r, d, s, rfl, hs, hR⟩
      | wait b s =>
        have h3 : gIn (.str "wait") (.tup [.str "wait", .str "call", .str "all"]) = some (.bl true) := rfl
        simp! [Row.pv]
        rw [if_neg (by decide)]
        unfold r_stands_in_deed_5
        simp! [h3]
        unfold r_stands_in_deed_6
        simp!
        refine ⟨by decide, rm.bells.map bellPV, rfl, by rw [List.length_map]; exact four_le (by omega), named_first (bells_named _), ?_⟩
        rw [bells_firsts]
        refine ⟨_, in_strs _ _, _, rfl, ?_⟩
        have hR : R (.bl (decide (b ∈ rm.bells.map (·.1)))) et := hR
        cases hb : decide (b ∈ rm.bells.map (·.1)) with
        | false =>
          simp only [Bool.false_eq_true, if_false]
          rw [hb] at hR; exact hR
        | true =>
          simp only [if_true]
          rw [if_pos (by decide)]
          rw [hb] at hR; exact hR
      | call b =>
        have h3 : gIn (.str "call") (.tup [.str "wait", .str "call", .str "all"]) = some (.bl true) := rfl
        simp! [Row.pv]
        rw [if_neg (by decide)]
        unfold r_stands_in_deed_5
        simp! [h3]
        unfold r_stands_in_deed_6
        simp!
        refine ⟨by decide, rm.bells.map bellPV, rfl, by rw [List.length_map]; exact four_le (by omega), named_first (bells_named _), ?_⟩
        rw [bells_firsts]
        refine ⟨_, in_strs _ _, _, rfl, ?_⟩
        have hR : R (.bl (decide (b ∈ rm.bells.map (·.1)))) et := hR
        cases hb : decide (b ∈ rm.bells.map (·.1)) with
        | false =>
          simp only [Bool.false_eq_true, if_false]
          rw [hb] at hR; exact hR
        | true =>
          simp only [if_true]
          rw [if_pos (by decide)]
          rw [hb] at hR; exact hR
      | all b =>
        have h3 : gIn (.str "all") (.tup [.str "wait", .str "call", .str "all"]) = some (.bl true) := rfl
        simp! [Row.pv]
        rw [if_neg (by decide)]
        unfold r_stands_in_deed_5
        simp! [h3]
        unfold r_stands_in_deed_6
        simp!
        refine ⟨by decide, rm.bells.map bellPV, rfl, by rw [List.length_map]; exact four_le (by omega), named_first (bells_named _), ?_⟩
        rw [bells_firsts]
        refine ⟨_, in_strs _ _, _, rfl, ?_⟩
        have hR : R (.bl (decide (b ∈ rm.bells.map (·.1)) && rm.free)) et := hR
        cases hb : decide (b ∈ rm.bells.map (·.1)) with
        | false =>
          simp only [Bool.false_eq_true, if_false]
          rw [hb, Bool.false_and] at hR; exact hR
        | true =>
          simp only [if_true]
          rw [if_neg (by decide)]
          rw [hb, Bool.true_and] at hR
          have : decide (mnS rm.free = ("when free" : Str)) = rm.free := by cases rm.free <;> decide
          rw [this]; exact hR
      | take p => cases hh
      | give p => cases hh
      | pass p q => cases hh
      | say s => cases hh
      | put x s =>
        have h3 : gIn (.str "put") (.tup [.str "wait", .str "call", .str "all"]) = some (.bl false) := rfl
        simp! [Row.pv]
        rw [if_neg (by decide)]
        unfold r_stands_in_deed_5
        simp! [h3]
        unfold r_stands_in_deed_7
        simp!
        exact ⟨by decide, hR⟩
      | unl s k =>
        have h3 : gIn (.str "unless") (.tup [.str "wait", .str "call", .str "all"]) = some (.bl false) := rfl
        simp! [Row.pv]
        rw [if_neg (by decide)]
        unfold r_stands_in_deed_5
        simp! [h3]
        unfold r_stands_in_deed_7
        simp!
        exact ⟨by decide, hR⟩
      | go k =>
        have h3 : gIn (.str "go") (.tup [.str "wait", .str "call", .str "all"]) = some (.bl false) := rfl
        simp! [Row.pv]
        rw [if_neg (by decide)]
        unfold r_stands_in_deed_5
        simp! [h3]
        unfold r_stands_in_deed_7
        simp!
        exact ⟨by decide, hR⟩
      | tell s =>
        have h3 : gIn (.str "tell") (.tup [.str "wait", .str "call", .str "all"]) = some (.bl false) := rfl
        simp! [Row.pv]
        rw [if_neg (by decide)]
        unfold r_stands_in_deed_5
        simp! [h3]
        unfold r_stands_in_deed_7
        simp!
        exact ⟨by decide, hR⟩
end Iw
namespace Iw
open PySem L2 Mw Lw Sq Cw
def sihB (w : Wld) (gs : List Str) (row : Row) : Bool := !inDeeds row && putB row gs gs [] && (match row with
  | .doo _ r d _ => thereB w.rooms r d
  | .take p => decide (p ∈ w.passes.map (·.1))
  | .give p => decide (p ∈ w.passes.map (·.1))
  | .pass p q => decide (p ∈ w.passes.map (·.1)) && decide (q ∈ w.passes.map (·.1))
  | _ => true)
def spSih : FSpec := fun args et R => ∃ (w : Wld) (gs : List Str) (row : Row), args = [w.pv, .lst (gs.map .str), row.pv] ∧ RmsS w.rooms ∧ w.passes.length ≤ 16 ∧ SumsOk row ∧ R (.bl (sihB w gs row)) et
theorem sih_ok (args : List PV) (et : Hi) (R : PV → Hi → Prop) (h : spSih args et R) : r_stands_in_hand spPutRight spThere spAmong spFirsts (env0 N_stands_in_hand args) et (retK R) := by
  obtain ⟨w, gs, row, rfl, hs, hpl, hso, hR⟩ := h
  show r_stands_in_hand _ _ _ _ [.val w.pv, .val (.lst (gs.map .str)), .val row.pv, .no, .no, .no, .no] et (retK R)
  have l16 : w.passes.length ≤ sizeLine := Nat.le_trans hpl (by decide)
  unfold r_stands_in_hand
  simp!
  refine ⟨_, rfl, ?_⟩
  unfold r_stands_in_hand_0
  simp!
  refine ⟨.str (tag row), by rw [row_deref]; exact tag_ix row, inDeeds row, deeds_in row, ?_⟩
  cases hh : inDeeds row with
  | true =>
    simp only [if_true]
    unfold r_stands_in_hand_1
    simp!
    unfold sihB at hR
    rw [hh] at hR
    exact hR
  | false =>
    simp only [Bool.false_eq_true, if_false]
    refine ⟨Nat.zero_le _, row, gs, gs, [], rfl, hso, _, rfl, ?_⟩
    cases hp : putB row gs gs [] with
    | false =>
      simp only [Bool.not_false, if_true]
      unfold r_stands_in_hand_1
      simp!
      unfold sihB at hR
      rw [hp, Bool.and_false, Bool.false_and] at hR
      exact hR
    | true =>
      simp only [Bool.not_true, Bool.false_eq_true, if_false]
      simp only [sihB, hh, hp, Bool.not_false, Bool.true_and] at hR
      unfold r_stands_in_hand_2
      cases row with
      | doo g r d s =>
        simp! [Row.pv]
        rw [if_pos (by decide)]
        unfold r_stands_in_hand_3
        simp!
        exact ⟨w.rooms, g, r, d, s, rfl, hs, hR⟩
      | take p =>
        have h3 : gNotIn (.str "take") (.tup [.str "take", .str "give", .str "pass"]) = some (.bl false) := rfl
        simp! [Row.pv]
        rw [if_neg (by decide)]
        unfold r_stands_in_hand_4
        simp! [h3, gSlA, cut1, List.drop_one, List.tail_cons]
        refine ⟨by decide, w.passes.map pairPV, rfl, by rw [List.length_map]; exact l16, named_first (pairs_named _), ?_⟩
        rw [pairs_firsts]
        exact ⟨[p], w.passes.map (·.1), rfl, Nat.le_trans (show _ ≤ 2 by simp) (by decide), by simpa using hR⟩
      | give p =>
        have h3 : gNotIn (.str "give") (.tup [.str "take", .str "give", .str "pass"]) = some (.bl false) := rfl
        simp! [Row.pv]
        rw [if_neg (by decide)]
        unfold r_stands_in_hand_4
        simp! [h3, gSlA, cut1, List.drop_one, List.tail_cons]
        refine ⟨by decide, w.passes.map pairPV, rfl, by rw [List.length_map]; exact l16, named_first (pairs_named _), ?_⟩
        rw [pairs_firsts]
        exact ⟨[p], w.passes.map (·.1), rfl, Nat.le_trans (show _ ≤ 2 by simp) (by decide), by simpa using hR⟩
      | pass p q =>
        have h3 : gNotIn (.str "pass") (.tup [.str "take", .str "give", .str "pass"]) = some (.bl false) := rfl
        simp! [Row.pv]
        rw [if_neg (by decide)]
        unfold r_stands_in_hand_4
        simp! [h3, gSlA, cut1, List.drop_one, List.tail_cons]
        refine ⟨by decide, w.passes.map pairPV, rfl, by rw [List.length_map]; exact l16, named_first (pairs_named _), ?_⟩
        rw [pairs_firsts]
        exact ⟨[p, q], w.passes.map (·.1), rfl, Nat.le_trans (show _ ≤ 2 by simp) (by decide), by simpa using hR⟩
      | wait b s => cases hh
      | call b => cases hh
      | all b => cases hh
      | tell s => cases hh
      | put x s =>
        have h3 : gNotIn (.str "put") (.tup [.str "take", .str "give", .str "pass"]) = some (.bl true) := rfl
        simp! [Row.pv]
        rw [if_neg (by decide)]
        unfold r_stands_in_hand_4
        simp! [h3]
        exact ⟨by decide, hR⟩
      | unl s k =>
        have h3 : gNotIn (.str "unless") (.tup [.str "take", .str "give", .str "pass"]) = some (.bl true) := rfl
        simp! [Row.pv]
        rw [if_neg (by decide)]
        unfold r_stands_in_hand_4
        simp! [h3]
        exact ⟨by decide, hR⟩
      | go k =>
        have h3 : gNotIn (.str "go") (.tup [.str "take", .str "give", .str "pass"]) = some (.bl true) := rfl
        simp! [Row.pv]
        rw [if_neg (by decide)]
        unfold r_stands_in_hand_4
        simp! [h3]
        exact ⟨by decide, hR⟩
      | say s =>
        have h3 : gNotIn (.str "say") (.tup [.str "take", .str "give", .str "pass"]) = some (.bl true) := rfl
        simp! [Row.pv]
        rw [if_neg (by decide)]
        unfold r_stands_in_hand_4
        simp! [h3]
        exact ⟨by decide, hR⟩
def ProgS (rows : List Row) : Prop := rows.length ≤ 40 ∧ ∀ row ∈ rows, SumsOk row
def roomR (rs : List Rm) (rm : Rm) : Bool := rm.deeds.all fun d => d.2.all (sidB rs rm)
def spRoomR : FSpec := fun args et R => ∃ (rs : List Rm) (rm : Rm), args = [.tup (rs.map Rm.pv), rm.pv] ∧ RmsS rs ∧ rm ∈ rs ∧ (∀ d ∈ rm.deeds, ProgS d.2) ∧ R (.bl (roomR rs rm)) et
theorem forty_le {n : Nat} (h : n ≤ 40) : n ≤ sizeLine := Nat.le_trans h (by decide)
theorem gAll_bls {α : Type} (f : α → Bool) (l : List α) : gAll [.lst (l.map fun x => PV.bl (f x))] = some (.bl (l.all f)) := by
  unfold gAll
  simp only [bls_mapA, Option.map_some]
  congr 2
  induction l with
  | nil => rfl
  | cons a l ih => simp only [List.map_cons, List.all_cons, ih]; rfl
theorem gAny_bls {α : Type} (f : α → Bool) (l : List α) : gAny [.lst (l.map fun x => PV.bl (f x))] = some (.bl (l.any f)) := by
  unfold gAny
  simp only [bls_mapA, Option.map_some]
  congr 2
  induction l with
  | nil => rfl
  | cons a l ih => simp only [List.map_cons, List.any_cons, ih]; rfl
theorem room_right_ok (args : List PV) (et : Hi) (R : PV → Hi → Prop) (h : spRoomR args et R) : r_is_room_right spSid (env0 N_is_room_right args) et (retK R) := by
  obtain ⟨rs, rm, rfl, hs, hm, hp, hR⟩ := h
  show r_is_room_right _ [.val (.tup (rs.map Rm.pv)), .val rm.pv, .no, .no, .no] et (retK R)
  unfold r_is_room_right
  simp!
  refine ⟨.tup (rm.deeds.map deedPV), rfl, _, rfl, ?_⟩
  refine ⟨fun i ep et1 => et1 = et ∧ (rm.deeds.take i).all (fun d => d.2.all (sidB rs rm)) = true ∧ ∃ t2 t3 t4, ep = [.val (.tup (rs.map Rm.pv)), .val rm.pv, t2, t3, t4], ⟨rfl, rfl, _, _, _, rfl⟩, ?_⟩
  rintro i ep et1 ⟨rfl, ha, t2, t3, t4, rfl⟩
  refine ⟨rfl, fun p hpi => ?_, fun e => ?_⟩
  · rw [List.getElem?_map] at hpi
    obtain ⟨d, hdi, rfl⟩ := Option.map_eq_some_iff.mp hpi
    have hmem := List.mem_of_getElem? hdi
    obtain ⟨l40, so⟩ := hp d hmem
    refine ⟨_, rfl, ?_⟩
    unfold r_is_room_right_0
    simp!
    refine ⟨_, rfl, ?_⟩
    refine lc_map Row.pv (fun row => .bl (sidB rs rm row)) rfl (forty_le l40) (fun row hr => ⟨_, rfl, fun Q hQ => ?_⟩) ?_
    · simp!
      exact ⟨rs, rm, row, rfl, hs, hm, so row hr, hQ⟩
    · simp! [gAll_bls]
      cases hb : d.2.all (sidB rs rm) with
      | false =>
        simp only [Bool.not_false, if_true]
        unfold r_is_room_right_1
        simp!
        have : roomR rs rm = false := List.all_eq_false.mpr ⟨d, hmem, by rw [hb]; decide⟩
        rw [this] at hR; exact hR
      | true =>
        simp only [Bool.not_true, Bool.false_eq_true, if_false]
        refine ⟨?_, _, _, _, rfl⟩
        rw [List.take_succ, hdi, List.all_append, ha]
        simp [hb]
  · rw [List.length_map] at e
    rw [e, List.take_length] at ha
    unfold r_is_room_right_2
    simp!
    have : roomR rs rm = true := ha
    rw [this] at hR; exact hR
def handR (w : Wld) (h : Hand) : Bool := !(h.1.map (·.1)).any (fun x => decide (x ∈ w.shared.map (·.1))) && h.2.all (sihB w (h.1.map (·.1) ++ w.shared.map (·.1)))
structure WldS (w : Wld) : Prop where
  rms : RmsS w.rooms
  pl : w.passes.length ≤ 16
  sl : w.shared.length ≤ 16
  hl : w.hands.length ≤ 4
  rp : ∀ rm ∈ w.rooms, ∀ d ∈ rm.deeds, ProgS d.2
  hp : ∀ h ∈ w.hands, h.1.length ≤ 8 ∧ ProgS h.2
def spHandR : FSpec := fun args et R => ∃ (w : Wld) (h : Hand), args = [w.pv, handPV h] ∧ WldS w ∧ h ∈ w.hands ∧ R (.bl (handR w h)) et
theorem hand_right_ok (args : List PV) (et : Hi) (R : PV → Hi → Prop) (h : spHandR args et R) : r_is_hand_right spFirsts spSih (env0 N_is_hand_right args) et (retK R) := by
  obtain ⟨w, h, rfl, ws, hm, hR⟩ := h
  show r_is_hand_right _ _ [.val w.pv, .val (handPV h), .no, .no, .no, .no, .no] et (retK R)
  obtain ⟨h8, l40, so⟩ := ws.hp h hm
  have l16 : w.shared.length ≤ sizeLine := Nat.le_trans ws.sl (by decide)
  have l8 : h.1.length ≤ sizeLine := Nat.le_trans h8 (by decide)
  unfold r_is_hand_right
  simp!
  refine ⟨_, rfl, ?_⟩
  unfold r_is_hand_right_0
  simp!
  refine ⟨.tup (w.shared.map pairPV), rfl, w.shared.map pairPV, rfl, by rw [List.length_map]; exact l16, named_first (pairs_named _), ?_⟩
  rw [pairs_firsts]
  unfold r_is_hand_right_1
  simp!
  refine ⟨h.1.map pairPV, rfl, by rw [List.length_map]; exact l8, named_first (pairs_named _), ?_⟩
  rw [pairs_firsts]
  refine ⟨_, rfl, ?_⟩
  refine lc_map PV.str (fun x => .bl (decide (x ∈ w.shared.map (·.1)))) rfl (by rw [List.length_map]; exact l8) (fun x hx => ⟨_, rfl, fun Q hQ => ?_⟩) ?_
  · simp! [in_strs]
    exact hQ
  · simp! [gAny_bls]
    unfold handR at hR
    cases hb : (h.1.map (·.1)).any (fun x => decide (x ∈ w.shared.map (·.1))) with
    | true =>
      simp only [if_true]
      unfold r_is_hand_right_2
      simp!
      rw [hb, Bool.not_true, Bool.false_and] at hR; exact hR
    | false =>
      rw [hb, Bool.not_false, Bool.true_and] at hR
      simp only [Bool.false_eq_true, if_false]
      unfold r_is_hand_right_3
      simp!
      refine ⟨_, rfl, ?_⟩
      refine lc_map Row.pv (fun row => .bl (sihB w (h.1.map (·.1) ++ w.shared.map (·.1)) row)) rfl (forty_le l40) (fun row hr => ⟨_, rfl, fun Q hQ => ?_⟩) ?_
      · simp!
        refine ⟨h.1.map pairPV, rfl, by rw [List.length_map]; exact l8, named_first (pairs_named _), ?_⟩
        rw [pairs_firsts]
        refine ⟨.lst ((h.1.map (·.1) ++ w.shared.map (·.1)).map .str), ?_, w, _, row, rfl, ws.rms, ws.pl, so row hr, hQ⟩
        show (if _ then _ else _) = _
        rw [if_pos (by simp only [List.length_map]; have := ws.sl; have : (24 : Nat) ≤ sizeLine := by decide
                       omega), List.map_append]
      · simp! [gAll_bls]
        exact hR
def doOf : Row → Option (Str × Str)
  | .doo _ r d _ => some (r, d)
  | _ => none
def doneD (g : Str × Str) (rm : Str) (d : Deed) : List (Str × Str) := if rm = g.1 ∧ d.1 = g.2 then d.2.filterMap doOf else []
def doneR (g : Str × Str) (rm : Rm) : List (Str × Str) := rm.deeds.flatMap (doneD g rm.name)
def doneL (rs : List Rm) (g : Str × Str) : List (Str × Str) := rs.flatMap (doneR g)
def NmsW (rs : List Rm) : Prop := ∀ rm ∈ rs, isWord rm.name = true ∧ ∀ d ∈ rm.deeds, isWord d.1 = true
def RowsS (rs : List Rm) : Prop := ∀ rm ∈ rs, ∀ d ∈ rm.deeds, d.2.length ≤ 40
theorem fm_len {α β : Type} (f : α → List β) (n : Nat) : ∀ l : List α, (∀ x ∈ l, (f x).length ≤ n) → (l.flatMap f).length ≤ n * l.length
  | [], _ => by simp
  | x :: l, h => by
    have h1 := fm_len f n l fun y hy => h y (List.mem_cons_of_mem _ hy)
    have h2 := h x List.mem_cons_self
    rw [List.flatMap_cons, List.length_append, List.length_cons, Nat.mul_succ]
    omega
theorem doneD_len {g : Str × Str} {rm : Str} {d : Deed} (h : d.2.length ≤ 40) : (doneD g rm d).length ≤ 40 := by
  unfold doneD
  split
  · exact Nat.le_trans (List.length_filterMap_le _ _) h
  · simp
theorem doneR_len {g : Str × Str} {rm : Rm} (hl : rm.deeds.length ≤ 4) (h : ∀ d ∈ rm.deeds, d.2.length ≤ 40) : (doneR g rm).length ≤ 160 := by
  have := fm_len (doneD g rm.name) 40 rm.deeds fun d hd => doneD_len (h d hd)
  unfold doneR
  omega
theorem doneL_len {rs : List Rm} {g : Str × Str} (hs : RmsS rs) (hr : RowsS rs) : (doneL rs g).length ≤ 640 := by
  have h1 := fm_len (doneR g) 160 rs fun rm hm => doneR_len (hs.2 rm hm).1 (hr rm hm)
  have h2 := hs.1
  unfold doneL
  omega
theorem do_gEq (et : Hi) (row : Row) : ∃ x, gIx row.pv (.int 0) = some (.str x) ∧ decide (x = "do") = (doOf row).isSome := by cases row <;> exact ⟨_, rfl, rfl⟩
theorem filterMap_split {α β : Type} (f : α → Option β) (g : α → β) (h : ∀ x b, f x = some b → g x = b) (l : List α) : (l.filter fun x => (f x).isSome).map g = l.filterMap f := by
  induction l with
  | nil => rfl
  | cons a l ih =>
    cases ha : f a with
    | none => rw [List.filterMap_cons, ha, ← ih]; simp [ha]
    | some b => rw [List.filterMap_cons, ha, ← ih]; simp [ha, h a b ha]
def doDef (row : Row) : Str × Str := (doOf row).getD ("", "")
theorem lc_fil {α : Type} {src want : List PV} {tg : PV → En → Option En} {mt : EM Bool} {me : EM PV} {epw : En} {xs : List α} {et : Hi} {R : PV → Hi → Prop} (f g : α → PV) (keep : α → Bool) (h : src.map (deref et) = want) (hl : xs.length ≤ sizeLine)
    (step : ∀ x ∈ xs, ∃ ep1, tg (f x) epw = some ep1 ∧ (∀ Q : Bool → Hi → Prop, Q (keep x) et → mt ep1 et Q) ∧ (keep x = true → ∀ Q : PV → Hi → Prop, Q (g x) et → me ep1 et Q)) (fin : R (.lst ((xs.filter keep).map g)) et) : lcGo src want tg mt me epw (xs.map f) et R := by
  refine ⟨fun i acc et1 => et1 = et ∧ acc = ((xs.take i).filter keep).map g ∧ i ≤ xs.length, ⟨rfl, by simp, Nat.zero_le _⟩, ?_⟩
  rintro i acc et1 ⟨rfl, rfl, hi⟩
  refine ⟨h, fun p hp => ?_, fun e => ?_⟩
  · rw [List.getElem?_map] at hp
    obtain ⟨x, hx, rfl⟩ := Option.map_eq_some_iff.mp hp
    obtain ⟨ep1, h1, h2, h3⟩ := step x (List.mem_of_getElem? hx)
    have hlt := (List.getElem?_eq_some_iff.mp hx).1
    refine ⟨ep1, h1, h2 _ ?_⟩
    have etk : xs.take (i + 1) = xs.take i ++ [x] := by rw [List.take_succ, hx]; rfl
    cases hg : keep x with
    | true =>
      simp only [if_true]
      refine h3 hg _ ⟨?_, rfl, ?_, hlt⟩
      · rw [List.length_map]
        have := List.length_filter_le keep (xs.take i)
        rw [List.length_take] at this
        omega
      · rw [etk, List.filter_append, List.map_append]; simp [hg]
    | false =>
      simp only [Bool.false_eq_true, if_false]
      refine ⟨trivial, ?_, hlt⟩
      rw [etk, List.filter_append, List.map_append]; simp [hg]
  · rw [List.length_map] at e
    rw [e, List.take_length]; exact fin
def spDone : FSpec := fun args et R => ∃ (rs : List Rm) (g : Str × Str), args = [.tup (rs.map Rm.pv), goalPV g] ∧ RmsS rs ∧ RowsS rs ∧ NmsW rs ∧ isWord g.1 = true ∧ isWord g.2 = true ∧ R (.ref et.length) (et ++ [.lst ((doneL rs g).map goalPV)])
theorem goal_eq {a b c d : Str} (ha : isWord a = true) (hb : isWord b = true) (hc : isWord c = true) (hd : isWord d = true) : gEq (.tup [.str a, .str b]) (.tup [.str c, .str d]) = some (.bl (decide (a = c ∧ b = d))) := by
  have o1 : dok (.tup [.str a, .str b]) = true := by simp [dok, doks, isWord_strOk ha, isWord_strOk hb]
  have o2 : dok (.tup [.str c, .str d]) = true := by simp [dok, doks, isWord_strOk hc, isWord_strOk hd]
  have p1 : dpt (.tup [.str a, .str b]) = 1 := by simp [dpt, dpts]
  have p2 : dpt (.tup [.str c, .str d]) = 1 := by simp [dpt, dpts]
  unfold gEq
  rw [eqB_peq o1 o2 (by omega) (by omega)]
  simp [peq, peqs]
  rw [Bool.eq_iff_iff]; simp
theorem done_ok (args : List PV) (et : Hi) (R : PV → Hi → Prop) (h : spDone args et R) : r_deeds_done (env0 N_deeds_done args) et (retK R) := by
  obtain ⟨rs, g, rfl, hs, hr, hn, g1, g2, hR⟩ := h
  show r_deeds_done [.val (.tup (rs.map Rm.pv)), .val (goalPV g), .no, .no, .no, .no, .no] et (retK R)
  have big : (2000 : Nat) ≤ sizeLine := by decide
  unfold r_deeds_done
  simp!
  refine ⟨Nat.zero_le _, ?_⟩
  unfold r_deeds_done_0
  simp!
  refine ⟨_, rfl, ?_⟩
  refine ⟨fun i ep et1 => et1 = et ++ [.lst ((doneL (rs.take i) g).map goalPV)] ∧ ∃ t3 t4 t5 t6, ep = [.val (.tup (rs.map Rm.pv)), .val (goalPV g), .val (.ref et.length), t3, t4, t5, t6], ⟨rfl, _, _, _, _, rfl⟩, ?_⟩
  rintro i ep et1 ⟨rfl, t3, t4, t5, t6, rfl⟩
  refine ⟨rfl, fun p hpi => ⟨_, rfl, ?_⟩, fun e => ?_⟩
  · rw [List.getElem?_map] at hpi
    obtain ⟨rm, hi, rfl⟩ := Option.map_eq_some_iff.mp hpi
    have hm := List.mem_of_getElem? hi
    have etk : doneL (rs.take (i + 1)) g = doneL (rs.take i) g ++ doneR g rm := by
      unfold doneL
      rw [List.take_succ, hi, List.flatMap_append]
      simp
    have hll : (doneL (rs.take i) g).length ≤ 640 := doneL_len ⟨by rw [List.length_take]; have := hs.1; omega, fun r hr => hs.2 r (List.mem_of_mem_take hr)⟩ fun r h => hr r (List.mem_of_mem_take h)
    obtain ⟨nw, dw⟩ := hn rm hm
    have dl := (hs.2 rm hm).1
    unfold r_deeds_done_1
    simp!
    refine ⟨.tup (rm.deeds.map deedPV), rfl, _, rfl, ?_⟩
    refine ⟨fun j ep et1 => et1 = et ++ [.lst ((doneL (rs.take i) g ++ (rm.deeds.take j).flatMap (doneD g rm.name)).map goalPV)] ∧ ∃ t4 t5 t6, ep = [.val (.tup (rs.map Rm.pv)), .val (goalPV g), .val (.ref et.length), .val rm.pv, t4, t5, t6], ⟨by simp, _, _, _, rfl⟩, ?_⟩
    rintro j ep et1 ⟨rfl, t4, t5, t6, rfl⟩
    refine ⟨rfl, fun p hpj => ?_, fun e => ?_⟩
    · rw [List.getElem?_map] at hpj
      obtain ⟨d, hj, rfl⟩ := Option.map_eq_some_iff.mp hpj
      have hd := List.mem_of_getElem? hj
      have etj : (rm.deeds.take (j + 1)).flatMap (doneD g rm.name) = (rm.deeds.take j).flatMap (doneD g rm.name) ++ doneD g rm.name d := by
        rw [List.take_succ, hj, List.flatMap_append]
        simp
      have hl2 : ((rm.deeds.take j).flatMap (doneD g rm.name)).length ≤ 160 := by
        have := fm_len (doneD g rm.name) 40 (rm.deeds.take j) fun d hd => doneD_len (hr rm hm d (List.mem_of_mem_take hd))
        rw [List.length_take] at this
        omega
      generalize hA : doneL (rs.take i) g ++ (rm.deeds.take j).flatMap (doneD g rm.name) = A
      have hAl : A.length ≤ 800 := by rw [← hA, List.length_append]; omega
      refine ⟨_, rfl, ?_⟩
      unfold r_deeds_done_2
      simp!
      refine ⟨.str rm.name, rfl, by decide, _, goal_eq nw (dw d hd) g1 g2, ?_⟩
      rw [etj, ← List.append_assoc, hA]
      by_cases hc : rm.name = g.1 ∧ d.1 = g.2
      · have eD : doneD g rm.name d = d.2.filterMap doOf := by unfold doneD; rw [if_pos hc]
        rw [show decide (rm.name = g.1 ∧ d.1 = g.2) = true from decide_eq_true hc, eD]
        simp only [if_true]
        unfold r_deeds_done_3
        have hcell : (et ++ [Cell.lst (A.map goalPV)])[et.length]? = some (.lst (A.map goalPV)) := by simp
        have hd0 : deref (et ++ [Cell.lst (A.map goalPV)]) (.ref et.length) = .lst (A.map goalPV) := deref_ref hcell
        simp! [hd0]
        refine ⟨_, rfl, ?_⟩
        refine lc_fil Row.pv (fun row => goalPV (doDef row)) (fun row => (doOf row).isSome) rfl (forty_le (hr rm hm d hd)) (fun row hrow => ⟨_, rfl, fun Q hQ => ?_, fun hk Q hQ => ?_⟩) ?_
        · obtain ⟨x, h1, h2⟩ := do_gEq et row
          simp!
          refine ⟨.str x, by rw [row_deref]; exact h1, _, gEq_str _ _, ?_⟩
          rw [h2]; exact hQ
        · cases row <;> first | (cases hk; done) | skip
          rename_i go r0 d0 s0
          simp!
          exact ⟨.str r0, rfl, .str d0, rfl, by decide, hQ⟩
        · have ef : (d.2.filter fun row => (doOf row).isSome).map (fun row => goalPV (doDef row)) = (d.2.filterMap doOf).map goalPV := by
            rw [← filterMap_split doOf doDef (fun x b hb => by unfold doDef; rw [hb]; rfl), List.map_map]
            rfl
          have hl3 := List.length_filterMap_le doOf d.2
          have hl4 := hr rm hm d hd
          rw [ef]
          simp only [hd0]
          refine ⟨.lst ((A ++ d.2.filterMap doOf).map goalPV), .non, .lst ((A ++ d.2.filterMap doOf).map goalPV), ?_, trivial, rfl, ?_, _, _, _, rfl⟩
          · unfold gmExtend
            simp only [deref_lst]
            rw [if_pos (by rw [List.length_map, List.length_map]; omega), List.map_append]
          · exact Mw.set_last
      · have eD : doneD g rm.name d = [] := by unfold doneD; rw [if_neg hc]
        have hc' : decide (rm.name = g.1 ∧ d.1 = g.2) = false := decide_eq_false hc
        rw [hc', eD, List.append_nil]
        simp only [Bool.false_eq_true, if_false]
        exact ⟨trivial, _, _, _, rfl⟩
    · rw [List.length_map] at e
      subst e
      rw [List.take_length]
      refine ⟨?_, _, _, _, _, rfl⟩
      rw [etk]; rfl
  · rw [List.length_map] at e
    subst e
    rw [List.take_length]
    unfold r_deeds_done_4
    simp!
    exact hR
inductive Comes (rs : List Rm) (a : Str × Str) : Str × Str → Prop
  | one {b : Str × Str} : b ∈ doneL rs a → Comes rs a b
  | more {b c : Str × Str} : Comes rs a b → c ∈ doneL rs b → Comes rs a c
def GoalsW (rs : List Rm) : Prop := ∀ rm ∈ rs, ∀ d ∈ rm.deeds, ∀ row ∈ d.2, ∀ g, doOf row = some g → isWord g.1 = true ∧ isWord g.2 = true
def allL (rs : List Rm) : List (Str × Str) := rs.flatMap fun rm => rm.deeds.flatMap fun d => d.2.filterMap doOf
theorem done_all {rs : List Rm} {g x : Str × Str} (h : x ∈ doneL rs g) : x ∈ allL rs := by
  unfold doneL at h
  obtain ⟨rm, hm, h⟩ := List.mem_flatMap.mp h
  unfold doneR at h
  obtain ⟨d, hd, h⟩ := List.mem_flatMap.mp h
  unfold doneD at h
  split at h
  · exact List.mem_flatMap.mpr ⟨rm, hm, List.mem_flatMap.mpr ⟨d, hd, h⟩⟩
  · cases h
theorem all_len {rs : List Rm} (hs : RmsS rs) (hr : RowsS rs) : (allL rs).length ≤ 640 := by
  have h1 := fm_len (fun rm : Rm => rm.deeds.flatMap fun d => d.2.filterMap doOf) 160 rs fun rm hm => by
    have h2 := fm_len (fun d : Deed => d.2.filterMap doOf) 40 rm.deeds fun d hd => Nat.le_trans (List.length_filterMap_le _ _) (hr rm hm d hd)
    have h3 := (hs.2 rm hm).1
    omega
  have h2 := hs.1
  unfold allL
  omega
theorem all_word {rs : List Rm} (hg : GoalsW rs) {x : Str × Str} (h : x ∈ allL rs) : isWord x.1 = true ∧ isWord x.2 = true := by
  obtain ⟨rm, hm, h⟩ := List.mem_flatMap.mp h
  obtain ⟨d, hd, h⟩ := List.mem_flatMap.mp h
  obtain ⟨row, hr, h⟩ := List.mem_filterMap.mp h
  exact hg rm hm d hd row hr x h
theorem nodup_len {α : Type} [BEq α] [LawfulBEq α] : ∀ (F A : List α), F.Nodup → (∀ x ∈ F, x ∈ A) → F.length ≤ A.length
  | [], _, _, _ => Nat.zero_le _
  | x :: F, A, hn, hs => by
    rw [List.nodup_cons] at hn
    have hx := hs x List.mem_cons_self
    have h1 := nodup_len F (A.erase x) hn.2 fun y hy => (List.mem_erase_of_ne fun e => hn.1 (by rw [← e]; exact hy)).mpr (hs y (List.mem_cons_of_mem _ hy))
    have h2 := List.length_erase_of_mem hx
    have h3 := List.length_pos_of_mem hx
    rw [List.length_cons]
    omega
def kvF (F : List (Str × Str)) : List (PV × PV) := F.map fun x => (goalPV x, PV.bl true)
theorem nk_goal (x : Str × Str) : nkP (goalPV x) = some (.tup [.text x.1, .text x.2]) := rfl
theorem at_goal : ∀ (F : List (Str × Str)) (x : Str × Str), (ndAt (kvF F) (goalPV x)).isSome = decide (x ∈ F)
  | [], x => by simp [kvF, ndAt]
  | a :: F, x => by
    have ih := at_goal F x
    by_cases e : a = x
    · subst e
      simp [kvF, ndAt, List.find?]
    · have e1 : ¬ nkP (goalPV a) = nkP (goalPV x) := fun z => by
        rw [nk_goal, nk_goal] at z
        simp at z
        exact e (Prod.ext z.1 z.2)
      have e2 : ndAt (kvF (a :: F)) (goalPV x) = ndAt (kvF F) (goalPV x) := by simp [kvF, ndAt, List.find?, e1]
      rw [e2, ih]
      have : ¬ x = a := fun z => e z.symm
      simp [this]
theorem put_goal {F : List (Str × Str)} {x : Str × Str} (h : x ∉ F) : ndPut (kvF F) (goalPV x) (.bl true) = kvF (F ++ [x]) := by
  unfold ndPut
  rw [at_goal, decide_eq_false h, if_neg (by decide)]
  simp [kvF]
theorem ask_goal (x : Str × Str) : nkAsk (goalPV x) = true := by
  unfold nkAsk goalPV
  simp [nkP, nkPs, NestedKey.depth, NestedKey.depthAll]
theorem at0 {et J : Hi} {a b : Cell} : (et ++ a :: b :: J)[et.length]? = some a := by simp
theorem at1 {et J : Hi} {a b : Cell} : (et ++ a :: b :: J)[et.length + 1]? = some b := by
  rw [List.getElem?_append_right (by omega)]
  simp
theorem st0 {et J : Hi} {a b c : Cell} : (et ++ a :: b :: J).set et.length c = et ++ c :: b :: J := by
  rw [List.set_append_right _ _ (by omega)]
  simp
theorem st1 {et J : Hi} {a b c : Cell} : (et ++ a :: b :: J).set (et.length + 1) c = et ++ a :: c :: J := by
  rw [List.set_append_right _ _ (by omega)]
  simp
structure Seek (rs : List Rm) (g : Str × Str) (F W : List (Str × Str)) : Prop where
  cf : ∀ x ∈ F, Comes rs g x
  cw : ∀ x ∈ W, Comes rs g x
  nd : F.Nodup
  fa : ∀ x ∈ F, x ∈ allL rs
  wa : ∀ x ∈ W, x ∈ allL rs
  one : ∀ x ∈ doneL rs g, x ∈ F ∨ x ∈ W
  cl : ∀ x ∈ F, ∀ y ∈ doneL rs x, y ∈ F ∨ y ∈ W
  wl : W.length ≤ 640 * (F.length + 1)
theorem Seek.begin {rs : List Rm} {g : Str × Str} (hs : RmsS rs) (hr : RowsS rs) : Seek rs g [] (doneL rs g) :=
  ⟨by simp, fun x hx => .one hx, by simp, by simp, fun x hx => done_all hx, fun x hx => .inr hx, by simp, by have := doneL_len (g := g) hs hr; simp; omega⟩
theorem Seek.old {rs : List Rm} {g x : Str × Str} {F W : List (Str × Str)} (h : Seek rs g F (W ++ [x])) (hx : x ∈ F) : Seek rs g F W where
  cf := h.cf
  cw := fun y hy => h.cw y (List.mem_append_left _ hy)
  nd := h.nd
  fa := h.fa
  wa := fun y hy => h.wa y (List.mem_append_left _ hy)
  one := fun y hy => by
    rcases h.one y hy with h1 | h1
    · exact .inl h1
    · rcases List.mem_append.mp h1 with h1 | h1
      · exact .inr h1
      · rw [List.mem_singleton.mp h1]; exact .inl hx
  cl := fun z hz y hy => by
    rcases h.cl z hz y hy with h1 | h1
    · exact .inl h1
    · rcases List.mem_append.mp h1 with h1 | h1
      · exact .inr h1
      · rw [List.mem_singleton.mp h1]; exact .inl hx
  wl := by have := h.wl; rw [List.length_append] at this; omega
theorem Seek.new {rs : List Rm} {g x : Str × Str} {F W : List (Str × Str)} (hs : RmsS rs) (hr : RowsS rs) (h : Seek rs g F (W ++ [x])) (hx : x ∉ F) : Seek rs g (F ++ [x]) (W ++ doneL rs x) where
  cf := fun y hy => by
    rcases List.mem_append.mp hy with hy | hy
    · exact h.cf y hy
    · rw [List.mem_singleton.mp hy]; exact h.cw x (by simp)
  cw := fun y hy => by
    rcases List.mem_append.mp hy with hy | hy
    · exact h.cw y (List.mem_append_left _ hy)
    · exact .more (h.cw x (by simp)) hy
  nd := by
    rw [List.nodup_append]
    refine ⟨h.nd, by simp, fun a ha b hb e => ?_⟩
    rw [List.mem_singleton.mp hb] at e
    exact hx (e ▸ ha)
  fa := fun y hy => by
    rcases List.mem_append.mp hy with hy | hy
    · exact h.fa y hy
    · rw [List.mem_singleton.mp hy]; exact h.wa x (by simp)
  wa := fun y hy => by
    rcases List.mem_append.mp hy with hy | hy
    · exact h.wa y (List.mem_append_left _ hy)
    · exact done_all hy
  one := fun y hy => by
    rcases h.one y hy with h1 | h1
    · exact .inl (List.mem_append_left _ h1)
    · rcases List.mem_append.mp h1 with h1 | h1
      · exact .inr (List.mem_append_left _ h1)
      · exact .inl (List.mem_append_right _ h1)
  cl := fun z hz y hy => by
    rcases List.mem_append.mp hz with hz | hz
    · rcases h.cl z hz y hy with h1 | h1
      · exact .inl (List.mem_append_left _ h1)
      · rcases List.mem_append.mp h1 with h1 | h1
        · exact .inr (List.mem_append_left _ h1)
        · exact .inl (List.mem_append_right _ h1)
    · rw [List.mem_singleton.mp hz] at hy
      exact .inr (List.mem_append_right _ hy)
  wl := by
    have h1 := h.wl
    have h2 := doneL_len (g := x) hs hr
    simp only [List.length_append, List.length_singleton] at h1 ⊢
    omega
theorem Seek.done {rs : List Rm} {g : Str × Str} {F : List (Str × Str)} (h : Seek rs g F []) (x : Str × Str) : x ∈ F ↔ Comes rs g x := by
  refine ⟨h.cf x, fun hc => ?_⟩
  induction hc with
  | one hb => rcases h.one _ hb with h1 | h1
              · exact h1
              · cases h1
  | more _ hc ih => rcases h.cl _ ih _ hc with h1 | h1
                    · exact h1
                    · cases h1
theorem Seek.fl {rs : List Rm} {g : Str × Str} {F W : List (Str × Str)} (hs : RmsS rs) (hr : RowsS rs) (h : Seek rs g F W) : F.length ≤ (allL rs).length := nodup_len F _ h.nd h.fa
def SelfOk (rs : List Rm) (g : Str × Str) : Prop := RmsS rs ∧ RowsS rs ∧ NmsW rs ∧ GoalsW rs ∧ isWord g.1 = true ∧ isWord g.2 = true
def spSelfJ : FSpec := fun args et R => ∃ (rs : List Rm) (g : Str × Str), args = [.tup (rs.map Rm.pv), goalPV g] ∧ SelfOk rs g ∧ ∀ (b : Bool) (junk : Hi), (b = true ↔ Comes rs g g) → R (.bl b) (et ++ junk)
theorem self_ok (hs0 : NestedKey → Int) (args : List PV) (et : Hi) (R : PV → Hi → Prop) (h : spSelfJ args et R) : r_comes_to_itself hs0 spDone (env0 N_comes_to_itself args) et (retK R) := by
  obtain ⟨rs, g, rfl, ⟨hs, hr, hn, hg, g1, g2⟩, hR⟩ := h
  show r_comes_to_itself _ _ [.val (.tup (rs.map Rm.pv)), .val (goalPV g), .no, .no, .no] et (retK R)
  have big : (500000 : Nat) ≤ sizeLine := by decide
  have al := all_len hs hr
  unfold r_comes_to_itself
  simp! [mTdSh, mDic0]
  unfold r_comes_to_itself_0
  simp!
  refine ⟨rs, g, rfl, hs, hr, hn, g1, g2, ?_⟩
  unfold r_comes_to_itself_1 mWhile
  simp!
  refine ⟨fun k ep et1 => ∃ F W t4 J, Seek rs g F W ∧ ep = [.val (.tup (rs.map Rm.pv)), .val (goalPV g), .val (.ref et.length), .val (.ref (et.length + 1)), t4] ∧ et1 = et ++ .td hs0 (kvF F) :: .lst (W.map goalPV) :: J ∧ k = ((allL rs).length - F.length) * 641 + W.length, ⟨_, [], doneL rs g, .no, [], Seek.begin hs hr, by simp, by simp [kvF], rfl⟩, ?_⟩
  rintro k ep et1 ⟨F, W, t4, J, sk, rfl, rfl, rfl⟩
  have hd1 : ∀ F W J, deref (et ++ Cell.td hs0 F :: .lst W :: J) (.ref (et.length + 1)) = .lst W := fun F W J => deref_ref at1
  have okW : okG W := fun x hx => all_word hg (sk.wa x hx)
  have fl := sk.fl hs hr
  simp! [hd1, gNe_goals okW, Nat.zero_le]
  rcases List.eq_nil_or_concat W with rfl | ⟨W0, x, rfl⟩
  · simp only [List.isEmpty_nil, Bool.not_true, Bool.false_eq_true, if_false]
    unfold r_comes_to_itself_6
    simp! [mTdIn]
    refine ⟨et.length, kvF F, rfl, at0, ask_goal g, ?_⟩
    rw [at_goal]
    exact hR _ _ (by rw [decide_eq_true_iff]; exact sk.done g)
  · have hne : (W0 ++ [x]).isEmpty = false := by simp
    rw [List.concat_eq_append] at *
    simp only [hne, Bool.not_false, if_true]
    unfold r_comes_to_itself_2
    simp! [hd1]
    refine ⟨.lst (W0.map goalPV), goalPV x, .lst (W0.map goalPV), by unfold gmPop; simp, rfl, ?_⟩
    rw [st1]
    obtain ⟨x1, x2⟩ := okW x (by simp)
    unfold r_comes_to_itself_3
    simp! [mTdIn]
    refine ⟨et.length, kvF F, rfl, at0, ask_goal x, ?_⟩
    rw [at_goal]
    by_cases hx : x ∈ F
    · simp only [hx, decide_true, Bool.not_true, Bool.false_eq_true, if_false]
      refine ⟨((allL rs).length - F.length) * 641 + W0.length, by rw [List.length_append]; simp, F, W0, _, J, sk.old hx, rfl, rfl, rfl⟩
    · have hx' : decide (x ∈ F) = false := decide_eq_false hx
      simp only [hx', Bool.not_false, if_true]
      unfold r_comes_to_itself_4
      simp! [mTdPut]
      have sk2 := sk.new hs hr hx
      have fl2 := sk2.fl hs hr
      refine ⟨et.length, kvF F, rfl, at0, ask_goal x, by unfold kvF; rw [List.length_map]; omega, ?_⟩
      rw [st0, put_goal hx]
      unfold r_comes_to_itself_5
      simp! [hd1]
      refine ⟨rs, x, rfl, hs, hr, hn, x1, x2, ?_⟩
      have hlen : (et ++ Cell.td hs0 (kvF (F ++ [x])) :: .lst (W0.map goalPV) :: J).length = et.length + 2 + J.length := by simp; omega
      have hd2 : deref ((et ++ Cell.td hs0 (kvF (F ++ [x])) :: .lst (W0.map goalPV) :: J) ++ [.lst ((doneL rs x).map goalPV)]) (.ref (et ++ Cell.td hs0 (kvF (F ++ [x])) :: .lst (W0.map goalPV) :: J).length) = .lst ((doneL rs x).map goalPV) := deref_ref (by simp)
      have ea : (et ++ Cell.td hs0 (kvF (F ++ [x])) :: .lst (W0.map goalPV) :: J) ++ [.lst ((doneL rs x).map goalPV)] = et ++ Cell.td hs0 (kvF (F ++ [x])) :: .lst (W0.map goalPV) :: (J ++ [.lst ((doneL rs x).map goalPV)]) := by simp
      have wl2 := sk2.wl
      rw [ea] at hd2 ⊢
      simp only [List.length_append, List.length_singleton] at wl2 fl2
      refine ⟨.lst ((W0 ++ doneL rs x).map goalPV), .non, .lst ((W0 ++ doneL rs x).map goalPV), ?_, by rw [hd1], rfl, ?_⟩
      · unfold gmExtend
        simp only [hd1, hd2]
        rw [if_pos (by rw [List.length_map, List.length_map]; omega), List.map_append]
      · rw [st1]
        have l2 := doneL_len (g := x) hs hr
        refine ⟨((allL rs).length - (F ++ [x]).length) * 641 + (W0 ++ doneL rs x).length, ?_, F ++ [x], W0 ++ doneL rs x, _, _, sk2, rfl, rfl, rfl⟩
        simp only [List.length_append, List.length_singleton]
        omega
def spSelf : FSpec := fun args et R => ∃ (rs : List Rm) (g : Str × Str), args = [.tup (rs.map Rm.pv), goalPV g] ∧ (∀ d ∈ et, belC et.length d) ∧ SelfOk rs g ∧ ∀ b : Bool, (b = true ↔ Comes rs g g) → R (.bl b) et
theorem self_imp {K : PySem.W.Frag} {mg : Str → Option Value} {vs : List V} {H : Hp} {Q : VK} {E : XK} (h : FS K mg 2 spSelf vs H Q E) : FS K mg 2 spSelfJ vs H Q E :=
  gc_imp h fun args et R ⟨rs, g, e, hb, ok, hR⟩ => ⟨hb, rs, g, e, ok, fun b junk hbb => ⟨junk, rfl, rfl, hR b hbb⟩⟩
noncomputable def selfB (rs : List Rm) (g : Str × Str) : Bool := @decide (Comes rs g g) (Classical.propDecidable _)
theorem selfB_iff {rs : List Rm} {g : Str × Str} : selfB rs g = true ↔ Comes rs g g := by unfold selfB; exact @decide_eq_true_iff _ (Classical.propDecidable _)
theorem selfB_eq {rs : List Rm} {g : Str × Str} {b : Bool} (h : b = true ↔ Comes rs g g) : b = selfB rs g := by
  rw [Bool.eq_iff_iff, selfB_iff]; exact h
noncomputable def worldR (w : Wld) : Bool := !(w.rooms.map (·.name)).any (fun x => decide (x ∈ w.passes.map (·.1))) && (w.rooms.all (roomR w.rooms) && (w.hands.all (handR w) && w.rooms.all fun rm => !(rm.deeds.map (·.1)).any fun d => selfB w.rooms (rm.name, d)))
structure WldW (w : Wld) : Prop where
  s : WldS w
  n : NmsW w.rooms
  g : GoalsW w.rooms
theorem WldW.rs {w : Wld} (h : WldW w) : RowsS w.rooms := fun rm hm d hd => (h.s.rp rm hm d hd).1
def spIsWorld : FSpec := fun args et R => ∃ p : PV, args = [p] ∧ (∀ d ∈ et, belC et.length d) ∧ fits 12 p = true ∧ ((formB p = false ∧ R (.bl false) et) ∨ (formB p = true ∧ ∃ w : Wld, p = w.pv ∧ WldW w ∧ R (.bl (worldR w)) et))
theorem rooms_named (rs : List Rm) : ∀ x ∈ rs.map Rm.pv, Named x := fun x hx => by
  obtain ⟨d, _, rfl⟩ := List.mem_map.mp hx
  exact ⟨d.name, _, rfl⟩
theorem rooms_firsts (rs : List Rm) : (rs.map Rm.pv).map fst0 = (rs.map (·.name)).map .str := by
  rw [List.map_map, List.map_map]
  rfl
theorem is_world_ok (args : List PV) (et : Hi) (R : PV → Hi → Prop) (h : spIsWorld args et R) : r_is_world spFormed spFirsts spRoomR spHandR spSelf (env0 N_is_world args) et (retK R) := by
  obtain ⟨p, rfl, hb, hf, h⟩ := h
  show r_is_world _ _ _ _ _ [.val p, .no, .no, .no, .no, .no, .no, .no] et (retK R)
  unfold r_is_world
  simp!
  refine ⟨p, rfl, hf, _, rfl, ?_⟩
  rcases h with ⟨e, hR⟩ | ⟨e, w, rfl, hw, hR⟩
  · rw [e]
    simp only [Bool.not_false, if_true]
    unfold r_is_world_0
    simp!
    exact hR
  · rw [e]
    simp only [Bool.not_true, Bool.false_eq_true, if_false]
    have hs := hw.s
    have l4 : w.rooms.length ≤ sizeLine := four_le hs.rms.1
    have l16 : w.passes.length ≤ sizeLine := Nat.le_trans hs.pl (by decide)
    unfold r_is_world_1
    simp!
    refine ⟨_, rfl, ?_⟩
    unfold r_is_world_2
    simp!
    refine ⟨w.rooms.map Rm.pv, rfl, by rw [List.length_map]; exact l4, named_first (rooms_named _), ?_⟩
    rw [rooms_firsts]
    refine ⟨_, rfl, ?_⟩
    unfold worldR at hR
    refine lc_map PV.str (fun x => .bl (decide (x ∈ w.passes.map (·.1)))) rfl (by rw [List.length_map]; exact l4) (fun x hx => ⟨_, rfl, fun Q hQ => ?_⟩) ?_
    · simp!
      refine ⟨w.passes.map pairPV, rfl, by rw [List.length_map]; exact l16, named_first (pairs_named _), ?_⟩
      rw [pairs_firsts]
      exact ⟨_, in_strs _ _, hQ⟩
    simp! [gAny_bls]
    cases h1 : (w.rooms.map (·.name)).any (fun x => decide (x ∈ w.passes.map (·.1))) with
    | true =>
      simp only [if_true]
      unfold r_is_world_3
      simp!
      rw [h1] at hR; exact hR
    | false =>
    rw [h1, Bool.not_false, Bool.true_and] at hR
    simp only [Bool.false_eq_true, if_false]
    unfold r_is_world_4
    simp!
    refine ⟨_, rfl, ?_⟩
    refine lc_map Rm.pv (fun rm => .bl (roomR w.rooms rm)) rfl l4 (fun rm hm => ⟨_, rfl, fun Q hQ => ?_⟩) ?_
    · simp!
      exact ⟨w.rooms, rm, rfl, hs.rms, hm, hs.rp rm hm, hQ⟩
    simp! [gAll_bls]
    cases h2 : w.rooms.all (roomR w.rooms) with
    | false =>
      simp only [Bool.not_false, if_true]
      unfold r_is_world_5
      simp!
      rw [h2] at hR; exact hR
    | true =>
    rw [h2, Bool.true_and] at hR
    simp only [Bool.not_true, Bool.false_eq_true, if_false]
    unfold r_is_world_6
    simp!
    refine ⟨_, rfl, ?_⟩
    refine lc_map handPV (fun h => .bl (handR w h)) rfl (four_le hs.hl) (fun h hm => ⟨_, rfl, fun Q hQ => ?_⟩) ?_
    · simp!
      exact ⟨w, h, rfl, hs, hm, hQ⟩
    simp! [gAll_bls]
    cases h3 : w.hands.all (handR w) with
    | false =>
      simp only [Bool.not_false, if_true]
      unfold r_is_world_7
      simp!
      rw [h3] at hR; exact hR
    | true =>
    rw [h3, Bool.true_and] at hR
    simp only [Bool.not_true, Bool.false_eq_true, if_false]
    unfold r_is_world_8
    simp!
    refine ⟨_, rfl, ?_⟩
    refine ⟨fun i ep et1 => et1 = et ∧ (w.rooms.take i).all (fun rm => !(rm.deeds.map (·.1)).any fun d => selfB w.rooms (rm.name, d)) = true ∧ ∃ t5 t6, ep = [.val w.pv, .val (.tup (w.rooms.map Rm.pv)), .val (.tup (w.passes.map pairPV)), .val (.tup (w.shared.map pairPV)), .val (.tup (w.hands.map handPV)), t5, t6, .no], ⟨rfl, rfl, _, _, rfl⟩, ?_⟩
    rintro i ep et1 ⟨rfl, ha, t5, t6, rfl⟩
    refine ⟨rfl, fun p hpi => ⟨_, rfl, ?_⟩, fun e => ?_⟩
    · rw [List.getElem?_map] at hpi
      obtain ⟨rm, hi, rfl⟩ := Option.map_eq_some_iff.mp hpi
      have hm := List.mem_of_getElem? hi
      have dl := (hs.rms.2 rm hm).1
      obtain ⟨nw, dw⟩ := hw.n rm hm
      unfold r_is_world_9
      simp!
      refine ⟨.tup (rm.deeds.map deedPV), rfl, rm.deeds.map deedPV, rfl, by rw [List.length_map]; exact four_le dl, named_first (deeds_named _), ?_⟩
      rw [deeds_firsts]
      refine ⟨_, rfl, ?_⟩
      refine lc_map PV.str (fun d => .bl (selfB w.rooms (rm.name, d))) rfl (by rw [List.length_map]; exact four_le dl) (fun d hd => ⟨_, rfl, fun Q hQ => ?_⟩) ?_
      · obtain ⟨dd, hdd, rfl⟩ := List.mem_map.mp hd
        simp!
        refine ⟨.str rm.name, rfl, by decide, w.rooms, (rm.name, dd.1), rfl, hb, ⟨hs.rms, hw.rs, hw.n, hw.g, nw, dw dd hdd⟩, fun b hbb => ?_⟩
        rw [selfB_eq hbb]
        exact hQ
      · simp! [gAny_bls]
        cases h4 : (rm.deeds.map (·.1)).any (fun d => selfB w.rooms (rm.name, d)) with
        | true =>
          simp only [if_true]
          unfold r_is_world_10
          simp!
          have : w.rooms.all (fun rm => !(rm.deeds.map (·.1)).any fun d => selfB w.rooms (rm.name, d)) = false := List.all_eq_false.mpr ⟨rm, hm, by rw [h4]; decide⟩
          rw [this] at hR; exact hR
        | false =>
          simp only [Bool.false_eq_true, if_false]
          refine ⟨?_, _, _, rfl⟩
          rw [List.take_succ, hi, List.all_append, ha]
          simp only [Option.toList_some, List.all_cons, List.all_nil, h4]
          rfl
    · rw [List.length_map] at e
      rw [e, List.take_length] at ha
      unfold r_is_world_11
      simp!
      rw [ha] at hR; exact hR
theorem part_word (k : Nat) (p : PV) : partB "word" k p = wordB p := rfl
theorem part_sum (k : Nat) (p : PV) : partB "sum" k p = sumIn 5 p := rfl
theorem part_place (k : Nat) (p : PV) : partB "place" k p = placeB k p := rfl
theorem part_goal (k : Nat) (p : PV) : partB "goal" k p = (nonB p || wordB p) := rfl
theorem place_of {k j : Nat} (h : j ≤ k) : placeB k (.int j) = true := by
  simp only [placeB, Bool.and_eq_true, decide_eq_true_eq]; omega
def rowF (k : Nat) : Row → Prop
  | .put x s => isWord x = true ∧ sumIn 5 s.pv = true
  | .unl s j => sumIn 5 s.pv = true ∧ j ≤ k
  | .go j => j ≤ k
  | .doo g r d s => (∀ x, g = some x → isWord x = true) ∧ isWord r = true ∧ isWord d = true ∧ sumIn 5 s.pv = true
  | .wait b s => isWord b = true ∧ sumIn 5 s.pv = true
  | .call b => isWord b = true
  | .all b => isWord b = true
  | .tell s => sumIn 5 s.pv = true
  | .take p => isWord p = true
  | .give p => isWord p = true
  | .pass p q => isWord p = true ∧ isWord q = true
  | .say s => sumIn 5 s.pv = true
theorem rowB_at {k : Nat} {w : Str} {r : List PV} {fs : List Str} (e : tt_FORMS.lookup w = some fs) (hl : r.length = fs.length) (h : ((r.zip fs).all fun x => partB x.2 k x.1) = true) : rowB k (.tup (.str w :: r)) = true := by
  simp only [rowB, e, hl, h, decide_true, Bool.and_true]
theorem row_of {k : Nat} {row : Row} (h : rowF k row) : rowB k row.pv = true := by
  have wb : ∀ {x : Str}, isWord x = true → wordB (.str x) = true := fun h => h
  cases row with
  | put x s => exact rowB_at (fs := ["word", "sum"]) rfl rfl (by simp [part_word, part_sum, wb h.1, h.2])
  | unl s j => exact rowB_at (fs := ["sum", "place"]) rfl rfl (by simp [part_place, part_sum, place_of h.2, h.1])
  | go j => exact rowB_at (fs := ["place"]) rfl rfl (by simp [part_place, place_of (show j ≤ k from h)])
  | doo g r d s =>
    refine rowB_at (fs := ["goal", "word", "word", "sum"]) rfl rfl ?_
    have hg : (nonB (optPV g) || wordB (optPV g)) = true := by
      cases g with
      | none => rfl
      | some x => show (false || isWord x) = true; rw [h.1 x rfl]; rfl
    simp [part_word, part_sum, part_goal, hg, wb h.2.1, wb h.2.2.1, h.2.2.2]
  | wait x s => exact rowB_at (fs := ["word", "sum"]) rfl rfl (by simp [part_word, part_sum, wb h.1, h.2])
  | call x => exact rowB_at (fs := ["word"]) rfl rfl (by simp [part_word, wb (show isWord x = true from h)])
  | all x => exact rowB_at (fs := ["word"]) rfl rfl (by simp [part_word, wb (show isWord x = true from h)])
  | tell s => exact rowB_at (fs := ["sum"]) rfl rfl (by simp [part_sum, show sumIn 5 s.pv = true from h])
  | take x => exact rowB_at (fs := ["word"]) rfl rfl (by simp [part_word, wb (show isWord x = true from h)])
  | give x => exact rowB_at (fs := ["word"]) rfl rfl (by simp [part_word, wb (show isWord x = true from h)])
  | pass x y => exact rowB_at (fs := ["word", "word"]) rfl rfl (by simp [part_word, wb h.1, wb h.2])
  | say s => exact rowB_at (fs := ["sum"]) rfl rfl (by simp [part_sum, show sumIn 5 s.pv = true from h])
def progF (rows : List Row) : Prop := 1 ≤ rows.length ∧ rows.length ≤ 40 ∧ ∀ row ∈ rows, rowF rows.length row
theorem prog_of {rows : List Row} (h : progF rows) : progB (progPV rows) = true := by
  simp only [progB, progPV, List.length_map, Bool.and_eq_true, decide_eq_true_eq, List.all_eq_true]
  refine ⟨⟨h.1, h.2.1⟩, fun x hx => ?_⟩
  obtain ⟨row, hr, rfl⟩ := List.mem_map.mp hx
  exact row_of (h.2.2 row hr)
def pairF (p : Str × Int) : Prop := isWord p.1 = true ∧ 0 ≤ p.2 ∧ p.2 ≤ 9
def pairsF (m : Nat) (ps : List (Str × Int)) : Prop := ps.length ≤ m ∧ (∀ p ∈ ps, pairF p) ∧ risB (ps.map (·.1)) = true
def thingsF (m : Nat) (ps : List (Str × Int)) : Prop := pairsF m ps ∧ ("given" : Str) ∉ ps.map (·.1)
theorem pair_of {q : Str × Int} (h : pairF q) : passB (pairPV q) = true := by
  show (wordB (.str q.1) && valB (.int q.2)) = true
  have : wordB (.str q.1) = true := h.1
  rw [this]
  simp [valB, h.2.1, h.2.2]
theorem nm_pairs (ps : List (Str × Int)) : (ps.map pairPV).map nm0 = ps.map (·.1) := by
  rw [List.map_map]; rfl
theorem nm_bells (ps : List (Str × Bool)) : (ps.map bellPV).map nm0 = ps.map (·.1) := by
  rw [List.map_map]; rfl
theorem nm_deeds (ps : List Deed) : (ps.map deedPV).map nm0 = ps.map (·.1) := by
  rw [List.map_map]; rfl
theorem nm_rooms (rs : List Rm) : (rs.map Rm.pv).map nm0 = rs.map (·.name) := by
  rw [List.map_map]; rfl
theorem pairs_of {m : Nat} {ps : List (Str × Int)} (h : pairsF m ps) : passesB m (.tup (ps.map pairPV)) = true := by
  simp only [passesB, nm_pairs, List.length_map, Bool.and_eq_true, decide_eq_true_eq, List.all_eq_true]
  refine ⟨⟨h.1, fun x hx => ?_⟩, h.2.2⟩
  obtain ⟨q, hq, rfl⟩ := List.mem_map.mp hx
  exact pair_of (h.2.1 q hq)
theorem things_of {m : Nat} {ps : List (Str × Int)} (h : thingsF m ps) : thingsB m (.tup (ps.map pairPV)) = true := by
  unfold thingsB
  simp only [nm_pairs, pairs_of h.1, Bool.true_and]
  rw [decide_eq_false h.2]; rfl
structure roomF (rm : Rm) : Prop where
  nw : isWord rm.name = true
  th : thingsF 4 rm.things
  bl : rm.bells.length ≤ 3
  d1 : 1 ≤ rm.deeds.length
  d4 : rm.deeds.length ≤ 4
  bw : ∀ b ∈ rm.bells, isWord b.1 = true
  dp : ∀ d ∈ rm.deeds, isWord d.1 = true ∧ progF d.2
  br : risB (rm.bells.map (·.1)) = true
  dr : risB (rm.deeds.map (·.1)) = true
theorem bell_of {b : Str × Bool} (h : isWord b.1 = true) : bellB (bellPV b) = true := by
  obtain ⟨x, t⟩ := b
  have hw : wordB (.str x) = true := h
  cases t
  · show (wordB (.str x) && (decide (sortS false = "row") || decide (sortS false = "turns"))) = true
    rw [hw]; rfl
  · show (wordB (.str x) && (decide (sortS true = "row") || decide (sortS true = "turns"))) = true
    rw [hw]; rfl
theorem deed_of {d : Deed} (h : isWord d.1 = true ∧ progF d.2) : deedB (deedPV d) = true := by
  show (wordB (.str d.1) && progB (progPV d.2)) = true
  have hw : wordB (.str d.1) = true := h.1
  rw [hw, prog_of h.2]; rfl
theorem room_of {rm : Rm} (h : roomF rm) : roomB rm.pv = true := by
  have hw : wordB (.str rm.name) = true := h.nw
  have hm : (mnS rm.free = "at once" ∨ mnS rm.free = "when free") := by cases rm.free <;> decide
  simp only [roomB, Rm.pv, nm_bells, nm_deeds, List.length_map, Bool.and_eq_true, Bool.or_eq_true, decide_eq_true_eq, List.all_eq_true, List.mem_map]
  refine ⟨⟨⟨⟨⟨⟨⟨hw, hm⟩, things_of h.th⟩, h.bl⟩, h.d1, h.d4⟩, ?_⟩, ?_⟩, h.br, h.dr⟩
  · rintro x ⟨b, hb, rfl⟩; exact bell_of (h.bw b hb)
  · rintro x ⟨d, hd, rfl⟩; exact deed_of (h.dp d hd)
def handF (h : Hand) : Prop := thingsF 8 h.1 ∧ progF h.2
theorem hand_of {q : Hand} (h : handF q) : handB (handPV q) = true := by
  show (thingsB 8 (.tup (q.1.map pairPV)) && progB (progPV q.2)) = true
  rw [things_of h.1, prog_of h.2]; rfl
structure wldF (w : Wld) : Prop where
  r4 : w.rooms.length ≤ 4
  h1 : 1 ≤ w.hands.length
  h4 : w.hands.length ≤ 4
  rf : ∀ rm ∈ w.rooms, roomF rm
  hf : ∀ h ∈ w.hands, handF h
  rr : risB (w.rooms.map (·.name)) = true
  pf : pairsF 16 w.passes
  sf : thingsF 16 w.shared
theorem form_of {w : Wld} (h : wldF w) : formB w.pv = true := by
  simp only [formB, Wld.pv, nm_rooms, List.length_map, Bool.and_eq_true, decide_eq_true_eq, List.all_eq_true, List.mem_map]
  refine ⟨⟨⟨⟨h.r4, h.h1, h.h4⟩, ?_⟩, ?_⟩, h.rr, pairs_of h.pf, things_of h.sf⟩
  · rintro x ⟨b, hb, rfl⟩; exact room_of (h.rf b hb)
  · rintro x ⟨d, hd, rfl⟩; exact hand_of (h.hf d hd)
theorem sum_dep : ∀ (s : Sm) (n : Nat), sumIn n s.pv = true → s.dep ≤ n
  | s, 0, h => by cases h
  | .val v, n + 1, h => by show 1 ≤ n + 1; omega
  | .wrd x, n + 1, h => by show 1 ≤ n + 1; omega
  | .wts x, n + 1, h => by show 1 ≤ n + 1; omega
  | .not a, n + 1, h => by
    have h1 : ("not" : Str) ≠ ("waits" : Str) := by decide
    have h : sumIn (n + 1) (.tup [.str "not", a.pv]) = true := h
    simp [sumIn, h1] at h
    have := sum_dep a n h
    show a.dep + 1 ≤ n + 1
    omega
  | .two t a b, n + 1, h => by
    have h : sumIn (n + 1) (.tup [.str t.str, a.pv, b.pv]) = true := h
    obtain ⟨h1, h2, h3⟩ := tw_facts t
    simp only [sumIn, h1, h2, h3, if_false, if_true, Bool.and_eq_true] at h
    have := sum_dep a n h.1
    have := sum_dep b n h.2
    show max a.dep b.dep + 1 ≤ n + 1
    omega
theorem rowF.s {k : Nat} {row : Row} (h : rowF k row) : SumsOk row := by
  intro s hs
  have one : ∀ {u : Sm}, sumIn 5 u.pv = true → s ∈ [u] → s.dep ≤ 5 := fun hu hm => by
    rw [List.mem_singleton.mp hm]; exact sum_dep _ 5 hu
  cases row with
  | put x u => exact one h.2 hs
  | unl u j => exact one h.1 hs
  | go j => cases hs
  | doo g r d u => exact one h.2.2.2 hs
  | wait b u => exact one h.2 hs
  | call b => cases hs
  | all b => cases hs
  | tell u => exact one h hs
  | take p => cases hs
  | give p => cases hs
  | pass p q => cases hs
  | say u => exact one h hs
theorem progF.s {rows : List Row} (h : progF rows) : ProgS rows := ⟨h.2.1, fun row hr => (h.2.2 row hr).s⟩
theorem wldF.w {w : Wld} (h : wldF w) : WldW w where
  s := {
    rms := ⟨h.r4, fun r hr => ⟨(h.rf r hr).d4, (h.rf r hr).th.1.1, (h.rf r hr).bl⟩⟩
    pl := h.pf.1
    sl := h.sf.1.1
    hl := h.h4
    rp := fun rm hm d hd => ((h.rf rm hm).dp d hd).2.s
    hp := fun q hq => ⟨(h.hf q hq).1.1.1, (h.hf q hq).2.s⟩ }
  n := fun rm hm => ⟨(h.rf rm hm).nw, fun d hd => ((h.rf rm hm).dp d hd).1⟩
  g := fun rm hm d hd row hr g e => by
    have hF := ((h.rf rm hm).dp d hd).2.2.2 row hr
    cases row <;> first | (cases e; done) | skip
    cases e
    exact ⟨hF.2.1, hF.2.2.1⟩
theorem world_typed {w : Wld} {et : Hi} {R : PV → Hi → Prop} (hb : ∀ d ∈ et, belC et.length d) (hf : fits 12 w.pv = true) (hw : wldF w) (h1 : R (.bl (worldR w)) et) : spIsWorld [w.pv] et R :=
  ⟨w.pv, rfl, hb, hf, .inr ⟨form_of hw, w, rfl, hw.w, h1⟩⟩
theorem fits_tup_of {xs : List PV} (hl : xs.length ≤ 1000) (h : ∀ x ∈ xs, ∀ n, fits n x = true) : ∀ n, fits n (.tup xs) = true
  | 0 => rfl
  | n + 1 => by
    have : (1000 : Nat) ≤ sizeLine := by decide
    simp only [fits, Bool.and_eq_true, decide_eq_true_eq, List.all_eq_true]
    exact ⟨by omega, fun x hx => h x hx n⟩
theorem fits_word {x : Str} (h : isWord x = true) (n : Nat) : fits n (.str x) = true := by cases n <;> exact word_fit h
theorem fits_int {i : Int} (n : Nat) : fits n (.int i) = true := by cases n <;> rfl
theorem fits_lit {x : Str} (h : x.cps.size ≤ 1000) (n : Nat) : fits n (.str x) = true := by
  have : (1000 : Nat) ≤ sizeLine := by decide
  have h2 : fitP (.str x) = true := by simp only [fitP, decide_eq_true_eq]; omega
  cases n <;> exact h2
theorem fits_sumIn : ∀ (s : Sm) (n : Nat), sumIn n s.pv = true → ∀ m, fits m s.pv = true
  | s, 0, h => by cases h
  | .val v, n + 1, h => fits_int
  | .wrd x, n + 1, h => by
    have h : (valB (.str x) || wordB (.str x)) = true := h
    have h : (false || isWord x) = true := h
    rw [Bool.false_or] at h
    exact fits_word h
  | .wts x, n + 1, h => by
    have h : sumIn (n + 1) (.tup [.str "waits", .str x]) = true := h
    simp [sumIn, wordB] at h
    exact fits_tup_of (show (2 : Nat) ≤ 1000 by decide) fun y hy => by
      simp only [List.mem_cons, List.mem_nil_iff, or_false] at hy
      rcases hy with rfl | rfl
      · exact fits_lit (by decide)
      · exact fits_word h
  | .not a, n + 1, h => by
    have h1 : ("not" : Str) ≠ ("waits" : Str) := by decide
    have h : sumIn (n + 1) (.tup [.str "not", a.pv]) = true := h
    simp [sumIn, h1] at h
    exact fits_tup_of (show (2 : Nat) ≤ 1000 by decide) fun y hy => by
      simp only [List.mem_cons, List.mem_nil_iff, or_false] at hy
      rcases hy with rfl | rfl
      · exact fits_lit (by decide)
      · exact fits_sumIn a n h
  | .two t a b, n + 1, h => by
    have h : sumIn (n + 1) (.tup [.str t.str, a.pv, b.pv]) = true := h
    obtain ⟨h1, h2, h3⟩ := tw_facts t
    simp only [sumIn, h1, h2, h3, if_false, if_true, Bool.and_eq_true] at h
    exact fits_tup_of (show (3 : Nat) ≤ 1000 by decide) fun y hy => by
      simp only [List.mem_cons, List.mem_nil_iff, or_false] at hy
      rcases hy with rfl | rfl | rfl
      · exact fits_lit (by cases t <;> decide)
      · exact fits_sumIn a n h.1
      · exact fits_sumIn b n h.2
theorem fits_row {k : Nat} {row : Row} (h : rowF k row) : ∀ n, fits n row.pv = true := by
  have two : ∀ {a b : PV}, (∀ n, fits n a = true) → (∀ n, fits n b = true) → ∀ n, fits n (.tup [a, b]) = true := fun ha hb => fits_tup_of (show (2 : Nat) ≤ 1000 by decide) fun y hy => by
    simp only [List.mem_cons, List.mem_nil_iff, or_false] at hy
    rcases hy with rfl | rfl
    · exact ha
    · exact hb
  have three : ∀ {a b c : PV}, (∀ n, fits n a = true) → (∀ n, fits n b = true) → (∀ n, fits n c = true) → ∀ n, fits n (.tup [a, b, c]) = true := fun ha hb hc => fits_tup_of (show (3 : Nat) ≤ 1000 by decide) fun y hy => by
    simp only [List.mem_cons, List.mem_nil_iff, or_false] at hy
    rcases hy with rfl | rfl | rfl
    · exact ha
    · exact hb
    · exact hc
  cases row with
  | put x s => exact three (fits_lit (by decide)) (fits_word h.1) (fits_sumIn s 5 h.2)
  | unl s j => exact three (fits_lit (by decide)) (fits_sumIn s 5 h.1) fits_int
  | go j => exact two (fits_lit (by decide)) fits_int
  | doo g r d s =>
    refine fits_tup_of (show (5 : Nat) ≤ 1000 by decide) fun y hy => ?_
    simp only [List.mem_cons, List.mem_nil_iff, or_false] at hy
    rcases hy with rfl | rfl | rfl | rfl | rfl
    · exact fits_lit (by decide)
    · cases g with
      | none => intro n; cases n <;> rfl
      | some x => exact fits_word (h.1 x rfl)
    · exact fits_word h.2.1
    · exact fits_word h.2.2.1
    · exact fits_sumIn s 5 h.2.2.2
  | wait x s => exact three (fits_lit (by decide)) (fits_word h.1) (fits_sumIn s 5 h.2)
  | call x => exact two (fits_lit (by decide)) (fits_word h)
  | all x => exact two (fits_lit (by decide)) (fits_word h)
  | tell s => exact two (fits_lit (by decide)) (fits_sumIn s 5 h)
  | take x => exact two (fits_lit (by decide)) (fits_word h)
  | give x => exact two (fits_lit (by decide)) (fits_word h)
  | pass x y => exact three (fits_lit (by decide)) (fits_word h.1) (fits_word h.2)
  | say s => exact two (fits_lit (by decide)) (fits_sumIn s 5 h)
theorem fits_prog {rows : List Row} (h : progF rows) : ∀ n, fits n (progPV rows) = true := fits_tup_of (by rw [List.length_map]; have := h.2.1; omega) fun y hy => by
  obtain ⟨row, hr, rfl⟩ := List.mem_map.mp hy
  exact fits_row (h.2.2 row hr)
theorem fits_pairs {m : Nat} {ps : List (Str × Int)} (hm : m ≤ 1000) (h : pairsF m ps) : ∀ n, fits n (.tup (ps.map pairPV)) = true := fits_tup_of (by rw [List.length_map]; have := h.1; omega) fun y hy => by
  obtain ⟨q, hq, rfl⟩ := List.mem_map.mp hy
  refine fits_tup_of (show (2 : Nat) ≤ 1000 by decide) fun z hz => ?_
  simp only [List.mem_cons, List.mem_nil_iff, or_false] at hz
  rcases hz with rfl | rfl
  · exact fits_word (h.2.1 q hq).1
  · exact fits_int
theorem fits_room {rm : Rm} (h : roomF rm) : ∀ n, fits n rm.pv = true := by
  refine fits_tup_of (show (5 : Nat) ≤ 1000 by decide) fun y hy => ?_
  simp only [List.mem_cons, List.mem_nil_iff, or_false] at hy
  rcases hy with rfl | rfl | rfl | rfl | rfl
  · exact fits_word h.nw
  · exact fits_lit (by cases rm.free <;> decide)
  · exact (fits_pairs (by decide) h.th.1)
  · refine fits_tup_of (by rw [List.length_map]; have := h.bl; omega) fun y hy => ?_
    obtain ⟨b, hb, rfl⟩ := List.mem_map.mp hy
    refine fits_tup_of (show (2 : Nat) ≤ 1000 by decide) fun z hz => ?_
    simp only [List.mem_cons, List.mem_nil_iff, or_false] at hz
    rcases hz with rfl | rfl
    · exact fits_word (h.bw b hb)
    · exact fits_lit (by cases b.2 <;> decide)
  · refine fits_tup_of (by rw [List.length_map]; have := h.d4; omega) fun y hy => ?_
    obtain ⟨d, hd, rfl⟩ := List.mem_map.mp hy
    refine fits_tup_of (show (2 : Nat) ≤ 1000 by decide) fun z hz => ?_
    simp only [List.mem_cons, List.mem_nil_iff, or_false] at hz
    rcases hz with rfl | rfl
    · exact fits_word (h.dp d hd).1
    · exact fits_prog (h.dp d hd).2
theorem fits_world {w : Wld} (h : wldF w) : ∀ n, fits n w.pv = true := by
  refine fits_tup_of (show (4 : Nat) ≤ 1000 by decide) fun y hy => ?_
  simp only [List.mem_cons, List.mem_nil_iff, or_false] at hy
  rcases hy with rfl | rfl | rfl | rfl
  · refine fits_tup_of (by rw [List.length_map]; have := h.r4; omega) fun y hy => ?_
    obtain ⟨b, hb, rfl⟩ := List.mem_map.mp hy
    exact fits_room (h.rf b hb)
  · exact (fits_pairs (by decide) h.pf)
  · exact (fits_pairs (by decide) h.sf.1)
  · refine fits_tup_of (by rw [List.length_map]; have := h.h4; omega) fun y hy => ?_
    obtain ⟨q, hq, rfl⟩ := List.mem_map.mp hy
    refine fits_tup_of (show (2 : Nat) ≤ 1000 by decide) fun z hz => ?_
    simp only [List.mem_cons, List.mem_nil_iff, or_false] at hz
    rcases hz with rfl | rfl
    · exact (fits_pairs (by decide) (h.hf q hq).1.1)
    · exact (fits_prog (h.hf q hq).2)
theorem world_is {w : Wld} {et : Hi} {R : PV → Hi → Prop} (hb : ∀ d ∈ et, belC et.length d) (hw : wldF w) (h1 : R (.bl (worldR w)) et) : spIsWorld [w.pv] et R := world_typed hb (fits_world hw 12) hw h1
end Iw
namespace Ir
open PySem L2 Mw Lw Sq Cw Iw
open Df (allF doT Rk)
theorem sum_r {ws bs : List Str} : ∀ s : Sm, s.ok ws bs → sumR ws bs s = true := fun s h => by
  unfold sumR
  rw [Bool.and_eq_true, List.all_eq_true, List.all_eq_true]
  simp only [decide_eq_true_eq]
  have h1 : ∀ s : Sm, s.ok ws bs → (∀ x ∈ Wb.wordsL s, x ∈ ws) ∧ ∀ x ∈ Wb.bellsL s, x ∈ bs := fun s => by
    induction s with
    | val n => exact fun _ => ⟨by simp [Wb.wordsL], by simp [Wb.bellsL]⟩
    | wrd x => exact fun h => ⟨fun y hy => by
      have hy : y ∈ [x] := hy
      rw [List.mem_singleton.mp hy]; exact h, by simp [Wb.bellsL]⟩
    | wts x => exact fun h => ⟨by simp [Wb.wordsL], fun y hy => by
      have hy : y ∈ [x] := hy
      rw [List.mem_singleton.mp hy]; exact h⟩
    | not a ih => exact fun h => ih h
    | two w a b iha ihb =>
      intro h
      obtain ⟨a1, a2⟩ := iha h.1
      obtain ⟨b1, b2⟩ := ihb h.2
      exact ⟨fun x hx => (List.mem_append.mp hx).elim (a1 x) (b1 x), fun x hx => (List.mem_append.mp hx).elim (a2 x) (b2 x)⟩
  exact h1 s h
theorem there_of {rs : List Rm} {r d : Str} (h : (r, d) ∈ goalsOf rs) : thereB rs r d = true := by
  obtain ⟨rm, hm, h⟩ := List.mem_flatMap.mp h
  obtain ⟨dd, hd, e⟩ := List.mem_map.mp h
  cases e
  unfold thereB
  rw [List.any_eq_true]
  refine ⟨rm, hm, ?_⟩
  rw [decide_eq_true rfl, Bool.true_and]
  exact decide_eq_true (List.mem_map.mpr ⟨dd, hd, rfl⟩)
theorem sid_of {rs : List Rm} {rm : Rm} {row : Row} {n : Nat} (h : row.okD (rm.ts ++ [("given" : Str)]) rm.ts rm.bs (goalsOf rs) n) (ha : allF rm.free row) : sidB rs rm row = true := by
  unfold sidB
  cases row with
  | put x s => simp [inHands, putB, sumsR, sum_r s h.2.1, h.1]
  | unl s k => simp [inHands, putB, sumsR, sum_r s h.1.1]
  | go k => simp [inHands, putB, sumsR]
  | doo g r d s =>
    have hg : (match g with | some x => decide (x ∈ rm.ts) | none => true) = true := by
      cases g with
      | none => rfl
      | some x => exact decide_eq_true (h.1 x rfl)
    have hp : putB (.doo g r d s) (rm.ts ++ [("given" : Str)]) rm.ts rm.bs = true := by
      unfold putB
      have h1 : (sumsR (.doo g r d s)).all (sumR (rm.ts ++ [("given" : Str)]) rm.bs) = true := by simp [sumsR, sum_r s h.2.2.1]
      rw [h1, Bool.true_and]
      cases g with
      | none => rfl
      | some x => exact decide_eq_true (h.1 x rfl)
    rw [hp]
    show (true && true && thereB rs r d) = true
    rw [there_of h.2.1]; rfl
  | wait b s => simp [inHands, putB, sumsR, sum_r s h.2.1, h.1]
  | call b =>
    have hb : decide (b ∈ rm.bs) = true := decide_eq_true h
    simp [inHands, putB, sumsR]; simpa using hb
  | all b =>
    have hb : decide (b ∈ rm.bs) = true := decide_eq_true h
    have hf : rm.free = true := ha
    simp [inHands, putB, sumsR, hf]; simpa using hb
  | tell s => simp [inHands, putB, sumsR, sum_r s (show s.ok _ _ from h.1)]
  | take p => cases h
  | give p => cases h
  | pass p q => cases h
  | say s => cases h
theorem sih_of {w : Wld} {ws : List Str} {row : Row} {n : Nat} (h : row.okH ws (w.passes.map (·.1)) (goalsOf w.rooms) n) : sihB w ws row = true := by
  unfold sihB
  cases row with
  | put x s => simp [inDeeds, putB, sumsR, sum_r s h.2.1, h.1]
  | unl s k => simp [inDeeds, putB, sumsR, sum_r s h.1.1]
  | go k => simp [inDeeds, putB, sumsR]
  | doo g r d s =>
    have hp : putB (.doo g r d s) ws ws [] = true := by
      unfold putB
      have h1 : (sumsR (.doo g r d s)).all (sumR ws []) = true := by simp [sumsR, sum_r s h.2.2.1]
      rw [h1, Bool.true_and]
      cases g with
      | none => rfl
      | some x => exact decide_eq_true (h.1 x rfl)
    rw [hp]
    show (true && true && thereB w.rooms r d) = true
    rw [there_of h.2.1]; rfl
  | take p =>
    have hb : decide (p ∈ w.passes.map (·.1)) = true := decide_eq_true h
    simp only [inDeeds, putB, sumsR, hb]; rfl
  | give p =>
    have hb : decide (p ∈ w.passes.map (·.1)) = true := decide_eq_true h
    simp only [inDeeds, putB, sumsR, hb]; rfl
  | pass p q =>
    have hb : decide (p ∈ w.passes.map (·.1)) = true := decide_eq_true h.1
    have hc : decide (q ∈ w.passes.map (·.1)) = true := decide_eq_true h.2
    simp only [inDeeds, putB, sumsR, hb, hc]; rfl
  | say s => simp [inDeeds, putB, sumsR, sum_r s (show s.ok _ _ from h.1)]
  | wait b s => cases h
  | call b => cases h
  | all b => cases h
  | tell s => cases h
theorem doT_eq (row : Row) : doT row = doOf row := by cases row <;> rfl
theorem comes_rk {rs : List Rm} {rk : Str × Str → Nat} (h : ∀ rm ∈ rs, ∀ d ∈ rm.deeds, ∀ row ∈ d.2, ∀ g, doT row = some g → rk g < rk (rm.name, d.1)) {a b : Str × Str} (hc : Comes rs a b) : rk b < rk a := by
  have one : ∀ {a b : Str × Str}, b ∈ doneL rs a → rk b < rk a := fun {a b} hb => by
    obtain ⟨rm, hm, hb⟩ := List.mem_flatMap.mp hb
    obtain ⟨d, hd, hb⟩ := List.mem_flatMap.mp hb
    unfold doneD at hb
    split at hb
    · rename_i e
      obtain ⟨row, hr, e2⟩ := List.mem_filterMap.mp hb
      have := h rm hm d hd row hr b (by rw [doT_eq]; exact e2)
      rw [show (rm.name, d.1) = a from Prod.ext e.1 e.2] at this
      exact this
    · cases hb
  induction hc with
  | one hb => exact one hb
  | more _ hc ih => exact Nat.lt_trans (one hc) ih
structure Full (w : Wld) : Prop where
  f : wldF w
  np : ∀ rm ∈ w.rooms, rm.name ∉ w.passes.map (·.1)
  rd : ∀ rm ∈ w.rooms, ∀ d ∈ rm.deeds, ∀ row ∈ d.2, ∃ n, row.okD (rm.ts ++ [("given" : Str)]) rm.ts rm.bs (goalsOf w.rooms) n ∧ allF rm.free row
  hd : ∀ h ∈ w.hands, (∀ x ∈ h.1.map (·.1), x ∉ w.shared.map (·.1)) ∧ ∀ row ∈ h.2, ∃ n, row.okH (h.1.map (·.1) ++ w.shared.map (·.1)) (w.passes.map (·.1)) (goalsOf w.rooms) n
  rk : Rk w.rooms
theorem full {w : Wld} (h : Full w) : worldR w = true := by
  have h1 : (w.rooms.map (·.name)).any (fun x => decide (x ∈ w.passes.map (·.1))) = false := by
    rw [List.any_eq_false]
    intro x hx
    obtain ⟨rm, hm, rfl⟩ := List.mem_map.mp hx
    simpa using h.np rm hm
  have h2 : w.rooms.all (roomR w.rooms) = true := by
    rw [List.all_eq_true]
    intro rm hm
    unfold roomR
    rw [List.all_eq_true]
    intro d hd
    rw [List.all_eq_true]
    intro row hr
    obtain ⟨n, h3, h4⟩ := h.rd rm hm d hd row hr
    exact sid_of h3 h4
  have h3 : w.hands.all (handR w) = true := by
    rw [List.all_eq_true]
    intro q hq
    obtain ⟨h4, h5⟩ := h.hd q hq
    unfold handR
    have h6 : (q.1.map (·.1)).any (fun x => decide (x ∈ w.shared.map (·.1))) = false := by
      rw [List.any_eq_false]
      intro x hx
      simpa using h4 x hx
    rw [h6, Bool.not_false, Bool.true_and, List.all_eq_true]
    intro row hr
    obtain ⟨n, h7⟩ := h5 row hr
    exact sih_of h7
  have h4 : (w.rooms.all fun rm => !(rm.deeds.map (·.1)).any fun d => selfB w.rooms (rm.name, d)) = true := by
    rw [List.all_eq_true]
    intro rm hm
    rw [Bool.not_eq_true', List.any_eq_false]
    intro d hd hs
    obtain ⟨rk, hrk⟩ := h.rk
    exact Nat.lt_irrefl _ (comes_rk hrk (selfB_iff.mp hs))
  unfold worldR
  rw [h1, h2, h3, h4]; rfl
theorem ris_of : ∀ {ws : List Str}, ws.Pairwise leS → ws.Nodup → risB ws = true
  | [], _, _ => rfl
  | [x], _, _ => rfl
  | x :: y :: ws, hp, hn => by
    rw [List.pairwise_cons] at hp
    rw [List.nodup_cons] at hn
    have ih := ris_of hp.2 hn.2
    have hxy : x ≠ y := fun e => hn.1 (e ▸ List.mem_cons_self)
    have hle : leS x y := hp.1 y List.mem_cons_self
    have hlt : x.cps.toList < y.cps.toList := by
      have h1 : ¬ y.cps.toList < x.cps.toList := hle
      rcases Decidable.em (x.cps.toList < y.cps.toList) with h | h
      · exact h
      · exfalso
        have : x.cps.toList = y.cps.toList := List.le_antisymm (List.not_lt.mp h1) (List.not_lt.mp h)
        apply hxy
        cases x; cases y
        simp only [Str.mk.injEq]
        exact Array.toList_inj.mp this
    unfold risB at ih ⊢
    simp only [List.drop_succ_cons, List.drop_zero, List.zip_cons_cons, List.all_cons] at ih ⊢
    rw [decide_eq_true hlt, Bool.true_and]
    exact ih
end Ir
namespace Is
open PySem L2 Mw Lw Sq Cw De Df Iw Ir
end Is
namespace Br
open PySem L2 Mw Lw Sq Cw Bq Iw Ir Is
open Df (allF doT Rk)
def idle (v : Nat) : Hand := ([], [.go v])
theorem idle_F {v : Nat} (h : v ≤ 1) : Iw.handF (idle v) := ⟨⟨⟨Nat.zero_le _, by simp [idle], rfl⟩, by simp [idle]⟩, by simp [idle], by simp [idle], fun row hr => by
  rw [List.mem_singleton.mp hr]; exact h⟩
end Br
namespace Rw
open PySem L2 Mw Lw Cw De
end Rw
namespace It
open PySem L2 Mw Lw Sq Cw De Iw Rw
end It
namespace Xs
open PySem L2 Mw Lw Sq Cw Iw
def twS : Tw → Str
  | .plus => "+" | .minus => "-" | .less => "<" | .same => "=" | .both => "&"
def hd : Sm → Option (Str × Str × List Sm)
  | .val _ => none
  | .wrd _ => none
  | .wts x => some ("waits", "?", [.wrd x])
  | .not a => some ("not", "!", [a])
  | .two t a b => some (t.str, twS t, [a, b])
theorem app_app {et : Hi} {xs : List PV} {y : PV} (h : xs.length + 1 ≤ sizeLine) : gmAppend (deref et) (.lst xs) [y] = some (.lst (xs ++ [y]), .non) := by
  show (if xs.length < sizeLine then some (PV.lst (xs ++ [y]), PV.non) else none) = _
  rw [if_pos (by omega)]
theorem str_app {x y : Str} (h : x.length + y.length ≤ sizeLine) : gAdd (.str x) (.str y) = some (.str (x ++ y)) := by
  show (if x.length + y.length ≤ sizeLine then some (PV.str (x ++ y)) else none) = _
  rw [if_pos h]
inductive Itm where
  | val (wd : Str) (p : Str × Int) | room (n : Str) (f : Bool) | bell (b : Str × Bool) | deed (d : Str) | row (r : Row) | hand
def Itm.pv : Itm → PV
  | .val wd p => .tup [.str wd, pairPV p]
  | .room n f => .tup [.str "room", .tup [.str n, .str (mnS f)]]
  | .bell b => .tup [.str "bell", bellPV b]
  | .deed d => .tup [.str "deed", .tup [.str d]]
  | .row r => .tup [.str "row", r.pv]
  | .hand => .tup [.str "hand", .tup []]
def Itm.ok : Itm → Prop
  | .val wd p => (wd = "pass" ∨ wd = "open" ∨ wd = "thing") ∧ pairF p
  | .room n _ => isWord n = true
  | .bell b => isWord b.1 = true
  | .deed d => isWord d = true
  | .row r => rowF 40 r
  | .hand => True
end Xs
namespace Xr
open PySem L2 Mw Lw Sq Cw Iw Xs
abbrev tb_SIGN_WORDS : List (Str × Str) := [("+", "plus"), ("-", "minus"), ("<", "less"), ("=", "same"), ("&", "both"), ("!", "not"), ("?", "waits")]
def figB (x : Str) : Bool := x.cps.toList.all fun c => decide (48 ≤ c) && decide (c ≤ 57)
def numV (x : Str) : Int := (PySem.NumText.digitsVal x.cps.toList : Nat)
def numIn (x : Str) (m : Nat) : Option Int :=
  if ((decide (1 ≤ x.cps.size) && decide (x.cps.size ≤ m)) && figB x) && !(decide (x.cps.toList.headD 0 = 48) && !decide (x = "0")) then some (numV x) else none
def bareS (x : Str) : Option PV := match numIn x 1 with
  | some v => some (.int v)
  | none => if isWord x = true then some (.str x) else none
def two (w : Str) : Bool := decide (w = "plus") || (decide (w = "minus") || (decide (w = "less") || (decide (w = "same") || decide (w = "both"))))
def sumF (ws : List Str) : Nat → Nat → Option (PV × Nat)
  | 0, _ => none
  | d + 1, a => match ws[a]? with
    | none => none
    | some x => match tb_SIGN_WORDS.lookup x with
      | none => (bareS x).map fun p => (p, a + 1)
      | some w =>
        if w = "waits" then (match ws[a + 1]? with
          | none => none
          | some y => if isWord y = true then some (.tup [.str w, .str y], a + 2) else none)
        else match sumF ws d (a + 1) with
          | none => none
          | some (p, q) => if two w = true then (match sumF ws d q with
              | none => none
              | some (p2, q2) => some (.tup [.str w, p, p2], q2))
            else some (.tup [.str w, p], q)
def sumInF (ws : List Str) : Option PV := match sumF ws 5 0 with
  | none => none
  | some (p, q) => if q < ws.length then none else some p
def partF (ws : List Str) (x : Str) (f : Str) : Option PV :=
  if f = "sum" then sumInF ws
  else if f = "place" then (numIn x 4).map .int
  else if f = "goal" ∧ x = "-" then some .non
  else if isWord x = true then some (.str x) else none
structure GR where
  n : Str
  m : Str
  th : List PV
  be : List PV
  de : List (Str × List PV)
structure GA where
  ps : List PV
  os : List PV
  rs : List GR
  hs : List (List PV × List PV)
def GR.pv (r : GR) : PV := .tup [.str r.n, .str r.m, .tup r.th, .tup r.be, .tup (r.de.map fun d => .tup [.str d.1, .tup d.2])]
def GA.pv (G : GA) : PV := .tup [.tup (G.rs.map GR.pv), .tup G.ps, .tup G.os, .tup (G.hs.map fun h => .tup [.tup h.1, .tup h.2])]
theorem ps {ws : List Str} {x : Str} : partF ws x "sum" = sumInF ws := by unfold partF; rw [if_pos rfl]
end Xr
namespace Xr
open PySem L2 Mw Lw Sq Cw Iw Xs
theorem mem_snoc {α : Type} {xs : List α} {x y : α} (h : y ∈ xs ++ [x]) : y ∈ xs ∨ y = x := by simpa using h
end Xr
namespace Xr
open PySem L2 Mw Lw Sq Cw Bq Br Iw Ir Is It Xs
end Xr
namespace Q11
open PySem L2 Mw Lw Sq Cw De Bq Br Iw Ir Is It Xs Rw
structure W11 (W : List Str) : Prop where
  w : ∀ x ∈ W, isWord x = true
  l : W.length = 26
  n : W.Nodup
  g : ("given" : Str) ∉ W
  y : ∀ x ∈ W, isWord (x ++ "y") = true ∧ x ++ "y" ∉ W ∧ x ++ "y" ≠ "given"
structure Sz where
  r : Nat
  rm : Nat
  th : Nat
  be : Nat
  de : Nat
  pa : Nat
  op : Nat
  ha : Nat
  ow : Nat
def tellR (n : Nat) : List Row := List.replicate n (.tell (.val 1))
def sayR (n : Nat) : List Row := List.replicate n (.say (.val 0))
structure RoomZ (W : List Str) (z : Sz) (rm : Rm) : Prop where
  th : ∃ (xs : List Str) (v : Nat), Some_ (W.drop 6) z.th xs ∧ v ≤ 9 ∧ rm.things = xs.map fun x => (x, (v : Int))
  be : ∃ (xs : List Str) (s : Bool), Some_ W z.be xs ∧ rm.bells = xs.map fun x => (x, s)
  de : ∃ xs : List Str, Some_ (W.drop 3) z.de xs ∧ rm.deeds = xs.map fun x => (x, tellR z.r)
def ysOf (W : List Str) : List Str := W.reverse.map fun x => x ++ "y"
structure WldZ (W : List Str) (z : Sz) (w : Wld) : Prop where
  nm : Some_ (W.take 6) z.rm (w.rooms.map (·.name))
  rm : ∀ rm ∈ w.rooms, RoomZ W z rm
  pa : ∃ (xs : List Str) (v : Nat), Some_ (W.drop 6) z.pa xs ∧ v ≤ 9 ∧ w.passes = xs.map fun x => (x, (v : Int))
  op : ∃ (xs : List Str) (v : Nat), Some_ W z.op xs ∧ v ≤ 9 ∧ w.shared = xs.map fun x => (x, (v : Int))
  ha : ∃ xs : List Str, Some_ (ysOf W) z.ow xs ∧ w.hands = List.replicate z.ha (xs.map fun x => (x, (0 : Int)), sayR z.r)
structure In_ (z : Sz) : Prop where
  r : 1 ≤ z.r ∧ z.r ≤ 40
  rm : z.rm ≤ 4
  th : z.th ≤ 4
  be : z.be ≤ 3
  de : 1 ≤ z.de ∧ z.de ≤ 4
  pa : z.pa ≤ 16
  op : z.op ≤ 16
  ha : 1 ≤ z.ha ∧ z.ha ≤ 4
  ow : z.ow ≤ 8
structure Cap (z : Sz) : Prop where
  r : z.r ≤ 41
  rm : z.rm ≤ 5
  th : z.th ≤ 5
  be : z.be ≤ 4
  de : z.de ≤ 5
  pa : z.pa ≤ 17
  op : z.op ≤ 17
  ha : z.ha ≤ 5
  ow : z.ow ≤ 9
theorem fst_map {β : Type} (xs : List Str) (v : β) : (xs.map fun x => (x, v)).map (·.1) = xs := by
  rw [List.map_map]; exact List.map_id xs
theorem _root_.Bq.Some_.ris {ws xs : List Str} {m : Nat} (h : Some_ ws m xs) : risB xs = true := ris_of h.s h.n
theorem sub_drop {W xs : List Str} {m k : Nat} (h : Some_ (W.drop k) m xs) : ∀ x ∈ xs, x ∈ W := fun x hx => List.mem_of_mem_drop (h.sub x hx)
theorem ys_mem {W : List Str} {x : Str} (h : x ∈ ysOf W) : ∃ y ∈ W, x = y ++ "y" := by
  obtain ⟨y, hy, rfl⟩ := List.mem_map.mp h
  exact ⟨y, List.mem_reverse.mp hy, rfl⟩
theorem pairs_z {W xs : List Str} {v m n : Nat} (hx : ∀ x ∈ xs, isWord x = true) (hr : risB xs = true) (hl : xs.length ≤ m) (hv : v ≤ 9) : pairsF m (xs.map fun x => (x, (v : Int))) := by
  refine ⟨by rw [List.length_map]; exact hl, fun p hp => ?_, by rw [fst_map]; exact hr⟩
  obtain ⟨x, hx2, rfl⟩ := List.mem_map.mp hp
  exact ⟨hx x hx2, by show (0 : Int) ≤ (v : Int); omega, by show (v : Int) ≤ 9; omega⟩
theorem prog_tell {n : Nat} (h : 1 ≤ n ∧ n ≤ 40) : progF (tellR n) := ⟨by rw [tellR, List.length_replicate]; exact h.1, by rw [tellR, List.length_replicate]; exact h.2, fun row hr => by rw [List.eq_of_mem_replicate hr]; show sumIn 5 (Sm.val 1).pv = true; decide +kernel⟩
theorem prog_say {n : Nat} (h : 1 ≤ n ∧ n ≤ 40) : progF (sayR n) := ⟨by rw [sayR, List.length_replicate]; exact h.1, by rw [sayR, List.length_replicate]; exact h.2, fun row hr => by rw [List.eq_of_mem_replicate hr]; show sumIn 5 (Sm.val 0).pv = true; decide +kernel⟩
theorem room_z {W : List Str} {z : Sz} {rm : Rm} (hW : W11 W) (h : RoomZ W z rm) (hn : rm.name ∈ W) (hi : In_ z) : roomF rm := by
  obtain ⟨xs, v, a1, a2, a3⟩ := h.th
  obtain ⟨bs, s, b1, b2⟩ := h.be
  obtain ⟨ds, d1, d2⟩ := h.de
  have hdl : ds.length = z.de := by rw [d1.l, List.length_drop, hW.l]; have := hi.de; omega
  refine ⟨hW.w _ hn, ?_, ?_, ?_, ?_, ?_, ?_, ?_, ?_⟩
  · rw [a3]
    refine ⟨pairs_z (W := W) (n := 0) (fun x hx => hW.w x (sub_drop a1 x hx)) a1.ris (by rw [a1.l]; have := hi.th; omega) a2, ?_⟩
    rw [fst_map]
    exact fun hg => hW.g (sub_drop a1 _ hg)
  · rw [b2, List.length_map, b1.l]; have := hi.be; omega
  · rw [d2, List.length_map, hdl]; exact hi.de.1
  · rw [d2, List.length_map, hdl]; exact hi.de.2
  · rw [b2]; intro b hb
    obtain ⟨x, hx, rfl⟩ := List.mem_map.mp hb
    exact hW.w x (b1.sub x hx)
  · rw [d2]; intro d hd
    obtain ⟨x, hx, rfl⟩ := List.mem_map.mp hd
    exact ⟨hW.w x (sub_drop d1 x hx), prog_tell hi.r⟩
  · rw [b2, fst_map]; exact b1.ris
  · rw [d2, fst_map]; exact d1.ris
theorem full_z {W : List Str} {z : Sz} {w : Wld} (hW : W11 W) (h : WldZ W z w) (hi : In_ z) : Full w := by
  obtain ⟨ps, pv, p1, p2, p3⟩ := h.pa
  obtain ⟨os, ov, o1, o2, o3⟩ := h.op
  obtain ⟨hs, h1, h2⟩ := h.ha
  have hname : ∀ rm ∈ w.rooms, rm.name ∈ W.take 6 := fun rm hm => h.nm.sub _ (List.mem_map.mpr ⟨rm, hm, rfl⟩)
  have hyw : ∀ x ∈ hs, isWord x = true ∧ x ∉ W ∧ x ≠ "given" := fun x hx => by
    obtain ⟨y, hy, rfl⟩ := ys_mem (h1.sub x hx)
    exact hW.y y hy
  have okt : ∀ ws bs : List Str, okS ws bs (.val 1) := fun ws bs => ⟨by show (1 : Nat) ≤ 9; decide, by decide⟩
  have oks : ∀ ws bs : List Str, okS ws bs (.val 0) := fun ws bs => ⟨by show (0 : Nat) ≤ 9; decide, by decide⟩
  refine ⟨⟨?_, ?_, ?_, fun rm hm => room_z hW (h.rm rm hm) (List.mem_of_mem_take (hname rm hm)) hi, ?_, h.nm.ris, ?_, ?_⟩, ?_, ?_, ?_, ?_⟩
  · have := h.nm.l
    rw [List.length_map] at this
    have := hi.rm
    omega
  · rw [h2, List.length_replicate]; exact hi.ha.1
  · rw [h2, List.length_replicate]; exact hi.ha.2
  · rw [h2]; intro q hq
    rw [List.eq_of_mem_replicate hq]
    refine ⟨⟨pairs_z (W := W) (n := 0) (v := 0) (fun x hx => (hyw x hx).1) h1.ris (by rw [h1.l]; have := hi.ow; omega) (by decide), ?_⟩, prog_say hi.r⟩
    rw [fst_map]
    exact fun hg => (hyw _ hg).2.2 rfl
  · rw [p3]
    exact pairs_z (W := W) (n := 0) (fun x hx => hW.w x (sub_drop p1 x hx)) p1.ris (by rw [p1.l]; have := hi.pa; omega) p2
  · rw [o3]
    refine ⟨pairs_z (W := W) (n := 0) (fun x hx => hW.w x (o1.sub x hx)) o1.ris (by rw [o1.l]; have := hi.op; omega) o2, ?_⟩
    rw [fst_map]
    exact fun hg => hW.g (o1.sub _ hg)
  · intro rm hm hx
    rw [p3, fst_map] at hx
    have h1 := hname rm hm
    have h2 := p1.sub _ hx
    have hn := hW.n
    rw [← List.take_append_drop 6 W, List.nodup_append] at hn
    exact hn.2.2 _ h1 _ h2 rfl
  · intro rm hm d hd row hr
    obtain ⟨ds, d1, d2⟩ := (h.rm rm hm).de
    rw [d2] at hd
    obtain ⟨x, hx, rfl⟩ := List.mem_map.mp hd
    rw [List.eq_of_mem_replicate hr]
    exact ⟨0, okt _ _, trivial⟩
  · intro q hq
    rw [h2] at hq
    rw [List.eq_of_mem_replicate hq]
    refine ⟨fun x hx => ?_, fun row hr => ?_⟩
    · rw [fst_map] at hx
      rw [o3, fst_map]
      exact fun hx2 => (hyw x hx).2.1 (o1.sub x hx2)
    · rw [List.eq_of_mem_replicate hr]
      exact ⟨0, oks _ _⟩
  · refine ⟨fun _ => 0, fun rm hm d hd row hr g hg => ?_⟩
    obtain ⟨ds, d1, d2⟩ := (h.rm rm hm).de
    rw [d2] at hd
    obtain ⟨x, hx, rfl⟩ := List.mem_map.mp hd
    rw [List.eq_of_mem_replicate hr] at hg
    cases hg
theorem room_eq (a t : PV) (m : Str) (bs ds : List PV) : roomB (.tup [a, .str m, t, .tup bs, .tup ds]) = (wordB a && (decide (m = "at once") || decide (m = "when free")) && thingsB 4 t && decide (bs.length ≤ 3) && (decide (1 ≤ ds.length) && decide (ds.length ≤ 4)) && bs.all bellB && ds.all deedB && (risB (bs.map nm0) && risB (ds.map nm0))) := rfl
theorem form_eq (ps os : PV) (rs hs : List PV) : formB (.tup [.tup rs, ps, os, .tup hs]) = (decide (rs.length ≤ 4) && (decide (1 ≤ hs.length) && decide (hs.length ≤ 4)) && rs.all roomB && hs.all handB && (risB (rs.map nm0) && (passesB 16 ps && thingsB 16 os))) := rfl
theorem passes_len {n : Nat} {xs : List PV} (h : passesB n (.tup xs) = true) : xs.length ≤ n := by
  have h : (decide (xs.length ≤ n) && xs.all passB && risB (xs.map nm0)) = true := h
  simp only [Bool.and_eq_true, decide_eq_true_eq] at h
  exact h.1.1
theorem things_len {n : Nat} {xs : List PV} (h : thingsB n (.tup xs) = true) : xs.length ≤ n := by
  unfold thingsB at h
  rw [Bool.and_eq_true] at h
  exact passes_len h.1
theorem prog_len {rows : List Row} (h : progB (progPV rows) = true) : 1 ≤ rows.length ∧ rows.length ≤ 40 := by
  simp only [progB, progPV, List.length_map, Bool.and_eq_true, decide_eq_true_eq] at h
  exact h.1
def Out (z : Sz) : Prop := (¬ (1 ≤ z.r ∧ z.r ≤ 40) ∧ 1 ≤ z.ha) ∨ 4 < z.rm ∨ (4 < z.th ∧ 1 ≤ z.rm) ∨ (3 < z.be ∧ 1 ≤ z.rm) ∨ (¬ (1 ≤ z.de ∧ z.de ≤ 4) ∧ 1 ≤ z.rm) ∨ 16 < z.pa ∨ 16 < z.op ∨ ¬ (1 ≤ z.ha ∧ z.ha ≤ 4) ∨ (8 < z.ow ∧ 1 ≤ z.ha)
theorem out_z {W : List Str} {z : Sz} {w : Wld} (hW : W11 W) (h : WldZ W z w) (hc : Cap z) (ho : Out z) : formB w.pv = false := by
  rw [← Bool.not_eq_true]
  intro hf
  obtain ⟨ps, pv, p1, p2, p3⟩ := h.pa
  obtain ⟨os, ov, o1, o2, o3⟩ := h.op
  obtain ⟨hs, h1, h2⟩ := h.ha
  unfold Wld.pv at hf
  rw [form_eq] at hf
  simp only [Bool.and_eq_true, decide_eq_true_eq, List.all_eq_true, List.length_map] at hf
  obtain ⟨⟨⟨⟨k1, k2⟩, k3⟩, k4⟩, k5, k6, k7⟩ := hf
  have l6 := passes_len k6
  have l7 := things_len k7
  have lW := hW.l
  rw [p3, List.length_map, List.length_map, p1.l, List.length_drop] at l6
  rw [o3, List.length_map, List.length_map, o1.l] at l7
  have lr : w.rooms.length = min z.rm 6 := by have := h.nm.l; rw [List.length_map, List.length_take, lW] at this; exact this
  rw [h2, List.length_replicate] at k2
  have hh : 1 ≤ z.ha → z.ow ≤ 8 ∧ 1 ≤ z.r ∧ z.r ≤ 40 := fun hp => by
    have hm : (hs.map fun x => (x, (0 : Int)), sayR z.r) ∈ w.hands := by rw [h2]; exact List.mem_replicate.mpr ⟨by omega, rfl⟩
    have := k4 _ (List.mem_map.mpr ⟨_, hm, rfl⟩)
    have this : (thingsB 8 (.tup ((hs.map fun x => (x, (0 : Int))).map pairPV)) && progB (progPV (sayR z.r))) = true := this
    rw [Bool.and_eq_true] at this
    have l8 := things_len this.1
    have l9 := prog_len this.2
    rw [List.length_map, List.length_map, h1.l, ysOf, List.length_map, List.length_reverse, lW] at l8
    rw [sayR, List.length_replicate] at l9
    have := hc.ow
    exact ⟨by omega, l9⟩
  have hr : 1 ≤ z.rm → z.th ≤ 4 ∧ z.be ≤ 3 ∧ 1 ≤ z.de ∧ z.de ≤ 4 := fun hp => by
    have hpos : 0 < w.rooms.length := by omega
    obtain ⟨rm, hm⟩ := List.exists_mem_of_length_pos hpos
    have := k3 _ (List.mem_map.mpr ⟨rm, hm, rfl⟩)
    unfold Rm.pv at this
    rw [room_eq] at this
    simp only [Bool.and_eq_true, decide_eq_true_eq, List.length_map] at this
    obtain ⟨⟨⟨⟨⟨⟨_, m3⟩, m4⟩, m5⟩, _⟩, _⟩, _⟩ := this
    obtain ⟨xs, v, a1, a2, a3⟩ := (h.rm rm hm).th
    obtain ⟨bs, s, b1, b2⟩ := (h.rm rm hm).be
    obtain ⟨ds, d1, d2⟩ := (h.rm rm hm).de
    have l3 := things_len m3
    rw [a3, List.length_map, List.length_map, a1.l, List.length_drop, lW] at l3
    rw [b2, List.length_map, b1.l, lW] at m4
    rw [d2, List.length_map, d1.l, List.length_drop, lW] at m5
    have := hc.th; have := hc.be; have := hc.de
    exact ⟨by omega, by omega, by omega, by omega⟩
  have c1 := hc.pa
  have c2 := hc.op
  have c3 := hc.rm
  rcases ho with ho | ho | ho | ho | ho | ho | ho | ho | ho
  · exact ho.1 (hh ho.2).2
  · omega
  · have := hr ho.2; omega
  · have := hr ho.2; omega
  · have := hr ho.2; omega
  · omega
  · omega
  · exact ho k2
  · have := hh ho.2; omega
theorem fits2 {a b : PV} (ha : ∀ n, fits n a = true) (hb : ∀ n, fits n b = true) : ∀ n, fits n (.tup [a, b]) = true := fits_tup_of (show (2 : Nat) ≤ 1000 by decide) fun y hy => by
  simp only [List.mem_cons, List.mem_nil_iff, or_false] at hy
  rcases hy with rfl | rfl
  · exact ha
  · exact hb
theorem fits_prs {xs : List Str} {p : PV} (hl : xs.length ≤ 1000) (hx : ∀ x ∈ xs, isWord x = true) (hp : ∀ n, fits n p = true) : ∀ n, fits n (.tup (xs.map fun x => .tup [.str x, p])) = true := fits_tup_of (by rw [List.length_map]; exact hl) fun y hy => by
  obtain ⟨x, hx2, rfl⟩ := List.mem_map.mp hy
  exact fits2 (fits_word (hx x hx2)) hp
theorem pairs_pv (xs : List Str) (v : Int) : (xs.map fun x => (x, v)).map pairPV = xs.map fun x => .tup [.str x, .int v] := by rw [List.map_map]; rfl
theorem bells_pv (xs : List Str) (s : Bool) : (xs.map fun x => (x, s)).map bellPV = xs.map fun x => .tup [.str x, .str (sortS s)] := by rw [List.map_map]; rfl
theorem deeds_pv (xs : List Str) (rows : List Row) : (xs.map fun x => (x, rows)).map deedPV = xs.map fun x => .tup [.str x, progPV rows] := by rw [List.map_map]; rfl
theorem fits_rows {n : Nat} {row : Row} (hn : n ≤ 41) (h : ∀ n, fits n row.pv = true) : ∀ m, fits m (progPV (List.replicate n row)) = true := fits_tup_of (by rw [List.length_map, List.length_replicate]; omega) fun y hy => by
  obtain ⟨x, hx, rfl⟩ := List.mem_map.mp hy
  rw [List.eq_of_mem_replicate hx]
  exact h
theorem fits_tell : ∀ n, fits n (Row.tell (.val 1)).pv = true := fits2 (fits_lit (by decide)) fits_int
theorem fits_say : ∀ n, fits n (Row.say (.val 0)).pv = true := fits2 (fits_lit (by decide)) fits_int
theorem some_len {ws xs : List Str} {m : Nat} (h : Some_ ws m xs) (hm : m ≤ 50) : xs.length ≤ 1000 := by rw [h.l]; omega
theorem fits_z {W : List Str} {z : Sz} {w : Wld} (hW : W11 W) (h : WldZ W z w) (hc : Cap z) : ∀ n, fits n w.pv = true := by
  obtain ⟨ps, pv, p1, p2, p3⟩ := h.pa
  obtain ⟨os, ov, o1, o2, o3⟩ := h.op
  obtain ⟨hs, h1, h2⟩ := h.ha
  unfold Wld.pv
  refine fits_tup_of (show (4 : Nat) ≤ 1000 by decide) fun y hy => ?_
  simp only [List.mem_cons, List.mem_nil_iff, or_false] at hy
  rcases hy with rfl | rfl | rfl | rfl
  · refine fits_tup_of (by have := h.nm.l; rw [List.length_map] at this ⊢; have := hc.rm; omega) fun y hy => ?_
    obtain ⟨rm, hm, rfl⟩ := List.mem_map.mp hy
    obtain ⟨xs, v, a1, a2, a3⟩ := (h.rm rm hm).th
    obtain ⟨bs, s, b1, b2⟩ := (h.rm rm hm).be
    obtain ⟨ds, d1, d2⟩ := (h.rm rm hm).de
    have hnm : rm.name ∈ W := List.mem_of_mem_take (h.nm.sub _ (List.mem_map.mpr ⟨rm, hm, rfl⟩))
    unfold Rm.pv
    refine fits_tup_of (show (5 : Nat) ≤ 1000 by decide) fun y hy => ?_
    simp only [List.mem_cons, List.mem_nil_iff, or_false] at hy
    rcases hy with rfl | rfl | rfl | rfl | rfl
    · exact fits_word (hW.w _ hnm)
    · exact fits_lit (by cases rm.free <;> decide)
    · rw [a3, pairs_pv]; exact fits_prs (some_len a1 (by have := hc.th; omega)) (fun x hx => hW.w x (sub_drop a1 x hx)) fits_int
    · rw [b2, bells_pv]; exact fits_prs (some_len b1 (by have := hc.be; omega)) (fun x hx => hW.w x (b1.sub x hx)) (fits_lit (by cases s <;> decide))
    · rw [d2, deeds_pv]; exact fits_prs (some_len d1 (by have := hc.de; omega)) (fun x hx => hW.w x (sub_drop d1 x hx)) (fits_rows hc.r fits_tell)
  · rw [p3, pairs_pv]; exact fits_prs (some_len p1 (by have := hc.pa; omega)) (fun x hx => hW.w x (sub_drop p1 x hx)) fits_int
  · rw [o3, pairs_pv]; exact fits_prs (some_len o1 (by have := hc.op; omega)) (fun x hx => hW.w x (o1.sub x hx)) fits_int
  · rw [h2]
    refine fits_tup_of (by rw [List.length_map, List.length_replicate]; have := hc.ha; omega) fun y hy => ?_
    obtain ⟨q, hq, rfl⟩ := List.mem_map.mp hy
    rw [List.eq_of_mem_replicate hq]
    refine fits2 ?_ (fits_rows hc.r fits_say)
    show ∀ n, fits n (.tup ((hs.map fun x => (x, (0 : Int))).map pairPV)) = true
    rw [pairs_pv]
    exact fits_prs (some_len h1 (by have := hc.ow; omega)) (fun x hx => by
      obtain ⟨y, hy, rfl⟩ := ys_mem (h1.sub x hx)
      exact (hW.y y hy).1) fits_int
theorem wz_world {W : List Str} {z : Sz} {w : Wld} {b : Bool} {et : Hi} {R : PV → Hi → Prop} (hb : ∀ d ∈ et, belC et.length d) (hW : W11 W) (h : WldZ W z w) (hc : Cap z) (hi : b = true → In_ z) (ho : b = false → Out z) (hR : R (.bl b) et) : spIsWorld [w.pv] et R := by
  cases b with
  | true =>
    have hf := full_z hW h (hi rfl)
    exact world_is hb hf.f (by rw [full hf]; exact hR)
  | false => exact ⟨w.pv, rfl, hb, fits_z hW h hc 12, .inl ⟨out_z hW h hc (ho rfl), hR⟩⟩
def cut (x : Str) : Str := ⟨(x.cps.toList.take 6).toArray⟩
theorem cut_is (x : Str) : cutS x none (some 6) = cut x := by
  unfold cutS cut
  have e : HT.sIx x.length x.length (some 6) = min 6 x.length := HT.sIx_nat x.length x.length 6
  rw [e, HT.sIx_none, List.drop_zero, Nat.sub_zero]
  congr 2
  have hl : x.length = x.cps.toList.length := by rw [Array.length_toList]; rfl
  by_cases h : 6 ≤ x.length
  · rw [Nat.min_eq_left h]
  · rw [Nat.min_eq_right (by omega), List.take_of_length_le (by omega), List.take_of_length_le (by omega)]
theorem cut_list (x : Str) : (cut x).cps.toList = x.cps.toList.take 6 := by unfold cut; simp
theorem cut_size (x : Str) : (cut x).cps.size = min 6 x.cps.size := by rw [← Array.length_toList, cut_list, List.length_take, Array.length_toList]
theorem ends_size : ∀ x ∈ endsL, x.cps.size = 0 ∨ x.cps.size = 2 ∨ x.cps.size = 1 ∨ x.cps.size = 5 ∨ x.cps.size = 7 := by decide +kernel
theorem wd_size (f t k : Nat) : ∃ s, (s = 0 ∨ s = 2 ∨ s = 1 ∨ s = 5 ∨ s = 7) ∧ (wd f t k).cps.size = 1 + s := by
  refine ⟨_, ends_size _ (Lw.ends_get (f + k * k)), ?_⟩
  unfold wd
  rw [cps_append, Array.size_append]
  rfl
theorem cut_first (f t k : Nat) : (cut (wd f t k)).cps.toList[0]? = some (97 + (f + t * k) % 26) := by
  rw [cut_list, List.getElem?_take_of_lt (by decide), wd_first]
theorem first_inj {f t j k : Nat} (ht : t ∈ turns) (hj : j < 26) (hk : k < 26) (h : (97 + (f + t * j) % 26) = 97 + (f + t * k) % 26) : j = k := by
  have h2 : (f + t * k) % 26 = (f + t * j) % 26 := by omega
  rcases Nat.le_total j k with hle | hle
  · obtain ⟨d, rfl⟩ := Nat.exists_eq_add_of_le hle
    have h3 : t * (j + d) = t * j + t * d := Nat.mul_add _ _ _
    have := turn_inj t ht d (by omega) (by omega)
    omega
  · obtain ⟨d, rfl⟩ := Nat.exists_eq_add_of_le hle
    have h3 : t * (k + d) = t * k + t * d := Nat.mul_add _ _ _
    have := turn_inj t ht d (by omega) (by omega)
    omega
theorem once_self : ∀ {l : List Str}, l.Nodup → onceS l = l
  | [], _ => rfl
  | x :: r, h => by
    rw [List.nodup_cons] at h
    unfold onceS
    rw [if_neg h.1, once_self h.2]
theorem y_list (x : Str) : (x ++ ("y" : Str)).cps.toList = x.cps.toList ++ [121] := by
  rw [cps_append, Array.toList_append]; rfl
theorem y_size (x : Str) : (x ++ ("y" : Str)).cps.size = x.cps.size + 1 := by
  rw [← Array.length_toList, y_list, List.length_append, Array.length_toList]; rfl
theorem is_word {x : Str} (h1 : 1 ≤ x.cps.size) (h2 : x.cps.size ≤ 8) (h3 : ∀ c ∈ x.cps.toList, 97 ≤ c ∧ c ≤ 122) : isWord x = true := by
  unfold isWord
  simp only [Bool.and_eq_true, decide_eq_true_eq, List.all_eq_true]
  exact ⟨⟨h1, h2⟩, h3⟩
theorem w11_of {f t : Nat} (ht : t ∈ turns) : W11 (setS ((wds f t 26).map cut)) := by
  have hmem : ∀ x, x ∈ setS ((wds f t 26).map cut) ↔ ∃ j, j < 26 ∧ x = cut (wd f t j) := fun x => by
    show x ∈ srtS (onceS ((wds f t 26).map cut)) ↔ _
    rw [(srt_perm _).mem_iff, once_mem, List.mem_map]
    constructor
    · rintro ⟨y, hy, rfl⟩
      obtain ⟨j, hj, rfl⟩ := List.mem_map.mp hy
      exact ⟨j, List.mem_range.mp hj, rfl⟩
    · rintro ⟨j, hj, rfl⟩
      exact ⟨_, List.mem_map.mpr ⟨j, List.mem_range.mpr hj, rfl⟩, rfl⟩
  have hfl : ∀ j, ∀ c ∈ (cut (wd f t j)).cps.toList, 97 ≤ c ∧ c ≤ 122 := fun j c hc => by
    have hw := wd_ok f t j
    unfold isWord at hw
    simp only [Bool.and_eq_true, decide_eq_true_eq, List.all_eq_true] at hw
    rw [cut_list] at hc
    exact hw.2 c (List.mem_of_mem_take hc)
  have hsz : ∀ j, ∃ s, (s = 0 ∨ s = 2 ∨ s = 1 ∨ s = 5 ∨ s = 7) ∧ (cut (wd f t j)).cps.size = min 6 (1 + s) := fun j => by
    obtain ⟨s, h1, h2⟩ := wd_size f t j
    exact ⟨s, h1, by rw [cut_size, h2]⟩
  have hinj : ∀ j k, j < 26 → k < 26 → (cut (wd f t j)).cps.toList[0]? = (cut (wd f t k)).cps.toList[0]? → j = k := fun j k hj hk h => by
    rw [cut_first, cut_first] at h
    exact first_inj ht hj hk (Option.some.inj h)
  have hnd : ((wds f t 26).map cut).Nodup := by
    unfold wds
    rw [List.map_map]
    refine nodup_map_on List.nodup_range fun x hx y hy h => hinj x y (List.mem_range.mp hx) (List.mem_range.mp hy) ?_
    have h : cut (wd f t x) = cut (wd f t y) := h
    rw [h]
  have hset : setS ((wds f t 26).map cut) = srtS ((wds f t 26).map cut) := by unfold setS; rw [once_self hnd]
  refine ⟨fun x hx => ?_, ?_, ?_, fun hg => ?_, fun x hx => ?_⟩
  · obtain ⟨j, hj, rfl⟩ := (hmem x).mp hx
    obtain ⟨s, h1, h2⟩ := hsz j
    exact is_word (by omega) (by omega) (hfl j)
  · rw [hset, (srt_perm _).length_eq, List.length_map, wds, List.length_map, List.length_range]
  · rw [hset]; exact (srt_perm _).nodup_iff.mpr hnd
  · obtain ⟨j, hj, e⟩ := (hmem _).mp hg
    obtain ⟨s, h1, h2⟩ := hsz j
    rw [← e] at h2
    have h3 : ("given" : Str).cps.size = 5 := rfl
    omega
  · obtain ⟨j, hj, rfl⟩ := (hmem x).mp hx
    obtain ⟨s, h1, h2⟩ := hsz j
    refine ⟨is_word (by rw [y_size]; omega) (by rw [y_size]; omega) fun c hc => ?_, fun hm => ?_, fun hg => ?_⟩
    · rw [y_list] at hc
      rcases List.mem_append.mp hc with hc | hc
      · exact hfl j c hc
      · rw [List.mem_singleton.mp hc]; decide
    · obtain ⟨k, hk, e⟩ := (hmem _).mp hm
      have h4 : (cut (wd f t j)).cps.toList[0]? = (cut (wd f t k)).cps.toList[0]? := by
        rw [← e, y_list, List.getElem?_append_left (by rw [Array.length_toList]; omega)]
      have := hinj j k hj hk h4
      subst this
      have h5 := y_size (cut (wd f t j))
      rw [e] at h5
      omega
    · have h5 := y_size (cut (wd f t j))
      rw [hg] at h5
      have h3 : ("given" : Str).cps.size = 5 := rfl
      omega
theorem ys_nodup {W : List Str} (h : W11 W) : (ysOf W).Nodup ∧ (ysOf W).length = 26 := by
  refine ⟨nodup_map_on ((List.reverse_perm W).nodup_iff.mpr h.n) fun x _ y _ e => ?_, by rw [ysOf, List.length_map, List.length_reverse, h.l]⟩
  have e2 := congrArg (fun s : Str => s.cps.toList) e
  simp only [y_list] at e2
  have := List.append_cancel_right e2
  cases x; cases y
  simp only [Str.mk.injEq]
  exact Array.toList_inj.mp this
end Q11
namespace Q11
open PySem L2 Mw Lw Sq Cw De Bq Br Iw Ir Is It Xs Rw
def r__law_named : SM := (mRet (mArg gTuple (mCons (mLc (mIter (mArg gSorted (mCons (mSl gSlA (mPeek 0) mO0 (mO1 (mVar 1))) mNil))) [3] (tgN 3) mYes (mTup (mCons (mVar 3) (mCons (mVar 2) mNil)))) mNil)))
abbrev N__law_named : List Str := ["_law_words_here", "_law_many", "_law_thing", "_law_word"]
def r__law_world_of_7 (S__law_of : FSpec) : SM := (mExprX (mMut 13 gmAppend (mCons (mTup (mCons (mVar 14) (mCons (mCall 2 S__law_of (mCons (mVar 0) (mCons (mLst (mCons (mC (.str "at once")) (mCons (mC (.str "when free")) mNil))) mNil))) (mCons (mVar 15) (mCons (mVar 16) (mCons (mVar 17) mNil)))))) mNil)))
def r__law_world_of_6 (S__law_named : FSpec) (S__law_of : FSpec) : SM := (mSeq (mSet 17 (mCall 3 S__law_named (mCons (mSl gSlA (mPeek 1) (mO1 (mC (.int 3))) mO0) (mCons (mVar 7) (mCons (mVar 12) mNil))))) (r__law_world_of_7 S__law_of))
def r__law_world_of_5 (S__law_named : FSpec) (S__law_of : FSpec) : SM := (mSeq (mSet 16 (mCall 3 S__law_named (mCons (mVar 1) (mCons (mVar 6) (mCons (mCall 2 S__law_of (mCons (mVar 0) (mCons (mLst (mCons (mC (.str "row")) (mCons (mC (.str "turns")) mNil))) mNil))) mNil))))) (r__law_world_of_6 S__law_named S__law_of))
def r__law_world_of_4 (S__law_named : FSpec) (S__law_take : FSpec) (S__law_of : FSpec) : SM := (mSeq (mSet 15 (mCall 3 S__law_named (mCons (mSl gSlA (mPeek 1) (mO1 (mC (.int 6))) mO0) (mCons (mVar 5) (mCons (mCall 2 S__law_take (mCons (mVar 0) (mCons (mC (.int 10)) mNil))) mNil))))) (r__law_world_of_5 S__law_named S__law_of))
def r__law_world_of_12 : SM := (mRet (mTup (mCons (mArg gTuple (mCons (mPeek 13) mNil)) (mCons (mVar 18) (mCons (mVar 22) (mCons (mBin gRepT (mTup (mCons (mVar 21) mNil)) (mPeek 10)) mNil))))))
def r__law_world_of_11 (S__law_named : FSpec) (S__law_take : FSpec) : SM := (mSeq (mSet 22 (mCall 3 S__law_named (mCons (mVar 1) (mCons (mVar 9) (mCons (mCall 2 S__law_take (mCons (mVar 0) (mCons (mC (.int 10)) mNil))) mNil))))) (r__law_world_of_12))
def r__law_world_of_10 (S__law_named : FSpec) (S__law_take : FSpec) : SM := (mSeq (mSet 21 (mTup (mCons (mCall 3 S__law_named (mCons (mVar 20) (mCons (mVar 11) (mCons (mC (.int 0)) mNil)))) (mCons (mBin gRepT (mTup (mCons (mTup (mCons (mC (.str "say")) (mCons (mC (.int 0)) mNil))) mNil)) (mPeek 3)) mNil)))) (r__law_world_of_11 S__law_named S__law_take))
def r__law_world_of_9 (S__law_named : FSpec) (S__law_take : FSpec) : SM := (mSeq (mSet 20 (mLc (mIter (mUn gRevL (mPeek 1))) [19] (tgN 19) mYes (mBin gAdd (mPeek 19) (mC (.str "y"))))) (r__law_world_of_10 S__law_named S__law_take))
def r__law_world_of_8 (S__law_named : FSpec) (S__law_take : FSpec) : SM := (mSeq (mSet 18 (mCall 3 S__law_named (mCons (mSl gSlA (mPeek 1) (mO1 (mC (.int 6))) mO0) (mCons (mVar 8) (mCons (mCall 2 S__law_take (mCons (mVar 0) (mCons (mC (.int 10)) mNil))) mNil))))) (r__law_world_of_9 S__law_named S__law_take))
def r__law_world_of_3 (S__law_named : FSpec) (S__law_take : FSpec) (S__law_of : FSpec) : SM := (mSeq (mFor (mIter (mArg gSorted (mCons (mSl gSlA (mPeek 1) mO0 (mO1 (mVar 4))) mNil))) (tgN 14) (r__law_world_of_4 S__law_named S__law_take S__law_of)) (r__law_world_of_8 S__law_named S__law_take))
def r__law_world_of_2 (S__law_named : FSpec) (S__law_take : FSpec) (S__law_of : FSpec) : SM := (mSeq (mSetN 13 (mLst mNil)) (r__law_world_of_3 S__law_named S__law_take S__law_of))
def r__law_world_of_1 (S__law_named : FSpec) (S__law_take : FSpec) (S__law_of : FSpec) : SM := (mSeq (mSet 12 (mBin gRepT (mTup (mCons (mTup (mCons (mC (.str "tell")) (mCons (mC (.int 1)) mNil))) mNil)) (mPeek 3))) (r__law_world_of_2 S__law_named S__law_take S__law_of))
def r__law_world_of_0 (S__law_named : FSpec) (S__law_take : FSpec) (S__law_of : FSpec) : SM := (mSeq (mAsgD (tgL [(tgN 7), (tgN 8), (tgN 9), (tgN 10), (tgN 11)]) (mSl gSlA (mPeek 2) (mO1 (mC (.int 4))) mO0)) (r__law_world_of_1 S__law_named S__law_take S__law_of))
def r__law_world_of (S__law_named : FSpec) (S__law_take : FSpec) (S__law_of : FSpec) : SM := (mSeq (mAsgD (tgL [(tgN 3), (tgN 4), (tgN 5), (tgN 6)]) (mSl gSlA (mPeek 2) mO0 (mO1 (mC (.int 4))))) (r__law_world_of_0 S__law_named S__law_take S__law_of))
abbrev N__law_world_of : List Str := ["_law_pot_here", "_law_words_here", "_law_sizes", "_law_rows", "_law_rooms", "_law_things", "_law_bells", "_law_deeds", "_law_passes", "_law_opened", "_law_hands", "_law_own", "_law_program", "_law_done", "_law_name", "_law_some", "_law_rung", "_law_made", "_law_counted", "_law_word", "_law_others", "_law_hand", "_law_free"]
def r__law_small_3 (S__law_world_of : FSpec) : SM := (mFrz [4] (mRet (mCall 3 S__law_world_of (mCons (mVar 0) (mCons (mVar 1) (mCons (mVar 4) mNil))))))
def r__law_small_2 (S__law_world_of : FSpec) : SM := (mSeq (mSubSetN 4 (mVar 3) (mVar 2)) (r__law_small_3 S__law_world_of))
def r__law_small_1 (S__law_take : FSpec) (S__law_world_of : FSpec) : SM := (mSeq (mExprX (mMut 4 gmAppend (mCons (mCall 2 S__law_take (mCons (mVar 0) (mCons (mC (.int 4)) mNil))) mNil))) (r__law_small_2 S__law_world_of))
def r__law_small_0 (S__law_take : FSpec) (S__law_world_of : FSpec) : SM := (mSeq (mSetN 4 (mBin gCat (mPeek 4) (mLst (mCons (mBin gAdd (mC (.int 1)) (mCall 2 S__law_take (mCons (mVar 0) (mCons (mC (.int 3)) mNil)))) (mCons (mCall 2 S__law_take (mCons (mVar 0) (mCons (mC (.int 4)) mNil))) (mCons (mCall 2 S__law_take (mCons (mVar 0) (mCons (mC (.int 4)) mNil))) (mCons (mBin gAdd (mC (.int 1)) (mCall 2 S__law_take (mCons (mVar 0) (mCons (mC (.int 3)) mNil)))) mNil))))))) (r__law_small_1 S__law_take S__law_world_of))
def r__law_small (S__law_take : FSpec) (S__law_world_of : FSpec) : SM := (mSeq (mSetN 4 (mLst (mCons (mBin gAdd (mC (.int 1)) (mCall 2 S__law_take (mCons (mVar 0) (mCons (mC (.int 3)) mNil)))) (mCons (mBin gAdd (mC (.int 1)) (mCall 2 S__law_take (mCons (mVar 0) (mCons (mC (.int 2)) mNil)))) (mCons (mCall 2 S__law_take (mCons (mVar 0) (mCons (mC (.int 3)) mNil))) (mCons (mCall 2 S__law_take (mCons (mVar 0) (mCons (mC (.int 3)) mNil))) mNil)))))) (r__law_small_0 S__law_take S__law_world_of))
abbrev N__law_small : List Str := ["_law_pot_here", "_law_words_here", "_law_at", "_law_many", "_law_sizes"]
def r__law_with_0 : SM := (mRet (mTup (mCons (mTup (mCons (mVar 2) mNil)) (mCons (mTup mNil) (mCons (mTup mNil) (mCons (mTup (mCons (mTup (mCons (mTup mNil) (mCons (mTup (mCons (mTup (mCons (mC (.str "go")) (mCons (mC (.int 0)) mNil))) mNil)) mNil))) mNil)) mNil))))))
def r__law_with : SM := (mSeq (mSet 2 (mTup (mCons (mC (.str "room")) (mCons (mC (.str "at once")) (mCons (mTup (mCons (mTup (mCons (mC (.str "thing")) (mCons (mVar 1) mNil))) mNil)) (mCons (mTup (mCons (mTup (mCons (mC (.str "bell")) (mCons (mC (.str "row")) mNil))) mNil)) (mCons (mTup (mCons (mTup (mCons (mC (.str "deed")) (mCons (mTup (mCons (mVar 0) mNil)) mNil))) mNil)) mNil))))))) (r__law_with_0))
abbrev N__law_with : List Str := ["_law_row", "_law_thing", "_law_room"]
def r__law_truth : SM := (mRet (mAndE (mArg gIsi (mCons (mPeek 0) (mCons (mC (.ty .bool)) mNil))) (mBin gEq (mPeek 0) (mPeek 1))))
abbrev N__law_truth : List Str := ["_law_found", "_law_due"]
def r_law_7 : SM := (mRet (mC (.bl false)))
def r_law_6 (S__law_truth : FSpec) (S_is_world : FSpec) (S__law_small : FSpec) : SM := (mIf (mNotT (mAsT (mCall 2 S__law_truth (mCons (mCall 1 S_is_world (mCons (mCall 4 S__law_small (mCons (mVar 1) (mCons (mVar 3) (mCons (mVar 5) (mCons (mVar 9) mNil))))) mNil)) (mCons (mChain gLe gLe (mPeek 7) (mPeek 9) (mPeek 8)) mNil))))) (r_law_7) mNext)
def r_law_5 (S__law_take : FSpec) (S__law_truth : FSpec) (S_is_world : FSpec) (S__law_small : FSpec) : SM := (mFor (mIter (mLst (mCons (mC (.int 0)) (mCons (mC (.int 1)) (mCons (mBin gSubI (mPeek 8) (mC (.int 1))) (mCons (mVar 8) (mCons (mBin gAdd (mPeek 8) (mC (.int 1))) (mCons (mBin gAdd (mPeek 7) (mCall 2 S__law_take (mCons (mVar 1) (mCons (mBin gAdd (mBin gSubI (mPeek 8) (mPeek 7)) (mC (.int 1))) mNil)))) mNil)))))))) (tgN 9) (r_law_6 S__law_truth S_is_world S__law_small))
def r_law_4 (S__law_take : FSpec) (S__law_truth : FSpec) (S_is_world : FSpec) (S__law_small : FSpec) : SM := (mSeq (mAsg (tgT [(tgN 7), (tgN 8)]) (mVar 6)) (r_law_5 S__law_take S__law_truth S_is_world S__law_small))
def r_law_9 : SM := (mRet (mC (.bl false)))
def r_law_14 : SM := (mRet (mC (.bl false)))
def r_law_16 : SM := (mRet (mC (.bl false)))
def r_law_18 : SM := (mRet (mC (.bl false)))
def r_law_19 : SM := (mSet 10 (mTup (mCons (mC (.str "not")) (mCons (mVar 10) mNil))))
def r_law_17 (S__law_truth : FSpec) (S_is_world : FSpec) : SM := (mSeq (mIf (mNotT (mAsT (mCall 2 S__law_truth (mCons (mCall 1 S_is_world (mCons (mTup (mCons (mTup mNil) (mCons (mTup (mCons (mTup (mCons (mVar 2) (mCons (mBin gAdd (mPeek 11) (mC (.int 2))) mNil))) mNil)) (mCons (mTup mNil) (mCons (mTup (mCons (mTup (mCons (mTup mNil) (mCons (mTup (mCons (mTup (mCons (mC (.str "go")) (mCons (mC (.int 1)) mNil))) mNil)) mNil))) mNil)) mNil))))) mNil)) (mCons (mBin gLt (mPeek 11) (mC (.int 7))) mNil))))) (r_law_18) mNext) (r_law_19))
def r_law_15 (S__law_truth : FSpec) (S_is_world : FSpec) (S__law_with : FSpec) : SM := (mSeq (mIf (mNotT (mAsT (mCall 2 S__law_truth (mCons (mCall 1 S_is_world (mCons (mCall 2 S__law_with (mCons (mTup (mCons (mC (.str "unless")) (mCons (mC (.int 1)) (mCons (mBin gSubI (mPeek 11) (mC (.int 3))) mNil)))) (mCons (mC (.int 1)) mNil))) mNil)) (mCons (mChain gLe gLe (mC (.int 0)) (mBin gSubI (mPeek 11) (mC (.int 3))) (mC (.int 1))) mNil))))) (r_law_16) mNext) (r_law_17 S__law_truth S_is_world))
def r_law_13 (S__law_truth : FSpec) (S_is_world : FSpec) (S__law_with : FSpec) : SM := (mSeq (mIf (mNotT (mAsT (mCall 2 S__law_truth (mCons (mCall 1 S_is_world (mCons (mCall 2 S__law_with (mCons (mTup (mCons (mC (.str "put")) (mCons (mC (.str "thing")) (mCons (mVar 10) mNil)))) (mCons (mBin gAdd (mPeek 11) (mC (.int 2))) mNil))) mNil)) (mCons (mBin gLt (mPeek 11) (mC (.int 6))) mNil))))) (r_law_14) mNext) (r_law_15 S__law_truth S_is_world S__law_with))
def r_law_12 (S__law_truth : FSpec) (S_is_world : FSpec) (S__law_with : FSpec) : SM := (mSeq (mSet 2 (mSl gSlA (mC (.str "abcdefghij")) mO0 (mO1 (mBin gAdd (mPeek 11) (mC (.int 2)))))) (r_law_13 S__law_truth S_is_world S__law_with))
def r_law_20 : SM := (mRet (mC (.bl true)))
def r_law_11 (S__law_truth : FSpec) (S_is_world : FSpec) (S__law_with : FSpec) : SM := (mSeq (mFor (mRng2 (mCons (mC (.int 1)) (mCons (mC (.int 9)) mNil))) (tgN 11) (r_law_12 S__law_truth S_is_world S__law_with)) (r_law_20))
def r_law_10 (S__law_truth : FSpec) (S_is_world : FSpec) (S__law_with : FSpec) : SM := (mSeq (mSet 10 (mC (.int 1))) (r_law_11 S__law_truth S_is_world S__law_with))
def r_law_8 (S__law_truth : FSpec) (S_is_world : FSpec) (S__law_world_of : FSpec) (S__law_with : FSpec) : SM := (mSeq (mIf (mBinT gIsNot (mCall 1 S_is_world (mCons (mCall 3 S__law_world_of (mCons (mVar 1) (mCons (mVar 3) (mCons (mLst (mCons (mC (.int 40)) (mCons (mC (.int 4)) (mCons (mC (.int 4)) (mCons (mC (.int 3)) (mCons (mC (.int 4)) (mCons (mC (.int 16)) (mCons (mC (.int 16)) (mCons (mC (.int 4)) (mCons (mC (.int 8)) mNil)))))))))) mNil)))) mNil)) (mC (.bl true))) (r_law_9) mNext) (r_law_10 S__law_truth S_is_world S__law_with))
def r_law_3 (S__law_take : FSpec) (S__law_truth : FSpec) (S_is_world : FSpec) (S__law_small : FSpec) (S__law_world_of : FSpec) (S__law_with : FSpec) : SM := (mSeq (mFor (mEnum (mCons (mVar 4) mNil)) (tgT [(tgN 5), (tgN 6)]) (r_law_4 S__law_take S__law_truth S_is_world S__law_small)) (r_law_8 S__law_truth S_is_world S__law_world_of S__law_with))
def r_law_2 (S__law_take : FSpec) (S__law_truth : FSpec) (S_is_world : FSpec) (S__law_small : FSpec) (S__law_world_of : FSpec) (S__law_with : FSpec) : SM := (mSeq (mSet 4 (mLst (mCons (mTup (mCons (mC (.int 1)) (mCons (mC (.int 40)) mNil))) (mCons (mTup (mCons (mC (.int 0)) (mCons (mC (.int 4)) mNil))) (mCons (mTup (mCons (mC (.int 0)) (mCons (mC (.int 4)) mNil))) (mCons (mTup (mCons (mC (.int 0)) (mCons (mC (.int 3)) mNil))) (mCons (mTup (mCons (mC (.int 1)) (mCons (mC (.int 4)) mNil))) (mCons (mTup (mCons (mC (.int 0)) (mCons (mC (.int 16)) mNil))) (mCons (mTup (mCons (mC (.int 0)) (mCons (mC (.int 16)) mNil))) (mCons (mTup (mCons (mC (.int 1)) (mCons (mC (.int 4)) mNil))) (mCons (mTup (mCons (mC (.int 0)) (mCons (mC (.int 8)) mNil))) mNil))))))))))) (r_law_3 S__law_take S__law_truth S_is_world S__law_small S__law_world_of S__law_with))
def r_law_1 (S__law_take : FSpec) (S__law_truth : FSpec) (S_is_world : FSpec) (S__law_small : FSpec) (S__law_world_of : FSpec) (S__law_with : FSpec) : SM := (mSeq (mSet 3 (mUn gSortedSet (mPeek 3))) (r_law_2 S__law_take S__law_truth S_is_world S__law_small S__law_world_of S__law_with))
def r_law_0 (S__law_words : FSpec) (S__law_take : FSpec) (S__law_truth : FSpec) (S_is_world : FSpec) (S__law_small : FSpec) (S__law_world_of : FSpec) (S__law_with : FSpec) : SM := (mSeq (mSet 3 (mLc (mIter (mCall 2 S__law_words (mCons (mVar 1) (mCons (mC (.int 26)) mNil)))) [2] (tgN 2) mYes (mSl gSlA (mPeek 2) mO0 (mO1 (mC (.int 6)))))) (r_law_1 S__law_take S__law_truth S_is_world S__law_small S__law_world_of S__law_with))
def r_law (S__law_pot : FSpec) (S__law_words : FSpec) (S__law_take : FSpec) (S__law_truth : FSpec) (S_is_world : FSpec) (S__law_small : FSpec) (S__law_world_of : FSpec) (S__law_with : FSpec) : SM := (mSeq (mSet 1 (mCall 1 S__law_pot (mCons (mVar 0) mNil))) (r_law_0 S__law_words S__law_take S__law_truth S_is_world S__law_small S__law_world_of S__law_with))
abbrev N_law : List Str := ["_law_script", "_law_pot_here", "_law_word", "_law_words_here", "_law_bounds", "_law_at", "_law_pair", "_law_least", "_law_most", "_law_many", "_law_deep", "_law_depth"]
theorem slA {xs : List Str} (j : Nat) : gSlA (.lst (xs.map .str)) none (some (j : Int)) = some (.lst ((xs.take j).map .str)) := by rw [Dw.sl_take, List.map_take]
theorem slB {xs : List Str} (j : Nat) : gSlA (.lst (xs.map .str)) (some (j : Int)) none = some (.lst ((xs.drop j).map .str)) := by rw [Dw.sl_drop, List.map_drop]
theorem srt_some {ws : List Str} (n : Nat) (h : ws.Nodup) : Some_ ws n (srtS (ws.take n)) where
  l := by rw [(srt_perm _).length_eq, List.length_take]
  s := srt_pw _
  n := (srt_perm _).nodup_iff.mpr (h.sublist (List.take_sublist ..))
  sub := fun x hx => List.mem_of_mem_take ((srt_perm _).mem_iff.mp hx)
def spNamed : FSpec := fun args et R => ∃ (ws : List Str) (n : Nat) (p : PV), args = [.lst (ws.map .str), .int n, p] ∧ ws.length ≤ 60 ∧ ws.Nodup ∧ ∀ xs, Some_ ws n xs → R (.tup (xs.map fun x => .tup [.str x, p])) et
theorem named_ok (args : List PV) (et : Hi) (R : PV → Hi → Prop) (h : spNamed args et R) : r__law_named (env0 N__law_named args) et (retK R) := by
  obtain ⟨ws, n, p, rfl, hl, hn, hR⟩ := h
  have big : (2000 : Nat) ≤ sizeLine := by decide
  show r__law_named [.val (.lst (ws.map .str)), .val (.int n), .val p, .no] et (retK R)
  have s1 := slA (xs := ws) n
  have s2 : gSorted [.lst ((ws.take n).map .str)] = some (.lst ((srtS (ws.take n)).map .str)) := gSorted_strs (by rw [List.length_take]; omega)
  have hs := srt_some n hn
  unfold r__law_named
  dsimp! [s1, s2]
  generalize srtS (ws.take n) = xs at hs
  have hxl : xs.length ≤ 60 := by rw [hs.l]; omega
  refine ⟨_, rfl, lc_pure (fun q => .tup [q, p]) rfl (by rw [List.length_map]; omega) (fun q hq => ⟨_, rfl, fun Q hQ => ?_⟩) ?_⟩
  · dsimp!
    exact ⟨by omega, hQ⟩
  · have gt : gTuple [.lst ((xs.map PV.str).map fun q => .tup [q, p])] = some (.tup (xs.map fun x => .tup [.str x, p])) := by rw [List.map_map]; rfl
    exact ⟨_, gt, hR xs hs⟩
theorem repT1 {x : PV} {n : Nat} (h : n ≤ 1000) : gRepT (.tup [x]) (.int n) = some (.tup (List.replicate n x)) := by
  show (if _ then some (PV.tup (List.replicate (n : Int).toNat [x]).flatten) else none) = _
  rw [if_pos ⟨rfl, by omega, by omega, by show 1 ≤ 1000; decide⟩]
  congr 2
  rw [Int.toNat_natCast]
  exact List.flatten_replicate_singleton
def yP : PV → PV
  | .str x => .str (x ++ "y")
  | p => p
def zP (z : Sz) : List PV := [.int z.r, .int z.rm, .int z.th, .int z.be, .int z.de, .int z.pa, .int z.op, .int z.ha, .int z.ow]
def spWz : FSpec := fun args et R => ∃ (r k : Nat) (W : List Str) (z : Sz) (e : Hi) (n : Nat), args = [.ref r, .lst (W.map .str), .lst (zP z)] ∧ et = po e r k n ∧ Po e r k ∧ W11 W ∧ Cap z ∧ 20 ≤ n ∧ ∀ (w : Wld) (n' : Nat), n' ≤ n → n ≤ n' + 20 → WldZ W z w → R w.pv (po e r k n')
theorem world_of_ok (args : List PV) (et : Hi) (R : PV → Hi → Prop) (h : spWz args et R) : r__law_world_of spNamed spTake spOfQ (env0 N__law_world_of args) et (retK R) := by
  obtain ⟨r, k, W, z, e, n, rfl, rfl, ho, hW, hc, hn, hR⟩ := h
  have big : (2000 : Nat) ≤ sizeLine := by decide
  show r__law_world_of _ _ _ [.val (.ref r), .val (.lst (W.map .str)), .val (.lst (zP z)), .no, .no, .no, .no, .no, .no, .no, .no, .no, .no, .no, .no, .no, .no, .no, .no, .no, .no, .no, .no] (po e r k n) (retK R)
  have s1 : gSlA (.lst (zP z)) none (some 4) = some (.lst [.int z.r, .int z.rm, .int z.th, .int z.be]) := rfl
  have s2 : gSlA (.lst (zP z)) (some 4) none = some (.lst [.int z.de, .int z.pa, .int z.op, .int z.ha, .int z.ow]) := rfl
  unfold r__law_world_of
  dsimp! [mAsgD, tgL, s1]
  refine ⟨_, rfl, ?_⟩
  show r__law_world_of_0 _ _ _ [.val (.ref r), .val (.lst (W.map .str)), .val (.lst (zP z)), .val (.int z.r), .val (.int z.rm), .val (.int z.th), .val (.int z.be), .no, .no, .no, .no, .no, .no, .no, .no, .no, .no, .no, .no, .no, .no, .no, .no] (po e r k n) (retK R)
  unfold r__law_world_of_0
  dsimp! [mAsgD, tgL, s2]
  refine ⟨_, rfl, ?_⟩
  show r__law_world_of_1 _ _ _ [.val (.ref r), .val (.lst (W.map .str)), .val (.lst (zP z)), .val (.int z.r), .val (.int z.rm), .val (.int z.th), .val (.int z.be), .val (.int z.de), .val (.int z.pa), .val (.int z.op), .val (.int z.ha), .val (.int z.ow), .no, .no, .no, .no, .no, .no, .no, .no, .no, .no, .no] (po e r k n) (retK R)
  have s3 : gRepT (.tup [.tup [.str "tell", .int 1]]) (.int z.r) = some (progPV (tellR z.r)) := by
    rw [repT1 (by have := hc.r; omega)]
    unfold progPV tellR
    rw [List.map_replicate]; rfl
  unfold r__law_world_of_1
  dsimp! [s3]
  refine ⟨by omega, by omega, ?_⟩
  unfold r__law_world_of_2
  dsimp!
  refine ⟨by omega, ?_⟩
  have hw6 : (W.take 6).Nodup := hW.n.sublist (List.take_sublist ..)
  have ns0 := srt_some z.rm hw6
  have e6 : (W.take 6).take z.rm = W.take z.rm := by rw [List.take_take, Nat.min_eq_left (by have := hc.rm; omega)]
  rw [e6] at ns0
  have s4 : gSlA (.lst (W.map .str)) none (some (z.rm : Int)) = some (.lst ((W.take z.rm).map .str)) := slA z.rm
  have s5 : gSorted [.lst ((W.take z.rm).map .str)] = some (.lst ((srtS (W.take z.rm)).map .str)) := gSorted_strs (by rw [List.length_take, hW.l]; omega)
  generalize srtS (W.take z.rm) = ns at ns0 s5
  have nl : ns.length ≤ 5 := by rw [ns0.l]; have := hc.rm; omega
  unfold r__law_world_of_3
  dsimp! [s4, s5]
  refine ⟨_, rfl, fun i ep et1 => i ≤ ns.length ∧ ∃ (m : Nat) (rs : List Rm) (s14 s15 s16 s17 : Mw.Slot), et1 = po e r k m ∧ m ≤ n ∧ n ≤ m + 3 * i ∧ rs.map (·.name) = ns.take i ∧ (∀ rm ∈ rs, RoomZ W z rm) ∧
    ep = [.val (.ref r), .val (.lst (W.map .str)), .val (.lst (zP z)), .val (.int z.r), .val (.int z.rm), .val (.int z.th), .val (.int z.be), .val (.int z.de), .val (.int z.pa), .val (.int z.op), .val (.int z.ha), .val (.int z.ow), .val (progPV (tellR z.r)), .own (.lst (rs.map Rm.pv)), s14, s15, s16, s17, .no, .no, .no, .no, .no],
    ⟨Nat.zero_le _, n, [], _, _, _, _, rfl, Nat.le_refl _, by omega, rfl, by simp, rfl⟩, ?_⟩
  rintro i ep et1 ⟨hi, m, rs, s14, s15, s16, s17, rfl, hm1, hm2, hrs, hrz, rfl⟩
  have rl : rs.length = i := by have := congrArg List.length hrs; rw [List.length_map, List.length_take] at this; omega
  refine ⟨rfl, fun q hq => ⟨_, rfl, ?_⟩, fun e => ?_⟩
  · rw [List.getElem?_map] at hq
    obtain ⟨x, hx, rfl⟩ := Option.map_eq_some_iff.mp hq
    have hil := (List.getElem?_eq_some_iff.mp hx).1
    have s6 : gSlA (.lst (W.map .str)) (some 6) none = some (.lst ((W.drop 6).map .str)) := slB 6
    have s7 : gSlA (.lst (W.map .str)) (some 3) none = some (.lst ((W.drop 3).map .str)) := slB 3
    unfold r__law_world_of_4
    dsimp! [s6]
    refine tq ho (by omega) (by decide) (by decide) fun d d0 d1 => ?_
    obtain ⟨v, rfl⟩ := Int.eq_ofNat_of_zero_le d0
    refine ⟨_, _, _, rfl, by rw [List.length_drop, hW.l]; decide, hW.n.sublist (List.drop_sublist ..), fun xs hxs => ?_⟩
    dsimp!
    unfold r__law_world_of_5
    dsimp!
    refine ⟨by omega, ?_⟩
    refine oq ho (by omega) (by show 0 < 2; decide) (by show 2 < _; decide) fun p hp => ?_
    obtain ⟨s, rfl⟩ : ∃ s : Bool, p = .str (sortS s) := by
      simp only [List.mem_cons, List.mem_nil_iff, or_false] at hp
      rcases hp with rfl | rfl
      · exact ⟨false, rfl⟩
      · exact ⟨true, rfl⟩
    refine ⟨W, _, _, rfl, by rw [hW.l]; decide, hW.n, fun bs hbs => ?_⟩
    dsimp!
    unfold r__law_world_of_6
    dsimp! [s7]
    refine ⟨W.drop 3, _, _, rfl, by rw [List.length_drop, hW.l]; decide, hW.n.sublist (List.drop_sublist ..), fun ds hds => ?_⟩
    dsimp!
    unfold r__law_world_of_7
    dsimp!
    refine ⟨by omega, ?_⟩
    refine oq ho (by omega) (by show 0 < 2; decide) (by show 2 < _; decide) fun p hp => ?_
    obtain ⟨f, rfl⟩ : ∃ f : Bool, p = .str (mnS f) := by
      simp only [List.mem_cons, List.mem_nil_iff, or_false] at hp
      rcases hp with rfl | rfl
      · exact ⟨false, rfl⟩
      · exact ⟨true, rfl⟩
    refine ⟨by omega, _, _, app_app (by rw [List.length_map]; omega), ?_⟩
    have er : rs.map Rm.pv ++ [.tup [.str x, .str (mnS f), .tup (xs.map fun x => .tup [.str x, .int v]), .tup (bs.map fun x => .tup [.str x, .str (sortS s)]), .tup (ds.map fun x => .tup [.str x, progPV (tellR z.r)])]] = (rs ++ [(⟨x, f, xs.map fun x => (x, (v : Int)), bs.map fun x => (x, s), ds.map fun x => (x, tellR z.r)⟩ : Rm)]).map Rm.pv := by
      rw [List.map_append]
      simp only [List.map_cons, List.map_nil, Rm.pv, pairs_pv, bells_pv, deeds_pv]
    rw [er]
    refine ⟨by omega, _, _, _, _, _, _, rfl, by omega, by omega, ?_, ?_, rfl⟩
    · rw [List.map_append, hrs, List.take_succ, hx]; rfl
    · intro rm hm
      rcases Xr.mem_snoc hm with hm | rfl
      · exact hrz rm hm
      · exact ⟨⟨xs, v, hxs, by omega, rfl⟩, ⟨bs, s, hbs, rfl⟩, ⟨ds, hds, rfl⟩⟩
  · have hall : rs.map (·.name) = ns := by
      rw [hrs, List.take_of_length_le (by rw [List.length_map] at e; omega)]
    have s6 : gSlA (.lst (W.map .str)) (some 6) none = some (.lst ((W.drop 6).map .str)) := slB 6
    have rv : gRevL (.lst (W.map .str)) = some (.lst (W.reverse.map .str)) := by
      show some (PV.lst (W.map PV.str).reverse) = _
      rw [← List.map_reverse]
    have s8 : gRepT (.tup [.tup [.str "say", .int 0]]) (.int z.r) = some (progPV (sayR z.r)) := by
      rw [repT1 (by have := hc.r; omega)]
      unfold progPV sayR
      rw [List.map_replicate]; rfl
    unfold r__law_world_of_8
    dsimp! [s6]
    refine tq ho (by omega) (by decide) (by decide) fun d d0 d1 => ?_
    obtain ⟨v, rfl⟩ := Int.eq_ofNat_of_zero_le d0
    refine ⟨_, _, _, rfl, by rw [List.length_drop, hW.l]; decide, hW.n.sublist (List.drop_sublist ..), fun ps hps => ?_⟩
    dsimp!
    unfold r__law_world_of_9
    dsimp! [rv]
    refine ⟨_, rfl, lc_pure yP rfl (by rw [List.length_map, List.length_reverse, hW.l]; omega) (fun q hq => ?_) ?_⟩
    · obtain ⟨x, hx, rfl⟩ := List.mem_map.mp hq
      have hx8 : x.length ≤ 8 := by
        have := hW.w x (List.mem_reverse.mp hx)
        unfold isWord at this
        simp only [Bool.and_eq_true, decide_eq_true_eq] at this
        exact this.1.2
      have ha : gAdd (.str x) (.str "y") = some (.str (x ++ "y")) := str_app (by show _ + 1 ≤ _; omega)
      refine ⟨_, rfl, fun Q hQ => ?_⟩
      dsimp! [ha]
      exact hQ
    have ey : (W.reverse.map PV.str).map yP = (ysOf W).map .str := by
      unfold ysOf
      rw [List.map_map, List.map_map]; rfl
    rw [ey]
    unfold r__law_world_of_10
    dsimp!
    refine ⟨ysOf W, z.ow, .int 0, rfl, by rw [(ys_nodup hW).2]; decide, (ys_nodup hW).1, fun hs hhs => ?_⟩
    dsimp! [s8]
    refine ⟨by omega, by omega, by omega, ?_⟩
    unfold r__law_world_of_11
    dsimp!
    refine tq ho (by omega) (by decide) (by decide) fun d d2 d3 => ?_
    obtain ⟨u, rfl⟩ := Int.eq_ofNat_of_zero_le d2
    refine ⟨W, _, _, rfl, by rw [hW.l]; decide, hW.n, fun os hos => ?_⟩
    dsimp!
    unfold r__law_world_of_12
    have gt : gTuple [.lst (rs.map Rm.pv)] = some (.tup (rs.map Rm.pv)) := rfl
    have s9 : gRepT (.tup [.tup [.tup (hs.map fun x => .tup [.str x, .int 0]), progPV (sayR z.r)]]) (.int z.ha) = some (.tup (List.replicate z.ha (.tup [.tup (hs.map fun x => .tup [.str x, .int 0]), progPV (sayR z.r)]))) := repT1 (by have := hc.ha; omega)
    dsimp! [gt, s9]
    refine ⟨by omega, by omega, ?_⟩
    have hfin := hR ⟨rs, ps.map fun x => (x, (v : Int)), os.map fun x => (x, (u : Int)), List.replicate z.ha (hs.map fun x => (x, (0 : Int)), sayR z.r)⟩ (m - 1 - 1) (by omega) (by omega) ⟨by rw [hall]; exact ns0, hrz, ⟨ps, v, hps, by omega, rfl⟩, ⟨os, u, hos, by omega, rfl⟩, ⟨hs, hhs, rfl⟩⟩
    unfold Wld.pv at hfin
    simp only [pairs_pv, List.map_replicate, handPV] at hfin
    exact hfin
structure Base (z : Sz) : Prop where
  r : 1 ≤ z.r ∧ z.r ≤ 3
  rm : 1 ≤ z.rm ∧ z.rm ≤ 2
  th : z.th ≤ 2
  be : z.be ≤ 2
  de : 1 ≤ z.de ∧ z.de ≤ 3
  pa : z.pa ≤ 3
  op : z.op ≤ 3
  ha : 1 ≤ z.ha ∧ z.ha ≤ 3
  ow : z.ow ≤ 3
def setZ (b : Sz) (i many : Nat) : Sz := match i with
  | 0 => { b with r := many }
  | 1 => { b with rm := many }
  | 2 => { b with th := many }
  | 3 => { b with be := many }
  | 4 => { b with de := many }
  | 5 => { b with pa := many }
  | 6 => { b with op := many }
  | 7 => { b with ha := many }
  | _ => { b with ow := many }
def bnd : List (Nat × Nat) := [(1, 40), (0, 4), (0, 4), (0, 3), (1, 4), (0, 16), (0, 16), (1, 4), (0, 8)]
theorem at_lt {i lo hi : Nat} (h : bnd[i]? = some (lo, hi)) : (i = 0 ∧ lo = 1 ∧ hi = 40) ∨ (i = 1 ∧ lo = 0 ∧ hi = 4) ∨ (i = 2 ∧ lo = 0 ∧ hi = 4) ∨ (i = 3 ∧ lo = 0 ∧ hi = 3) ∨ (i = 4 ∧ lo = 1 ∧ hi = 4) ∨ (i = 5 ∧ lo = 0 ∧ hi = 16) ∨ (i = 6 ∧ lo = 0 ∧ hi = 16) ∨ (i = 7 ∧ lo = 1 ∧ hi = 4) ∨ (i = 8 ∧ lo = 0 ∧ hi = 8) := by
  unfold bnd at h
  match i, h with
  | 0, h => cases h; simp
  | 1, h => cases h; simp
  | 2, h => cases h; simp
  | 3, h => cases h; simp
  | 4, h => cases h; simp
  | 5, h => cases h; simp
  | 6, h => cases h; simp
  | 7, h => cases h; simp
  | 8, h => cases h; simp
  | i + 9, h => cases h
theorem set_in {b : Sz} (hb : Base b) {i lo hi many : Nat} (h : bnd[i]? = some (lo, hi)) (h1 : lo ≤ many) (h2 : many ≤ hi) : In_ (setZ b i many) := by
  obtain ⟨b1, b2, b3, b4, b5, b6, b7, b8, b9⟩ := hb
  rcases at_lt h with ⟨rfl, rfl, rfl⟩ | ⟨rfl, rfl, rfl⟩ | ⟨rfl, rfl, rfl⟩ | ⟨rfl, rfl, rfl⟩ | ⟨rfl, rfl, rfl⟩ | ⟨rfl, rfl, rfl⟩ | ⟨rfl, rfl, rfl⟩ | ⟨rfl, rfl, rfl⟩ | ⟨rfl, rfl, rfl⟩ <;>
    exact ⟨by simp only [setZ]; omega, by simp only [setZ]; omega, by simp only [setZ]; omega, by simp only [setZ]; omega, by simp only [setZ]; omega, by simp only [setZ]; omega, by simp only [setZ]; omega, by simp only [setZ]; omega, by simp only [setZ]; omega⟩
theorem set_cap {b : Sz} (hb : Base b) {i lo hi many : Nat} (h : bnd[i]? = some (lo, hi)) (h2 : many ≤ hi + 1) : Cap (setZ b i many) := by
  obtain ⟨b1, b2, b3, b4, b5, b6, b7, b8, b9⟩ := hb
  rcases at_lt h with ⟨rfl, rfl, rfl⟩ | ⟨rfl, rfl, rfl⟩ | ⟨rfl, rfl, rfl⟩ | ⟨rfl, rfl, rfl⟩ | ⟨rfl, rfl, rfl⟩ | ⟨rfl, rfl, rfl⟩ | ⟨rfl, rfl, rfl⟩ | ⟨rfl, rfl, rfl⟩ | ⟨rfl, rfl, rfl⟩ <;>
    exact ⟨by simp only [setZ]; omega, by simp only [setZ]; omega, by simp only [setZ]; omega, by simp only [setZ]; omega, by simp only [setZ]; omega, by simp only [setZ]; omega, by simp only [setZ]; omega, by simp only [setZ]; omega, by simp only [setZ]; omega⟩
theorem set_out {b : Sz} (hb : Base b) {i lo hi many : Nat} (h : bnd[i]? = some (lo, hi)) (h1 : ¬ (lo ≤ many ∧ many ≤ hi)) : Out (setZ b i many) := by
  obtain ⟨b1, b2, b3, b4, b5, b6, b7, b8, b9⟩ := hb
  unfold Out
  rcases at_lt h with ⟨rfl, rfl, rfl⟩ | ⟨rfl, rfl, rfl⟩ | ⟨rfl, rfl, rfl⟩ | ⟨rfl, rfl, rfl⟩ | ⟨rfl, rfl, rfl⟩ | ⟨rfl, rfl, rfl⟩ | ⟨rfl, rfl, rfl⟩ | ⟨rfl, rfl, rfl⟩ | ⟨rfl, rfl, rfl⟩ <;> (simp only [setZ]; omega)
theorem zP_set {b : Sz} {i many : Nat} (h : i < 9) : (zP b).set i (.int many) = zP (setZ b i many) := by
  match i, h with
  | 0, _ => rfl
  | 1, _ => rfl
  | 2, _ => rfl
  | 3, _ => rfl
  | 4, _ => rfl
  | 5, _ => rfl
  | 6, _ => rfl
  | 7, _ => rfl
  | 8, _ => rfl
def spSmall : FSpec := fun args et R => ∃ (r k : Nat) (W : List Str) (i lo hi many : Nat) (e : Hi) (n : Nat), args = [.ref r, .lst (W.map .str), .int i, .int many] ∧ et = po e r k n ∧ Po e r k ∧ W11 W ∧ bnd[i]? = some (lo, hi) ∧ many ≤ hi + 1 ∧ 40 ≤ n ∧
  ∀ (b : Sz) (w : Wld) (n' : Nat), n' ≤ n → n ≤ n' + 40 → Base b → WldZ W (setZ b i many) w → R w.pv (po e r k n')
theorem nat1 {d : Int} (d0 : 0 ≤ d) : ∃ v : Nat, d = v := ⟨d.toNat, by omega⟩
theorem small_ok (args : List PV) (et : Hi) (R : PV → Hi → Prop) (h : spSmall args et R) : r__law_small spTake spWz (env0 N__law_small args) et (retK R) := by
  obtain ⟨r, k, W, i, lo, hi, many, e, n, rfl, rfl, ho, hW, hb, hm, hn, hR⟩ := h
  have big : (2000 : Nat) ≤ sizeLine := by decide
  show r__law_small _ _ [.val (.ref r), .val (.lst (W.map .str)), .val (.int i), .val (.int many), .no] (po e r k n) (retK R)
  have ga : ∀ d : Int, gAdd (.int 1) (.int d) = some (.int (1 + d)) := fun _ => rfl
  unfold r__law_small
  try simp only [mSeq, mSet, mSetN, mSetX, mExpr, mExprX, mRet, mRetN, mRetX, mIf, mNext, mPass, mBrk, mCnt, mFrz, mAsg, mAsgX, mPar, mParN, mBin, mUn, mArg, mC, mVar, mPeek, mCall, mCons, mNil, mTup, mLst, mBinT, mAsT, mNotT, mAndT, mOrT, mAndE, mOrE, mNotE, mIfE, mChain, mChainT, mSl, mO0, mO1, mIter, mRng1, mRng2, mZip, mEnum, mMut, mMutR, mSubSet, mShare, mMeth, mFor, mLc, mYes, slotV, frzS, tgN, tgT, tgNs, wipeE, retK, mAug, List.foldl_cons, List.foldl_nil, deref_int, deref_str, deref_bl, deref_non, deref_tup, deref_lst, deref_scr, deref_dic, deref_ty, isLst, cellP, List.getElem?_cons_zero, List.getElem?_cons_succ, List.getElem?_nil, List.set_cons_zero, List.set_cons_succ, List.map_cons, List.map_nil, List.length_cons, List.length_nil, List.cons_append, List.nil_append, Option.some.injEq, Slot.val.injEq, Slot.own.injEq, PV.int.injEq, PV.bl.injEq, PV.str.injEq, PV.ref.injEq, PV.lst.injEq, PV.tup.injEq, exists_eq_left', exists_eq_left, and_true, true_and, true_or, or_true, and_self, reduceCtorEq, gSubI, gMul, gDiv, gMod, gPow, gLt, gLe, gGt, gGe, gIx, gNeg, eqB_int, gEq_int, gNe_int, gEq_str, gNe_str, if_true, if_false, Bool.false_eq_true, Nat.reduceAdd, Nat.zero_add, Bool.not_true, Bool.not_false, atI_c0, atI_c1, atI_c2, mAugSub, mSortedT, mDPutN, mFld, mFldSet, mFldAug, mObj, mNew, mListRg1, mListRg2, atI_c3, atI_c4, mEnumA, mZip3, ga]
  refine tq ho (by omega) (by decide) (by decide) fun a0 a1 a2 => ?_
  try simp only [mSeq, mSet, mSetN, mSetX, mExpr, mExprX, mRet, mRetN, mRetX, mIf, mNext, mPass, mBrk, mCnt, mFrz, mAsg, mAsgX, mPar, mParN, mBin, mUn, mArg, mC, mVar, mPeek, mCall, mCons, mNil, mTup, mLst, mBinT, mAsT, mNotT, mAndT, mOrT, mAndE, mOrE, mNotE, mIfE, mChain, mChainT, mSl, mO0, mO1, mIter, mRng1, mRng2, mZip, mEnum, mMut, mMutR, mSubSet, mShare, mMeth, mFor, mLc, mYes, slotV, frzS, tgN, tgT, tgNs, wipeE, retK, mAug, List.foldl_cons, List.foldl_nil, deref_int, deref_str, deref_bl, deref_non, deref_tup, deref_lst, deref_scr, deref_dic, deref_ty, isLst, cellP, List.getElem?_cons_zero, List.getElem?_cons_succ, List.getElem?_nil, List.set_cons_zero, List.set_cons_succ, List.map_cons, List.map_nil, List.length_cons, List.length_nil, List.cons_append, List.nil_append, Option.some.injEq, Slot.val.injEq, Slot.own.injEq, PV.int.injEq, PV.bl.injEq, PV.str.injEq, PV.ref.injEq, PV.lst.injEq, PV.tup.injEq, exists_eq_left', exists_eq_left, and_true, true_and, true_or, or_true, and_self, reduceCtorEq, gSubI, gMul, gDiv, gMod, gPow, gLt, gLe, gGt, gGe, gIx, gNeg, eqB_int, gEq_int, gNe_int, gEq_str, gNe_str, if_true, if_false, Bool.false_eq_true, Nat.reduceAdd, Nat.zero_add, Bool.not_true, Bool.not_false, atI_c0, atI_c1, atI_c2, mAugSub, mSortedT, mDPutN, mFld, mFldSet, mFldAug, mObj, mNew, mListRg1, mListRg2, atI_c3, atI_c4, mEnumA, mZip3, ga]
  refine tq ho (by omega) (by decide) (by decide) fun b0 b1 b2 => ?_
  try simp only [mSeq, mSet, mSetN, mSetX, mExpr, mExprX, mRet, mRetN, mRetX, mIf, mNext, mPass, mBrk, mCnt, mFrz, mAsg, mAsgX, mPar, mParN, mBin, mUn, mArg, mC, mVar, mPeek, mCall, mCons, mNil, mTup, mLst, mBinT, mAsT, mNotT, mAndT, mOrT, mAndE, mOrE, mNotE, mIfE, mChain, mChainT, mSl, mO0, mO1, mIter, mRng1, mRng2, mZip, mEnum, mMut, mMutR, mSubSet, mShare, mMeth, mFor, mLc, mYes, slotV, frzS, tgN, tgT, tgNs, wipeE, retK, mAug, List.foldl_cons, List.foldl_nil, deref_int, deref_str, deref_bl, deref_non, deref_tup, deref_lst, deref_scr, deref_dic, deref_ty, isLst, cellP, List.getElem?_cons_zero, List.getElem?_cons_succ, List.getElem?_nil, List.set_cons_zero, List.set_cons_succ, List.map_cons, List.map_nil, List.length_cons, List.length_nil, List.cons_append, List.nil_append, Option.some.injEq, Slot.val.injEq, Slot.own.injEq, PV.int.injEq, PV.bl.injEq, PV.str.injEq, PV.ref.injEq, PV.lst.injEq, PV.tup.injEq, exists_eq_left', exists_eq_left, and_true, true_and, true_or, or_true, and_self, reduceCtorEq, gSubI, gMul, gDiv, gMod, gPow, gLt, gLe, gGt, gGe, gIx, gNeg, eqB_int, gEq_int, gNe_int, gEq_str, gNe_str, if_true, if_false, Bool.false_eq_true, Nat.reduceAdd, Nat.zero_add, Bool.not_true, Bool.not_false, atI_c0, atI_c1, atI_c2, mAugSub, mSortedT, mDPutN, mFld, mFldSet, mFldAug, mObj, mNew, mListRg1, mListRg2, atI_c3, atI_c4, mEnumA, mZip3, ga]
  refine tq ho (by omega) (by decide) (by decide) fun c0 c1 c2 => ?_
  try simp only [mSeq, mSet, mSetN, mSetX, mExpr, mExprX, mRet, mRetN, mRetX, mIf, mNext, mPass, mBrk, mCnt, mFrz, mAsg, mAsgX, mPar, mParN, mBin, mUn, mArg, mC, mVar, mPeek, mCall, mCons, mNil, mTup, mLst, mBinT, mAsT, mNotT, mAndT, mOrT, mAndE, mOrE, mNotE, mIfE, mChain, mChainT, mSl, mO0, mO1, mIter, mRng1, mRng2, mZip, mEnum, mMut, mMutR, mSubSet, mShare, mMeth, mFor, mLc, mYes, slotV, frzS, tgN, tgT, tgNs, wipeE, retK, mAug, List.foldl_cons, List.foldl_nil, deref_int, deref_str, deref_bl, deref_non, deref_tup, deref_lst, deref_scr, deref_dic, deref_ty, isLst, cellP, List.getElem?_cons_zero, List.getElem?_cons_succ, List.getElem?_nil, List.set_cons_zero, List.set_cons_succ, List.map_cons, List.map_nil, List.length_cons, List.length_nil, List.cons_append, List.nil_append, Option.some.injEq, Slot.val.injEq, Slot.own.injEq, PV.int.injEq, PV.bl.injEq, PV.str.injEq, PV.ref.injEq, PV.lst.injEq, PV.tup.injEq, exists_eq_left', exists_eq_left, and_true, true_and, true_or, or_true, and_self, reduceCtorEq, gSubI, gMul, gDiv, gMod, gPow, gLt, gLe, gGt, gGe, gIx, gNeg, eqB_int, gEq_int, gNe_int, gEq_str, gNe_str, if_true, if_false, Bool.false_eq_true, Nat.reduceAdd, Nat.zero_add, Bool.not_true, Bool.not_false, atI_c0, atI_c1, atI_c2, mAugSub, mSortedT, mDPutN, mFld, mFldSet, mFldAug, mObj, mNew, mListRg1, mListRg2, atI_c3, atI_c4, mEnumA, mZip3, ga]
  refine tq ho (by omega) (by decide) (by decide) fun d0 d1 d2 => ?_
  try simp only [mSeq, mSet, mSetN, mSetX, mExpr, mExprX, mRet, mRetN, mRetX, mIf, mNext, mPass, mBrk, mCnt, mFrz, mAsg, mAsgX, mPar, mParN, mBin, mUn, mArg, mC, mVar, mPeek, mCall, mCons, mNil, mTup, mLst, mBinT, mAsT, mNotT, mAndT, mOrT, mAndE, mOrE, mNotE, mIfE, mChain, mChainT, mSl, mO0, mO1, mIter, mRng1, mRng2, mZip, mEnum, mMut, mMutR, mSubSet, mShare, mMeth, mFor, mLc, mYes, slotV, frzS, tgN, tgT, tgNs, wipeE, retK, mAug, List.foldl_cons, List.foldl_nil, deref_int, deref_str, deref_bl, deref_non, deref_tup, deref_lst, deref_scr, deref_dic, deref_ty, isLst, cellP, List.getElem?_cons_zero, List.getElem?_cons_succ, List.getElem?_nil, List.set_cons_zero, List.set_cons_succ, List.map_cons, List.map_nil, List.length_cons, List.length_nil, List.cons_append, List.nil_append, Option.some.injEq, Slot.val.injEq, Slot.own.injEq, PV.int.injEq, PV.bl.injEq, PV.str.injEq, PV.ref.injEq, PV.lst.injEq, PV.tup.injEq, exists_eq_left', exists_eq_left, and_true, true_and, true_or, or_true, and_self, reduceCtorEq, gSubI, gMul, gDiv, gMod, gPow, gLt, gLe, gGt, gGe, gIx, gNeg, eqB_int, gEq_int, gNe_int, gEq_str, gNe_str, if_true, if_false, Bool.false_eq_true, Nat.reduceAdd, Nat.zero_add, Bool.not_true, Bool.not_false, atI_c0, atI_c1, atI_c2, mAugSub, mSortedT, mDPutN, mFld, mFldSet, mFldAug, mObj, mNew, mListRg1, mListRg2, atI_c3, atI_c4, mEnumA, mZip3, ga]
  refine ⟨by omega, ?_⟩
  unfold r__law_small_0
  try simp only [mSeq, mSet, mSetN, mSetX, mExpr, mExprX, mRet, mRetN, mRetX, mIf, mNext, mPass, mBrk, mCnt, mFrz, mAsg, mAsgX, mPar, mParN, mBin, mUn, mArg, mC, mVar, mPeek, mCall, mCons, mNil, mTup, mLst, mBinT, mAsT, mNotT, mAndT, mOrT, mAndE, mOrE, mNotE, mIfE, mChain, mChainT, mSl, mO0, mO1, mIter, mRng1, mRng2, mZip, mEnum, mMut, mMutR, mSubSet, mShare, mMeth, mFor, mLc, mYes, slotV, frzS, tgN, tgT, tgNs, wipeE, retK, mAug, List.foldl_cons, List.foldl_nil, deref_int, deref_str, deref_bl, deref_non, deref_tup, deref_lst, deref_scr, deref_dic, deref_ty, isLst, cellP, List.getElem?_cons_zero, List.getElem?_cons_succ, List.getElem?_nil, List.set_cons_zero, List.set_cons_succ, List.map_cons, List.map_nil, List.length_cons, List.length_nil, List.cons_append, List.nil_append, Option.some.injEq, Slot.val.injEq, Slot.own.injEq, PV.int.injEq, PV.bl.injEq, PV.str.injEq, PV.ref.injEq, PV.lst.injEq, PV.tup.injEq, exists_eq_left', exists_eq_left, and_true, true_and, true_or, or_true, and_self, reduceCtorEq, gSubI, gMul, gDiv, gMod, gPow, gLt, gLe, gGt, gGe, gIx, gNeg, eqB_int, gEq_int, gNe_int, gEq_str, gNe_str, if_true, if_false, Bool.false_eq_true, Nat.reduceAdd, Nat.zero_add, Bool.not_true, Bool.not_false, atI_c0, atI_c1, atI_c2, mAugSub, mSortedT, mDPutN, mFld, mFldSet, mFldAug, mObj, mNew, mListRg1, mListRg2, atI_c3, atI_c4, mEnumA, mZip3, ga]
  refine tq ho (by omega) (by decide) (by decide) fun e0 e1 e2 => ?_
  try simp only [mSeq, mSet, mSetN, mSetX, mExpr, mExprX, mRet, mRetN, mRetX, mIf, mNext, mPass, mBrk, mCnt, mFrz, mAsg, mAsgX, mPar, mParN, mBin, mUn, mArg, mC, mVar, mPeek, mCall, mCons, mNil, mTup, mLst, mBinT, mAsT, mNotT, mAndT, mOrT, mAndE, mOrE, mNotE, mIfE, mChain, mChainT, mSl, mO0, mO1, mIter, mRng1, mRng2, mZip, mEnum, mMut, mMutR, mSubSet, mShare, mMeth, mFor, mLc, mYes, slotV, frzS, tgN, tgT, tgNs, wipeE, retK, mAug, List.foldl_cons, List.foldl_nil, deref_int, deref_str, deref_bl, deref_non, deref_tup, deref_lst, deref_scr, deref_dic, deref_ty, isLst, cellP, List.getElem?_cons_zero, List.getElem?_cons_succ, List.getElem?_nil, List.set_cons_zero, List.set_cons_succ, List.map_cons, List.map_nil, List.length_cons, List.length_nil, List.cons_append, List.nil_append, Option.some.injEq, Slot.val.injEq, Slot.own.injEq, PV.int.injEq, PV.bl.injEq, PV.str.injEq, PV.ref.injEq, PV.lst.injEq, PV.tup.injEq, exists_eq_left', exists_eq_left, and_true, true_and, true_or, or_true, and_self, reduceCtorEq, gSubI, gMul, gDiv, gMod, gPow, gLt, gLe, gGt, gGe, gIx, gNeg, eqB_int, gEq_int, gNe_int, gEq_str, gNe_str, if_true, if_false, Bool.false_eq_true, Nat.reduceAdd, Nat.zero_add, Bool.not_true, Bool.not_false, atI_c0, atI_c1, atI_c2, mAugSub, mSortedT, mDPutN, mFld, mFldSet, mFldAug, mObj, mNew, mListRg1, mListRg2, atI_c3, atI_c4, mEnumA, mZip3, ga]
  refine tq ho (by omega) (by decide) (by decide) fun f0 f1 f2 => ?_
  try simp only [mSeq, mSet, mSetN, mSetX, mExpr, mExprX, mRet, mRetN, mRetX, mIf, mNext, mPass, mBrk, mCnt, mFrz, mAsg, mAsgX, mPar, mParN, mBin, mUn, mArg, mC, mVar, mPeek, mCall, mCons, mNil, mTup, mLst, mBinT, mAsT, mNotT, mAndT, mOrT, mAndE, mOrE, mNotE, mIfE, mChain, mChainT, mSl, mO0, mO1, mIter, mRng1, mRng2, mZip, mEnum, mMut, mMutR, mSubSet, mShare, mMeth, mFor, mLc, mYes, slotV, frzS, tgN, tgT, tgNs, wipeE, retK, mAug, List.foldl_cons, List.foldl_nil, deref_int, deref_str, deref_bl, deref_non, deref_tup, deref_lst, deref_scr, deref_dic, deref_ty, isLst, cellP, List.getElem?_cons_zero, List.getElem?_cons_succ, List.getElem?_nil, List.set_cons_zero, List.set_cons_succ, List.map_cons, List.map_nil, List.length_cons, List.length_nil, List.cons_append, List.nil_append, Option.some.injEq, Slot.val.injEq, Slot.own.injEq, PV.int.injEq, PV.bl.injEq, PV.str.injEq, PV.ref.injEq, PV.lst.injEq, PV.tup.injEq, exists_eq_left', exists_eq_left, and_true, true_and, true_or, or_true, and_self, reduceCtorEq, gSubI, gMul, gDiv, gMod, gPow, gLt, gLe, gGt, gGe, gIx, gNeg, eqB_int, gEq_int, gNe_int, gEq_str, gNe_str, if_true, if_false, Bool.false_eq_true, Nat.reduceAdd, Nat.zero_add, Bool.not_true, Bool.not_false, atI_c0, atI_c1, atI_c2, mAugSub, mSortedT, mDPutN, mFld, mFldSet, mFldAug, mObj, mNew, mListRg1, mListRg2, atI_c3, atI_c4, mEnumA, mZip3, ga]
  refine tq ho (by omega) (by decide) (by decide) fun g0 g1 g2 => ?_
  try simp only [mSeq, mSet, mSetN, mSetX, mExpr, mExprX, mRet, mRetN, mRetX, mIf, mNext, mPass, mBrk, mCnt, mFrz, mAsg, mAsgX, mPar, mParN, mBin, mUn, mArg, mC, mVar, mPeek, mCall, mCons, mNil, mTup, mLst, mBinT, mAsT, mNotT, mAndT, mOrT, mAndE, mOrE, mNotE, mIfE, mChain, mChainT, mSl, mO0, mO1, mIter, mRng1, mRng2, mZip, mEnum, mMut, mMutR, mSubSet, mShare, mMeth, mFor, mLc, mYes, slotV, frzS, tgN, tgT, tgNs, wipeE, retK, mAug, List.foldl_cons, List.foldl_nil, deref_int, deref_str, deref_bl, deref_non, deref_tup, deref_lst, deref_scr, deref_dic, deref_ty, isLst, cellP, List.getElem?_cons_zero, List.getElem?_cons_succ, List.getElem?_nil, List.set_cons_zero, List.set_cons_succ, List.map_cons, List.map_nil, List.length_cons, List.length_nil, List.cons_append, List.nil_append, Option.some.injEq, Slot.val.injEq, Slot.own.injEq, PV.int.injEq, PV.bl.injEq, PV.str.injEq, PV.ref.injEq, PV.lst.injEq, PV.tup.injEq, exists_eq_left', exists_eq_left, and_true, true_and, true_or, or_true, and_self, reduceCtorEq, gSubI, gMul, gDiv, gMod, gPow, gLt, gLe, gGt, gGe, gIx, gNeg, eqB_int, gEq_int, gNe_int, gEq_str, gNe_str, if_true, if_false, Bool.false_eq_true, Nat.reduceAdd, Nat.zero_add, Bool.not_true, Bool.not_false, atI_c0, atI_c1, atI_c2, mAugSub, mSortedT, mDPutN, mFld, mFldSet, mFldAug, mObj, mNew, mListRg1, mListRg2, atI_c3, atI_c4, mEnumA, mZip3, ga]
  refine tq ho (by omega) (by decide) (by decide) fun h0 h1 h2 => ?_
  try simp only [mSeq, mSet, mSetN, mSetX, mExpr, mExprX, mRet, mRetN, mRetX, mIf, mNext, mPass, mBrk, mCnt, mFrz, mAsg, mAsgX, mPar, mParN, mBin, mUn, mArg, mC, mVar, mPeek, mCall, mCons, mNil, mTup, mLst, mBinT, mAsT, mNotT, mAndT, mOrT, mAndE, mOrE, mNotE, mIfE, mChain, mChainT, mSl, mO0, mO1, mIter, mRng1, mRng2, mZip, mEnum, mMut, mMutR, mSubSet, mShare, mMeth, mFor, mLc, mYes, slotV, frzS, tgN, tgT, tgNs, wipeE, retK, mAug, List.foldl_cons, List.foldl_nil, deref_int, deref_str, deref_bl, deref_non, deref_tup, deref_lst, deref_scr, deref_dic, deref_ty, isLst, cellP, List.getElem?_cons_zero, List.getElem?_cons_succ, List.getElem?_nil, List.set_cons_zero, List.set_cons_succ, List.map_cons, List.map_nil, List.length_cons, List.length_nil, List.cons_append, List.nil_append, Option.some.injEq, Slot.val.injEq, Slot.own.injEq, PV.int.injEq, PV.bl.injEq, PV.str.injEq, PV.ref.injEq, PV.lst.injEq, PV.tup.injEq, exists_eq_left', exists_eq_left, and_true, true_and, true_or, or_true, and_self, reduceCtorEq, gSubI, gMul, gDiv, gMod, gPow, gLt, gLe, gGt, gGe, gIx, gNeg, eqB_int, gEq_int, gNe_int, gEq_str, gNe_str, if_true, if_false, Bool.false_eq_true, Nat.reduceAdd, Nat.zero_add, Bool.not_true, Bool.not_false, atI_c0, atI_c1, atI_c2, mAugSub, mSortedT, mDPutN, mFld, mFldSet, mFldAug, mObj, mNew, mListRg1, mListRg2, atI_c3, atI_c4, mEnumA, mZip3, ga]
  refine ⟨by omega, ?_⟩
  obtain ⟨a, rfl⟩ := nat1 a1
  obtain ⟨b, rfl⟩ := nat1 b1
  obtain ⟨c, rfl⟩ := nat1 c1
  obtain ⟨d, rfl⟩ := nat1 d1
  obtain ⟨f, rfl⟩ := nat1 e1
  obtain ⟨g, rfl⟩ := nat1 f1
  obtain ⟨h, rfl⟩ := nat1 g1
  obtain ⟨l, rfl⟩ := nat1 h1
  have cc : ∀ p1 p2 p3 p4 q1 q2 q3 q4 : PV, gCat (.lst [p1, p2, p3, p4]) (.lst [q1, q2, q3, q4]) = some (.lst [p1, p2, p3, p4, q1, q2, q3, q4]) := fun p1 p2 p3 p4 q1 q2 q3 q4 => by
    unfold gCat
    simp only []
    rw [if_pos (by show 4 + 4 ≤ _; omega)]; rfl
  refine ⟨_, cc _ _ _ _ _ _ _ _, ?_⟩
  unfold r__law_small_1
  dsimp!
  refine tq ho (by omega) (by decide) (by decide) fun o0 o1 o2 => ?_
  obtain ⟨o, rfl⟩ := nat1 o1
  try simp only [mSeq, mSet, mSetN, mSetX, mExpr, mExprX, mRet, mRetN, mRetX, mIf, mNext, mPass, mBrk, mCnt, mFrz, mAsg, mAsgX, mPar, mParN, mBin, mUn, mArg, mC, mVar, mPeek, mCall, mCons, mNil, mTup, mLst, mBinT, mAsT, mNotT, mAndT, mOrT, mAndE, mOrE, mNotE, mIfE, mChain, mChainT, mSl, mO0, mO1, mIter, mRng1, mRng2, mZip, mEnum, mMut, mMutR, mSubSet, mShare, mMeth, mFor, mLc, mYes, slotV, frzS, tgN, tgT, tgNs, wipeE, retK, mAug, List.foldl_cons, List.foldl_nil, deref_int, deref_str, deref_bl, deref_non, deref_tup, deref_lst, deref_scr, deref_dic, deref_ty, isLst, cellP, List.getElem?_cons_zero, List.getElem?_cons_succ, List.getElem?_nil, List.set_cons_zero, List.set_cons_succ, List.map_cons, List.map_nil, List.length_cons, List.length_nil, List.cons_append, List.nil_append, Option.some.injEq, Slot.val.injEq, Slot.own.injEq, PV.int.injEq, PV.bl.injEq, PV.str.injEq, PV.ref.injEq, PV.lst.injEq, PV.tup.injEq, exists_eq_left', exists_eq_left, and_true, true_and, true_or, or_true, and_self, reduceCtorEq, gSubI, gMul, gDiv, gMod, gPow, gLt, gLe, gGt, gGe, gIx, gNeg, eqB_int, gEq_int, gNe_int, gEq_str, gNe_str, if_true, if_false, Bool.false_eq_true, Nat.reduceAdd, Nat.zero_add, Bool.not_true, Bool.not_false, atI_c0, atI_c1, atI_c2, mAugSub, mSortedT, mDPutN, mFld, mFldSet, mFldAug, mObj, mNew, mListRg1, mListRg2, atI_c3, atI_c4, mEnumA, mZip3]
  refine ⟨_, _, app_app (by show 8 + 1 ≤ _; omega), ?_⟩
  unfold r__law_small_2
  have hi : i < 9 := by rcases at_lt hb with h | h | h | h | h | h | h | h | h <;> omega
  have hix : ixN 9 (i : Int) = some i := by unfold ixN; rw [if_pos (by omega), if_pos (by omega)]; simp
  have hbase : Base ⟨1 + a, 1 + b, c, d, 1 + f, g, h, 1 + l, o⟩ := ⟨by (try dsimp only); omega, by (try dsimp only); omega, by (try dsimp only); omega, by (try dsimp only); omega, by (try dsimp only); omega, by (try dsimp only); omega, by (try dsimp only); omega, by (try dsimp only); omega, by (try dsimp only); omega⟩
  have ez := zP_set (b := ⟨1 + a, 1 + b, c, d, 1 + f, g, h, 1 + l, o⟩) (many := many) hi
  dsimp! [mSubSetN]
  refine ⟨_, _, rfl, hix, ?_⟩
  unfold r__law_small_3
  dsimp!
  refine ⟨r, k, W, setZ ⟨1 + a, 1 + b, c, d, 1 + f, g, h, 1 + l, o⟩ i many, e, _, ?_, rfl, ho, hW, set_cap hbase hb hm, by omega, fun w n' g1 g2 hw => hR _ w n' (by omega) (by omega) hbase hw⟩
  rw [← ez]
  rfl
def withP (row v : PV) : PV := .tup [.tup [.tup [.str "room", .str "at once", .tup [.tup [.str "thing", v]], .tup [.tup [.str "bell", .str "row"]], .tup [.tup [.str "deed", .tup [row]]]]], .tup [], .tup [], .tup [.tup [.tup [], .tup [.tup [.str "go", .int 0]]]]]
def spWith : FSpec := fun args et R => ∃ row v : PV, args = [row, v] ∧ R (withP row v) et
theorem with_ok (args : List PV) (et : Hi) (R : PV → Hi → Prop) (h : spWith args et R) : r__law_with (env0 N__law_with args) et (retK R) := by
  obtain ⟨row, v, rfl, hR⟩ := h
  have big : (2000 : Nat) ≤ sizeLine := by decide
  show r__law_with [.val row, .val v, .no] et (retK R)
  unfold r__law_with
  dsimp!
  refine ⟨by omega, by omega, by omega, by omega, by omega, by omega, by omega, by omega, ?_⟩
  unfold r__law_with_0
  dsimp!
  exact ⟨by omega, by omega, by omega, by omega, by omega, by omega, by omega, by omega, by omega, hR⟩
def spTruth : FSpec := fun args et R => ∃ b : Bool, args = [.bl b, .bl b] ∧ R (.bl true) et
theorem truth_ok (args : List PV) (et : Hi) (R : PV → Hi → Prop) (h : spTruth args et R) : r__law_truth (env0 N__law_truth args) et (retK R) := by
  obtain ⟨b, rfl, hR⟩ := h
  show r__law_truth [.val (.bl b), .val (.bl b)] et (retK R)
  have g1 : gIsi [.bl b, .ty .bool] = some (.bl true) := rfl
  have g2 : gEq (.bl b) (.bl b) = some (.bl true) := by cases b <;> rfl
  unfold r__law_truth
  dsimp! [g1, g2]
  exact hR
def Wor (p : PV) (b : Bool) : Prop := fits 12 p = true ∧ ((b = false ∧ formB p = false) ∨ (b = true ∧ ∃ w : Wld, p = w.pv ∧ wldF w ∧ worldR w = true))
theorem wor_world {p : PV} {b : Bool} {et : Hi} {R : PV → Hi → Prop} (hb : ∀ d ∈ et, belC et.length d) (h : Wor p b) (hR : R (.bl b) et) : spIsWorld [p] et R := by
  obtain ⟨hf, ⟨rfl, h⟩ | ⟨rfl, w, rfl, hw, h⟩⟩ := h
  · exact ⟨p, rfl, hb, hf, .inl ⟨h, hR⟩⟩
  · exact world_is hb hw (by rw [h]; exact hR)
theorem wor_no {p : PV} (h1 : fits 12 p = true) (h2 : formB p = false) : Wor p false := ⟨h1, .inl ⟨rfl, h2⟩⟩
theorem wor_full {w : Wld} (h : Full w) : Wor w.pv true := ⟨fits_world h.f 12, .inr ⟨rfl, w, rfl, h.f, full h⟩⟩
def withW (row : Row) (v : Int) : Wld := ⟨[⟨"room", false, [("thing", v)], [("bell", false)], [("deed", [row])]⟩], [], [], [idle 0]⟩
theorem with_full {row : Row} {v : Int} (v0 : 0 ≤ v) (v9 : v ≤ 9) (hr : rowF 1 row) {n : Nat} (ho : ∀ gs, row.okD ["thing", "given"] ["thing"] ["bell"] gs n) (ha : Df.allF false row) (hd : Df.doT row = none) : Full (withW row v) := by
  have hrm : ∀ rm ∈ (withW row v).rooms, rm = ⟨"room", false, [("thing", v)], [("bell", false)], [("deed", [row])]⟩ := fun rm hm => List.mem_singleton.mp hm
  have hq : ∀ q ∈ (withW row v).hands, q = idle 0 := fun q hq => List.mem_singleton.mp hq
  refine ⟨⟨by show (1 : Nat) ≤ 4; decide, by show (1 : Nat) ≤ 1; decide, by show (1 : Nat) ≤ 4; decide, fun rm hm => ?_, fun q hq2 => by rw [hq q hq2]; exact idle_F (Nat.zero_le _), rfl, ⟨Nat.zero_le _, by simp [withW], rfl⟩, ⟨⟨Nat.zero_le _, by simp [withW], rfl⟩, by simp [withW]⟩⟩, fun rm hm => ?_, fun rm hm d hd2 row' hr' => ?_, fun q hq2 => ?_, ⟨fun _ => 0, fun rm hm d hd2 row' hr' g hg => ?_⟩⟩
  · rw [hrm rm hm]
    refine ⟨by show isWord "room" = true; decide +kernel, ⟨⟨by show (1 : Nat) ≤ 4; decide, fun p hp => ?_, rfl⟩, by show ("given" : Str) ∉ [("thing" : Str)]; decide +kernel⟩, by show (1 : Nat) ≤ 3; decide, by show (1 : Nat) ≤ 1; decide, by show (1 : Nat) ≤ 4; decide, fun b hb => ?_, fun d hd => ?_, rfl, rfl⟩
    · rw [List.mem_singleton.mp hp]
      exact ⟨by show isWord "thing" = true; decide +kernel, v0, v9⟩
    · rw [List.mem_singleton.mp hb]; decide +kernel
    · rw [List.mem_singleton.mp hd]
      exact ⟨by show isWord "deed" = true; decide +kernel, by show (1 : Nat) ≤ 1; decide, by show (1 : Nat) ≤ 40; decide, fun row' hr' => by rw [List.mem_singleton.mp hr']; exact hr⟩
  · simp [withW]
  · rw [hrm rm hm] at hd2 ⊢
    rw [List.mem_singleton.mp hd2] at hr'
    rw [List.mem_singleton.mp hr']
    exact ⟨n, ho _, ha⟩
  · rw [hq q hq2]
    exact ⟨by simp [idle], fun row hr => ⟨0, by rw [List.mem_singleton.mp hr]; exact Nat.le_refl 0⟩⟩
  · rw [hrm rm hm] at hd2
    rw [List.mem_singleton.mp hd2] at hr'
    rw [List.mem_singleton.mp hr', hd] at hg
    cases hg
def nots : Nat → Sm
  | 0 => .val 1
  | i + 1 => .not (nots i)
theorem nots_ok (ws bs : List Str) : ∀ i, (nots i).ok ws bs
  | 0 => by show (1 : Nat) ≤ 9; decide
  | i + 1 => nots_ok ws bs i
theorem nots_dep : ∀ i, (nots i).dep = i + 1
  | 0 => rfl
  | i + 1 => by show (nots i).dep + 1 = _; rw [nots_dep i]
def putP (i : Nat) : PV := withP (.tup [.str "put", .str "thing", (nots i).pv]) (.int ((i + 3 : Nat) : Int))
theorem put_wor {i : Nat} (hi : i < 8) : Wor (putP i) (decide (i < 5)) := by
  have h1 : ∀ i < 8, fits 12 (putP i) = true := by decide +kernel
  have h2 : ∀ i < 8, 5 ≤ i → formB (putP i) = false := by decide +kernel
  have h3 : ∀ i < 5, sumIn 5 (nots i).pv = true := by decide +kernel
  by_cases h : i < 5
  · rw [decide_eq_true h]
    refine wor_full (w := withW (.put "thing" (nots i)) ((i + 3 : Nat) : Int)) (with_full (n := 0) (by omega) (by omega) ⟨by decide +kernel, h3 i h⟩ (fun gs => ⟨by simp, nots_ok _ _ i, by rw [nots_dep]; omega⟩) trivial rfl)
  · rw [decide_eq_false h]
    exact wor_no (h1 i hi) (h2 i hi (by omega))
def unlP (i : Nat) : PV := withP (.tup [.str "unless", .int 1, .int ((i : Int) - 2)]) (.int 1)
theorem unl_wor {i : Nat} (hi : i < 8) : Wor (unlP i) (decide (i = 2 ∨ i = 3)) := by
  have h1 : ∀ i < 8, fits 12 (unlP i) = true := by decide +kernel
  have h2 : ∀ i < 8, ¬ (i = 2 ∨ i = 3) → formB (unlP i) = false := by decide +kernel
  have ok1 : ∀ ws bs : List Str, okS ws bs (.val 1) := fun ws bs => ⟨by show (1 : Nat) ≤ 9; decide, by decide⟩
  have s1 : sumIn 5 (Sm.val 1).pv = true := by decide +kernel
  by_cases h : i = 2 ∨ i = 3
  · rw [decide_eq_true h]
    rcases h with rfl | rfl
    · exact wor_full (w := withW (.unl (.val 1) 0) 1) (with_full (n := 1) (by decide) (by decide) ⟨s1, by decide⟩ (fun gs => ⟨ok1 _ _, by decide⟩) trivial rfl)
    · exact wor_full (w := withW (.unl (.val 1) 1) 1) (with_full (n := 1) (by decide) (by decide) ⟨s1, by decide⟩ (fun gs => ⟨ok1 _ _, by decide⟩) trivial rfl)
  · rw [decide_eq_false h]
    exact wor_no (h1 i hi) (h2 i hi h)
def abcS : Str := "abcdefghij"
def abcW (i : Nat) : Str := ⟨(abcS.cps.toList.take (i + 3)).toArray⟩
theorem abc_cut {i : Nat} (hi : i < 8) : cutS abcS none (some ((i + 3 : Nat) : Int)) = abcW i := by
  unfold cutS abcW
  have e : HT.sIx abcS.length abcS.length (some ((i + 3 : Nat) : Int)) = min (i + 3) abcS.length := HT.sIx_nat ..
  have l : abcS.length = 10 := rfl
  rw [e, HT.sIx_none, List.drop_zero, Nat.sub_zero, l]
  have l2 : abcS.cps.toList.length = 10 := rfl
  congr 2
  by_cases h : i + 3 ≤ 10
  · rw [Nat.min_eq_left h]
  · omega
def pasP (i : Nat) : PV := .tup [.tup [], .tup [.tup [.str (abcW i), .int ((i + 3 : Nat) : Int)]], .tup [], .tup [.tup [.tup [], .tup [.tup [.str "go", .int 1]]]]]
theorem pas_wor {i : Nat} (hi : i < 8) : Wor (pasP i) (decide (i < 6)) := by
  have h1 : ∀ i < 8, fits 12 (pasP i) = true := by decide +kernel
  have h2 : ∀ i < 8, 6 ≤ i → formB (pasP i) = false := by decide +kernel
  have h3 : ∀ i < 6, isWord (abcW i) = true := by decide +kernel
  by_cases h : i < 6
  · rw [decide_eq_true h]
    refine wor_full (w := ⟨[], [(abcW i, ((i + 3 : Nat) : Int))], [], [idle 1]⟩) ⟨⟨Nat.zero_le _, by show (1 : Nat) ≤ 1; decide, by show (1 : Nat) ≤ 4; decide, by simp, fun q hq => by rw [List.mem_singleton.mp hq]; exact idle_F (Nat.le_refl _), rfl, ⟨by show (1 : Nat) ≤ 16; decide, fun p hp => ?_, rfl⟩, ⟨⟨Nat.zero_le _, by simp, rfl⟩, by simp⟩⟩, by simp, by simp, fun q hq => ?_, ⟨fun _ => 0, by simp⟩⟩
    · rw [List.mem_singleton.mp hp]
      exact ⟨h3 i h, by show (0 : Int) ≤ ((i + 3 : Nat) : Int); omega, by show ((i + 3 : Nat) : Int) ≤ 9; omega⟩
    · rw [List.mem_singleton.mp hq]
      exact ⟨by simp [idle], fun row hr => ⟨1, by rw [List.mem_singleton.mp hr]; exact Nat.le_refl 1⟩⟩
  · rw [decide_eq_false h]
    exact wor_no (h1 i hi) (h2 i hi (by omega))
theorem truth_intro {b c : Bool} (e : b = c) {et : Hi} {R : PV → Hi → Prop} (h : R (.bl true) et) : spTruth [.bl b, .bl c] et R := ⟨b, by rw [e], h⟩
def cutP1 : PV → PV
  | .str x => .str (cut x)
  | p => p
def bigZ : Sz := ⟨40, 4, 4, 3, 4, 16, 16, 4, 8⟩
theorem big_in : In_ bigZ := ⟨by decide, by decide, by decide, by decide, by decide, by decide, by decide, by decide, by decide⟩
theorem big_cap : Cap bigZ := ⟨by decide, by decide, by decide, by decide, by decide, by decide, by decide, by decide, by decide⟩
def bndP : List PV := bnd.map fun p => .tup [.int (p.1 : Nat), .int (p.2 : Nat)]
theorem law_ok (args : List PV) (et : Hi) (R : PV → Hi → Prop) (h : Mw.spLaw args et R) : r_law spPot spWordsQ spTake spTruth spIsWorld spSmall spWz spWith (env0 N_law args) et (retK R) := by
  obtain ⟨ns, rfl, hl, rfl, hR⟩ := h
  show r_law _ _ _ _ _ _ _ _ [.val (.scr ns), .no, .no, .no, .no, .no, .no, .no, .no, .no, .no, .no] _ (retK R)
  have big : (700000 : Nat) ≤ sizeLine := by decide
  unfold r_law
  dsimp!
  refine ⟨ns, rfl, hl, ?_⟩
  obtain ⟨E, hE⟩ : ∃ E : Hi, E = [Cell.potI, Cell.potO 0 1099511627776] := ⟨_, rfl⟩
  have e0 : ([] ++ [Cell.potI, Cell.potO ([] : Hi).length 1099511627776] : Hi) = po E 1 0 1099511627776 := by rw [hE]; rfl
  have p : Po E 1 0 := by rw [hE]; exact ⟨by decide, by decide, rfl⟩
  have hb : ∀ d ∈ E, belC E.length d := by
    rw [hE]
    intro d hd
    simp only [List.mem_cons, List.mem_nil_iff, or_false] at hd
    rcases hd with rfl | rfl
    · trivial
    · show 0 < 2; decide
  rw [e0]
  show r_law_0 _ _ _ _ _ _ _ [.val (.scr ns), .val (.ref 1), .no, .no, .no, .no, .no, .no, .no, .no, .no, .no] _ _
  clear e0 hE
  unfold r_law_0
  dsimp!
  refine ⟨1, 0, 26, E, _, rfl, rfl, p, by decide, by decide, fun f t ht => ?_⟩
  have wl : (wds f t 26).length = 26 := by rw [wds, List.length_map, List.length_range]
  refine ⟨_, rfl, lc_pure cutP1 rfl (by rw [List.length_map, wl]; omega) (fun q hq => ?_) ?_⟩
  · obtain ⟨x, hx, rfl⟩ := List.mem_map.mp hq
    have hx8 : x.length ≤ 8 := by
      have := wds_ok f t 26 x hx
      unfold isWord at this
      simp only [Bool.and_eq_true, decide_eq_true_eq] at this
      exact this.1.2
    have gs : gSlA (.str x) none (some 6) = some (.str (cut x)) := by
      show (if x.length ≤ sizeLine then some (PV.str (cutS x none (some 6))) else none) = _
      rw [if_pos (by omega), cut_is]
    refine ⟨_, rfl, fun Q hQ => ?_⟩
    dsimp! [gs]
    exact hQ
  have e1 : ((wds f t 26).map PV.str).map cutP1 = ((wds f t 26).map cut).map .str := by rw [List.map_map, List.map_map]; rfl
  rw [e1]
  unfold r_law_1
  have ss := Wb.sset (ss := (wds f t 26).map cut) (by rw [List.length_map, wl]; decide)
  dsimp! [ss]
  have hW := w11_of (f := f) ht
  generalize setS ((wds f t 26).map cut) = W at hW
  unfold r_law_2
  dsimp!
  refine ⟨by omega, by omega, by omega, by omega, by omega, by omega, by omega, by omega, by omega, by omega, ?_⟩
  show r_law_3 spTake spTruth spIsWorld spSmall spWz spWith [.val (.scr ns), .val (.ref 1), .no, .val (.lst (W.map .str)), .val (.lst bndP), .no, .no, .no, .no, .no, .no, .no] _ _
  unfold r_law_3
  dsimp!
  refine ⟨_, _, rfl, rfl, fun i ep et1 => i ≤ 9 ∧ ∃ (n : Nat) (s5 s6 s7 s8 s9 : Mw.Slot), et1 = po E 1 0 n ∧ 1099511627774 ≤ n + 300 * i ∧ ep = [.val (.scr ns), .val (.ref 1), .no, .val (.lst (W.map .str)), .val (.lst bndP), s5, s6, s7, s8, s9, .no, .no], ⟨by omega, _, _, _, _, _, _, rfl, by omega, rfl⟩, ?_⟩
  rintro i ep et1 ⟨hi9, n, s5, s6, s7, s8, s9, rfl, hn, rfl⟩
  refine ⟨rfl, fun q hq => ?_, fun e => ?_⟩
  · obtain ⟨x, hx, rfl⟩ := enumP_get hq
    unfold bndP at hx
    rw [List.getElem?_map] at hx
    obtain ⟨⟨lo, hi⟩, hbnd, rfl⟩ := Option.map_eq_some_iff.mp hx
    have hlim : 3 ≤ hi ∧ hi ≤ 40 ∧ lo ≤ 1 ∧ i < 9 := by rcases at_lt hbnd with h | h | h | h | h | h | h | h | h <;> omega
    refine ⟨_, rfl, ?_⟩
    unfold r_law_4
    dsimp!
    refine ⟨_, rfl, ?_⟩
    show r_law_5 spTake spTruth spIsWorld spSmall [.val (.scr ns), .val (.ref 1), .no, .val (.lst (W.map .str)), .val (.lst bndP), .val (.int i), .val (.tup [.int lo, .int hi]), .val (.int lo), .val (.int hi), s9, .no, .no] (po E 1 0 n) _
    unfold r_law_5
    have g3 : ∀ a b : Int, gAdd (.int a) (.int b) = some (.int (a + b)) := fun _ _ => rfl
    dsimp! [g3]
    refine tq p (by omega) (by omega) (by omega) fun d d0 d1 => ?_
    obtain ⟨v, rfl⟩ := nat1 d0
    try simp only [mSeq, mSet, mSetN, mSetX, mExpr, mExprX, mRet, mRetN, mRetX, mIf, mNext, mPass, mBrk, mCnt, mFrz, mAsg, mAsgX, mPar, mParN, mBin, mUn, mArg, mC, mVar, mPeek, mCall, mCons, mNil, mTup, mLst, mBinT, mAsT, mNotT, mAndT, mOrT, mAndE, mOrE, mNotE, mIfE, mChain, mChainT, mSl, mO0, mO1, mIter, mRng1, mRng2, mZip, mEnum, mMut, mMutR, mSubSet, mShare, mMeth, mFor, mLc, mYes, slotV, frzS, tgN, tgT, tgNs, wipeE, retK, mAug, List.foldl_cons, List.foldl_nil, deref_int, deref_str, deref_bl, deref_non, deref_tup, deref_lst, deref_scr, deref_dic, deref_ty, isLst, cellP, List.getElem?_cons_zero, List.getElem?_cons_succ, List.getElem?_nil, List.set_cons_zero, List.set_cons_succ, List.map_cons, List.map_nil, List.length_cons, List.length_nil, List.cons_append, List.nil_append, Option.some.injEq, Slot.val.injEq, Slot.own.injEq, PV.int.injEq, PV.bl.injEq, PV.str.injEq, PV.ref.injEq, PV.lst.injEq, PV.tup.injEq, exists_eq_left', exists_eq_left, and_true, true_and, true_or, or_true, and_self, reduceCtorEq, gSubI, gMul, gDiv, gMod, gPow, gLt, gLe, gGt, gGe, gIx, gNeg, eqB_int, gEq_int, gNe_int, gEq_str, gNe_str, if_true, if_false, Bool.false_eq_true, Nat.reduceAdd, Nat.zero_add, Bool.not_true, Bool.not_false, atI_c0, atI_c1, atI_c2, mAugSub, mSortedT, mDPutN, mFld, mFldSet, mFldAug, mObj, mNew, mListRg1, mListRg2, atI_c3, atI_c4, mEnumA, mZip3, g3]
    refine ⟨by omega, _, rfl, fun j ep et2 => j ≤ 6 ∧ ∃ (m : Nat) (s9 : Mw.Slot), et2 = po E 1 0 m ∧ m ≤ n - 1 ∧ n ≤ m + 1 + 40 * j ∧ ep = [.val (.scr ns), .val (.ref 1), .no, .val (.lst (W.map .str)), .val (.lst bndP), .val (.int i), .val (.tup [.int lo, .int hi]), .val (.int lo), .val (.int hi), s9, .no, .no], ⟨Nat.zero_le _, n - 1, _, rfl, Nat.le_refl _, by omega, rfl⟩, ?_⟩
    rintro j ep et2 ⟨hj6, m, s9', rfl, hm1, hm2, rfl⟩
    refine ⟨rfl, fun q hq => ⟨_, rfl, ?_⟩, fun e => ?_⟩
    · have hjl : j < 6 := (List.getElem?_eq_some_iff.mp hq).1
      obtain ⟨many, rfl, hmany⟩ : ∃ many : Nat, q = .int many ∧ many ≤ hi + 1 := by
        have hm := List.mem_of_getElem? hq
        simp only [List.mem_cons, List.mem_nil_iff, or_false] at hm
        rcases hm with rfl | rfl | rfl | rfl | rfl | rfl
        · exact ⟨0, rfl, by omega⟩
        · exact ⟨1, rfl, by omega⟩
        · exact ⟨hi - 1, by congr 1; omega, by omega⟩
        · exact ⟨hi, rfl, by omega⟩
        · exact ⟨hi + 1, rfl, by omega⟩
        · exact ⟨lo + v, rfl, by omega⟩
      unfold r_law_6
      dsimp!
      refine ⟨1, 0, W, i, lo, hi, many, E, m, rfl, rfl, p, hW, hbnd, hmany, by omega, fun b w m2 b1 b2 hbase hw => ?_⟩
      refine wz_world (b := decide (lo ≤ many ∧ many ≤ hi)) (po_bel p hb _) hW hw (set_cap hbase hbnd hmany) (fun h => set_in hbase hbnd (of_decide_eq_true h).1 (of_decide_eq_true h).2) (fun h => set_out hbase hbnd (of_decide_eq_false h)) ?_
      by_cases hlo : (lo : Int) ≤ many
      · rw [if_pos (decide_eq_true hlo)]
        refine truth_intro (decide_eq_decide.mpr ⟨fun h => by omega, fun h => by omega⟩) ⟨true, rfl, ?_⟩
        rw [if_neg (by simp)]
        exact ⟨by omega, m2, _, rfl, by omega, by omega, rfl⟩
      · rw [if_neg (by simpa using hlo)]
        refine truth_intro (decide_eq_false (by omega)) ⟨true, rfl, ?_⟩
        rw [if_neg (by simp)]
        exact ⟨by omega, m2, _, rfl, by omega, by omega, rfl⟩
    · have hj : j = 6 := e
      exact ⟨by omega, m, _, _, _, _, _, rfl, by omega, rfl⟩
  · have isn : gIsNot (.bl true) (.bl true) = some (.bl false) := rfl
    have g3 : ∀ a b : Int, gAdd (.int a) (.int b) = some (.int (a + b)) := fun _ _ => rfl
    have hi9 : i ≤ 9 := hi9
    unfold r_law_8
    dsimp!
    refine ⟨by omega, 1, 0, W, bigZ, E, n, rfl, rfl, p, hW, big_cap, by omega, fun w n' b1 b2 hw => ?_⟩
    refine wz_world (b := true) (po_bel p hb _) hW hw big_cap (fun _ => big_in) (fun h => by cases h) ?_
    dsimp! [isn]
    unfold r_law_10
    dsimp!
    unfold r_law_11
    dsimp!
    refine ⟨1, 9, rfl, ⟨by decide, by decide, by decide, by decide⟩, fun i ep et1 => i ≤ 8 ∧ et1 = po E 1 0 n' ∧ ∃ (s2 s11 : Mw.Slot), ep = [.val (.scr ns), .val (.ref 1), s2, .val (.lst (W.map .str)), .val (.lst bndP), s5, s6, s7, s8, s9, .val ((nots i).pv), s11], ⟨Nat.zero_le _, rfl, _, _, rfl⟩, ?_⟩
    rintro i ep et1 ⟨hi8, rfl, s2, s11, rfl⟩
    refine ⟨rfl, fun q hq => ⟨_, rfl, ?_⟩, fun e => ?_⟩
    · have e8 : ((9 : Int) - 1).toNat = 8 := rfl
      rw [e8] at hq
      obtain ⟨rfl, hi⟩ : q = .int ((i + 1 : Nat) : Int) ∧ i < 8 := by
        unfold rng at hq
        rw [List.getElem?_map] at hq
        by_cases c : i < 8
        · rw [List.getElem?_range c] at hq
          cases hq
          exact ⟨by show PV.int (1 + (i : Int)) = _; congr 1; omega, c⟩
        · rw [List.getElem?_eq_none (by rw [List.length_range]; omega)] at hq; cases hq
      have ga : gAdd (.int ((i + 1 : Nat) : Int)) (.int 2) = some (.int ((i + 3 : Nat) : Int)) := rfl
      have gs : gSlA (.str "abcdefghij") none (some ((i + 3 : Nat) : Int)) = some (.str (abcW i)) := by
        show (if abcS.length ≤ sizeLine then some (PV.str (cutS abcS none (some ((i + 3 : Nat) : Int)))) else none) = _
        rw [if_pos (by show 10 ≤ _; omega), abc_cut hi]
      have dn : ∀ et : Hi, deref et (nots i).pv = (nots i).pv := fun et => by cases i <;> rfl
      unfold r_law_12
      dsimp! [ga, gs]
      unfold r_law_13
      dsimp! [ga]
      refine ⟨by omega, _, _, rfl, ?_⟩
      refine wor_world (p := putP i) (po_bel p hb _) (put_wor hi) ?_
      refine truth_intro (decide_eq_decide.mpr ⟨fun h => by omega, fun h => by omega⟩) ⟨true, rfl, ?_⟩
      rw [if_neg (by simp)]
      unfold r_law_15
      have es : ((i + 1 : Nat) : Int) - 3 = (i : Int) - 2 := by omega
      dsimp! [es]
      refine ⟨by omega, _, _, rfl, ?_⟩
      refine wor_world (p := unlP i) (po_bel p hb _) (unl_wor hi) ?_
      by_cases h0 : (0 : Int) ≤ (i : Int) - 2
      all_goals
        first
          | rw [if_pos (decide_eq_true h0)]
          | rw [if_neg (by simpa using h0)]
        refine truth_intro (by first | exact decide_eq_decide.mpr ⟨fun h => by omega, fun h => by omega⟩ | exact decide_eq_false (by omega)) ⟨true, rfl, ?_⟩
        rw [if_neg (by simp)]
        unfold r_law_17
        dsimp! [ga]
        refine ⟨by omega, by omega, by omega, by omega, by omega, by omega, by omega, by omega, by omega, by omega, ?_⟩
        refine wor_world (p := pasP i) (po_bel p hb _) (pas_wor hi) ?_
        refine truth_intro (decide_eq_decide.mpr ⟨fun h => by omega, fun h => by omega⟩) ⟨true, rfl, ?_⟩
        rw [if_neg (by simp)]
        unfold r_law_19
        dsimp! [dn]
        exact ⟨by omega, by omega, _, _, rfl⟩
    · have e : i = 8 := e
      unfold r_law_20
      dsimp!
      exact hR _
end Q11
namespace K11
open PySem L2 Mw PyProof.Rows
def topS (i : Nat) : Stmt := PySem.Challenge.pw_calledroom_k11_bounds_of_worlds.main.body.getD i (.Pass ⟨0, 0, 0, 0⟩)
abbrev k_GIVEN : PV := .str "given"
abbrev k_IN_DEEDS : PV := .tup [.str "wait", .str "call", .str "all", .str "tell"]
abbrev k_IN_HANDS : PV := .tup [.str "take", .str "give", .str "pass", .str "say"]
abbrev k_LETTERS : PV := .str "abcdefghijklmnopqrstuvwxyz"
abbrev k_MANNERS : PV := .tup [.str "at once", .str "when free"]
abbrev k_MOST_BELLS : PV := .int 3
abbrev k_MOST_DEEDS : PV := .int 4
abbrev k_MOST_DEEP : PV := .int 5
abbrev k_MOST_HANDS : PV := .int 4
abbrev k_MOST_OPEN : PV := .int 16
abbrev k_MOST_OWN : PV := .int 8
abbrev k_MOST_PASSES : PV := .int 16
abbrev k_MOST_ROOMS : PV := .int 4
abbrev k_MOST_ROOM_THINGS : PV := .int 4
abbrev k_MOST_ROWS : PV := .int 40
abbrev k_MOST_SIGNS : PV := .int 8
abbrev k_MOST_VALUE : PV := .int 9
abbrev k_SORTS : PV := .tup [.str "row", .str "turns"]
abbrev k_TWO_PARTS : PV := .tup [.str "plus", .str "minus", .str "less", .str "same", .str "both"]
abbrev k_WHEN_FREE : PV := .str "when free"
abbrev tt_FORMS : List (Str × List Str) := [("put", ["word", "sum"]), ("unless", ["sum", "place"]), ("go", ["place"]), ("do", ["goal", "word", "word", "sum"]), ("wait", ["word", "sum"]), ("call", ["word"]), ("all", ["word"]), ("tell", ["sum"]), ("take", ["word"]), ("give", ["word"]), ("pass", ["word", "word"]), ("say", ["sum"])]
abbrev s_is_word : Stmt := topS 6
theorem sc_is_word : FnScope ["thing", "sign"] ["thing"] (defScope s_is_word) := ⟨rfl, rfl, rfl, by decide +kernel, rfl, by decide +kernel, by decide +kernel⟩
abbrev s_is_value : Stmt := topS 7
theorem sc_is_value : FnScope ["thing"] ["thing"] (defScope s_is_value) := ⟨rfl, rfl, rfl, by decide +kernel, rfl, by decide +kernel, by decide +kernel⟩
abbrev s_is_sum_within : Stmt := topS 8
theorem sc_is_sum_within : FnScope ["thing", "deep"] ["thing", "deep"] (defScope s_is_sum_within) := ⟨rfl, rfl, rfl, by decide +kernel, rfl, by decide +kernel, by decide +kernel⟩
abbrev s_is_sum : Stmt := topS 9
theorem sc_is_sum : FnScope ["thing"] ["thing"] (defScope s_is_sum) := ⟨rfl, rfl, rfl, by decide +kernel, rfl, by decide +kernel, by decide +kernel⟩
abbrev s_parts_of : Stmt := topS 10
theorem sc_parts_of : FnScope ["told"] ["told"] (defScope s_parts_of) := ⟨rfl, rfl, rfl, by decide +kernel, rfl, by decide +kernel, by decide +kernel⟩
abbrev s_words_in : Stmt := topS 11
theorem sc_words_in : FnScope ["told", "found", "part"] ["told"] (defScope s_words_in) := ⟨rfl, rfl, rfl, by decide +kernel, rfl, by decide +kernel, by decide +kernel⟩
abbrev s_bells_in : Stmt := topS 12
theorem sc_bells_in : FnScope ["told", "found", "part"] ["told"] (defScope s_bells_in) := ⟨rfl, rfl, rfl, by decide +kernel, rfl, by decide +kernel, by decide +kernel⟩
abbrev s_words_of : Stmt := topS 13
theorem sc_words_of : FnScope ["told"] ["told"] (defScope s_words_of) := ⟨rfl, rfl, rfl, by decide +kernel, rfl, by decide +kernel, by decide +kernel⟩
abbrev s_bells_of : Stmt := topS 14
theorem sc_bells_of : FnScope ["told"] ["told"] (defScope s_bells_of) := ⟨rfl, rfl, rfl, by decide +kernel, rfl, by decide +kernel, by decide +kernel⟩
abbrev s_firsts : Stmt := topS 33
theorem sc_firsts : FnScope ["pairs", "pair"] ["pairs"] (defScope s_firsts) := ⟨rfl, rfl, rfl, by decide +kernel, rfl, by decide +kernel, by decide +kernel⟩
abbrev s_is_tuple_of : Stmt := topS 34
theorem sc_is_tuple_of : FnScope ["thing", "many"] ["thing", "many"] (defScope s_is_tuple_of) := ⟨rfl, rfl, rfl, by decide +kernel, rfl, by decide +kernel, by decide +kernel⟩
abbrev s_is_rising : Stmt := topS 35
theorem sc_is_rising : FnScope ["words", "one", "other"] ["words"] (defScope s_is_rising) := ⟨rfl, rfl, rfl, by decide +kernel, rfl, by decide +kernel, by decide +kernel⟩
abbrev s_is_place : Stmt := topS 36
theorem sc_is_place : FnScope ["thing", "many"] ["thing", "many"] (defScope s_is_place) := ⟨rfl, rfl, rfl, by decide +kernel, rfl, by decide +kernel, by decide +kernel⟩
abbrev s_is_part : Stmt := topS 37
theorem sc_is_part : FnScope ["thing", "form", "many"] ["thing", "form", "many"] (defScope s_is_part) := ⟨rfl, rfl, rfl, by decide +kernel, rfl, by decide +kernel, by decide +kernel⟩
abbrev s_is_row : Stmt := topS 38
theorem sc_is_row : FnScope ["thing", "many", "forms", "part", "form"] ["thing", "many"] (defScope s_is_row) := ⟨rfl, rfl, rfl, by decide +kernel, rfl, by decide +kernel, by decide +kernel⟩
abbrev s_is_program : Stmt := topS 39
theorem sc_is_program : FnScope ["thing", "row"] ["thing"] (defScope s_is_program) := ⟨rfl, rfl, rfl, by decide +kernel, rfl, by decide +kernel, by decide +kernel⟩
abbrev s_is_pass : Stmt := topS 40
theorem sc_is_pass : FnScope ["thing"] ["thing"] (defScope s_is_pass) := ⟨rfl, rfl, rfl, by decide +kernel, rfl, by decide +kernel, by decide +kernel⟩
abbrev s_are_passes : Stmt := topS 41
theorem sc_are_passes : FnScope ["thing", "most", "one"] ["thing", "most"] (defScope s_are_passes) := ⟨rfl, rfl, rfl, by decide +kernel, rfl, by decide +kernel, by decide +kernel⟩
abbrev s_are_things : Stmt := topS 42
theorem sc_are_things : FnScope ["thing", "most"] ["thing", "most"] (defScope s_are_things) := ⟨rfl, rfl, rfl, by decide +kernel, rfl, by decide +kernel, by decide +kernel⟩
abbrev s_is_bell : Stmt := topS 43
theorem sc_is_bell : FnScope ["thing"] ["thing"] (defScope s_is_bell) := ⟨rfl, rfl, rfl, by decide +kernel, rfl, by decide +kernel, by decide +kernel⟩
abbrev s_is_deed : Stmt := topS 44
theorem sc_is_deed : FnScope ["thing"] ["thing"] (defScope s_is_deed) := ⟨rfl, rfl, rfl, by decide +kernel, rfl, by decide +kernel, by decide +kernel⟩
abbrev s_is_room : Stmt := topS 45
theorem sc_is_room : FnScope ["thing", "name", "manner", "things", "bells", "deeds", "one"] ["thing"] (defScope s_is_room) := ⟨rfl, rfl, rfl, by decide +kernel, rfl, by decide +kernel, by decide +kernel⟩
abbrev s_is_hand : Stmt := topS 46
theorem sc_is_hand : FnScope ["thing"] ["thing"] (defScope s_is_hand) := ⟨rfl, rfl, rfl, by decide +kernel, rfl, by decide +kernel, by decide +kernel⟩
abbrev s_is_formed : Stmt := topS 47
theorem sc_is_formed : FnScope ["thing", "rooms", "passes", "open_things", "hands", "one"] ["thing"] (defScope s_is_formed) := ⟨rfl, rfl, rfl, by decide +kernel, rfl, by decide +kernel, by decide +kernel⟩
abbrev s_are_among : Stmt := topS 48
theorem sc_are_among : FnScope ["words", "others", "word"] ["words", "others"] (defScope s_are_among) := ⟨rfl, rfl, rfl, by decide +kernel, rfl, by decide +kernel, by decide +kernel⟩
abbrev s_sums_in : Stmt := topS 49
theorem sc_sums_in : FnScope ["row", "part", "form"] ["row"] (defScope s_sums_in) := ⟨rfl, rfl, rfl, by decide +kernel, rfl, by decide +kernel, by decide +kernel⟩
abbrev s_is_put_right : Stmt := topS 50
theorem sc_is_put_right : FnScope ["row", "words", "goals", "bells", "told"] ["row", "words", "goals", "bells"] (defScope s_is_put_right) := ⟨rfl, rfl, rfl, by decide +kernel, rfl, by decide +kernel, by decide +kernel⟩
abbrev s_is_deed_there : Stmt := topS 51
theorem sc_is_deed_there : FnScope ["rooms", "row", "room"] ["rooms", "row"] (defScope s_is_deed_there) := ⟨rfl, rfl, rfl, by decide +kernel, rfl, by decide +kernel, by decide +kernel⟩
abbrev s_stands_in_deed : Stmt := topS 52
theorem sc_stands_in_deed : FnScope ["rooms", "room", "row", "name", "manner", "things", "bells", "deeds", "goals"] ["rooms", "room", "row"] (defScope s_stands_in_deed) := ⟨rfl, rfl, rfl, by decide +kernel, rfl, by decide +kernel, by decide +kernel⟩
abbrev s_stands_in_hand : Stmt := topS 53
theorem sc_stands_in_hand : FnScope ["world", "goals", "row", "rooms", "passes", "open_things", "hands"] ["world", "goals", "row"] (defScope s_stands_in_hand) := ⟨rfl, rfl, rfl, by decide +kernel, rfl, by decide +kernel, by decide +kernel⟩
abbrev s_is_room_right : Stmt := topS 54
theorem sc_is_room_right : FnScope ["rooms", "room", "name", "program", "row"] ["rooms", "room"] (defScope s_is_room_right) := ⟨rfl, rfl, rfl, by decide +kernel, rfl, by decide +kernel, by decide +kernel⟩
abbrev s_is_hand_right : Stmt := topS 55
theorem sc_is_hand_right : FnScope ["world", "hand", "things", "program", "opened", "word", "row"] ["world", "hand"] (defScope s_is_hand_right) := ⟨rfl, rfl, rfl, by decide +kernel, rfl, by decide +kernel, by decide +kernel⟩
abbrev s_deeds_done : Stmt := topS 56
theorem sc_deeds_done : FnScope ["rooms", "deed", "found", "room", "name", "program", "row"] ["rooms", "deed"] (defScope s_deeds_done) := ⟨rfl, rfl, rfl, by decide +kernel, rfl, by decide +kernel, by decide +kernel⟩
abbrev s_comes_to_itself : Stmt := topS 57
theorem sc_comes_to_itself : FnScope ["rooms", "deed", "found", "waiting", "other"] ["rooms", "deed"] (defScope s_comes_to_itself) := ⟨rfl, rfl, rfl, by decide +kernel, rfl, by decide +kernel, by decide +kernel⟩
abbrev s_is_world : Stmt := topS 58
theorem sc_is_world : FnScope ["thing", "rooms", "passes", "open_things", "hands", "name", "room", "hand"] ["thing"] (defScope s_is_world) := ⟨rfl, rfl, rfl, by decide +kernel, rfl, by decide +kernel, by decide +kernel⟩
abbrev s__law_pot : Stmt := topS 60
theorem sc__law_pot : FnScope ["_law_script", "_law_seed", "_law_cell"] ["_law_script"] (defScope s__law_pot) := ⟨rfl, rfl, rfl, by decide +kernel, rfl, by decide +kernel, by decide +kernel⟩
abbrev s__law_take : Stmt := topS 61
theorem sc__law_take : FnScope ["_law_pot_here", "_law_many", "_law_digit", "_law_mixed"] ["_law_pot_here", "_law_many"] (defScope s__law_take) := ⟨rfl, rfl, rfl, by decide +kernel, rfl, by decide +kernel, by decide +kernel⟩
abbrev s__law_of : Stmt := topS 62
theorem sc__law_of : FnScope ["_law_pot_here", "_law_some"] ["_law_pot_here", "_law_some"] (defScope s__law_of) := ⟨rfl, rfl, rfl, by decide +kernel, rfl, by decide +kernel, by decide +kernel⟩
abbrev s__law_words : Stmt := topS 63
theorem sc__law_words : FnScope ["_law_pot_here", "_law_many", "_law_letters", "_law_first", "_law_turn", "_law_ends", "_law_found", "_law_k", "_law_sign"] ["_law_pot_here", "_law_many"] (defScope s__law_words) := ⟨rfl, rfl, rfl, by decide +kernel, rfl, by decide +kernel, by decide +kernel⟩
abbrev s__law_named : Stmt := topS 64
theorem sc__law_named : FnScope ["_law_words_here", "_law_many", "_law_thing", "_law_word"] ["_law_words_here", "_law_many", "_law_thing"] (defScope s__law_named) := ⟨rfl, rfl, rfl, by decide +kernel, rfl, by decide +kernel, by decide +kernel⟩
abbrev s__law_world_of : Stmt := topS 65
theorem sc__law_world_of : FnScope ["_law_pot_here", "_law_words_here", "_law_sizes", "_law_rows", "_law_rooms", "_law_things", "_law_bells", "_law_deeds", "_law_passes", "_law_opened", "_law_hands", "_law_own", "_law_program", "_law_done", "_law_name", "_law_some", "_law_rung", "_law_made", "_law_counted", "_law_word", "_law_others", "_law_hand", "_law_free"] ["_law_pot_here", "_law_words_here", "_law_sizes"] (defScope s__law_world_of) := ⟨rfl, rfl, rfl, by decide +kernel, rfl, by decide +kernel, by decide +kernel⟩
abbrev s__law_small : Stmt := topS 66
theorem sc__law_small : FnScope ["_law_pot_here", "_law_words_here", "_law_at", "_law_many", "_law_sizes"] ["_law_pot_here", "_law_words_here", "_law_at", "_law_many"] (defScope s__law_small) := ⟨rfl, rfl, rfl, by decide +kernel, rfl, by decide +kernel, by decide +kernel⟩
abbrev s__law_with : Stmt := topS 67
theorem sc__law_with : FnScope ["_law_row", "_law_thing", "_law_room"] ["_law_row", "_law_thing"] (defScope s__law_with) := ⟨rfl, rfl, rfl, by decide +kernel, rfl, by decide +kernel, by decide +kernel⟩
abbrev s__law_truth : Stmt := topS 68
theorem sc__law_truth : FnScope ["_law_found", "_law_due"] ["_law_found", "_law_due"] (defScope s__law_truth) := ⟨rfl, rfl, rfl, by decide +kernel, rfl, by decide +kernel, by decide +kernel⟩
abbrev s_law : Stmt := topS 69
theorem sc_law : FnScope ["_law_script", "_law_pot_here", "_law_word", "_law_words_here", "_law_bounds", "_law_at", "_law_pair", "_law_least", "_law_most", "_law_many", "_law_deep", "_law_depth"] ["_law_script"] (defScope s_law) := ⟨rfl, rfl, rfl, by decide +kernel, rfl, by decide +kernel, by decide +kernel⟩
set_option maxHeartbeats 0 in
structure Txt (K : PySem.W.Frag) (mg : Str → Option Value) where
  a_is_word : Addr
  f_is_word : FuncData
  F_is_word : Fun K "is_word" "is_word" s_is_word a_is_word f_is_word
  b_is_word : Binds K f_is_word ["thing"] []
  m_is_word : mg "is_word" = some (.ref a_is_word)
  a_is_value : Addr
  f_is_value : FuncData
  F_is_value : Fun K "is_value" "is_value" s_is_value a_is_value f_is_value
  b_is_value : Binds K f_is_value ["thing"] []
  m_is_value : mg "is_value" = some (.ref a_is_value)
  a_is_sum_within : Addr
  f_is_sum_within : FuncData
  F_is_sum_within : Fun K "is_sum_within" "is_sum_within" s_is_sum_within a_is_sum_within f_is_sum_within
  b_is_sum_within : Binds K f_is_sum_within ["thing", "deep"] []
  m_is_sum_within : mg "is_sum_within" = some (.ref a_is_sum_within)
  a_is_sum : Addr
  f_is_sum : FuncData
  F_is_sum : Fun K "is_sum" "is_sum" s_is_sum a_is_sum f_is_sum
  b_is_sum : Binds K f_is_sum ["thing"] []
  m_is_sum : mg "is_sum" = some (.ref a_is_sum)
  a_parts_of : Addr
  f_parts_of : FuncData
  F_parts_of : Fun K "parts_of" "parts_of" s_parts_of a_parts_of f_parts_of
  b_parts_of : Binds K f_parts_of ["told"] []
  m_parts_of : mg "parts_of" = some (.ref a_parts_of)
  a_words_in : Addr
  f_words_in : FuncData
  F_words_in : Fun K "words_in" "words_in" s_words_in a_words_in f_words_in
  b_words_in : Binds K f_words_in ["told"] []
  m_words_in : mg "words_in" = some (.ref a_words_in)
  a_bells_in : Addr
  f_bells_in : FuncData
  F_bells_in : Fun K "bells_in" "bells_in" s_bells_in a_bells_in f_bells_in
  b_bells_in : Binds K f_bells_in ["told"] []
  m_bells_in : mg "bells_in" = some (.ref a_bells_in)
  a_words_of : Addr
  f_words_of : FuncData
  F_words_of : Fun K "words_of" "words_of" s_words_of a_words_of f_words_of
  b_words_of : Binds K f_words_of ["told"] []
  m_words_of : mg "words_of" = some (.ref a_words_of)
  a_bells_of : Addr
  f_bells_of : FuncData
  F_bells_of : Fun K "bells_of" "bells_of" s_bells_of a_bells_of f_bells_of
  b_bells_of : Binds K f_bells_of ["told"] []
  m_bells_of : mg "bells_of" = some (.ref a_bells_of)
  a_firsts : Addr
  f_firsts : FuncData
  F_firsts : Fun K "firsts" "firsts" s_firsts a_firsts f_firsts
  b_firsts : Binds K f_firsts ["pairs"] []
  m_firsts : mg "firsts" = some (.ref a_firsts)
  a_is_tuple_of : Addr
  f_is_tuple_of : FuncData
  F_is_tuple_of : Fun K "is_tuple_of" "is_tuple_of" s_is_tuple_of a_is_tuple_of f_is_tuple_of
  b_is_tuple_of : Binds K f_is_tuple_of ["thing", "many"] []
  m_is_tuple_of : mg "is_tuple_of" = some (.ref a_is_tuple_of)
  a_is_rising : Addr
  f_is_rising : FuncData
  F_is_rising : Fun K "is_rising" "is_rising" s_is_rising a_is_rising f_is_rising
  b_is_rising : Binds K f_is_rising ["words"] []
  m_is_rising : mg "is_rising" = some (.ref a_is_rising)
  a_is_place : Addr
  f_is_place : FuncData
  F_is_place : Fun K "is_place" "is_place" s_is_place a_is_place f_is_place
  b_is_place : Binds K f_is_place ["thing", "many"] []
  m_is_place : mg "is_place" = some (.ref a_is_place)
  a_is_part : Addr
  f_is_part : FuncData
  F_is_part : Fun K "is_part" "is_part" s_is_part a_is_part f_is_part
  b_is_part : Binds K f_is_part ["thing", "form", "many"] []
  m_is_part : mg "is_part" = some (.ref a_is_part)
  a_is_row : Addr
  f_is_row : FuncData
  F_is_row : Fun K "is_row" "is_row" s_is_row a_is_row f_is_row
  b_is_row : Binds K f_is_row ["thing", "many"] []
  m_is_row : mg "is_row" = some (.ref a_is_row)
  a_is_program : Addr
  f_is_program : FuncData
  F_is_program : Fun K "is_program" "is_program" s_is_program a_is_program f_is_program
  b_is_program : Binds K f_is_program ["thing"] []
  m_is_program : mg "is_program" = some (.ref a_is_program)
  a_is_pass : Addr
  f_is_pass : FuncData
  F_is_pass : Fun K "is_pass" "is_pass" s_is_pass a_is_pass f_is_pass
  b_is_pass : Binds K f_is_pass ["thing"] []
  m_is_pass : mg "is_pass" = some (.ref a_is_pass)
  a_are_passes : Addr
  f_are_passes : FuncData
  F_are_passes : Fun K "are_passes" "are_passes" s_are_passes a_are_passes f_are_passes
  b_are_passes : Binds K f_are_passes ["thing", "most"] []
  m_are_passes : mg "are_passes" = some (.ref a_are_passes)
  a_are_things : Addr
  f_are_things : FuncData
  F_are_things : Fun K "are_things" "are_things" s_are_things a_are_things f_are_things
  b_are_things : Binds K f_are_things ["thing", "most"] []
  m_are_things : mg "are_things" = some (.ref a_are_things)
  a_is_bell : Addr
  f_is_bell : FuncData
  F_is_bell : Fun K "is_bell" "is_bell" s_is_bell a_is_bell f_is_bell
  b_is_bell : Binds K f_is_bell ["thing"] []
  m_is_bell : mg "is_bell" = some (.ref a_is_bell)
  a_is_deed : Addr
  f_is_deed : FuncData
  F_is_deed : Fun K "is_deed" "is_deed" s_is_deed a_is_deed f_is_deed
  b_is_deed : Binds K f_is_deed ["thing"] []
  m_is_deed : mg "is_deed" = some (.ref a_is_deed)
  a_is_room : Addr
  f_is_room : FuncData
  F_is_room : Fun K "is_room" "is_room" s_is_room a_is_room f_is_room
  b_is_room : Binds K f_is_room ["thing"] []
  m_is_room : mg "is_room" = some (.ref a_is_room)
  a_is_hand : Addr
  f_is_hand : FuncData
  F_is_hand : Fun K "is_hand" "is_hand" s_is_hand a_is_hand f_is_hand
  b_is_hand : Binds K f_is_hand ["thing"] []
  m_is_hand : mg "is_hand" = some (.ref a_is_hand)
  a_is_formed : Addr
  f_is_formed : FuncData
  F_is_formed : Fun K "is_formed" "is_formed" s_is_formed a_is_formed f_is_formed
  b_is_formed : Binds K f_is_formed ["thing"] []
  m_is_formed : mg "is_formed" = some (.ref a_is_formed)
  a_are_among : Addr
  f_are_among : FuncData
  F_are_among : Fun K "are_among" "are_among" s_are_among a_are_among f_are_among
  b_are_among : Binds K f_are_among ["words", "others"] []
  m_are_among : mg "are_among" = some (.ref a_are_among)
  a_sums_in : Addr
  f_sums_in : FuncData
  F_sums_in : Fun K "sums_in" "sums_in" s_sums_in a_sums_in f_sums_in
  b_sums_in : Binds K f_sums_in ["row"] []
  m_sums_in : mg "sums_in" = some (.ref a_sums_in)
  a_is_put_right : Addr
  f_is_put_right : FuncData
  F_is_put_right : Fun K "is_put_right" "is_put_right" s_is_put_right a_is_put_right f_is_put_right
  b_is_put_right : Binds K f_is_put_right ["row", "words", "goals", "bells"] []
  m_is_put_right : mg "is_put_right" = some (.ref a_is_put_right)
  a_is_deed_there : Addr
  f_is_deed_there : FuncData
  F_is_deed_there : Fun K "is_deed_there" "is_deed_there" s_is_deed_there a_is_deed_there f_is_deed_there
  b_is_deed_there : Binds K f_is_deed_there ["rooms", "row"] []
  m_is_deed_there : mg "is_deed_there" = some (.ref a_is_deed_there)
  a_stands_in_deed : Addr
  f_stands_in_deed : FuncData
  F_stands_in_deed : Fun K "stands_in_deed" "stands_in_deed" s_stands_in_deed a_stands_in_deed f_stands_in_deed
  b_stands_in_deed : Binds K f_stands_in_deed ["rooms", "room", "row"] []
  m_stands_in_deed : mg "stands_in_deed" = some (.ref a_stands_in_deed)
  a_stands_in_hand : Addr
  f_stands_in_hand : FuncData
  F_stands_in_hand : Fun K "stands_in_hand" "stands_in_hand" s_stands_in_hand a_stands_in_hand f_stands_in_hand
  b_stands_in_hand : Binds K f_stands_in_hand ["world", "goals", "row"] []
  m_stands_in_hand : mg "stands_in_hand" = some (.ref a_stands_in_hand)
  a_is_room_right : Addr
  f_is_room_right : FuncData
  F_is_room_right : Fun K "is_room_right" "is_room_right" s_is_room_right a_is_room_right f_is_room_right
  b_is_room_right : Binds K f_is_room_right ["rooms", "room"] []
  m_is_room_right : mg "is_room_right" = some (.ref a_is_room_right)
  a_is_hand_right : Addr
  f_is_hand_right : FuncData
  F_is_hand_right : Fun K "is_hand_right" "is_hand_right" s_is_hand_right a_is_hand_right f_is_hand_right
  b_is_hand_right : Binds K f_is_hand_right ["world", "hand"] []
  m_is_hand_right : mg "is_hand_right" = some (.ref a_is_hand_right)
  a_deeds_done : Addr
  f_deeds_done : FuncData
  F_deeds_done : Fun K "deeds_done" "deeds_done" s_deeds_done a_deeds_done f_deeds_done
  b_deeds_done : Binds K f_deeds_done ["rooms", "deed"] []
  m_deeds_done : mg "deeds_done" = some (.ref a_deeds_done)
  a_comes_to_itself : Addr
  f_comes_to_itself : FuncData
  F_comes_to_itself : Fun K "comes_to_itself" "comes_to_itself" s_comes_to_itself a_comes_to_itself f_comes_to_itself
  b_comes_to_itself : Binds K f_comes_to_itself ["rooms", "deed"] []
  m_comes_to_itself : mg "comes_to_itself" = some (.ref a_comes_to_itself)
  a_is_world : Addr
  f_is_world : FuncData
  F_is_world : Fun K "is_world" "is_world" s_is_world a_is_world f_is_world
  b_is_world : Binds K f_is_world ["thing"] []
  m_is_world : mg "is_world" = some (.ref a_is_world)
  a__law_pot : Addr
  f__law_pot : FuncData
  F__law_pot : Fun K "_law_pot" "_law_pot" s__law_pot a__law_pot f__law_pot
  b__law_pot : Binds K f__law_pot ["_law_script"] []
  m__law_pot : mg "_law_pot" = some (.ref a__law_pot)
  a__law_take : Addr
  f__law_take : FuncData
  F__law_take : Fun K "_law_take" "_law_take" s__law_take a__law_take f__law_take
  b__law_take : Binds K f__law_take ["_law_pot_here", "_law_many"] []
  m__law_take : mg "_law_take" = some (.ref a__law_take)
  a__law_of : Addr
  f__law_of : FuncData
  F__law_of : Fun K "_law_of" "_law_of" s__law_of a__law_of f__law_of
  b__law_of : Binds K f__law_of ["_law_pot_here", "_law_some"] []
  m__law_of : mg "_law_of" = some (.ref a__law_of)
  a__law_words : Addr
  f__law_words : FuncData
  F__law_words : Fun K "_law_words" "_law_words" s__law_words a__law_words f__law_words
  b__law_words : Binds K f__law_words ["_law_pot_here", "_law_many"] []
  m__law_words : mg "_law_words" = some (.ref a__law_words)
  a__law_named : Addr
  f__law_named : FuncData
  F__law_named : Fun K "_law_named" "_law_named" s__law_named a__law_named f__law_named
  b__law_named : Binds K f__law_named ["_law_words_here", "_law_many", "_law_thing"] []
  m__law_named : mg "_law_named" = some (.ref a__law_named)
  a__law_world_of : Addr
  f__law_world_of : FuncData
  F__law_world_of : Fun K "_law_world_of" "_law_world_of" s__law_world_of a__law_world_of f__law_world_of
  b__law_world_of : Binds K f__law_world_of ["_law_pot_here", "_law_words_here", "_law_sizes"] []
  m__law_world_of : mg "_law_world_of" = some (.ref a__law_world_of)
  a__law_small : Addr
  f__law_small : FuncData
  F__law_small : Fun K "_law_small" "_law_small" s__law_small a__law_small f__law_small
  b__law_small : Binds K f__law_small ["_law_pot_here", "_law_words_here", "_law_at", "_law_many"] []
  m__law_small : mg "_law_small" = some (.ref a__law_small)
  a__law_with : Addr
  f__law_with : FuncData
  F__law_with : Fun K "_law_with" "_law_with" s__law_with a__law_with f__law_with
  b__law_with : Binds K f__law_with ["_law_row", "_law_thing"] []
  m__law_with : mg "_law_with" = some (.ref a__law_with)
  a__law_truth : Addr
  f__law_truth : FuncData
  F__law_truth : Fun K "_law_truth" "_law_truth" s__law_truth a__law_truth f__law_truth
  b__law_truth : Binds K f__law_truth ["_law_found", "_law_due"] []
  m__law_truth : mg "_law_truth" = some (.ref a__law_truth)
  a_law : Addr
  f_law : FuncData
  F_law : Fun K "law" "law" s_law a_law f_law
  b_law : Binds K f_law ["_law_script"] []
  m_law : mg "law" = some (.ref a_law)
  pr : Params
  t_FORMS : ∀ {w : World}, pr = w.params → TabT K w mg "FORMS" tt_FORMS
  z_all : mg "all" = none
  z_any : mg "any" = none
  z_bool : mg "bool" = none
  z_enumerate : mg "enumerate" = none
  z_int : mg "int" = none
  z_isinstance : mg "isinstance" = none
  z_len : mg "len" = none
  z_range : mg "range" = none
  z_set : mg "set" = none
  z_sorted : mg "sorted" = none
  z_str : mg "str" = none
  z_tuple : mg "tuple" = none
  z_zip : mg "zip" = none
  c_GIVEN : Glob K mg "GIVEN" k_GIVEN
  c_IN_DEEDS : Glob K mg "IN_DEEDS" k_IN_DEEDS
  c_IN_HANDS : Glob K mg "IN_HANDS" k_IN_HANDS
  c_LETTERS : Glob K mg "LETTERS" k_LETTERS
  c_MANNERS : Glob K mg "MANNERS" k_MANNERS
  c_MOST_BELLS : Glob K mg "MOST_BELLS" k_MOST_BELLS
  c_MOST_DEEDS : Glob K mg "MOST_DEEDS" k_MOST_DEEDS
  c_MOST_DEEP : Glob K mg "MOST_DEEP" k_MOST_DEEP
  c_MOST_HANDS : Glob K mg "MOST_HANDS" k_MOST_HANDS
  c_MOST_OPEN : Glob K mg "MOST_OPEN" k_MOST_OPEN
  c_MOST_OWN : Glob K mg "MOST_OWN" k_MOST_OWN
  c_MOST_PASSES : Glob K mg "MOST_PASSES" k_MOST_PASSES
  c_MOST_ROOMS : Glob K mg "MOST_ROOMS" k_MOST_ROOMS
  c_MOST_ROOM_THINGS : Glob K mg "MOST_ROOM_THINGS" k_MOST_ROOM_THINGS
  c_MOST_ROWS : Glob K mg "MOST_ROWS" k_MOST_ROWS
  c_MOST_SIGNS : Glob K mg "MOST_SIGNS" k_MOST_SIGNS
  c_MOST_VALUE : Glob K mg "MOST_VALUE" k_MOST_VALUE
  c_SORTS : Glob K mg "SORTS" k_SORTS
  c_TWO_PARTS : Glob K mg "TWO_PARTS" k_TWO_PARTS
  c_WHEN_FREE : Glob K mg "WHEN_FREE" k_WHEN_FREE
variable {P : Program} {w : World} {K : PySem.W.Frag} {mg : Str → Option Value} {base : Heap} {k : Nat}
theorem ok_is_word {sp : FSpec} (T : Txt K mg) 
    (h : ∀ args et R, sp args et R → Sq.r_is_word  (env0 ["thing", "sign"] args) et (retK R)) :
    FnOk P w K mg base CX0 (k + 1) T.a_is_word T.f_is_word ["thing"] (FS K mg 1 sp) :=
  have nd := sc_is_word.nd
  fn_ok T.F_is_word sc_is_word (fun cdv A outer s H E hr => (ss_cons (s_if (PW.pt (sW_or (sT_not (sT_val (sE_callB call_isi oA_isi rfl T.z_isinstance boot_isinstance (sAP_cons (sP_var (pv 0)) (sAP_cons (SimE.p (sE_ty (t := .str) rfl T.z_str boot_str)) sAP_nil))))) (sW_or1 (sT_not (sT_chain op_le op_le o2_le o2_le (SimE.p sE_int) (SimE.p (sE_callB call_len oA_len rfl T.z_len boot_len (sAP_cons (sP_var (pv 0)) sAP_nil))) (SimE.p (T.c_MOST_SIGNS.e rfl)) (fun h1 h2 h3 => pt_chain op_le op_le h1 h2 h3)))))) (ss_one (s_ret sE_bl)) ss_nil)
    (ss_one (s_ret (sE_callB (cr_all rfl) oA_all rfl T.z_all boot_all (sAP_cons (SimN.p (sN_lc (own := [("sign", 1)]) (g_name 1) (by simp) rfl nd (sI_any (sE_var (pv 0))) (blkOk_by (N := ["thing", "sign"]) (sc := defScope s_is_word) (by decide +kernel)) (fun _ _ _ _ _ => (pg_name (i := 1) nd rfl (by first | exact Or.inl rfl | exact Or.inr rfl))) (fun _ _ _ _ _ => pts_yes) (fun _ _ _ _ _ => (sE_cmp (op_inA hr.h65) o2_in (sP_var (pv 1)) (SimE.p (T.c_LETTERS.e rfl)) rfl)))) sAP_nil)))))) h
theorem ok_is_value {sp : FSpec} (T : Txt K mg) 
    (h : ∀ args et R, sp args et R → Sq.r_is_value  (env0 ["thing"] args) et (retK R)) :
    FnOk P w K mg base CX0 (k + 1) T.a_is_value T.f_is_value ["thing"] (FS K mg 1 sp) :=
  have nd := sc_is_value.nd
  fn_ok T.F_is_value sc_is_value (fun cdv A outer s H E hr => (ss_one (s_ret (sE_and (sE_callB call_isi oA_isi rfl T.z_isinstance boot_isinstance (sAP_cons (sP_var (pv 0)) (sAP_cons (SimE.p (sE_ty (t := .int) rfl T.z_int boot_int)) sAP_nil))) (sE_and (sE_not (sE_callB call_isi oA_isi rfl T.z_isinstance boot_isinstance (sAP_cons (sP_var (pv 0)) (sAP_cons (SimE.p (sE_ty (t := .bool) rfl T.z_bool boot_bool)) sAP_nil)))) (sE_one (sE_chain op_le op_le o2_le o2_le (SimE.p sE_int) (sP_var (pv 0)) (SimE.p (T.c_MOST_VALUE.e rfl))))))))) h
theorem ok_is_sum_within {S_is_word : FSpec} {S_is_value : FSpec} {S_is_sum_within : FSpec} {sp : FSpec} (T : Txt K mg) (G_is_word : FnOk P w K mg base CX0 k T.a_is_word T.f_is_word ["thing"] (FS K mg 1 S_is_word)) (G_is_value : FnOk P w K mg base CX0 k T.a_is_value T.f_is_value ["thing"] (FS K mg 1 S_is_value)) (G_is_sum_within : FnOk P w K mg base CX0 k T.a_is_sum_within T.f_is_sum_within ["thing", "deep"] (FS K mg 2 S_is_sum_within))
    (h : ∀ args et R, sp args et R → Sq.r_is_sum_within S_is_word S_is_value S_is_sum_within (env0 ["thing", "deep"] args) et (retK R)) :
    FnOk P w K mg base CX0 (k + 1) T.a_is_sum_within T.f_is_sum_within ["thing", "deep"] (FS K mg 2 sp) :=
  have nd := sc_is_sum_within.nd
  fn_ok T.F_is_sum_within sc_is_sum_within (fun cdv A outer s H E hr => (ss_cons (s_if (sT_cmp (op_eqA hr.h64) o2_eq (sP_var (pv 1)) (SimE.p sE_int) (nomark _)) (ss_one (s_ret sE_bl)) ss_nil)
    (ss_cons (s_if (sT_not (sT_val (sE_callB call_isi oA_isi rfl T.z_isinstance boot_isinstance (sAP_cons (sP_var (pv 0)) (sAP_cons (SimE.p (sE_ty (t := .tup) rfl T.z_tuple boot_tuple)) sAP_nil))))) (ss_one (s_ret (sE_or (sE_call G_is_value hr rfl T.m_is_value T.F_is_value.kp T.b_is_value (sA_cons (sE_var (pv 0)) sA_nil)) (sE_one (sE_call G_is_word hr rfl T.m_is_word T.F_is_word.kp T.b_is_word (sA_cons (sE_var (pv 0)) sA_nil)))))) ss_nil)
    (ss_cons (s_if (PW.pt (sW_or (sT_cmp op_ltA o2_lt (SimE.p (sE_callB call_len oA_len rfl T.z_len boot_len (sAP_cons (sP_var (pv 0)) sAP_nil))) (SimE.p sE_int) (nomark _)) (sW_or1 (sT_not (sT_val (sE_callB call_isi oA_isi rfl T.z_isinstance boot_isinstance (sAP_cons (SimE.p (sE_ix (sP_var (pv 0)) (SimE.p sE_int))) (sAP_cons (SimE.p (sE_ty (t := .str) rfl T.z_str boot_str)) sAP_nil)))))))) (ss_one (s_ret sE_bl)) ss_nil)
    (ss_cons (s_if (sT_cmp (op_eqA hr.h64) o2_eq (SimE.p (sE_ix (sP_var (pv 0)) (SimE.p sE_int))) (SimE.p sE_str) (nomark _)) (ss_one (s_ret (sE_and (sE_cmp (op_eqA hr.h64) o2_eq (SimE.p (sE_callB call_len oA_len rfl T.z_len boot_len (sAP_cons (sP_var (pv 0)) sAP_nil))) (SimE.p sE_int) (nomark _)) (sE_one (sE_call G_is_word hr rfl T.m_is_word T.F_is_word.kp T.b_is_word (sA_cons (sE_ix (sP_var (pv 0)) (SimE.p sE_int)) sA_nil)))))) ss_nil)
    (ss_cons (s_if (sT_cmp (op_eqA hr.h64) o2_eq (SimE.p (sE_ix (sP_var (pv 0)) (SimE.p sE_int))) (SimE.p sE_str) (nomark _)) (ss_one (s_ret (sE_and (sE_cmp (op_eqA hr.h64) o2_eq (SimE.p (sE_callB call_len oA_len rfl T.z_len boot_len (sAP_cons (sP_var (pv 0)) sAP_nil))) (SimE.p sE_int) (nomark _)) (sE_one (sE_call G_is_sum_within hr rfl T.m_is_sum_within T.F_is_sum_within.kp T.b_is_sum_within (sA_cons (sE_ix (sP_var (pv 0)) (SimE.p sE_int)) (sA_cons (sE_op op_sub o2_sub (sP_var (pv 1)) (SimE.p sE_int)) sA_nil))))))) ss_nil)
    (ss_cons (s_if (PW.pt (sW_or (sT_cmp (op_notInA hr.h65) o2_notIn (SimE.p (sE_ix (sP_var (pv 0)) (SimE.p sE_int))) (SimE.p (T.c_TWO_PARTS.e rfl)) rfl) (sW_or1 (sT_cmp (op_neA hr.h64) o2_ne (SimE.p (sE_callB call_len oA_len rfl T.z_len boot_len (sAP_cons (sP_var (pv 0)) sAP_nil))) (SimE.p sE_int) (nomark _))))) (ss_one (s_ret sE_bl)) ss_nil)
    (ss_one (s_ret (sE_and (sE_call G_is_sum_within hr rfl T.m_is_sum_within T.F_is_sum_within.kp T.b_is_sum_within (sA_cons (sE_ix (sP_var (pv 0)) (SimE.p sE_int)) (sA_cons (sE_op op_sub o2_sub (sP_var (pv 1)) (SimE.p sE_int)) sA_nil))) (sE_one (sE_call G_is_sum_within hr rfl T.m_is_sum_within T.F_is_sum_within.kp T.b_is_sum_within (sA_cons (sE_ix (sP_var (pv 0)) (SimE.p sE_int)) (sA_cons (sE_op op_sub o2_sub (sP_var (pv 1)) (SimE.p sE_int)) sA_nil)))))))))))))) h
theorem ok_is_sum {S_is_sum_within : FSpec} {sp : FSpec} (T : Txt K mg) (G_is_sum_within : FnOk P w K mg base CX0 k T.a_is_sum_within T.f_is_sum_within ["thing", "deep"] (FS K mg 2 S_is_sum_within))
    (h : ∀ args et R, sp args et R → Sq.r_is_sum S_is_sum_within (env0 ["thing"] args) et (retK R)) :
    FnOk P w K mg base CX0 (k + 1) T.a_is_sum T.f_is_sum ["thing"] (FS K mg 1 sp) :=
  have nd := sc_is_sum.nd
  fn_ok T.F_is_sum sc_is_sum (fun cdv A outer s H E hr => (ss_one (s_ret (sE_call G_is_sum_within hr rfl T.m_is_sum_within T.F_is_sum_within.kp T.b_is_sum_within (sA_cons (sE_var (pv 0)) (sA_cons (T.c_MOST_DEEP.e rfl) sA_nil)))))) h
theorem ok_parts_of {sp : FSpec} (T : Txt K mg) 
    (h : ∀ args et R, sp args et R → Wb.r_parts_of  (env0 ["told"] args) et (retK R)) :
    FnOk P w K mg base CX0 (k + 1) T.a_parts_of T.f_parts_of ["told"] (FS K mg 1 sp) :=
  have nd := sc_parts_of.nd
  fn_ok T.F_parts_of sc_parts_of (fun cdv A outer s H E hr => (ss_cons (s_if (PW.pt (sW_or (sT_not (sT_val (sE_callB call_isi oA_isi rfl T.z_isinstance boot_isinstance (sAP_cons (sP_var (pv 0)) (sAP_cons (SimE.p (sE_ty (t := .tup) rfl T.z_tuple boot_tuple)) sAP_nil))))) (sW_or1 (sT_cmp (op_eqA hr.h64) o2_eq (SimE.p (sE_ix (sP_var (pv 0)) (SimE.p sE_int))) (SimE.p sE_str) (nomark _))))) (ss_one (s_ret (sE_tup sA_nil))) ss_nil)
    (ss_one (s_ret (sE_slA (sP_var (pv 0)) (sO_some sE_int) sO_none))))) h
theorem ok_words_in {S_parts_of : FSpec} {S_words_in : FSpec} {sp : FSpec} (T : Txt K mg) (G_parts_of : FnOk P w K mg base CX0 k T.a_parts_of T.f_parts_of ["told"] (FS K mg 1 S_parts_of)) (G_words_in : FnOk P w K mg base CX0 k T.a_words_in T.f_words_in ["told"] (FS K mg 1 S_words_in))
    (h : ∀ args et R, sp args et R → Wb.r_words_in S_parts_of S_words_in (env0 ["told", "found", "part"] args) et (retK R)) :
    FnOk P w K mg base CX0 (k + 1) T.a_words_in T.f_words_in ["told"] (FS K mg 1 sp) :=
  have nd := sc_words_in.nd
  fn_ok T.F_words_in sc_words_in (fun cdv A outer s H E hr => (ss_cons (s_if (sT_val (sE_callB call_isi oA_isi rfl T.z_isinstance boot_isinstance (sAP_cons (sP_var (pv 0)) (sAP_cons (SimE.p (sE_ty (t := .str) rfl T.z_str boot_str)) sAP_nil)))) (ss_one (s_ret (SimN.e (sN_lst (sA_cons (sE_var (pv 0)) sA_nil))))) ss_nil)
    (ss_cons (s_setN (i := 1) nd rfl (by first | exact Or.inl rfl | exact Or.inr rfl) (sN_lst sA_nil))
    (ss_cons (s_for (by first | exact PassesOwn.never | exact passes_def) rfl (sI_any (sE_call G_parts_of hr rfl T.m_parts_of T.F_parts_of.kp T.b_parts_of (sA_cons (sE_var (pv 0)) sA_nil))) (pg_name (i := 2) nd rfl (by first | exact Or.inl rfl | exact Or.inr rfl)) (g_name 2) (ss_one (s_exprX (sX_mut PySem.F.slot_list_extend PySem.F.type_list_extend mt_extend mo_extend (pv 1) (sA_cons (sE_call G_words_in hr rfl T.m_words_in T.F_words_in.kp T.b_words_in (sA_cons (sE_var (pv 2)) sA_nil)) sA_nil) (fun h1 h2 => pe_bm PySem.F.plainAttrs_list PySem.F.slot_list_extend PySem.F.type_list_extend mt_extend h1 h2)))))
    (ss_one (s_frz [1] (s_ret (sE_var (pv 1))))))))) h
theorem ok_bells_in {S_parts_of : FSpec} {S_bells_in : FSpec} {sp : FSpec} (T : Txt K mg) (G_parts_of : FnOk P w K mg base CX0 k T.a_parts_of T.f_parts_of ["told"] (FS K mg 1 S_parts_of)) (G_bells_in : FnOk P w K mg base CX0 k T.a_bells_in T.f_bells_in ["told"] (FS K mg 1 S_bells_in))
    (h : ∀ args et R, sp args et R → Wb.r_bells_in S_parts_of S_bells_in (env0 ["told", "found", "part"] args) et (retK R)) :
    FnOk P w K mg base CX0 (k + 1) T.a_bells_in T.f_bells_in ["told"] (FS K mg 1 sp) :=
  have nd := sc_bells_in.nd
  fn_ok T.F_bells_in sc_bells_in (fun cdv A outer s H E hr => (ss_cons (s_if (PW.pt (sW_and (sT_val (sE_callB call_isi oA_isi rfl T.z_isinstance boot_isinstance (sAP_cons (sP_var (pv 0)) (sAP_cons (SimE.p (sE_ty (t := .tup) rfl T.z_tuple boot_tuple)) sAP_nil)))) (sW_and1 (sT_cmp (op_eqA hr.h64) o2_eq (SimE.p (sE_ix (sP_var (pv 0)) (SimE.p sE_int))) (SimE.p sE_str) (nomark _))))) (ss_one (s_ret (SimN.e (sN_lst (sA_cons (sE_ix (sP_var (pv 0)) (SimE.p sE_int)) sA_nil))))) ss_nil)
    (ss_cons (s_setN (i := 1) nd rfl (by first | exact Or.inl rfl | exact Or.inr rfl) (sN_lst sA_nil))
    (ss_cons (s_for (by first | exact PassesOwn.never | exact passes_def) rfl (sI_any (sE_call G_parts_of hr rfl T.m_parts_of T.F_parts_of.kp T.b_parts_of (sA_cons (sE_var (pv 0)) sA_nil))) (pg_name (i := 2) nd rfl (by first | exact Or.inl rfl | exact Or.inr rfl)) (g_name 2) (ss_one (s_exprX (sX_mut PySem.F.slot_list_extend PySem.F.type_list_extend mt_extend mo_extend (pv 1) (sA_cons (sE_call G_bells_in hr rfl T.m_bells_in T.F_bells_in.kp T.b_bells_in (sA_cons (sE_var (pv 2)) sA_nil)) sA_nil) (fun h1 h2 => pe_bm PySem.F.plainAttrs_list PySem.F.slot_list_extend PySem.F.type_list_extend mt_extend h1 h2)))))
    (ss_one (s_frz [1] (s_ret (sE_var (pv 1))))))))) h
theorem ok_words_of {S_words_in : FSpec} {sp : FSpec} (T : Txt K mg) (G_words_in : FnOk P w K mg base CX0 k T.a_words_in T.f_words_in ["told"] (FS K mg 1 S_words_in))
    (h : ∀ args et R, sp args et R → Wb.r_words_of S_words_in (env0 ["told"] args) et (retK R)) :
    FnOk P w K mg base CX0 (k + 1) T.a_words_of T.f_words_of ["told"] (FS K mg 1 sp) :=
  have nd := sc_words_of.nd
  fn_ok T.F_words_of sc_words_of (fun cdv A outer s H E hr => (ss_one (s_ret (sE_callTy call_tupleX oA_tuple rfl T.z_tuple boot_tuple (sAP_cons (SimN.p (sN_sortedSet rfl T.z_sorted rfl T.z_set (SimE.p (sE_call G_words_in hr rfl T.m_words_in T.F_words_in.kp T.b_words_in (sA_cons (sE_var (pv 0)) sA_nil))))) sAP_nil))))) h
theorem ok_bells_of {S_bells_in : FSpec} {sp : FSpec} (T : Txt K mg) (G_bells_in : FnOk P w K mg base CX0 k T.a_bells_in T.f_bells_in ["told"] (FS K mg 1 S_bells_in))
    (h : ∀ args et R, sp args et R → Wb.r_bells_of S_bells_in (env0 ["told"] args) et (retK R)) :
    FnOk P w K mg base CX0 (k + 1) T.a_bells_of T.f_bells_of ["told"] (FS K mg 1 sp) :=
  have nd := sc_bells_of.nd
  fn_ok T.F_bells_of sc_bells_of (fun cdv A outer s H E hr => (ss_one (s_ret (sE_callTy call_tupleX oA_tuple rfl T.z_tuple boot_tuple (sAP_cons (SimN.p (sN_sortedSet rfl T.z_sorted rfl T.z_set (SimE.p (sE_call G_bells_in hr rfl T.m_bells_in T.F_bells_in.kp T.b_bells_in (sA_cons (sE_var (pv 0)) sA_nil))))) sAP_nil))))) h
theorem ok_firsts {sp : FSpec} (T : Txt K mg) 
    (h : ∀ args et R, sp args et R → Iw.r_firsts  (env0 ["pairs", "pair"] args) et (retK R)) :
    FnOk P w K mg base CX0 (k + 1) T.a_firsts T.f_firsts ["pairs"] (FS K mg 1 sp) :=
  have nd := sc_firsts.nd
  fn_ok T.F_firsts sc_firsts (fun cdv A outer s H E hr => (ss_one (s_ret (SimN.e (sN_lc (own := [("pair", 1)]) (g_name 1) (by simp) rfl nd (sI_any (sE_var (pv 0))) (blkOk_by (N := ["pairs", "pair"]) (sc := defScope s_firsts) (by decide +kernel)) (fun _ _ _ _ _ => (pg_name (i := 1) nd rfl (by first | exact Or.inl rfl | exact Or.inr rfl))) (fun _ _ _ _ _ => pts_yes) (fun _ _ _ _ _ => (sE_ix (sP_var (pv 1)) (SimE.p sE_int)))))))) h
theorem ok_is_tuple_of {sp : FSpec} (T : Txt K mg) 
    (h : ∀ args et R, sp args et R → Iw.r_is_tuple_of  (env0 ["thing", "many"] args) et (retK R)) :
    FnOk P w K mg base CX0 (k + 1) T.a_is_tuple_of T.f_is_tuple_of ["thing", "many"] (FS K mg 2 sp) :=
  have nd := sc_is_tuple_of.nd
  fn_ok T.F_is_tuple_of sc_is_tuple_of (fun cdv A outer s H E hr => (ss_one (s_ret (sE_and (sE_callB call_isi oA_isi rfl T.z_isinstance boot_isinstance (sAP_cons (sP_var (pv 0)) (sAP_cons (SimE.p (sE_ty (t := .tup) rfl T.z_tuple boot_tuple)) sAP_nil))) (sE_one (sE_cmp (op_eqA hr.h64) o2_eq (SimE.p (sE_callB call_len oA_len rfl T.z_len boot_len (sAP_cons (sP_var (pv 0)) sAP_nil))) (sP_var (pv 1)) (nomark _))))))) h
theorem ok_is_rising {sp : FSpec} (T : Txt K mg) 
    (h : ∀ args et R, sp args et R → Iw.r_is_rising  (env0 ["words", "one", "other"] args) et (retK R)) :
    FnOk P w K mg base CX0 (k + 1) T.a_is_rising T.f_is_rising ["words"] (FS K mg 1 sp) :=
  have nd := sc_is_rising.nd
  fn_ok T.F_is_rising sc_is_rising (fun cdv A outer s H E hr => (ss_one (s_ret (sE_callB (cr_all rfl) oA_all rfl T.z_all boot_all (sAP_cons (SimN.p (sN_lc (own := [("one", 1), ("other", 2)]) (g_tup rfl (g_cons (g_name 1) (g_cons (g_name 2) g_nil))) (by simp) rfl nd (sI_zip rfl T.z_zip (sA_cons (sE_var (pv 0)) (sA_cons (sE_slA (sP_var (pv 0)) (sO_some sE_int) sO_none) sA_nil))) (blkOk_by (N := ["words", "one", "other"]) (sc := defScope s_is_rising) (by decide +kernel)) (fun _ _ _ _ _ => (pg_tup rfl (pgs_cons (pg_name (i := 1) nd rfl (by first | exact Or.inl rfl | exact Or.inr rfl)) (pgs_cons (pg_name (i := 2) nd rfl (by first | exact Or.inl rfl | exact Or.inr rfl)) pgs_nil)))) (fun _ _ _ _ _ => pts_yes) (fun _ _ _ _ _ => (sE_cmp op_ltA o2_lt (sP_var (pv 1)) (sP_var (pv 2)) (nomark _))))) sAP_nil))))) h
theorem ok_is_place {sp : FSpec} (T : Txt K mg) 
    (h : ∀ args et R, sp args et R → Iw.r_is_place  (env0 ["thing", "many"] args) et (retK R)) :
    FnOk P w K mg base CX0 (k + 1) T.a_is_place T.f_is_place ["thing", "many"] (FS K mg 2 sp) :=
  have nd := sc_is_place.nd
  fn_ok T.F_is_place sc_is_place (fun cdv A outer s H E hr => (ss_one (s_ret (sE_and (sE_callB call_isi oA_isi rfl T.z_isinstance boot_isinstance (sAP_cons (sP_var (pv 0)) (sAP_cons (SimE.p (sE_ty (t := .int) rfl T.z_int boot_int)) sAP_nil))) (sE_and (sE_not (sE_callB call_isi oA_isi rfl T.z_isinstance boot_isinstance (sAP_cons (sP_var (pv 0)) (sAP_cons (SimE.p (sE_ty (t := .bool) rfl T.z_bool boot_bool)) sAP_nil)))) (sE_one (sE_chain op_le op_le o2_le o2_le (SimE.p sE_int) (sP_var (pv 0)) (sP_var (pv 1))))))))) h
theorem ok_is_part {S_is_word : FSpec} {S_is_sum : FSpec} {S_is_place : FSpec} {sp : FSpec} (T : Txt K mg) (G_is_word : FnOk P w K mg base CX0 k T.a_is_word T.f_is_word ["thing"] (FS K mg 1 S_is_word)) (G_is_sum : FnOk P w K mg base CX0 k T.a_is_sum T.f_is_sum ["thing"] (FS K mg 1 S_is_sum)) (G_is_place : FnOk P w K mg base CX0 k T.a_is_place T.f_is_place ["thing", "many"] (FS K mg 2 S_is_place))
    (h : ∀ args et R, sp args et R → Iw.r_is_part S_is_word S_is_sum S_is_place (env0 ["thing", "form", "many"] args) et (retK R)) :
    FnOk P w K mg base CX0 (k + 1) T.a_is_part T.f_is_part ["thing", "form", "many"] (FS K mg 3 sp) :=
  have nd := sc_is_part.nd
  fn_ok T.F_is_part sc_is_part (fun cdv A outer s H E hr => (ss_cons (s_if (sT_cmp (op_eqA hr.h64) o2_eq (sP_var (pv 1)) (SimE.p sE_str) (nomark _)) (ss_one (s_ret (sE_call G_is_word hr rfl T.m_is_word T.F_is_word.kp T.b_is_word (sA_cons (sE_var (pv 0)) sA_nil)))) ss_nil)
    (ss_cons (s_if (sT_cmp (op_eqA hr.h64) o2_eq (sP_var (pv 1)) (SimE.p sE_str) (nomark _)) (ss_one (s_ret (sE_call G_is_sum hr rfl T.m_is_sum T.F_is_sum.kp T.b_is_sum (sA_cons (sE_var (pv 0)) sA_nil)))) ss_nil)
    (ss_cons (s_if (sT_cmp (op_eqA hr.h64) o2_eq (sP_var (pv 1)) (SimE.p sE_str) (nomark _)) (ss_one (s_ret (sE_call G_is_place hr rfl T.m_is_place T.F_is_place.kp T.b_is_place (sA_cons (sE_var (pv 0)) (sA_cons (sE_var (pv 2)) sA_nil))))) ss_nil)
    (ss_one (s_ret (sE_or (sE_cmp op_isA o2_is (sP_var (pv 0)) (SimE.p sE_non) (nomark _)) (sE_one (sE_call G_is_word hr rfl T.m_is_word T.F_is_word.kp T.b_is_word (sA_cons (sE_var (pv 0)) sA_nil)))))))))) h
theorem ok_is_row {S_is_part : FSpec} {sp : FSpec} (T : Txt K mg) (hw : T.pr = w.params) (G_is_part : FnOk P w K mg base CX0 k T.a_is_part T.f_is_part ["thing", "form", "many"] (FS K mg 3 S_is_part))
    (h : ∀ args et R, sp args et R → Iw.r_is_row S_is_part (env0 ["thing", "many", "forms", "part", "form"] args) et (retK R)) :
    FnOk P w K mg base CX0 (k + 1) T.a_is_row T.f_is_row ["thing", "many"] (FS K mg 2 sp) :=
  have nd := sc_is_row.nd
  fn_ok T.F_is_row sc_is_row (fun cdv A outer s H E hr => (ss_cons (s_if (PW.pt (sW_or (sT_not (sT_val (sE_callB call_isi oA_isi rfl T.z_isinstance boot_isinstance (sAP_cons (sP_var (pv 0)) (sAP_cons (SimE.p (sE_ty (t := .tup) rfl T.z_tuple boot_tuple)) sAP_nil))))) (sW_or (sT_cmp (op_eqA hr.h64) o2_eq (SimE.p (sE_callB call_len oA_len rfl T.z_len boot_len (sAP_cons (sP_var (pv 0)) sAP_nil))) (SimE.p sE_int) (nomark _)) (sW_or (sT_not (sT_val (sE_callB call_isi oA_isi rfl T.z_isinstance boot_isinstance (sAP_cons (SimE.p (sE_ix (sP_var (pv 0)) (SimE.p sE_int))) (sAP_cons (SimE.p (sE_ty (t := .str) rfl T.z_str boot_str)) sAP_nil))))) (sW_or1 (sT_notInTab (T.t_FORMS hw) rfl (SimE.p (sE_ix (sP_var (pv 0)) (SimE.p sE_int))))))))) (ss_one (s_ret sE_bl)) ss_nil)
    (ss_cons (s_set (i := 2) nd rfl (by first | exact Or.inl rfl | exact Or.inr rfl) (sE_tabT (T.t_FORMS hw) rfl (sE_ix (sP_var (pv 0)) (SimE.p sE_int))))
    (ss_cons (s_if (sT_cmp (op_neA hr.h64) o2_ne (SimE.p (sE_callB call_len oA_len rfl T.z_len boot_len (sAP_cons (sP_var (pv 0)) sAP_nil))) (SimE.p (sE_op op_addA o2_add (SimE.p sE_int) (SimE.p (sE_callB call_len oA_len rfl T.z_len boot_len (sAP_cons (sP_var (pv 2)) sAP_nil))))) (nomark _)) (ss_one (s_ret sE_bl)) ss_nil)
    (ss_one (s_ret (sE_callB (cr_all rfl) oA_all rfl T.z_all boot_all (sAP_cons (SimN.p (sN_lc (own := [("part", 3), ("form", 4)]) (g_tup rfl (g_cons (g_name 3) (g_cons (g_name 4) g_nil))) (by simp) rfl nd (sI_zip rfl T.z_zip (sA_cons (sE_slA (sP_var (pv 0)) (sO_some sE_int) sO_none) (sA_cons (sE_var (pv 2)) sA_nil))) (blkOk_by (N := ["thing", "many", "forms", "part", "form"]) (sc := defScope s_is_row) (by decide +kernel)) (fun _ _ _ _ _ => (pg_tup rfl (pgs_cons (pg_name (i := 3) nd rfl (by first | exact Or.inl rfl | exact Or.inr rfl)) (pgs_cons (pg_name (i := 4) nd rfl (by first | exact Or.inl rfl | exact Or.inr rfl)) pgs_nil)))) (fun _ _ _ _ _ => pts_yes) (fun _ _ _ _ _ => (sE_call G_is_part hr rfl T.m_is_part T.F_is_part.kp T.b_is_part (sA_cons (sE_var (pv 3)) (sA_cons (sE_var (pv 4)) (sA_cons (sE_var (pv 1)) sA_nil))))))) sAP_nil)))))))) h
theorem ok_is_program {S_is_row : FSpec} {sp : FSpec} (T : Txt K mg) (G_is_row : FnOk P w K mg base CX0 k T.a_is_row T.f_is_row ["thing", "many"] (FS K mg 2 S_is_row))
    (h : ∀ args et R, sp args et R → Iw.r_is_program S_is_row (env0 ["thing", "row"] args) et (retK R)) :
    FnOk P w K mg base CX0 (k + 1) T.a_is_program T.f_is_program ["thing"] (FS K mg 1 sp) :=
  have nd := sc_is_program.nd
  fn_ok T.F_is_program sc_is_program (fun cdv A outer s H E hr => (ss_cons (s_if (PW.pt (sW_or (sT_not (sT_val (sE_callB call_isi oA_isi rfl T.z_isinstance boot_isinstance (sAP_cons (sP_var (pv 0)) (sAP_cons (SimE.p (sE_ty (t := .tup) rfl T.z_tuple boot_tuple)) sAP_nil))))) (sW_or1 (sT_not (sT_chain op_le op_le o2_le o2_le (SimE.p sE_int) (SimE.p (sE_callB call_len oA_len rfl T.z_len boot_len (sAP_cons (sP_var (pv 0)) sAP_nil))) (SimE.p (T.c_MOST_ROWS.e rfl)) (fun h1 h2 h3 => pt_chain op_le op_le h1 h2 h3)))))) (ss_one (s_ret sE_bl)) ss_nil)
    (ss_one (s_ret (sE_callB (cr_all rfl) oA_all rfl T.z_all boot_all (sAP_cons (SimN.p (sN_lc (own := [("row", 1)]) (g_name 1) (by simp) rfl nd (sI_any (sE_var (pv 0))) (blkOk_by (N := ["thing", "row"]) (sc := defScope s_is_program) (by decide +kernel)) (fun _ _ _ _ _ => (pg_name (i := 1) nd rfl (by first | exact Or.inl rfl | exact Or.inr rfl))) (fun _ _ _ _ _ => pts_yes) (fun _ _ _ _ _ => (sE_call G_is_row hr rfl T.m_is_row T.F_is_row.kp T.b_is_row (sA_cons (sE_var (pv 1)) (sA_cons (sE_callB call_len oA_len rfl T.z_len boot_len (sAP_cons (sP_var (pv 0)) sAP_nil)) sA_nil)))))) sAP_nil)))))) h
theorem ok_is_pass {S_is_value : FSpec} {S_is_word : FSpec} {S_is_tuple_of : FSpec} {sp : FSpec} (T : Txt K mg) (G_is_value : FnOk P w K mg base CX0 k T.a_is_value T.f_is_value ["thing"] (FS K mg 1 S_is_value)) (G_is_word : FnOk P w K mg base CX0 k T.a_is_word T.f_is_word ["thing"] (FS K mg 1 S_is_word)) (G_is_tuple_of : FnOk P w K mg base CX0 k T.a_is_tuple_of T.f_is_tuple_of ["thing", "many"] (FS K mg 2 S_is_tuple_of))
    (h : ∀ args et R, sp args et R → Iw.r_is_pass S_is_value S_is_word S_is_tuple_of (env0 ["thing"] args) et (retK R)) :
    FnOk P w K mg base CX0 (k + 1) T.a_is_pass T.f_is_pass ["thing"] (FS K mg 1 sp) :=
  have nd := sc_is_pass.nd
  fn_ok T.F_is_pass sc_is_pass (fun cdv A outer s H E hr => (ss_one (s_ret (sE_and (sE_call G_is_tuple_of hr rfl T.m_is_tuple_of T.F_is_tuple_of.kp T.b_is_tuple_of (sA_cons (sE_var (pv 0)) (sA_cons sE_int sA_nil))) (sE_and (sE_call G_is_word hr rfl T.m_is_word T.F_is_word.kp T.b_is_word (sA_cons (sE_ix (sP_var (pv 0)) (SimE.p sE_int)) sA_nil)) (sE_one (sE_call G_is_value hr rfl T.m_is_value T.F_is_value.kp T.b_is_value (sA_cons (sE_ix (sP_var (pv 0)) (SimE.p sE_int)) sA_nil)))))))) h
theorem ok_are_passes {S_is_pass : FSpec} {S_is_rising : FSpec} {S_firsts : FSpec} {sp : FSpec} (T : Txt K mg) (G_is_pass : FnOk P w K mg base CX0 k T.a_is_pass T.f_is_pass ["thing"] (FS K mg 1 S_is_pass)) (G_is_rising : FnOk P w K mg base CX0 k T.a_is_rising T.f_is_rising ["words"] (FS K mg 1 S_is_rising)) (G_firsts : FnOk P w K mg base CX0 k T.a_firsts T.f_firsts ["pairs"] (FS K mg 1 S_firsts))
    (h : ∀ args et R, sp args et R → Iw.r_are_passes S_is_pass S_is_rising S_firsts (env0 ["thing", "most", "one"] args) et (retK R)) :
    FnOk P w K mg base CX0 (k + 1) T.a_are_passes T.f_are_passes ["thing", "most"] (FS K mg 2 sp) :=
  have nd := sc_are_passes.nd
  fn_ok T.F_are_passes sc_are_passes (fun cdv A outer s H E hr => (ss_cons (s_if (PW.pt (sW_or (sT_not (sT_val (sE_callB call_isi oA_isi rfl T.z_isinstance boot_isinstance (sAP_cons (sP_var (pv 0)) (sAP_cons (SimE.p (sE_ty (t := .tup) rfl T.z_tuple boot_tuple)) sAP_nil))))) (sW_or (sT_cmp op_gt o2_gt (SimE.p (sE_callB call_len oA_len rfl T.z_len boot_len (sAP_cons (sP_var (pv 0)) sAP_nil))) (sP_var (pv 1)) (nomark _)) (sW_or1 (sT_not (sT_val (sE_callB (cr_all rfl) oA_all rfl T.z_all boot_all (sAP_cons (SimN.p (sN_lc (own := [("one", 2)]) (g_name 2) (by simp) rfl nd (sI_any (sE_var (pv 0))) (blkOk_by (N := ["thing", "most", "one"]) (sc := defScope s_are_passes) (by decide +kernel)) (fun _ _ _ _ _ => (pg_name (i := 2) nd rfl (by first | exact Or.inl rfl | exact Or.inr rfl))) (fun _ _ _ _ _ => pts_yes) (fun _ _ _ _ _ => (sE_call G_is_pass hr rfl T.m_is_pass T.F_is_pass.kp T.b_is_pass (sA_cons (sE_var (pv 2)) sA_nil))))) sAP_nil)))))))) (ss_one (s_ret sE_bl)) ss_nil)
    (ss_one (s_ret (sE_call G_is_rising hr rfl T.m_is_rising T.F_is_rising.kp T.b_is_rising (sA_cons (sE_call G_firsts hr rfl T.m_firsts T.F_firsts.kp T.b_firsts (sA_cons (sE_var (pv 0)) sA_nil)) sA_nil)))))) h
theorem ok_are_things {S_firsts : FSpec} {S_are_passes : FSpec} {sp : FSpec} (T : Txt K mg) (G_firsts : FnOk P w K mg base CX0 k T.a_firsts T.f_firsts ["pairs"] (FS K mg 1 S_firsts)) (G_are_passes : FnOk P w K mg base CX0 k T.a_are_passes T.f_are_passes ["thing", "most"] (FS K mg 2 S_are_passes))
    (h : ∀ args et R, sp args et R → Iw.r_are_things S_firsts S_are_passes (env0 ["thing", "most"] args) et (retK R)) :
    FnOk P w K mg base CX0 (k + 1) T.a_are_things T.f_are_things ["thing", "most"] (FS K mg 2 sp) :=
  have nd := sc_are_things.nd
  fn_ok T.F_are_things sc_are_things (fun cdv A outer s H E hr => (ss_one (s_ret (sE_and (sE_call G_are_passes hr rfl T.m_are_passes T.F_are_passes.kp T.b_are_passes (sA_cons (sE_var (pv 0)) (sA_cons (sE_var (pv 1)) sA_nil))) (sE_one (sE_cmp (op_notInA hr.h65) o2_notIn (SimE.p (T.c_GIVEN.e rfl)) (SimE.p (sE_call G_firsts hr rfl T.m_firsts T.F_firsts.kp T.b_firsts (sA_cons (sE_var (pv 0)) sA_nil))) rfl)))))) h
theorem ok_is_bell {S_is_word : FSpec} {S_is_tuple_of : FSpec} {sp : FSpec} (T : Txt K mg) (G_is_word : FnOk P w K mg base CX0 k T.a_is_word T.f_is_word ["thing"] (FS K mg 1 S_is_word)) (G_is_tuple_of : FnOk P w K mg base CX0 k T.a_is_tuple_of T.f_is_tuple_of ["thing", "many"] (FS K mg 2 S_is_tuple_of))
    (h : ∀ args et R, sp args et R → Iw.r_is_bell S_is_word S_is_tuple_of (env0 ["thing"] args) et (retK R)) :
    FnOk P w K mg base CX0 (k + 1) T.a_is_bell T.f_is_bell ["thing"] (FS K mg 1 sp) :=
  have nd := sc_is_bell.nd
  fn_ok T.F_is_bell sc_is_bell (fun cdv A outer s H E hr => (ss_one (s_ret (sE_and (sE_call G_is_tuple_of hr rfl T.m_is_tuple_of T.F_is_tuple_of.kp T.b_is_tuple_of (sA_cons (sE_var (pv 0)) (sA_cons sE_int sA_nil))) (sE_and (sE_call G_is_word hr rfl T.m_is_word T.F_is_word.kp T.b_is_word (sA_cons (sE_ix (sP_var (pv 0)) (SimE.p sE_int)) sA_nil)) (sE_and (sE_callB call_isi oA_isi rfl T.z_isinstance boot_isinstance (sAP_cons (SimE.p (sE_ix (sP_var (pv 0)) (SimE.p sE_int))) (sAP_cons (SimE.p (sE_ty (t := .str) rfl T.z_str boot_str)) sAP_nil))) (sE_one (sE_cmp (op_inA hr.h65) o2_in (SimE.p (sE_ix (sP_var (pv 0)) (SimE.p sE_int))) (SimE.p (T.c_SORTS.e rfl)) rfl)))))))) h
theorem ok_is_deed {S_is_program : FSpec} {S_is_word : FSpec} {S_is_tuple_of : FSpec} {sp : FSpec} (T : Txt K mg) (G_is_program : FnOk P w K mg base CX0 k T.a_is_program T.f_is_program ["thing"] (FS K mg 1 S_is_program)) (G_is_word : FnOk P w K mg base CX0 k T.a_is_word T.f_is_word ["thing"] (FS K mg 1 S_is_word)) (G_is_tuple_of : FnOk P w K mg base CX0 k T.a_is_tuple_of T.f_is_tuple_of ["thing", "many"] (FS K mg 2 S_is_tuple_of))
    (h : ∀ args et R, sp args et R → Iw.r_is_deed S_is_program S_is_word S_is_tuple_of (env0 ["thing"] args) et (retK R)) :
    FnOk P w K mg base CX0 (k + 1) T.a_is_deed T.f_is_deed ["thing"] (FS K mg 1 sp) :=
  have nd := sc_is_deed.nd
  fn_ok T.F_is_deed sc_is_deed (fun cdv A outer s H E hr => (ss_one (s_ret (sE_and (sE_call G_is_tuple_of hr rfl T.m_is_tuple_of T.F_is_tuple_of.kp T.b_is_tuple_of (sA_cons (sE_var (pv 0)) (sA_cons sE_int sA_nil))) (sE_and (sE_call G_is_word hr rfl T.m_is_word T.F_is_word.kp T.b_is_word (sA_cons (sE_ix (sP_var (pv 0)) (SimE.p sE_int)) sA_nil)) (sE_one (sE_call G_is_program hr rfl T.m_is_program T.F_is_program.kp T.b_is_program (sA_cons (sE_ix (sP_var (pv 0)) (SimE.p sE_int)) sA_nil)))))))) h
theorem ok_is_room {S_is_word : FSpec} {S_is_tuple_of : FSpec} {S_are_things : FSpec} {S_is_deed : FSpec} {S_is_bell : FSpec} {S_is_rising : FSpec} {S_firsts : FSpec} {sp : FSpec} (T : Txt K mg) (G_is_word : FnOk P w K mg base CX0 k T.a_is_word T.f_is_word ["thing"] (FS K mg 1 S_is_word)) (G_is_tuple_of : FnOk P w K mg base CX0 k T.a_is_tuple_of T.f_is_tuple_of ["thing", "many"] (FS K mg 2 S_is_tuple_of)) (G_are_things : FnOk P w K mg base CX0 k T.a_are_things T.f_are_things ["thing", "most"] (FS K mg 2 S_are_things)) (G_is_deed : FnOk P w K mg base CX0 k T.a_is_deed T.f_is_deed ["thing"] (FS K mg 1 S_is_deed)) (G_is_bell : FnOk P w K mg base CX0 k T.a_is_bell T.f_is_bell ["thing"] (FS K mg 1 S_is_bell)) (G_is_rising : FnOk P w K mg base CX0 k T.a_is_rising T.f_is_rising ["words"] (FS K mg 1 S_is_rising)) (G_firsts : FnOk P w K mg base CX0 k T.a_firsts T.f_firsts ["pairs"] (FS K mg 1 S_firsts))
    (h : ∀ args et R, sp args et R → Iw.r_is_room S_is_word S_is_tuple_of S_are_things S_is_deed S_is_bell S_is_rising S_firsts (env0 ["thing", "name", "manner", "things", "bells", "deeds", "one"] args) et (retK R)) :
    FnOk P w K mg base CX0 (k + 1) T.a_is_room T.f_is_room ["thing"] (FS K mg 1 sp) :=
  have nd := sc_is_room.nd
  fn_ok T.F_is_room sc_is_room (fun cdv A outer s H E hr => (ss_cons (s_if (PW.pt (sW_or (sT_not (sT_val (sE_call G_is_tuple_of hr rfl T.m_is_tuple_of T.F_is_tuple_of.kp T.b_is_tuple_of (sA_cons (sE_var (pv 0)) (sA_cons sE_int sA_nil))))) (sW_or (sT_not (sT_val (sE_call G_is_word hr rfl T.m_is_word T.F_is_word.kp T.b_is_word (sA_cons (sE_ix (sP_var (pv 0)) (SimE.p sE_int)) sA_nil)))) (sW_or (sT_not (sT_val (sE_callB call_isi oA_isi rfl T.z_isinstance boot_isinstance (sAP_cons (SimE.p (sE_ix (sP_var (pv 0)) (SimE.p sE_int))) (sAP_cons (SimE.p (sE_ty (t := .str) rfl T.z_str boot_str)) sAP_nil))))) (sW_or1 (sT_cmp (op_notInA hr.h65) o2_notIn (SimE.p (sE_ix (sP_var (pv 0)) (SimE.p sE_int))) (SimE.p (T.c_MANNERS.e rfl)) rfl)))))) (ss_one (s_ret sE_bl)) ss_nil)
    (ss_cons (s_asg (sE_var (pv 0)) (pg_tup rfl (pgs_cons (pg_name (i := 1) nd rfl (by first | exact Or.inl rfl | exact Or.inr rfl)) (pgs_cons (pg_name (i := 2) nd rfl (by first | exact Or.inl rfl | exact Or.inr rfl)) (pgs_cons (pg_name (i := 3) nd rfl (by first | exact Or.inl rfl | exact Or.inr rfl)) (pgs_cons (pg_name (i := 4) nd rfl (by first | exact Or.inl rfl | exact Or.inr rfl)) (pgs_cons (pg_name (i := 5) nd rfl (by first | exact Or.inl rfl | exact Or.inr rfl)) pgs_nil)))))) (g_tup rfl (g_cons (g_name 1) (g_cons (g_name 2) (g_cons (g_name 3) (g_cons (g_name 4) (g_cons (g_name 5) g_nil)))))))
    (ss_cons (s_if (PW.pt (sW_or (sT_not (sT_val (sE_call G_are_things hr rfl T.m_are_things T.F_are_things.kp T.b_are_things (sA_cons (sE_var (pv 3)) (sA_cons (T.c_MOST_ROOM_THINGS.e rfl) sA_nil))))) (sW_or (sT_not (sT_val (sE_callB call_isi oA_isi rfl T.z_isinstance boot_isinstance (sAP_cons (sP_var (pv 4)) (sAP_cons (SimE.p (sE_ty (t := .tup) rfl T.z_tuple boot_tuple)) sAP_nil))))) (sW_or1 (sT_not (sT_val (sE_callB call_isi oA_isi rfl T.z_isinstance boot_isinstance (sAP_cons (sP_var (pv 5)) (sAP_cons (SimE.p (sE_ty (t := .tup) rfl T.z_tuple boot_tuple)) sAP_nil))))))))) (ss_one (s_ret sE_bl)) ss_nil)
    (ss_cons (s_if (PW.pt (sW_or (sT_cmp op_gt o2_gt (SimE.p (sE_callB call_len oA_len rfl T.z_len boot_len (sAP_cons (sP_var (pv 4)) sAP_nil))) (SimE.p (T.c_MOST_BELLS.e rfl)) (nomark _)) (sW_or1 (sT_not (sT_chain op_le op_le o2_le o2_le (SimE.p sE_int) (SimE.p (sE_callB call_len oA_len rfl T.z_len boot_len (sAP_cons (sP_var (pv 5)) sAP_nil))) (SimE.p (T.c_MOST_DEEDS.e rfl)) (fun h1 h2 h3 => pt_chain op_le op_le h1 h2 h3)))))) (ss_one (s_ret sE_bl)) ss_nil)
    (ss_cons (s_if (PW.pt (sW_or (sT_not (sT_val (sE_callB (cr_all rfl) oA_all rfl T.z_all boot_all (sAP_cons (SimN.p (sN_lc (own := [("one", 6)]) (g_name 6) (by simp) rfl nd (sI_any (sE_var (pv 4))) (blkOk_by (N := ["thing", "name", "manner", "things", "bells", "deeds", "one"]) (sc := defScope s_is_room) (by decide +kernel)) (fun _ _ _ _ _ => (pg_name (i := 6) nd rfl (by first | exact Or.inl rfl | exact Or.inr rfl))) (fun _ _ _ _ _ => pts_yes) (fun _ _ _ _ _ => (sE_call G_is_bell hr rfl T.m_is_bell T.F_is_bell.kp T.b_is_bell (sA_cons (sE_var (pv 6)) sA_nil))))) sAP_nil)))) (sW_or1 (sT_not (sT_val (sE_callB (cr_all rfl) oA_all rfl T.z_all boot_all (sAP_cons (SimN.p (sN_lc (own := [("one", 6)]) (g_name 6) (by simp) rfl nd (sI_any (sE_var (pv 5))) (blkOk_by (N := ["thing", "name", "manner", "things", "bells", "deeds", "one"]) (sc := defScope s_is_room) (by decide +kernel)) (fun _ _ _ _ _ => (pg_name (i := 6) nd rfl (by first | exact Or.inl rfl | exact Or.inr rfl))) (fun _ _ _ _ _ => pts_yes) (fun _ _ _ _ _ => (sE_call G_is_deed hr rfl T.m_is_deed T.F_is_deed.kp T.b_is_deed (sA_cons (sE_var (pv 6)) sA_nil))))) sAP_nil))))))) (ss_one (s_ret sE_bl)) ss_nil)
    (ss_one (s_ret (sE_and (sE_call G_is_rising hr rfl T.m_is_rising T.F_is_rising.kp T.b_is_rising (sA_cons (sE_call G_firsts hr rfl T.m_firsts T.F_firsts.kp T.b_firsts (sA_cons (sE_var (pv 4)) sA_nil)) sA_nil)) (sE_one (sE_call G_is_rising hr rfl T.m_is_rising T.F_is_rising.kp T.b_is_rising (sA_cons (sE_call G_firsts hr rfl T.m_firsts T.F_firsts.kp T.b_firsts (sA_cons (sE_var (pv 5)) sA_nil)) sA_nil)))))))))))) h
theorem ok_is_hand {S_is_program : FSpec} {S_are_things : FSpec} {S_is_tuple_of : FSpec} {sp : FSpec} (T : Txt K mg) (G_is_program : FnOk P w K mg base CX0 k T.a_is_program T.f_is_program ["thing"] (FS K mg 1 S_is_program)) (G_are_things : FnOk P w K mg base CX0 k T.a_are_things T.f_are_things ["thing", "most"] (FS K mg 2 S_are_things)) (G_is_tuple_of : FnOk P w K mg base CX0 k T.a_is_tuple_of T.f_is_tuple_of ["thing", "many"] (FS K mg 2 S_is_tuple_of))
    (h : ∀ args et R, sp args et R → Iw.r_is_hand S_is_program S_are_things S_is_tuple_of (env0 ["thing"] args) et (retK R)) :
    FnOk P w K mg base CX0 (k + 1) T.a_is_hand T.f_is_hand ["thing"] (FS K mg 1 sp) :=
  have nd := sc_is_hand.nd
  fn_ok T.F_is_hand sc_is_hand (fun cdv A outer s H E hr => (ss_one (s_ret (sE_and (sE_call G_is_tuple_of hr rfl T.m_is_tuple_of T.F_is_tuple_of.kp T.b_is_tuple_of (sA_cons (sE_var (pv 0)) (sA_cons sE_int sA_nil))) (sE_and (sE_call G_are_things hr rfl T.m_are_things T.F_are_things.kp T.b_are_things (sA_cons (sE_ix (sP_var (pv 0)) (SimE.p sE_int)) (sA_cons (T.c_MOST_OWN.e rfl) sA_nil))) (sE_one (sE_call G_is_program hr rfl T.m_is_program T.F_is_program.kp T.b_is_program (sA_cons (sE_ix (sP_var (pv 0)) (SimE.p sE_int)) sA_nil)))))))) h
theorem ok_is_formed {S_is_tuple_of : FSpec} {S_is_hand : FSpec} {S_is_room : FSpec} {S_are_things : FSpec} {S_are_passes : FSpec} {S_is_rising : FSpec} {S_firsts : FSpec} {sp : FSpec} (T : Txt K mg) (G_is_tuple_of : FnOk P w K mg base CX0 k T.a_is_tuple_of T.f_is_tuple_of ["thing", "many"] (FS K mg 2 S_is_tuple_of)) (G_is_hand : FnOk P w K mg base CX0 k T.a_is_hand T.f_is_hand ["thing"] (FS K mg 1 S_is_hand)) (G_is_room : FnOk P w K mg base CX0 k T.a_is_room T.f_is_room ["thing"] (FS K mg 1 S_is_room)) (G_are_things : FnOk P w K mg base CX0 k T.a_are_things T.f_are_things ["thing", "most"] (FS K mg 2 S_are_things)) (G_are_passes : FnOk P w K mg base CX0 k T.a_are_passes T.f_are_passes ["thing", "most"] (FS K mg 2 S_are_passes)) (G_is_rising : FnOk P w K mg base CX0 k T.a_is_rising T.f_is_rising ["words"] (FS K mg 1 S_is_rising)) (G_firsts : FnOk P w K mg base CX0 k T.a_firsts T.f_firsts ["pairs"] (FS K mg 1 S_firsts))
    (h : ∀ args et R, sp args et R → Iw.r_is_formed S_is_tuple_of S_is_hand S_is_room S_are_things S_are_passes S_is_rising S_firsts (env0 ["thing", "rooms", "passes", "open_things", "hands", "one"] args) et (retK R)) :
    FnOk P w K mg base CX0 (k + 1) T.a_is_formed T.f_is_formed ["thing"] (FS K mg 1 sp) :=
  have nd := sc_is_formed.nd
  fn_ok T.F_is_formed sc_is_formed (fun cdv A outer s H E hr => (ss_cons (s_if (PW.pt (sW_or (sT_not (sT_val (sE_call G_is_tuple_of hr rfl T.m_is_tuple_of T.F_is_tuple_of.kp T.b_is_tuple_of (sA_cons (sE_var (pv 0)) (sA_cons sE_int sA_nil))))) (sW_or (sT_not (sT_val (sE_callB call_isi oA_isi rfl T.z_isinstance boot_isinstance (sAP_cons (SimE.p (sE_ix (sP_var (pv 0)) (SimE.p sE_int))) (sAP_cons (SimE.p (sE_ty (t := .tup) rfl T.z_tuple boot_tuple)) sAP_nil))))) (sW_or1 (sT_not (sT_val (sE_callB call_isi oA_isi rfl T.z_isinstance boot_isinstance (sAP_cons (SimE.p (sE_ix (sP_var (pv 0)) (SimE.p sE_int))) (sAP_cons (SimE.p (sE_ty (t := .tup) rfl T.z_tuple boot_tuple)) sAP_nil))))))))) (ss_one (s_ret sE_bl)) ss_nil)
    (ss_cons (s_asg (sE_var (pv 0)) (pg_tup rfl (pgs_cons (pg_name (i := 1) nd rfl (by first | exact Or.inl rfl | exact Or.inr rfl)) (pgs_cons (pg_name (i := 2) nd rfl (by first | exact Or.inl rfl | exact Or.inr rfl)) (pgs_cons (pg_name (i := 3) nd rfl (by first | exact Or.inl rfl | exact Or.inr rfl)) (pgs_cons (pg_name (i := 4) nd rfl (by first | exact Or.inl rfl | exact Or.inr rfl)) pgs_nil))))) (g_tup rfl (g_cons (g_name 1) (g_cons (g_name 2) (g_cons (g_name 3) (g_cons (g_name 4) g_nil))))))
    (ss_cons (s_if (PW.pt (sW_or (sT_cmp op_gt o2_gt (SimE.p (sE_callB call_len oA_len rfl T.z_len boot_len (sAP_cons (sP_var (pv 1)) sAP_nil))) (SimE.p (T.c_MOST_ROOMS.e rfl)) (nomark _)) (sW_or1 (sT_not (sT_chain op_le op_le o2_le o2_le (SimE.p sE_int) (SimE.p (sE_callB call_len oA_len rfl T.z_len boot_len (sAP_cons (sP_var (pv 4)) sAP_nil))) (SimE.p (T.c_MOST_HANDS.e rfl)) (fun h1 h2 h3 => pt_chain op_le op_le h1 h2 h3)))))) (ss_one (s_ret sE_bl)) ss_nil)
    (ss_cons (s_if (PW.pt (sW_or (sT_not (sT_val (sE_callB (cr_all rfl) oA_all rfl T.z_all boot_all (sAP_cons (SimN.p (sN_lc (own := [("one", 5)]) (g_name 5) (by simp) rfl nd (sI_any (sE_var (pv 1))) (blkOk_by (N := ["thing", "rooms", "passes", "open_things", "hands", "one"]) (sc := defScope s_is_formed) (by decide +kernel)) (fun _ _ _ _ _ => (pg_name (i := 5) nd rfl (by first | exact Or.inl rfl | exact Or.inr rfl))) (fun _ _ _ _ _ => pts_yes) (fun _ _ _ _ _ => (sE_call G_is_room hr rfl T.m_is_room T.F_is_room.kp T.b_is_room (sA_cons (sE_var (pv 5)) sA_nil))))) sAP_nil)))) (sW_or1 (sT_not (sT_val (sE_callB (cr_all rfl) oA_all rfl T.z_all boot_all (sAP_cons (SimN.p (sN_lc (own := [("one", 5)]) (g_name 5) (by simp) rfl nd (sI_any (sE_var (pv 4))) (blkOk_by (N := ["thing", "rooms", "passes", "open_things", "hands", "one"]) (sc := defScope s_is_formed) (by decide +kernel)) (fun _ _ _ _ _ => (pg_name (i := 5) nd rfl (by first | exact Or.inl rfl | exact Or.inr rfl))) (fun _ _ _ _ _ => pts_yes) (fun _ _ _ _ _ => (sE_call G_is_hand hr rfl T.m_is_hand T.F_is_hand.kp T.b_is_hand (sA_cons (sE_var (pv 5)) sA_nil))))) sAP_nil))))))) (ss_one (s_ret sE_bl)) ss_nil)
    (ss_one (s_ret (sE_and (sE_call G_is_rising hr rfl T.m_is_rising T.F_is_rising.kp T.b_is_rising (sA_cons (sE_call G_firsts hr rfl T.m_firsts T.F_firsts.kp T.b_firsts (sA_cons (sE_var (pv 1)) sA_nil)) sA_nil)) (sE_and (sE_call G_are_passes hr rfl T.m_are_passes T.F_are_passes.kp T.b_are_passes (sA_cons (sE_var (pv 2)) (sA_cons (T.c_MOST_PASSES.e rfl) sA_nil))) (sE_one (sE_call G_are_things hr rfl T.m_are_things T.F_are_things.kp T.b_are_things (sA_cons (sE_var (pv 3)) (sA_cons (T.c_MOST_OPEN.e rfl) sA_nil))))))))))))) h
theorem ok_are_among {sp : FSpec} (T : Txt K mg) 
    (h : ∀ args et R, sp args et R → Iw.r_are_among  (env0 ["words", "others", "word"] args) et (retK R)) :
    FnOk P w K mg base CX0 (k + 1) T.a_are_among T.f_are_among ["words", "others"] (FS K mg 2 sp) :=
  have nd := sc_are_among.nd
  fn_ok T.F_are_among sc_are_among (fun cdv A outer s H E hr => (ss_one (s_ret (sE_callB (cr_all rfl) oA_all rfl T.z_all boot_all (sAP_cons (SimN.p (sN_lc (own := [("word", 2)]) (g_name 2) (by simp) rfl nd (sI_any (sE_var (pv 0))) (blkOk_by (N := ["words", "others", "word"]) (sc := defScope s_are_among) (by decide +kernel)) (fun _ _ _ _ _ => (pg_name (i := 2) nd rfl (by first | exact Or.inl rfl | exact Or.inr rfl))) (fun _ _ _ _ _ => pts_yes) (fun _ _ _ _ _ => (sE_cmp (op_inA hr.h65) o2_in (sP_var (pv 2)) (sP_var (pv 1)) rfl)))) sAP_nil))))) h
theorem ok_sums_in {sp : FSpec} (T : Txt K mg) (hw : T.pr = w.params) 
    (h : ∀ args et R, sp args et R → Iw.r_sums_in  (env0 ["row", "part", "form"] args) et (retK R)) :
    FnOk P w K mg base CX0 (k + 1) T.a_sums_in T.f_sums_in ["row"] (FS K mg 1 sp) :=
  have nd := sc_sums_in.nd
  fn_ok T.F_sums_in sc_sums_in (fun cdv A outer s H E hr => (ss_one (s_ret (SimN.e (sN_lc (own := [("part", 1), ("form", 2)]) (g_tup rfl (g_cons (g_name 1) (g_cons (g_name 2) g_nil))) (by simp) rfl nd (sI_zip rfl T.z_zip (sA_cons (sE_slA (sP_var (pv 0)) (sO_some sE_int) sO_none) (sA_cons (sE_tabT (T.t_FORMS hw) rfl (sE_ix (sP_var (pv 0)) (SimE.p sE_int))) sA_nil))) (blkOk_by (N := ["row", "part", "form"]) (sc := defScope s_sums_in) (by decide +kernel)) (fun _ _ _ _ _ => (pg_tup rfl (pgs_cons (pg_name (i := 1) nd rfl (by first | exact Or.inl rfl | exact Or.inr rfl)) (pgs_cons (pg_name (i := 2) nd rfl (by first | exact Or.inl rfl | exact Or.inr rfl)) pgs_nil)))) (fun _ _ _ _ _ => pts_if (sT_cmp (op_eqA hr.h64) o2_eq (sP_var (pv 2)) (SimE.p sE_str) (nomark _))) (fun _ _ _ _ _ => (sE_var (pv 1)))))))) h
theorem ok_is_put_right {S_sums_in : FSpec} {S_are_among : FSpec} {S_bells_of : FSpec} {S_words_of : FSpec} {sp : FSpec} (T : Txt K mg) (G_sums_in : FnOk P w K mg base CX0 k T.a_sums_in T.f_sums_in ["row"] (FS K mg 1 S_sums_in)) (G_are_among : FnOk P w K mg base CX0 k T.a_are_among T.f_are_among ["words", "others"] (FS K mg 2 S_are_among)) (G_bells_of : FnOk P w K mg base CX0 k T.a_bells_of T.f_bells_of ["told"] (FS K mg 1 S_bells_of)) (G_words_of : FnOk P w K mg base CX0 k T.a_words_of T.f_words_of ["told"] (FS K mg 1 S_words_of))
    (h : ∀ args et R, sp args et R → Iw.r_is_put_right S_sums_in S_are_among S_bells_of S_words_of (env0 ["row", "words", "goals", "bells", "told"] args) et (retK R)) :
    FnOk P w K mg base CX0 (k + 1) T.a_is_put_right T.f_is_put_right ["row", "words", "goals", "bells"] (FS K mg 4 sp) :=
  have nd := sc_is_put_right.nd
  fn_ok T.F_is_put_right sc_is_put_right (fun cdv A outer s H E hr => (ss_cons (s_for (by first | exact PassesOwn.never | exact passes_def) rfl (sI_any (sE_call G_sums_in hr rfl T.m_sums_in T.F_sums_in.kp T.b_sums_in (sA_cons (sE_var (pv 0)) sA_nil))) (pg_name (i := 4) nd rfl (by first | exact Or.inl rfl | exact Or.inr rfl)) (g_name 4) (ss_one (s_if (PW.pt (sW_or (sT_not (sT_val (sE_call G_are_among hr rfl T.m_are_among T.F_are_among.kp T.b_are_among (sA_cons (sE_call G_words_of hr rfl T.m_words_of T.F_words_of.kp T.b_words_of (sA_cons (sE_var (pv 4)) sA_nil)) (sA_cons (sE_var (pv 1)) sA_nil))))) (sW_or1 (sT_not (sT_val (sE_call G_are_among hr rfl T.m_are_among T.F_are_among.kp T.b_are_among (sA_cons (sE_call G_bells_of hr rfl T.m_bells_of T.F_bells_of.kp T.b_bells_of (sA_cons (sE_var (pv 4)) sA_nil)) (sA_cons (sE_var (pv 3)) sA_nil)))))))) (ss_one (s_ret sE_bl)) ss_nil)))
    (ss_cons (s_if (sT_cmp (op_eqA hr.h64) o2_eq (SimE.p (sE_ix (sP_var (pv 0)) (SimE.p sE_int))) (SimE.p sE_str) (nomark _)) (ss_one (s_ret (sE_cmp (op_inA hr.h65) o2_in (SimE.p (sE_ix (sP_var (pv 0)) (SimE.p sE_int))) (sP_var (pv 2)) rfl))) ss_nil)
    (ss_one (s_ret (sE_or (sE_cmp (op_neA hr.h64) o2_ne (SimE.p (sE_ix (sP_var (pv 0)) (SimE.p sE_int))) (SimE.p sE_str) (nomark _)) (sE_or (sE_cmp op_isA o2_is (SimE.p (sE_ix (sP_var (pv 0)) (SimE.p sE_int))) (SimE.p sE_non) (nomark _)) (sE_one (sE_cmp (op_inA hr.h65) o2_in (SimE.p (sE_ix (sP_var (pv 0)) (SimE.p sE_int))) (sP_var (pv 2)) rfl))))))))) h
theorem ok_is_deed_there {S_firsts : FSpec} {sp : FSpec} (T : Txt K mg) (G_firsts : FnOk P w K mg base CX0 k T.a_firsts T.f_firsts ["pairs"] (FS K mg 1 S_firsts))
    (h : ∀ args et R, sp args et R → Iw.r_is_deed_there S_firsts (env0 ["rooms", "row", "room"] args) et (retK R)) :
    FnOk P w K mg base CX0 (k + 1) T.a_is_deed_there T.f_is_deed_there ["rooms", "row"] (FS K mg 2 sp) :=
  have nd := sc_is_deed_there.nd
  fn_ok T.F_is_deed_there sc_is_deed_there (fun cdv A outer s H E hr => (ss_one (s_ret (sE_callB (cr_any rfl) oA_any rfl T.z_any boot_any (sAP_cons (SimN.p (sN_lc (own := [("room", 2)]) (g_name 2) (by simp) rfl nd (sI_any (sE_var (pv 0))) (blkOk_by (N := ["rooms", "row", "room"]) (sc := defScope s_is_deed_there) (by decide +kernel)) (fun _ _ _ _ _ => (pg_name (i := 2) nd rfl (by first | exact Or.inl rfl | exact Or.inr rfl))) (fun _ _ _ _ _ => pts_yes) (fun _ _ _ _ _ => (sE_and (sE_cmp (op_eqA hr.h64) o2_eq (SimE.p (sE_ix (sP_var (pv 2)) (SimE.p sE_int))) (SimE.p (sE_ix (sP_var (pv 1)) (SimE.p sE_int))) (nomark _)) (sE_one (sE_cmp (op_inA hr.h65) o2_in (SimE.p (sE_ix (sP_var (pv 1)) (SimE.p sE_int))) (SimE.p (sE_call G_firsts hr rfl T.m_firsts T.F_firsts.kp T.b_firsts (sA_cons (sE_ix (sP_var (pv 2)) (SimE.p sE_int)) sA_nil))) rfl)))))) sAP_nil))))) h
theorem ok_stands_in_deed {S_firsts : FSpec} {S_is_put_right : FSpec} {S_is_deed_there : FSpec} {sp : FSpec} (T : Txt K mg) (G_firsts : FnOk P w K mg base CX0 k T.a_firsts T.f_firsts ["pairs"] (FS K mg 1 S_firsts)) (G_is_put_right : FnOk P w K mg base CX0 k T.a_is_put_right T.f_is_put_right ["row", "words", "goals", "bells"] (FS K mg 4 S_is_put_right)) (G_is_deed_there : FnOk P w K mg base CX0 k T.a_is_deed_there T.f_is_deed_there ["rooms", "row"] (FS K mg 2 S_is_deed_there))
    (h : ∀ args et R, sp args et R → Iw.r_stands_in_deed S_firsts S_is_put_right S_is_deed_there (env0 ["rooms", "room", "row", "name", "manner", "things", "bells", "deeds", "goals"] args) et (retK R)) :
    FnOk P w K mg base CX0 (k + 1) T.a_stands_in_deed T.f_stands_in_deed ["rooms", "room", "row"] (FS K mg 3 sp) :=
  have nd := sc_stands_in_deed.nd
  fn_ok T.F_stands_in_deed sc_stands_in_deed (fun cdv A outer s H E hr => (ss_cons (s_asg (sE_var (pv 1)) (pg_tup rfl (pgs_cons (pg_name (i := 3) nd rfl (by first | exact Or.inl rfl | exact Or.inr rfl)) (pgs_cons (pg_name (i := 4) nd rfl (by first | exact Or.inl rfl | exact Or.inr rfl)) (pgs_cons (pg_name (i := 5) nd rfl (by first | exact Or.inl rfl | exact Or.inr rfl)) (pgs_cons (pg_name (i := 6) nd rfl (by first | exact Or.inl rfl | exact Or.inr rfl)) (pgs_cons (pg_name (i := 7) nd rfl (by first | exact Or.inl rfl | exact Or.inr rfl)) pgs_nil)))))) (g_tup rfl (g_cons (g_name 3) (g_cons (g_name 4) (g_cons (g_name 5) (g_cons (g_name 6) (g_cons (g_name 7) g_nil)))))))
    (ss_cons (s_set (i := 8) nd rfl (by first | exact Or.inl rfl | exact Or.inr rfl) (sE_call G_firsts hr rfl T.m_firsts T.F_firsts.kp T.b_firsts (sA_cons (sE_var (pv 5)) sA_nil)))
    (ss_cons (s_if (PW.pt (sW_or (sT_cmp (op_inA hr.h65) o2_in (SimE.p (sE_ix (sP_var (pv 2)) (SimE.p sE_int))) (SimE.p (T.c_IN_HANDS.e rfl)) rfl) (sW_or1 (sT_not (sT_val (sE_call G_is_put_right hr rfl T.m_is_put_right T.F_is_put_right.kp T.b_is_put_right (sA_cons (sE_var (pv 2)) (sA_cons (SimN.e (sN_op op_cat o2_cat (sP_var (pv 8)) (SimN.p (sN_lst (sA_cons (T.c_GIVEN.e rfl) sA_nil))))) (sA_cons (sE_var (pv 8)) (sA_cons (sE_call G_firsts hr rfl T.m_firsts T.F_firsts.kp T.b_firsts (sA_cons (sE_var (pv 6)) sA_nil)) sA_nil)))))))))) (ss_one (s_ret sE_bl)) ss_nil)
    (ss_cons (s_if (sT_cmp (op_eqA hr.h64) o2_eq (SimE.p (sE_ix (sP_var (pv 2)) (SimE.p sE_int))) (SimE.p sE_str) (nomark _)) (ss_one (s_ret (sE_call G_is_deed_there hr rfl T.m_is_deed_there T.F_is_deed_there.kp T.b_is_deed_there (sA_cons (sE_var (pv 0)) (sA_cons (sE_var (pv 2)) sA_nil))))) ss_nil)
    (ss_cons (s_if (sT_cmp (op_inA hr.h65) o2_in (SimE.p (sE_ix (sP_var (pv 2)) (SimE.p sE_int))) (SimE.p (sE_tup (sA_cons sE_str (sA_cons sE_str (sA_cons sE_str sA_nil))))) rfl) (ss_one (s_ret (sE_and (sE_cmp (op_inA hr.h65) o2_in (SimE.p (sE_ix (sP_var (pv 2)) (SimE.p sE_int))) (SimE.p (sE_call G_firsts hr rfl T.m_firsts T.F_firsts.kp T.b_firsts (sA_cons (sE_var (pv 6)) sA_nil))) rfl) (sE_one (sE_or (sE_cmp (op_neA hr.h64) o2_ne (SimE.p (sE_ix (sP_var (pv 2)) (SimE.p sE_int))) (SimE.p sE_str) (nomark _)) (sE_one (sE_cmp (op_eqA hr.h64) o2_eq (sP_var (pv 4)) (SimE.p (T.c_WHEN_FREE.e rfl)) (nomark _)))))))) ss_nil)
    (ss_one (s_ret sE_bl)))))))) h
theorem ok_stands_in_hand {S_is_put_right : FSpec} {S_is_deed_there : FSpec} {S_are_among : FSpec} {S_firsts : FSpec} {sp : FSpec} (T : Txt K mg) (G_is_put_right : FnOk P w K mg base CX0 k T.a_is_put_right T.f_is_put_right ["row", "words", "goals", "bells"] (FS K mg 4 S_is_put_right)) (G_is_deed_there : FnOk P w K mg base CX0 k T.a_is_deed_there T.f_is_deed_there ["rooms", "row"] (FS K mg 2 S_is_deed_there)) (G_are_among : FnOk P w K mg base CX0 k T.a_are_among T.f_are_among ["words", "others"] (FS K mg 2 S_are_among)) (G_firsts : FnOk P w K mg base CX0 k T.a_firsts T.f_firsts ["pairs"] (FS K mg 1 S_firsts))
    (h : ∀ args et R, sp args et R → Iw.r_stands_in_hand S_is_put_right S_is_deed_there S_are_among S_firsts (env0 ["world", "goals", "row", "rooms", "passes", "open_things", "hands"] args) et (retK R)) :
    FnOk P w K mg base CX0 (k + 1) T.a_stands_in_hand T.f_stands_in_hand ["world", "goals", "row"] (FS K mg 3 sp) :=
  have nd := sc_stands_in_hand.nd
  fn_ok T.F_stands_in_hand sc_stands_in_hand (fun cdv A outer s H E hr => (ss_cons (s_asg (sE_var (pv 0)) (pg_tup rfl (pgs_cons (pg_name (i := 3) nd rfl (by first | exact Or.inl rfl | exact Or.inr rfl)) (pgs_cons (pg_name (i := 4) nd rfl (by first | exact Or.inl rfl | exact Or.inr rfl)) (pgs_cons (pg_name (i := 5) nd rfl (by first | exact Or.inl rfl | exact Or.inr rfl)) (pgs_cons (pg_name (i := 6) nd rfl (by first | exact Or.inl rfl | exact Or.inr rfl)) pgs_nil))))) (g_tup rfl (g_cons (g_name 3) (g_cons (g_name 4) (g_cons (g_name 5) (g_cons (g_name 6) g_nil))))))
    (ss_cons (s_if (PW.pt (sW_or (sT_cmp (op_inA hr.h65) o2_in (SimE.p (sE_ix (sP_var (pv 2)) (SimE.p sE_int))) (SimE.p (T.c_IN_DEEDS.e rfl)) rfl) (sW_or1 (sT_not (sT_val (sE_call G_is_put_right hr rfl T.m_is_put_right T.F_is_put_right.kp T.b_is_put_right (sA_cons (sE_var (pv 2)) (sA_cons (sE_var (pv 1)) (sA_cons (sE_var (pv 1)) (sA_cons (SimN.e (sN_lst sA_nil)) sA_nil)))))))))) (ss_one (s_ret sE_bl)) ss_nil)
    (ss_cons (s_if (sT_cmp (op_eqA hr.h64) o2_eq (SimE.p (sE_ix (sP_var (pv 2)) (SimE.p sE_int))) (SimE.p sE_str) (nomark _)) (ss_one (s_ret (sE_call G_is_deed_there hr rfl T.m_is_deed_there T.F_is_deed_there.kp T.b_is_deed_there (sA_cons (sE_var (pv 3)) (sA_cons (sE_var (pv 2)) sA_nil))))) ss_nil)
    (ss_one (s_ret (sE_or (sE_cmp (op_notInA hr.h65) o2_notIn (SimE.p (sE_ix (sP_var (pv 2)) (SimE.p sE_int))) (SimE.p (sE_tup (sA_cons sE_str (sA_cons sE_str (sA_cons sE_str sA_nil))))) rfl) (sE_one (sE_call G_are_among hr rfl T.m_are_among T.F_are_among.kp T.b_are_among (sA_cons (sE_slA (sP_var (pv 2)) (sO_some sE_int) sO_none) (sA_cons (sE_call G_firsts hr rfl T.m_firsts T.F_firsts.kp T.b_firsts (sA_cons (sE_var (pv 4)) sA_nil)) sA_nil))))))))))) h
theorem ok_is_room_right {S_stands_in_deed : FSpec} {sp : FSpec} (T : Txt K mg) (G_stands_in_deed : FnOk P w K mg base CX0 k T.a_stands_in_deed T.f_stands_in_deed ["rooms", "room", "row"] (FS K mg 3 S_stands_in_deed))
    (h : ∀ args et R, sp args et R → Iw.r_is_room_right S_stands_in_deed (env0 ["rooms", "room", "name", "program", "row"] args) et (retK R)) :
    FnOk P w K mg base CX0 (k + 1) T.a_is_room_right T.f_is_room_right ["rooms", "room"] (FS K mg 2 sp) :=
  have nd := sc_is_room_right.nd
  fn_ok T.F_is_room_right sc_is_room_right (fun cdv A outer s H E hr => (ss_cons (s_for (by first | exact PassesOwn.never | exact passes_def) rfl (sI_any (sE_ix (sP_var (pv 1)) (SimE.p sE_int))) (pg_tup rfl (pgs_cons (pg_name (i := 2) nd rfl (by first | exact Or.inl rfl | exact Or.inr rfl)) (pgs_cons (pg_name (i := 3) nd rfl (by first | exact Or.inl rfl | exact Or.inr rfl)) pgs_nil))) (g_tup rfl (g_cons (g_name 2) (g_cons (g_name 3) g_nil))) (ss_one (s_if (sT_not (sT_val (sE_callB (cr_all rfl) oA_all rfl T.z_all boot_all (sAP_cons (SimN.p (sN_lc (own := [("row", 4)]) (g_name 4) (by simp) rfl nd (sI_any (sE_var (pv 3))) (blkOk_by (N := ["rooms", "room", "name", "program", "row"]) (sc := defScope s_is_room_right) (by decide +kernel)) (fun _ _ _ _ _ => (pg_name (i := 4) nd rfl (by first | exact Or.inl rfl | exact Or.inr rfl))) (fun _ _ _ _ _ => pts_yes) (fun _ _ _ _ _ => (sE_call G_stands_in_deed hr rfl T.m_stands_in_deed T.F_stands_in_deed.kp T.b_stands_in_deed (sA_cons (sE_var (pv 0)) (sA_cons (sE_var (pv 1)) (sA_cons (sE_var (pv 4)) sA_nil))))))) sAP_nil)))) (ss_one (s_ret sE_bl)) ss_nil)))
    (ss_one (s_ret sE_bl)))) h
theorem ok_is_hand_right {S_firsts : FSpec} {S_stands_in_hand : FSpec} {sp : FSpec} (T : Txt K mg) (G_firsts : FnOk P w K mg base CX0 k T.a_firsts T.f_firsts ["pairs"] (FS K mg 1 S_firsts)) (G_stands_in_hand : FnOk P w K mg base CX0 k T.a_stands_in_hand T.f_stands_in_hand ["world", "goals", "row"] (FS K mg 3 S_stands_in_hand))
    (h : ∀ args et R, sp args et R → Iw.r_is_hand_right S_firsts S_stands_in_hand (env0 ["world", "hand", "things", "program", "opened", "word", "row"] args) et (retK R)) :
    FnOk P w K mg base CX0 (k + 1) T.a_is_hand_right T.f_is_hand_right ["world", "hand"] (FS K mg 2 sp) :=
  have nd := sc_is_hand_right.nd
  fn_ok T.F_is_hand_right sc_is_hand_right (fun cdv A outer s H E hr => (ss_cons (s_asg (sE_var (pv 1)) (pg_tup rfl (pgs_cons (pg_name (i := 2) nd rfl (by first | exact Or.inl rfl | exact Or.inr rfl)) (pgs_cons (pg_name (i := 3) nd rfl (by first | exact Or.inl rfl | exact Or.inr rfl)) pgs_nil))) (g_tup rfl (g_cons (g_name 2) (g_cons (g_name 3) g_nil))))
    (ss_cons (s_set (i := 4) nd rfl (by first | exact Or.inl rfl | exact Or.inr rfl) (sE_call G_firsts hr rfl T.m_firsts T.F_firsts.kp T.b_firsts (sA_cons (sE_ix (sP_var (pv 0)) (SimE.p sE_int)) sA_nil)))
    (ss_cons (s_if (sT_val (sE_callB (cr_any rfl) oA_any rfl T.z_any boot_any (sAP_cons (SimN.p (sN_lc (own := [("word", 5)]) (g_name 5) (by simp) rfl nd (sI_any (sE_call G_firsts hr rfl T.m_firsts T.F_firsts.kp T.b_firsts (sA_cons (sE_var (pv 2)) sA_nil))) (blkOk_by (N := ["world", "hand", "things", "program", "opened", "word", "row"]) (sc := defScope s_is_hand_right) (by decide +kernel)) (fun _ _ _ _ _ => (pg_name (i := 5) nd rfl (by first | exact Or.inl rfl | exact Or.inr rfl))) (fun _ _ _ _ _ => pts_yes) (fun _ _ _ _ _ => (sE_cmp (op_inA hr.h65) o2_in (sP_var (pv 5)) (sP_var (pv 4)) rfl)))) sAP_nil))) (ss_one (s_ret sE_bl)) ss_nil)
    (ss_one (s_ret (sE_callB (cr_all rfl) oA_all rfl T.z_all boot_all (sAP_cons (SimN.p (sN_lc (own := [("row", 6)]) (g_name 6) (by simp) rfl nd (sI_any (sE_var (pv 3))) (blkOk_by (N := ["world", "hand", "things", "program", "opened", "word", "row"]) (sc := defScope s_is_hand_right) (by decide +kernel)) (fun _ _ _ _ _ => (pg_name (i := 6) nd rfl (by first | exact Or.inl rfl | exact Or.inr rfl))) (fun _ _ _ _ _ => pts_yes) (fun _ _ _ _ _ => (sE_call G_stands_in_hand hr rfl T.m_stands_in_hand T.F_stands_in_hand.kp T.b_stands_in_hand (sA_cons (sE_var (pv 0)) (sA_cons (sE_op op_addA o2_add (SimE.p (sE_call G_firsts hr rfl T.m_firsts T.F_firsts.kp T.b_firsts (sA_cons (sE_var (pv 2)) sA_nil))) (sP_var (pv 4))) (sA_cons (sE_var (pv 6)) sA_nil))))))) sAP_nil)))))))) h
theorem ok_deeds_done {sp : FSpec} (T : Txt K mg) 
    (h : ∀ args et R, sp args et R → Iw.r_deeds_done  (env0 ["rooms", "deed", "found", "room", "name", "program", "row"] args) et (retK R)) :
    FnOk P w K mg base CX0 (k + 1) T.a_deeds_done T.f_deeds_done ["rooms", "deed"] (FS K mg 2 sp) :=
  have nd := sc_deeds_done.nd
  fn_ok T.F_deeds_done sc_deeds_done (fun cdv A outer s H E hr => (ss_cons (s_set (i := 2) nd rfl (by first | exact Or.inl rfl | exact Or.inr rfl) (sE_share (sN_lst sA_nil)))
    (ss_cons (s_for (by first | exact PassesOwn.never | exact passes_def) rfl (sI_any (sE_var (pv 0))) (pg_name (i := 3) nd rfl (by first | exact Or.inl rfl | exact Or.inr rfl)) (g_name 3) (ss_one (s_for (by first | exact PassesOwn.never | exact passes_def) rfl (sI_any (sE_ix (sP_var (pv 3)) (SimE.p sE_int))) (pg_tup rfl (pgs_cons (pg_name (i := 4) nd rfl (by first | exact Or.inl rfl | exact Or.inr rfl)) (pgs_cons (pg_name (i := 5) nd rfl (by first | exact Or.inl rfl | exact Or.inr rfl)) pgs_nil))) (g_tup rfl (g_cons (g_name 4) (g_cons (g_name 5) g_nil))) (ss_one (s_if (sT_cmp (op_eqA hr.h64) o2_eq (SimE.p (sE_tup (sA_cons (sE_ix (sP_var (pv 3)) (SimE.p sE_int)) (sA_cons (sE_var (pv 4)) sA_nil)))) (sP_var (pv 1)) (nomark _)) (ss_one (s_exprX (sX_mut PySem.F.slot_list_extend PySem.F.type_list_extend mt_extend mo_extend (pv 2) (sA_cons (SimN.e (sN_lc (own := [("row", 6)]) (g_name 6) (by simp) rfl nd (sI_any (sE_var (pv 5))) (blkOk_by (N := ["rooms", "deed", "found", "room", "name", "program", "row"]) (sc := defScope s_deeds_done) (by decide +kernel)) (fun _ _ _ _ _ => (pg_name (i := 6) nd rfl (by first | exact Or.inl rfl | exact Or.inr rfl))) (fun _ _ _ _ _ => pts_if (sT_cmp (op_eqA hr.h64) o2_eq (SimE.p (sE_ix (sP_var (pv 6)) (SimE.p sE_int))) (SimE.p sE_str) (nomark _))) (fun _ _ _ _ _ => (sE_tup (sA_cons (sE_ix (sP_var (pv 6)) (SimE.p sE_int)) (sA_cons (sE_ix (sP_var (pv 6)) (SimE.p sE_int)) sA_nil)))))) sA_nil) (fun h1 h2 => pe_bm PySem.F.plainAttrs_list PySem.F.slot_list_extend PySem.F.type_list_extend mt_extend h1 h2)))) ss_nil)))))
    (ss_one (s_ret (sE_var (pv 2))))))) h
theorem ok_comes_to_itself {S_deeds_done : FSpec} {sp : FSpec} (T : Txt K mg) (G_deeds_done : FnOk P w K mg base CX0 k T.a_deeds_done T.f_deeds_done ["rooms", "deed"] (FS K mg 2 S_deeds_done))
    (h : ∀ args et R, sp args et R → Iw.r_comes_to_itself (fun k => k.hash w) S_deeds_done (env0 ["rooms", "deed", "found", "waiting", "other"] args) et (retK R)) :
    FnOk P w K mg base CX0 (k + 1) T.a_comes_to_itself T.f_comes_to_itself ["rooms", "deed"] (FS K mg 2 sp) :=
  have nd := sc_comes_to_itself.nd
  fn_ok T.F_comes_to_itself sc_comes_to_itself (fun cdv A outer s H E hr => (ss_cons (s_set (i := 2) nd rfl (by first | exact Or.inl rfl | exact Or.inr rfl) (sE_tdsh sN_dic0))
    (ss_cons (s_set (i := 3) nd rfl (by first | exact Or.inl rfl | exact Or.inr rfl) (sE_call G_deeds_done hr rfl T.m_deeds_done T.F_deeds_done.kp T.b_deeds_done (sA_cons (sE_var (pv 0)) (sA_cons (sE_var (pv 1)) sA_nil))))
    (ss_cons (s_while (by first | exact PassesOwn.never | exact passes_def) (sT_cmp (op_neA hr.h64) o2_ne (sP_var (pv 3)) (SimN.p (sN_lst sA_nil)) (nomark _)) (ss_cons (s_setX (i := 4) nd rfl (by first | exact Or.inl rfl | exact Or.inr rfl) (sX_mut0 mo_pop (pe_bm0 PySem.F.plainAttrs_list PySem.F.slot_list_pop PySem.F.type_list_pop mt_pop (pv 3))))
    (ss_one (s_if (sT_tdnotin hr.h64 (sE_var (pv 4)) (sE_var (pv 2))) (ss_cons (s_tdput hr.h64 sE_bl (sE_var (pv 2)) (sE_var (pv 4)))
    (ss_one (s_exprX (sX_mut PySem.F.slot_list_extend PySem.F.type_list_extend mt_extend mo_extend (pv 3) (sA_cons (sE_call G_deeds_done hr rfl T.m_deeds_done T.F_deeds_done.kp T.b_deeds_done (sA_cons (sE_var (pv 0)) (sA_cons (sE_var (pv 4)) sA_nil))) sA_nil) (fun h1 h2 => pe_bm PySem.F.plainAttrs_list PySem.F.slot_list_extend PySem.F.type_list_extend mt_extend h1 h2))))) ss_nil))))
    (ss_one (s_ret (sE_tdin hr.h64 (sE_var (pv 1)) (sE_var (pv 2))))))))) h
theorem ok_is_world {S_is_formed : FSpec} {S_firsts : FSpec} {S_is_room_right : FSpec} {S_is_hand_right : FSpec} {S_comes_to_itself : FSpec} {sp : FSpec} (T : Txt K mg) (G_is_formed : FnOk P w K mg base CX0 k T.a_is_formed T.f_is_formed ["thing"] (FS K mg 1 S_is_formed)) (G_firsts : FnOk P w K mg base CX0 k T.a_firsts T.f_firsts ["pairs"] (FS K mg 1 S_firsts)) (G_is_room_right : FnOk P w K mg base CX0 k T.a_is_room_right T.f_is_room_right ["rooms", "room"] (FS K mg 2 S_is_room_right)) (G_is_hand_right : FnOk P w K mg base CX0 k T.a_is_hand_right T.f_is_hand_right ["world", "hand"] (FS K mg 2 S_is_hand_right)) (G_comes_to_itself : FnOk P w K mg base CX0 k T.a_comes_to_itself T.f_comes_to_itself ["rooms", "deed"] (FS K mg 2 S_comes_to_itself))
    (h : ∀ args et R, sp args et R → Iw.r_is_world S_is_formed S_firsts S_is_room_right S_is_hand_right S_comes_to_itself (env0 ["thing", "rooms", "passes", "open_things", "hands", "name", "room", "hand"] args) et (retK R)) :
    FnOk P w K mg base CX0 (k + 1) T.a_is_world T.f_is_world ["thing"] (FS K mg 1 sp) :=
  have nd := sc_is_world.nd
  fn_ok T.F_is_world sc_is_world (fun cdv A outer s H E hr => (ss_cons (s_if (sT_not (sT_val (sE_call G_is_formed hr rfl T.m_is_formed T.F_is_formed.kp T.b_is_formed (sA_cons (sE_var (pv 0)) sA_nil)))) (ss_one (s_ret sE_bl)) ss_nil)
    (ss_cons (s_asg (sE_var (pv 0)) (pg_tup rfl (pgs_cons (pg_name (i := 1) nd rfl (by first | exact Or.inl rfl | exact Or.inr rfl)) (pgs_cons (pg_name (i := 2) nd rfl (by first | exact Or.inl rfl | exact Or.inr rfl)) (pgs_cons (pg_name (i := 3) nd rfl (by first | exact Or.inl rfl | exact Or.inr rfl)) (pgs_cons (pg_name (i := 4) nd rfl (by first | exact Or.inl rfl | exact Or.inr rfl)) pgs_nil))))) (g_tup rfl (g_cons (g_name 1) (g_cons (g_name 2) (g_cons (g_name 3) (g_cons (g_name 4) g_nil))))))
    (ss_cons (s_if (sT_val (sE_callB (cr_any rfl) oA_any rfl T.z_any boot_any (sAP_cons (SimN.p (sN_lc (own := [("name", 5)]) (g_name 5) (by simp) rfl nd (sI_any (sE_call G_firsts hr rfl T.m_firsts T.F_firsts.kp T.b_firsts (sA_cons (sE_var (pv 1)) sA_nil))) (blkOk_by (N := ["thing", "rooms", "passes", "open_things", "hands", "name", "room", "hand"]) (sc := defScope s_is_world) (by decide +kernel)) (fun _ _ _ _ _ => (pg_name (i := 5) nd rfl (by first | exact Or.inl rfl | exact Or.inr rfl))) (fun _ _ _ _ _ => pts_yes) (fun _ _ _ _ _ => (sE_cmp (op_inA hr.h65) o2_in (sP_var (pv 5)) (SimE.p (sE_call G_firsts hr rfl T.m_firsts T.F_firsts.kp T.b_firsts (sA_cons (sE_var (pv 2)) sA_nil))) rfl)))) sAP_nil))) (ss_one (s_ret sE_bl)) ss_nil)
    (ss_cons (s_if (sT_not (sT_val (sE_callB (cr_all rfl) oA_all rfl T.z_all boot_all (sAP_cons (SimN.p (sN_lc (own := [("room", 6)]) (g_name 6) (by simp) rfl nd (sI_any (sE_var (pv 1))) (blkOk_by (N := ["thing", "rooms", "passes", "open_things", "hands", "name", "room", "hand"]) (sc := defScope s_is_world) (by decide +kernel)) (fun _ _ _ _ _ => (pg_name (i := 6) nd rfl (by first | exact Or.inl rfl | exact Or.inr rfl))) (fun _ _ _ _ _ => pts_yes) (fun _ _ _ _ _ => (sE_call G_is_room_right hr rfl T.m_is_room_right T.F_is_room_right.kp T.b_is_room_right (sA_cons (sE_var (pv 1)) (sA_cons (sE_var (pv 6)) sA_nil)))))) sAP_nil)))) (ss_one (s_ret sE_bl)) ss_nil)
    (ss_cons (s_if (sT_not (sT_val (sE_callB (cr_all rfl) oA_all rfl T.z_all boot_all (sAP_cons (SimN.p (sN_lc (own := [("hand", 7)]) (g_name 7) (by simp) rfl nd (sI_any (sE_var (pv 4))) (blkOk_by (N := ["thing", "rooms", "passes", "open_things", "hands", "name", "room", "hand"]) (sc := defScope s_is_world) (by decide +kernel)) (fun _ _ _ _ _ => (pg_name (i := 7) nd rfl (by first | exact Or.inl rfl | exact Or.inr rfl))) (fun _ _ _ _ _ => pts_yes) (fun _ _ _ _ _ => (sE_call G_is_hand_right hr rfl T.m_is_hand_right T.F_is_hand_right.kp T.b_is_hand_right (sA_cons (sE_var (pv 0)) (sA_cons (sE_var (pv 7)) sA_nil)))))) sAP_nil)))) (ss_one (s_ret sE_bl)) ss_nil)
    (ss_cons (s_for (by first | exact PassesOwn.never | exact passes_def) rfl (sI_any (sE_var (pv 1))) (pg_name (i := 6) nd rfl (by first | exact Or.inl rfl | exact Or.inr rfl)) (g_name 6) (ss_one (s_if (sT_val (sE_callB (cr_any rfl) oA_any rfl T.z_any boot_any (sAP_cons (SimN.p (sN_lc (own := [("name", 5)]) (g_name 5) (by simp) rfl nd (sI_any (sE_call G_firsts hr rfl T.m_firsts T.F_firsts.kp T.b_firsts (sA_cons (sE_ix (sP_var (pv 6)) (SimE.p sE_int)) sA_nil))) (blkOk_by (N := ["thing", "rooms", "passes", "open_things", "hands", "name", "room", "hand"]) (sc := defScope s_is_world) (by decide +kernel)) (fun _ _ _ _ _ => (pg_name (i := 5) nd rfl (by first | exact Or.inl rfl | exact Or.inr rfl))) (fun _ _ _ _ _ => pts_yes) (fun _ _ _ _ _ => (sE_call G_comes_to_itself hr rfl T.m_comes_to_itself T.F_comes_to_itself.kp T.b_comes_to_itself (sA_cons (sE_var (pv 1)) (sA_cons (sE_tup (sA_cons (sE_ix (sP_var (pv 6)) (SimE.p sE_int)) (sA_cons (sE_var (pv 5)) sA_nil))) sA_nil)))))) sAP_nil))) (ss_one (s_ret sE_bl)) ss_nil)))
    (ss_one (s_ret sE_bl))))))))) h
theorem ok__law_pot {sp : FSpec} (T : Txt K mg) 
    (h : ∀ args et R, sp args et R → Lw.r__law_pot  (env0 ["_law_script", "_law_seed", "_law_cell"] args) et (retK R)) :
    FnOk P w K mg base CX0 (k + 1) T.a__law_pot T.f__law_pot ["_law_script"] (FS K mg 1 sp) :=
  have nd := sc__law_pot.nd
  fn_ok T.F__law_pot sc__law_pot (fun cdv A outer s H E hr => (ss_cons (s_set (i := 1) nd rfl (by first | exact Or.inl rfl | exact Or.inr rfl) (sE_op op_addA o2_add (SimE.p (sE_callB call_len oA_len rfl T.z_len boot_len (sAP_cons (sP_var (pv 0)) sAP_nil))) (SimE.p sE_int)))
    (ss_cons (s_for (by first | exact PassesOwn.never | exact passes_def) rfl (sI_any (sE_slA (sP_var (pv 0)) sO_none (sO_some sE_int))) (pg_name (i := 2) nd rfl (by first | exact Or.inl rfl | exact Or.inr rfl)) (g_name 2) (ss_one (s_set (i := 1) nd rfl (by first | exact Or.inl rfl | exact Or.inr rfl) (sE_op op_mod o2_mod (SimE.p (sE_op op_addA o2_add (SimE.p (sE_op op_addA o2_add (SimE.p (sE_op op_mul o2_mul (sP_var (pv 1)) (SimE.p sE_int))) (SimE.p (sE_op op_mod o2_mod (sP_var (pv 2)) (SimE.p (sE_op op_pow o2_pow (SimE.p sE_int) (SimE.p sE_int))))))) (SimE.p sE_int))) (SimE.p sE_int)))))
    (ss_one (s_ret (sE_share (sN_lst (sA_cons (sE_share (sN_lc (own := [("_law_cell", 2)]) (g_name 2) (by simp) rfl nd (sI_any (sE_slA (sP_var (pv 0)) sO_none (sO_some sE_int))) (blkOk_by (N := ["_law_script", "_law_seed", "_law_cell"]) (sc := defScope s__law_pot) (by decide +kernel)) (fun _ _ _ _ _ => (pg_name (i := 2) nd rfl (by first | exact Or.inl rfl | exact Or.inr rfl))) (fun _ _ _ _ _ => pts_if (sT_cmp op_ge o2_ge (sP_var (pv 2)) (SimE.p (sE_op op_pow o2_pow (SimE.p sE_int) (SimE.p sE_int))) (nomark _))) (fun _ _ _ _ _ => (sE_var (pv 2))))) (sA_cons (sE_var (pv 1)) (sA_cons sE_int sA_nil)))))))))) h
theorem ok__law_take {sp : FSpec} (T : Txt K mg) 
    (h : ∀ args et R, sp args et R → Lw.r__law_take  (env0 ["_law_pot_here", "_law_many", "_law_digit", "_law_mixed"] args) et (retK R)) :
    FnOk P w K mg base CX0 (k + 1) T.a__law_take T.f__law_take ["_law_pot_here", "_law_many"] (FS K mg 2 sp) :=
  have nd := sc__law_take.nd
  fn_ok T.F__law_take sc__law_take (fun cdv A outer s H E hr => (ss_cons (s_while (by first | exact PassesOwn.never | exact passes_def) (PW.pt (sW_and (sT_cmp (op_neA hr.h64) o2_ne (SimE.p (sE_ix (sP_var (pv 0)) (SimE.p sE_int))) (SimN.p (sN_lst sA_nil)) (nomark _)) (sW_and1 (sT_cmp (op_eqA hr.h64) o2_eq (SimE.p (sE_ix (SimE.p (sE_ix (sP_var (pv 0)) (SimE.p sE_int))) (SimE.p sE_int))) (SimE.p sE_int) (nomark _))))) (ss_one (s_expr (sE_mutR mo_popAt (sE_ix (sP_var (pv 0)) (SimE.p sE_int)) (sA_cons sE_int sA_nil) (fun h1 h2 => pe_bm PySem.F.plainAttrs_list PySem.F.slot_list_pop PySem.F.type_list_pop mt_popAt h1 h2)))))
    (ss_cons (s_if (sT_cmp (op_neA hr.h64) o2_ne (SimE.p (sE_ix (sP_var (pv 0)) (SimE.p sE_int))) (SimN.p (sN_lst sA_nil)) (nomark _)) (ss_cons (s_set (i := 2) nd rfl (by first | exact Or.inl rfl | exact Or.inr rfl) (sE_op op_mod o2_mod (SimE.p (sE_ix (SimE.p (sE_ix (sP_var (pv 0)) (SimE.p sE_int))) (SimE.p sE_int))) (sP_var (pv 1))))
    (ss_cons (s_subSet (sE_op op_fdiv o2_div (SimE.p (sE_ix (SimE.p (sE_ix (sP_var (pv 0)) (SimE.p sE_int))) (SimE.p sE_int))) (sP_var (pv 1))) (sE_ix (sP_var (pv 0)) (SimE.p sE_int)) sE_int (fun h1 h2 h3 => ps_asg h1 (pg_sub h2 h3 set_list)))
    (ss_one (s_ret (sE_var (pv 2)))))) ss_nil)
    (ss_cons (s_subSet (sE_op op_addA o2_add (SimE.p (sE_ix (sP_var (pv 0)) (SimE.p sE_int))) (SimE.p sE_int)) (sE_var (pv 0)) sE_int (fun h1 h2 h3 => ps_asg h1 (pg_sub h2 h3 set_list)))
    (ss_cons (s_set (i := 3) nd rfl (by first | exact Or.inl rfl | exact Or.inr rfl) (sE_op op_mod o2_mod (SimE.p (sE_op op_mul o2_mul (SimE.p (sE_op op_addA o2_add (SimE.p (sE_op op_addA o2_add (SimE.p (sE_ix (sP_var (pv 0)) (SimE.p sE_int))) (SimE.p (sE_op op_mul o2_mul (SimE.p (sE_op op_mul o2_mul (SimE.p sE_int) (SimE.p (sE_ix (sP_var (pv 0)) (SimE.p sE_int))))) (SimE.p (sE_ix (sP_var (pv 0)) (SimE.p sE_int))))))) (SimE.p sE_int))) (SimE.p sE_int))) (SimE.p sE_int)))
    (ss_cons (s_set (i := 3) nd rfl (by first | exact Or.inl rfl | exact Or.inr rfl) (sE_op op_mod o2_mod (SimE.p (sE_op op_mul o2_mul (sP_var (pv 3)) (SimE.p (sE_op op_addA o2_add (SimE.p (sE_op op_mod o2_mod (sP_var (pv 3)) (SimE.p sE_int))) (SimE.p (sE_op op_mul o2_mul (SimE.p sE_int) (SimE.p (sE_ix (sP_var (pv 0)) (SimE.p sE_int))))))))) (SimE.p sE_int)))
    (ss_one (s_ret (sE_op op_mod o2_mod (SimE.p (sE_op op_addA o2_add (SimE.p (sE_op op_fdiv o2_div (sP_var (pv 3)) (SimE.p sE_int))) (SimE.p (sE_op op_fdiv o2_div (sP_var (pv 3)) (SimE.p sE_int))))) (sP_var (pv 1))))))))))) h
theorem ok__law_of {S__law_take : FSpec} {sp : FSpec} (T : Txt K mg) (G__law_take : FnOk P w K mg base CX0 k T.a__law_take T.f__law_take ["_law_pot_here", "_law_many"] (FS K mg 2 S__law_take))
    (h : ∀ args et R, sp args et R → Lw.r__law_of S__law_take (env0 ["_law_pot_here", "_law_some"] args) et (retK R)) :
    FnOk P w K mg base CX0 (k + 1) T.a__law_of T.f__law_of ["_law_pot_here", "_law_some"] (FS K mg 2 sp) :=
  have nd := sc__law_of.nd
  fn_ok T.F__law_of sc__law_of (fun cdv A outer s H E hr => (ss_one (s_ret (sE_ix (sP_var (pv 1)) (SimE.p (sE_call G__law_take hr rfl T.m__law_take T.F__law_take.kp T.b__law_take (sA_cons (sE_var (pv 0)) (sA_cons (sE_callB call_len oA_len rfl T.z_len boot_len (sAP_cons (sP_var (pv 1)) sAP_nil)) sA_nil)))))))) h
theorem ok__law_words {S__law_of : FSpec} {S__law_take : FSpec} {sp : FSpec} (T : Txt K mg) (G__law_of : FnOk P w K mg base CX0 k T.a__law_of T.f__law_of ["_law_pot_here", "_law_some"] (FS K mg 2 S__law_of)) (G__law_take : FnOk P w K mg base CX0 k T.a__law_take T.f__law_take ["_law_pot_here", "_law_many"] (FS K mg 2 S__law_take))
    (h : ∀ args et R, sp args et R → Lw.r__law_words S__law_of S__law_take (env0 ["_law_pot_here", "_law_many", "_law_letters", "_law_first", "_law_turn", "_law_ends", "_law_found", "_law_k", "_law_sign"] args) et (retK R)) :
    FnOk P w K mg base CX0 (k + 1) T.a__law_words T.f__law_words ["_law_pot_here", "_law_many"] (FS K mg 2 sp) :=
  have nd := sc__law_words.nd
  fn_ok T.F__law_words sc__law_words (fun cdv A outer s H E hr => (ss_cons (s_set (i := 2) nd rfl (by first | exact Or.inl rfl | exact Or.inr rfl) sE_str)
    (ss_cons (two_par (i := 3) (j := 4) rfl nd rfl rfl (by decide) (fun h => ps_par rfl nd rfl rfl (by decide) rfl rfl h rfl) (sA_cons (sE_call G__law_take hr rfl T.m__law_take T.F__law_take.kp T.b__law_take (sA_cons (sE_var (pv 0)) (sA_cons sE_int sA_nil))) (sA_cons (sE_call G__law_of hr rfl T.m__law_of T.F__law_of.kp T.b__law_of (sA_cons (sE_var (pv 0)) (sA_cons (SimN.e (sN_lst (sA_cons sE_int (sA_cons sE_int (sA_cons sE_int (sA_cons sE_int (sA_cons sE_int (sA_cons sE_int sA_nil)))))))) sA_nil))) sA_nil)))
    (ss_cons (s_set (i := 5) nd rfl (by first | exact Or.inl rfl | exact Or.inr rfl) (SimN.e (sN_lst (sA_cons sE_str (sA_cons sE_str (sA_cons sE_str (sA_cons sE_str (sA_cons sE_str sA_nil))))))))
    (ss_cons (s_setN (i := 6) nd rfl (by first | exact Or.inl rfl | exact Or.inr rfl) (sN_lst sA_nil))
    (ss_cons (s_for (by first | exact PassesOwn.never | exact passes_def) rfl (sI_rng1 rfl T.z_range (sA_cons (sE_var (pv 1)) sA_nil)) (pg_name (i := 7) nd rfl (by first | exact Or.inl rfl | exact Or.inr rfl)) (g_name 7) (ss_cons (s_set (i := 8) nd rfl (by first | exact Or.inl rfl | exact Or.inr rfl) (sE_ix (sP_var (pv 2)) (SimE.p (sE_op op_mod o2_mod (SimE.p (sE_op op_addA o2_add (sP_var (pv 3)) (SimE.p (sE_op op_mul o2_mul (sP_var (pv 4)) (sP_var (pv 7)))))) (SimE.p sE_int)))))
    (ss_one (s_exprX (sX_mut PySem.F.slot_list_append PySem.F.type_list_append mt_append mo_append (pv 6) (sA_cons (sE_op op_addA o2_add (sP_var (pv 8)) (SimE.p (sE_ix (sP_var (pv 5)) (SimE.p (sE_op op_mod o2_mod (SimE.p (sE_op op_addA o2_add (sP_var (pv 3)) (SimE.p (sE_op op_mul o2_mul (sP_var (pv 7)) (sP_var (pv 7)))))) (SimE.p sE_int)))))) sA_nil) (fun h1 h2 => pe_bm PySem.F.plainAttrs_list PySem.F.slot_list_append PySem.F.type_list_append mt_append h1 h2))))))
    (ss_one (s_frz [6] (s_ret (sE_var (pv 6))))))))))) h
theorem ok__law_named {sp : FSpec} (T : Txt K mg) 
    (h : ∀ args et R, sp args et R → Q11.r__law_named  (env0 ["_law_words_here", "_law_many", "_law_thing", "_law_word"] args) et (retK R)) :
    FnOk P w K mg base CX0 (k + 1) T.a__law_named T.f__law_named ["_law_words_here", "_law_many", "_law_thing"] (FS K mg 3 sp) :=
  have nd := sc__law_named.nd
  fn_ok T.F__law_named sc__law_named (fun cdv A outer s H E hr => (ss_one (s_ret (sE_callTy call_tupleX oA_tuple rfl T.z_tuple boot_tuple (sAP_cons (SimN.p (sN_lc (own := [("_law_word", 3)]) (g_name 3) (by simp) rfl nd (sI_any (SimN.e (sN_callB cr_sortedA oA_sorted rfl T.z_sorted boot_sorted (sAP_cons (SimE.p (sE_slA (sP_var (pv 0)) sO_none (sO_some (sE_var (pv 1))))) sAP_nil)))) (blkOk_by (N := ["_law_words_here", "_law_many", "_law_thing", "_law_word"]) (sc := defScope s__law_named) (by decide +kernel)) (fun _ _ _ _ _ => (pg_name (i := 3) nd rfl (by first | exact Or.inl rfl | exact Or.inr rfl))) (fun _ _ _ _ _ => pts_yes) (fun _ _ _ _ _ => (sE_tup (sA_cons (sE_var (pv 3)) (sA_cons (sE_var (pv 2)) sA_nil)))))) sAP_nil))))) h
theorem ok__law_world_of {S__law_named : FSpec} {S__law_take : FSpec} {S__law_of : FSpec} {sp : FSpec} (T : Txt K mg) (G__law_named : FnOk P w K mg base CX0 k T.a__law_named T.f__law_named ["_law_words_here", "_law_many", "_law_thing"] (FS K mg 3 S__law_named)) (G__law_take : FnOk P w K mg base CX0 k T.a__law_take T.f__law_take ["_law_pot_here", "_law_many"] (FS K mg 2 S__law_take)) (G__law_of : FnOk P w K mg base CX0 k T.a__law_of T.f__law_of ["_law_pot_here", "_law_some"] (FS K mg 2 S__law_of))
    (h : ∀ args et R, sp args et R → Q11.r__law_world_of S__law_named S__law_take S__law_of (env0 ["_law_pot_here", "_law_words_here", "_law_sizes", "_law_rows", "_law_rooms", "_law_things", "_law_bells", "_law_deeds", "_law_passes", "_law_opened", "_law_hands", "_law_own", "_law_program", "_law_done", "_law_name", "_law_some", "_law_rung", "_law_made", "_law_counted", "_law_word", "_law_others", "_law_hand", "_law_free"] args) et (retK R)) :
    FnOk P w K mg base CX0 (k + 1) T.a__law_world_of T.f__law_world_of ["_law_pot_here", "_law_words_here", "_law_sizes"] (FS K mg 3 sp) :=
  have nd := sc__law_world_of.nd
  fn_ok T.F__law_world_of sc__law_world_of (fun cdv A outer s H E hr => (ss_cons (s_asgD (sE_slA (sP_var (pv 2)) sO_none (sO_some sE_int)) (pg_lst rfl (pgs_cons (pg_name (i := 3) nd rfl (by first | exact Or.inl rfl | exact Or.inr rfl)) (pgs_cons (pg_name (i := 4) nd rfl (by first | exact Or.inl rfl | exact Or.inr rfl)) (pgs_cons (pg_name (i := 5) nd rfl (by first | exact Or.inl rfl | exact Or.inr rfl)) (pgs_cons (pg_name (i := 6) nd rfl (by first | exact Or.inl rfl | exact Or.inr rfl)) pgs_nil))))) (g_lst rfl (g_cons (g_name 3) (g_cons (g_name 4) (g_cons (g_name 5) (g_cons (g_name 6) g_nil))))))
    (ss_cons (s_asgD (sE_slA (sP_var (pv 2)) (sO_some sE_int) sO_none) (pg_lst rfl (pgs_cons (pg_name (i := 7) nd rfl (by first | exact Or.inl rfl | exact Or.inr rfl)) (pgs_cons (pg_name (i := 8) nd rfl (by first | exact Or.inl rfl | exact Or.inr rfl)) (pgs_cons (pg_name (i := 9) nd rfl (by first | exact Or.inl rfl | exact Or.inr rfl)) (pgs_cons (pg_name (i := 10) nd rfl (by first | exact Or.inl rfl | exact Or.inr rfl)) (pgs_cons (pg_name (i := 11) nd rfl (by first | exact Or.inl rfl | exact Or.inr rfl)) pgs_nil)))))) (g_lst rfl (g_cons (g_name 7) (g_cons (g_name 8) (g_cons (g_name 9) (g_cons (g_name 10) (g_cons (g_name 11) g_nil)))))))
    (ss_cons (s_set (i := 12) nd rfl (by first | exact Or.inl rfl | exact Or.inr rfl) (sE_op op_repTA o2_repT (SimE.p (sE_tup (sA_cons (sE_tup (sA_cons sE_str (sA_cons sE_int sA_nil))) sA_nil))) (sP_var (pv 3))))
    (ss_cons (s_setN (i := 13) nd rfl (by first | exact Or.inl rfl | exact Or.inr rfl) (sN_lst sA_nil))
    (ss_cons (s_for (by first | exact PassesOwn.never | exact passes_def) rfl (sI_any (SimN.e (sN_callB cr_sortedA oA_sorted rfl T.z_sorted boot_sorted (sAP_cons (SimE.p (sE_slA (sP_var (pv 1)) sO_none (sO_some (sE_var (pv 4))))) sAP_nil)))) (pg_name (i := 14) nd rfl (by first | exact Or.inl rfl | exact Or.inr rfl)) (g_name 14) (ss_cons (s_set (i := 15) nd rfl (by first | exact Or.inl rfl | exact Or.inr rfl) (sE_call G__law_named hr rfl T.m__law_named T.F__law_named.kp T.b__law_named (sA_cons (sE_slA (sP_var (pv 1)) (sO_some sE_int) sO_none) (sA_cons (sE_var (pv 5)) (sA_cons (sE_call G__law_take hr rfl T.m__law_take T.F__law_take.kp T.b__law_take (sA_cons (sE_var (pv 0)) (sA_cons sE_int sA_nil))) sA_nil)))))
    (ss_cons (s_set (i := 16) nd rfl (by first | exact Or.inl rfl | exact Or.inr rfl) (sE_call G__law_named hr rfl T.m__law_named T.F__law_named.kp T.b__law_named (sA_cons (sE_var (pv 1)) (sA_cons (sE_var (pv 6)) (sA_cons (sE_call G__law_of hr rfl T.m__law_of T.F__law_of.kp T.b__law_of (sA_cons (sE_var (pv 0)) (sA_cons (SimN.e (sN_lst (sA_cons sE_str (sA_cons sE_str sA_nil)))) sA_nil))) sA_nil)))))
    (ss_cons (s_set (i := 17) nd rfl (by first | exact Or.inl rfl | exact Or.inr rfl) (sE_call G__law_named hr rfl T.m__law_named T.F__law_named.kp T.b__law_named (sA_cons (sE_slA (sP_var (pv 1)) (sO_some sE_int) sO_none) (sA_cons (sE_var (pv 7)) (sA_cons (sE_var (pv 12)) sA_nil)))))
    (ss_one (s_exprX (sX_mut PySem.F.slot_list_append PySem.F.type_list_append mt_append mo_append (pv 13) (sA_cons (sE_tup (sA_cons (sE_var (pv 14)) (sA_cons (sE_call G__law_of hr rfl T.m__law_of T.F__law_of.kp T.b__law_of (sA_cons (sE_var (pv 0)) (sA_cons (SimN.e (sN_lst (sA_cons sE_str (sA_cons sE_str sA_nil)))) sA_nil))) (sA_cons (sE_var (pv 15)) (sA_cons (sE_var (pv 16)) (sA_cons (sE_var (pv 17)) sA_nil)))))) sA_nil) (fun h1 h2 => pe_bm PySem.F.plainAttrs_list PySem.F.slot_list_append PySem.F.type_list_append mt_append h1 h2))))))))
    (ss_cons (s_set (i := 18) nd rfl (by first | exact Or.inl rfl | exact Or.inr rfl) (sE_call G__law_named hr rfl T.m__law_named T.F__law_named.kp T.b__law_named (sA_cons (sE_slA (sP_var (pv 1)) (sO_some sE_int) sO_none) (sA_cons (sE_var (pv 8)) (sA_cons (sE_call G__law_take hr rfl T.m__law_take T.F__law_take.kp T.b__law_take (sA_cons (sE_var (pv 0)) (sA_cons sE_int sA_nil))) sA_nil)))))
    (ss_cons (s_setLcE (i := 20) (own := [("_law_word", 19)]) (g_name 19) (by simp) rfl nd rfl rfl (sw_true rfl rfl rfl (by decide +kernel)) (sI_any (SimN.e (sN_revL (sP_var (pv 1))))) (blkOk_by (N := ["_law_pot_here", "_law_words_here", "_law_sizes", "_law_rows", "_law_rooms", "_law_things", "_law_bells", "_law_deeds", "_law_passes", "_law_opened", "_law_hands", "_law_own", "_law_program", "_law_done", "_law_name", "_law_some", "_law_rung", "_law_made", "_law_counted", "_law_word", "_law_others", "_law_hand", "_law_free"]) (sc := defScope s__law_world_of) (by decide +kernel)) (fun _ _ _ _ _ => (pg_name (i := 19) nd rfl (by first | exact Or.inl rfl | exact Or.inr rfl))) (fun _ _ _ _ _ => pts_yes) (fun _ _ _ _ _ => (sE_op op_addA o2_add (sP_var (pv 19)) (SimE.p sE_str))))
    (ss_cons (s_set (i := 21) nd rfl (by first | exact Or.inl rfl | exact Or.inr rfl) (sE_tup (sA_cons (sE_call G__law_named hr rfl T.m__law_named T.F__law_named.kp T.b__law_named (sA_cons (sE_var (pv 20)) (sA_cons (sE_var (pv 11)) (sA_cons sE_int sA_nil)))) (sA_cons (sE_op op_repTA o2_repT (SimE.p (sE_tup (sA_cons (sE_tup (sA_cons sE_str (sA_cons sE_int sA_nil))) sA_nil))) (sP_var (pv 3))) sA_nil))))
    (ss_cons (s_set (i := 22) nd rfl (by first | exact Or.inl rfl | exact Or.inr rfl) (sE_call G__law_named hr rfl T.m__law_named T.F__law_named.kp T.b__law_named (sA_cons (sE_var (pv 1)) (sA_cons (sE_var (pv 9)) (sA_cons (sE_call G__law_take hr rfl T.m__law_take T.F__law_take.kp T.b__law_take (sA_cons (sE_var (pv 0)) (sA_cons sE_int sA_nil))) sA_nil)))))
    (ss_one (s_ret (sE_tup (sA_cons (sE_callTy call_tupleX oA_tuple rfl T.z_tuple boot_tuple (sAP_cons (sP_var (pv 13)) sAP_nil)) (sA_cons (sE_var (pv 18)) (sA_cons (sE_var (pv 22)) (sA_cons (sE_op op_repTA o2_repT (SimE.p (sE_tup (sA_cons (sE_var (pv 21)) sA_nil))) (sP_var (pv 10))) sA_nil))))))))))))))))) h
theorem ok__law_small {S__law_take : FSpec} {S__law_world_of : FSpec} {sp : FSpec} (T : Txt K mg) (G__law_take : FnOk P w K mg base CX0 k T.a__law_take T.f__law_take ["_law_pot_here", "_law_many"] (FS K mg 2 S__law_take)) (G__law_world_of : FnOk P w K mg base CX0 k T.a__law_world_of T.f__law_world_of ["_law_pot_here", "_law_words_here", "_law_sizes"] (FS K mg 3 S__law_world_of))
    (h : ∀ args et R, sp args et R → Q11.r__law_small S__law_take S__law_world_of (env0 ["_law_pot_here", "_law_words_here", "_law_at", "_law_many", "_law_sizes"] args) et (retK R)) :
    FnOk P w K mg base CX0 (k + 1) T.a__law_small T.f__law_small ["_law_pot_here", "_law_words_here", "_law_at", "_law_many"] (FS K mg 4 sp) :=
  have nd := sc__law_small.nd
  fn_ok T.F__law_small sc__law_small (fun cdv A outer s H E hr => (ss_cons (s_setN (i := 4) nd rfl (by first | exact Or.inl rfl | exact Or.inr rfl) (sN_lst (sA_cons (sE_op op_addA o2_add (SimE.p sE_int) (SimE.p (sE_call G__law_take hr rfl T.m__law_take T.F__law_take.kp T.b__law_take (sA_cons (sE_var (pv 0)) (sA_cons sE_int sA_nil))))) (sA_cons (sE_op op_addA o2_add (SimE.p sE_int) (SimE.p (sE_call G__law_take hr rfl T.m__law_take T.F__law_take.kp T.b__law_take (sA_cons (sE_var (pv 0)) (sA_cons sE_int sA_nil))))) (sA_cons (sE_call G__law_take hr rfl T.m__law_take T.F__law_take.kp T.b__law_take (sA_cons (sE_var (pv 0)) (sA_cons sE_int sA_nil))) (sA_cons (sE_call G__law_take hr rfl T.m__law_take T.F__law_take.kp T.b__law_take (sA_cons (sE_var (pv 0)) (sA_cons sE_int sA_nil))) sA_nil))))))
    (ss_cons (s_setN (i := 4) nd rfl (by first | exact Or.inl rfl | exact Or.inr rfl) (sN_op op_cat o2_cat (sP_var (pv 4)) (SimN.p (sN_lst (sA_cons (sE_op op_addA o2_add (SimE.p sE_int) (SimE.p (sE_call G__law_take hr rfl T.m__law_take T.F__law_take.kp T.b__law_take (sA_cons (sE_var (pv 0)) (sA_cons sE_int sA_nil))))) (sA_cons (sE_call G__law_take hr rfl T.m__law_take T.F__law_take.kp T.b__law_take (sA_cons (sE_var (pv 0)) (sA_cons sE_int sA_nil))) (sA_cons (sE_call G__law_take hr rfl T.m__law_take T.F__law_take.kp T.b__law_take (sA_cons (sE_var (pv 0)) (sA_cons sE_int sA_nil))) (sA_cons (sE_op op_addA o2_add (SimE.p sE_int) (SimE.p (sE_call G__law_take hr rfl T.m__law_take T.F__law_take.kp T.b__law_take (sA_cons (sE_var (pv 0)) (sA_cons sE_int sA_nil))))) sA_nil))))))))
    (ss_cons (s_exprX (sX_mut PySem.F.slot_list_append PySem.F.type_list_append mt_append mo_append (pv 4) (sA_cons (sE_call G__law_take hr rfl T.m__law_take T.F__law_take.kp T.b__law_take (sA_cons (sE_var (pv 0)) (sA_cons sE_int sA_nil))) sA_nil) (fun h1 h2 => pe_bm PySem.F.plainAttrs_list PySem.F.slot_list_append PySem.F.type_list_append mt_append h1 h2)))
    (ss_cons (s_subSetN (i := 4) (sE_var (pv 3)) (pv 4) (sE_var (pv 2)) (fun h1 h2 h3 => ps_asg h1 (pg_sub h2 h3 set_list)))
    (ss_one (s_frz [4] (s_ret (sE_call G__law_world_of hr rfl T.m__law_world_of T.F__law_world_of.kp T.b__law_world_of (sA_cons (sE_var (pv 0)) (sA_cons (sE_var (pv 1)) (sA_cons (sE_var (pv 4)) sA_nil)))))))))))) h
theorem ok__law_with {sp : FSpec} (T : Txt K mg) 
    (h : ∀ args et R, sp args et R → Q11.r__law_with  (env0 ["_law_row", "_law_thing", "_law_room"] args) et (retK R)) :
    FnOk P w K mg base CX0 (k + 1) T.a__law_with T.f__law_with ["_law_row", "_law_thing"] (FS K mg 2 sp) :=
  have nd := sc__law_with.nd
  fn_ok T.F__law_with sc__law_with (fun cdv A outer s H E hr => (ss_cons (s_set (i := 2) nd rfl (by first | exact Or.inl rfl | exact Or.inr rfl) (sE_tup (sA_cons sE_str (sA_cons sE_str (sA_cons (sE_tup (sA_cons (sE_tup (sA_cons sE_str (sA_cons (sE_var (pv 1)) sA_nil))) sA_nil)) (sA_cons (sE_tup (sA_cons (sE_tup (sA_cons sE_str (sA_cons sE_str sA_nil))) sA_nil)) (sA_cons (sE_tup (sA_cons (sE_tup (sA_cons sE_str (sA_cons (sE_tup (sA_cons (sE_var (pv 0)) sA_nil)) sA_nil))) sA_nil)) sA_nil)))))))
    (ss_one (s_ret (sE_tup (sA_cons (sE_tup (sA_cons (sE_var (pv 2)) sA_nil)) (sA_cons (sE_tup sA_nil) (sA_cons (sE_tup sA_nil) (sA_cons (sE_tup (sA_cons (sE_tup (sA_cons (sE_tup sA_nil) (sA_cons (sE_tup (sA_cons (sE_tup (sA_cons sE_str (sA_cons sE_int sA_nil))) sA_nil)) sA_nil))) sA_nil)) sA_nil))))))))) h
theorem ok__law_truth {sp : FSpec} (T : Txt K mg) 
    (h : ∀ args et R, sp args et R → Sq.r__law_truth  (env0 ["_law_found", "_law_due"] args) et (retK R)) :
    FnOk P w K mg base CX0 (k + 1) T.a__law_truth T.f__law_truth ["_law_found", "_law_due"] (FS K mg 2 sp) :=
  have nd := sc__law_truth.nd
  fn_ok T.F__law_truth sc__law_truth (fun cdv A outer s H E hr => (ss_one (s_ret (sE_and (sE_callB call_isi oA_isi rfl T.z_isinstance boot_isinstance (sAP_cons (sP_var (pv 0)) (sAP_cons (SimE.p (sE_ty (t := .bool) rfl T.z_bool boot_bool)) sAP_nil))) (sE_one (sE_cmp (op_eqA hr.h64) o2_eq (sP_var (pv 0)) (sP_var (pv 1)) (nomark _))))))) h
theorem ok_law {S__law_pot : FSpec} {S__law_words : FSpec} {S__law_take : FSpec} {S__law_truth : FSpec} {S_is_world : FSpec} {S__law_small : FSpec} {S__law_world_of : FSpec} {S__law_with : FSpec} {sp : FSpec} (T : Txt K mg) (G__law_pot : FnOk P w K mg base CX0 k T.a__law_pot T.f__law_pot ["_law_script"] (FS K mg 1 S__law_pot)) (G__law_words : FnOk P w K mg base CX0 k T.a__law_words T.f__law_words ["_law_pot_here", "_law_many"] (FS K mg 2 S__law_words)) (G__law_take : FnOk P w K mg base CX0 k T.a__law_take T.f__law_take ["_law_pot_here", "_law_many"] (FS K mg 2 S__law_take)) (G__law_truth : FnOk P w K mg base CX0 k T.a__law_truth T.f__law_truth ["_law_found", "_law_due"] (FS K mg 2 S__law_truth)) (G_is_world : FnOk P w K mg base CX0 k T.a_is_world T.f_is_world ["thing"] (FS K mg 1 S_is_world)) (G__law_small : FnOk P w K mg base CX0 k T.a__law_small T.f__law_small ["_law_pot_here", "_law_words_here", "_law_at", "_law_many"] (FS K mg 4 S__law_small)) (G__law_world_of : FnOk P w K mg base CX0 k T.a__law_world_of T.f__law_world_of ["_law_pot_here", "_law_words_here", "_law_sizes"] (FS K mg 3 S__law_world_of)) (G__law_with : FnOk P w K mg base CX0 k T.a__law_with T.f__law_with ["_law_row", "_law_thing"] (FS K mg 2 S__law_with))
    (h : ∀ args et R, sp args et R → Q11.r_law S__law_pot S__law_words S__law_take S__law_truth S_is_world S__law_small S__law_world_of S__law_with (env0 ["_law_script", "_law_pot_here", "_law_word", "_law_words_here", "_law_bounds", "_law_at", "_law_pair", "_law_least", "_law_most", "_law_many", "_law_deep", "_law_depth"] args) et (retK R)) :
    FnOk P w K mg base CX0 (k + 1) T.a_law T.f_law ["_law_script"] (FS K mg 1 sp) :=
  have nd := sc_law.nd
  fn_ok T.F_law sc_law (fun cdv A outer s H E hr => (ss_cons (s_set (i := 1) nd rfl (by first | exact Or.inl rfl | exact Or.inr rfl) (sE_call G__law_pot hr rfl T.m__law_pot T.F__law_pot.kp T.b__law_pot (sA_cons (sE_var (pv 0)) sA_nil)))
    (ss_cons (s_setLcE (i := 3) (own := [("_law_word", 2)]) (g_name 2) (by simp) rfl nd rfl rfl (sw_true rfl rfl rfl (by decide +kernel)) (sI_any (sE_call G__law_words hr rfl T.m__law_words T.F__law_words.kp T.b__law_words (sA_cons (sE_var (pv 1)) (sA_cons sE_int sA_nil)))) (blkOk_by (N := ["_law_script", "_law_pot_here", "_law_word", "_law_words_here", "_law_bounds", "_law_at", "_law_pair", "_law_least", "_law_most", "_law_many", "_law_deep", "_law_depth"]) (sc := defScope s_law) (by decide +kernel)) (fun _ _ _ _ _ => (pg_name (i := 2) nd rfl (by first | exact Or.inl rfl | exact Or.inr rfl))) (fun _ _ _ _ _ => pts_yes) (fun _ _ _ _ _ => (sE_slA (sP_var (pv 2)) sO_none (sO_some sE_int))))
    (ss_cons (s_set (i := 3) nd rfl (by first | exact Or.inl rfl | exact Or.inr rfl) (SimN.e (sN_sortedSet rfl T.z_sorted rfl T.z_set (sP_var (pv 3)))))
    (ss_cons (s_set (i := 4) nd rfl (by first | exact Or.inl rfl | exact Or.inr rfl) (SimN.e (sN_lst (sA_cons (sE_tup (sA_cons sE_int (sA_cons sE_int sA_nil))) (sA_cons (sE_tup (sA_cons sE_int (sA_cons sE_int sA_nil))) (sA_cons (sE_tup (sA_cons sE_int (sA_cons sE_int sA_nil))) (sA_cons (sE_tup (sA_cons sE_int (sA_cons sE_int sA_nil))) (sA_cons (sE_tup (sA_cons sE_int (sA_cons sE_int sA_nil))) (sA_cons (sE_tup (sA_cons sE_int (sA_cons sE_int sA_nil))) (sA_cons (sE_tup (sA_cons sE_int (sA_cons sE_int sA_nil))) (sA_cons (sE_tup (sA_cons sE_int (sA_cons sE_int sA_nil))) (sA_cons (sE_tup (sA_cons sE_int (sA_cons sE_int sA_nil))) sA_nil))))))))))))
    (ss_cons (s_for (by first | exact PassesOwn.never | exact passes_def) rfl (sI_enum rfl T.z_enumerate (sA_cons (sE_var (pv 4)) sA_nil)) (pg_tup rfl (pgs_cons (pg_name (i := 5) nd rfl (by first | exact Or.inl rfl | exact Or.inr rfl)) (pgs_cons (pg_name (i := 6) nd rfl (by first | exact Or.inl rfl | exact Or.inr rfl)) pgs_nil))) (g_tup rfl (g_cons (g_name 5) (g_cons (g_name 6) g_nil))) (ss_cons (s_asg (sE_var (pv 6)) (pg_tup rfl (pgs_cons (pg_name (i := 7) nd rfl (by first | exact Or.inl rfl | exact Or.inr rfl)) (pgs_cons (pg_name (i := 8) nd rfl (by first | exact Or.inl rfl | exact Or.inr rfl)) pgs_nil))) (g_tup rfl (g_cons (g_name 7) (g_cons (g_name 8) g_nil))))
    (ss_one (s_for (by first | exact PassesOwn.never | exact passes_def) rfl (sI_any (SimN.e (sN_lst (sA_cons sE_int (sA_cons sE_int (sA_cons (sE_op op_sub o2_sub (sP_var (pv 8)) (SimE.p sE_int)) (sA_cons (sE_var (pv 8)) (sA_cons (sE_op op_addA o2_add (sP_var (pv 8)) (SimE.p sE_int)) (sA_cons (sE_op op_addA o2_add (sP_var (pv 7)) (SimE.p (sE_call G__law_take hr rfl T.m__law_take T.F__law_take.kp T.b__law_take (sA_cons (sE_var (pv 1)) (sA_cons (sE_op op_addA o2_add (SimE.p (sE_op op_sub o2_sub (sP_var (pv 8)) (sP_var (pv 7)))) (SimE.p sE_int)) sA_nil))))) sA_nil))))))))) (pg_name (i := 9) nd rfl (by first | exact Or.inl rfl | exact Or.inr rfl)) (g_name 9) (ss_one (s_if (sT_not (sT_val (sE_call G__law_truth hr rfl T.m__law_truth T.F__law_truth.kp T.b__law_truth (sA_cons (sE_call G_is_world hr rfl T.m_is_world T.F_is_world.kp T.b_is_world (sA_cons (sE_call G__law_small hr rfl T.m__law_small T.F__law_small.kp T.b__law_small (sA_cons (sE_var (pv 1)) (sA_cons (sE_var (pv 3)) (sA_cons (sE_var (pv 5)) (sA_cons (sE_var (pv 9)) sA_nil))))) sA_nil)) (sA_cons (sE_chain op_le op_le o2_le o2_le (sP_var (pv 7)) (sP_var (pv 9)) (sP_var (pv 8))) sA_nil))))) (ss_one (s_ret sE_bl)) ss_nil))))))
    (ss_cons (s_if (sT_cmp op_isNotA o2_isNot (SimE.p (sE_call G_is_world hr rfl T.m_is_world T.F_is_world.kp T.b_is_world (sA_cons (sE_call G__law_world_of hr rfl T.m__law_world_of T.F__law_world_of.kp T.b__law_world_of (sA_cons (sE_var (pv 1)) (sA_cons (sE_var (pv 3)) (sA_cons (SimN.e (sN_lst (sA_cons sE_int (sA_cons sE_int (sA_cons sE_int (sA_cons sE_int (sA_cons sE_int (sA_cons sE_int (sA_cons sE_int (sA_cons sE_int (sA_cons sE_int sA_nil))))))))))) sA_nil)))) sA_nil))) (SimE.p sE_bl) (nomark _)) (ss_one (s_ret sE_bl)) ss_nil)
    (ss_cons (s_set (i := 10) nd rfl (by first | exact Or.inl rfl | exact Or.inr rfl) sE_int)
    (ss_cons (s_for (by first | exact PassesOwn.never | exact passes_def) rfl (sI_rng2 rfl T.z_range (sA_cons sE_int (sA_cons sE_int sA_nil))) (pg_name (i := 11) nd rfl (by first | exact Or.inl rfl | exact Or.inr rfl)) (g_name 11) (ss_cons (s_set (i := 2) nd rfl (by first | exact Or.inl rfl | exact Or.inr rfl) (sE_slA (SimE.p sE_str) sO_none (sO_some (sE_op op_addA o2_add (sP_var (pv 11)) (SimE.p sE_int)))))
    (ss_cons (s_if (sT_not (sT_val (sE_call G__law_truth hr rfl T.m__law_truth T.F__law_truth.kp T.b__law_truth (sA_cons (sE_call G_is_world hr rfl T.m_is_world T.F_is_world.kp T.b_is_world (sA_cons (sE_call G__law_with hr rfl T.m__law_with T.F__law_with.kp T.b__law_with (sA_cons (sE_tup (sA_cons sE_str (sA_cons sE_str (sA_cons (sE_var (pv 10)) sA_nil)))) (sA_cons (sE_op op_addA o2_add (sP_var (pv 11)) (SimE.p sE_int)) sA_nil))) sA_nil)) (sA_cons (sE_cmp op_ltA o2_lt (sP_var (pv 11)) (SimE.p sE_int) (nomark _)) sA_nil))))) (ss_one (s_ret sE_bl)) ss_nil)
    (ss_cons (s_if (sT_not (sT_val (sE_call G__law_truth hr rfl T.m__law_truth T.F__law_truth.kp T.b__law_truth (sA_cons (sE_call G_is_world hr rfl T.m_is_world T.F_is_world.kp T.b_is_world (sA_cons (sE_call G__law_with hr rfl T.m__law_with T.F__law_with.kp T.b__law_with (sA_cons (sE_tup (sA_cons sE_str (sA_cons sE_int (sA_cons (sE_op op_sub o2_sub (sP_var (pv 11)) (SimE.p sE_int)) sA_nil)))) (sA_cons sE_int sA_nil))) sA_nil)) (sA_cons (sE_chain op_le op_le o2_le o2_le (SimE.p sE_int) (SimE.p (sE_op op_sub o2_sub (sP_var (pv 11)) (SimE.p sE_int))) (SimE.p sE_int)) sA_nil))))) (ss_one (s_ret sE_bl)) ss_nil)
    (ss_cons (s_if (sT_not (sT_val (sE_call G__law_truth hr rfl T.m__law_truth T.F__law_truth.kp T.b__law_truth (sA_cons (sE_call G_is_world hr rfl T.m_is_world T.F_is_world.kp T.b_is_world (sA_cons (sE_tup (sA_cons (sE_tup sA_nil) (sA_cons (sE_tup (sA_cons (sE_tup (sA_cons (sE_var (pv 2)) (sA_cons (sE_op op_addA o2_add (sP_var (pv 11)) (SimE.p sE_int)) sA_nil))) sA_nil)) (sA_cons (sE_tup sA_nil) (sA_cons (sE_tup (sA_cons (sE_tup (sA_cons (sE_tup sA_nil) (sA_cons (sE_tup (sA_cons (sE_tup (sA_cons sE_str (sA_cons sE_int sA_nil))) sA_nil)) sA_nil))) sA_nil)) sA_nil))))) sA_nil)) (sA_cons (sE_cmp op_ltA o2_lt (sP_var (pv 11)) (SimE.p sE_int) (nomark _)) sA_nil))))) (ss_one (s_ret sE_bl)) ss_nil)
    (ss_one (s_set (i := 10) nd rfl (by first | exact Or.inl rfl | exact Or.inr rfl) (sE_tup (sA_cons sE_str (sA_cons (sE_var (pv 10)) sA_nil))))))))))
    (ss_one (s_ret sE_bl))))))))))) h
end K11
namespace K11
open PySem L2 Mw PyProof.Rows
variable {P : Program} {w : World} {K : PySem.W.Frag} {mg : Str → Option Value} {base : Heap} {k : Nat}
set_option maxHeartbeats 0 in
theorem txt_mk {pr : Params} {K : PySem.W.Frag} {h : Heap} {mg : Str → Option Value} {fa : Addr} (X : K.In h) (G : h.Ns mainGlobals mg) (hfa : mg "law" = some (.ref fa))
    {f0 f1 f2 f3 f4 f5 f6 f7 f8 f9 f10 f11 f12 f13 f14 f15 f16 f17 f18 f19 f20 f21 f22 f23 f24 f25 f26 f27 f28 f29 f30 f31 f32 f33 f34 f35 f36 f37 f38 f39 f40 f41 f42 f43 f44 : Addr} {od0 an0 od1 an1 od2 an2 od3 an3 od4 an4 od5 an5 od6 an6 od7 an7 od8 an8 od9 an9 od10 an10 od11 an11 od12 an12 od13 an13 od14 an14 od15 an15 od16 an16 od17 an17 od18 an18 od19 an19 od20 an20 od21 an21 od22 an22 od23 an23 od24 an24 od25 an25 od26 an26 od27 an27 od28 an28 od29 an29 od30 an30 od31 an31 od32 an32 od33 an33 od34 an34 od35 an35 od36 an36 od37 an37 od38 an38 od39 an39 od40 an40 od41 an41 od42 an42 od43 an43 od44 an44 : Option Addr} {sl0 sl1 sl2 sl3 sl4 sl5 sl6 sl7 sl8 sl9 sl10 sl11 sl12 sl13 sl14 sl15 sl16 sl17 sl18 sl19 sl20 sl21 sl22 sl23 sl24 sl25 sl26 sl27 sl28 sl29 sl30 sl31 sl32 sl33 sl34 sl35 sl36 sl37 sl38 sl39 sl40 sl41 sl42 sl43 sl44 : Array (Option Value)} {oc0 kV0 dc0 pm0 cd0 ct0 oc1 kV1 dc1 pm1 cd1 ct1 oc2 kV2 dc2 pm2 cd2 ct2 oc3 kV3 dc3 pm3 cd3 ct3 oc4 kV4 dc4 pm4 cd4 ct4 oc5 kV5 dc5 pm5 cd5 ct5 oc6 kV6 dc6 pm6 cd6 ct6 oc7 kV7 dc7 pm7 cd7 ct7 oc8 kV8 dc8 pm8 cd8 ct8 oc9 kV9 dc9 pm9 cd9 ct9 oc10 kV10 dc10 pm10 cd10 ct10 oc11 kV11 dc11 pm11 cd11 ct11 oc12 kV12 dc12 pm12 cd12 ct12 oc13 kV13 dc13 pm13 cd13 ct13 oc14 kV14 dc14 pm14 cd14 ct14 oc15 kV15 dc15 pm15 cd15 ct15 oc16 kV16 dc16 pm16 cd16 ct16 oc17 kV17 dc17 pm17 cd17 ct17 oc18 kV18 dc18 pm18 cd18 ct18 oc19 kV19 dc19 pm19 cd19 ct19 oc20 kV20 dc20 pm20 cd20 ct20 oc21 kV21 dc21 pm21 cd21 ct21 oc22 kV22 dc22 pm22 cd22 ct22 oc23 kV23 dc23 pm23 cd23 ct23 oc24 kV24 dc24 pm24 cd24 ct24 oc25 kV25 dc25 pm25 cd25 ct25 oc26 kV26 dc26 pm26 cd26 ct26 oc27 kV27 dc27 pm27 cd27 ct27 oc28 kV28 dc28 pm28 cd28 ct28 oc29 kV29 dc29 pm29 cd29 ct29 oc30 kV30 dc30 pm30 cd30 ct30 oc31 kV31 dc31 pm31 cd31 ct31 oc32 kV32 dc32 pm32 cd32 ct32 oc33 kV33 dc33 pm33 cd33 ct33 oc34 kV34 dc34 pm34 cd34 ct34 oc35 kV35 dc35 pm35 cd35 ct35 oc36 kV36 dc36 pm36 cd36 ct36 oc37 kV37 dc37 pm37 cd37 ct37 oc38 kV38 dc38 pm38 cd38 ct38 oc39 kV39 dc39 pm39 cd39 ct39 oc40 kV40 dc40 pm40 cd40 ct40 oc41 kV41 dc41 pm41 cd41 ct41 oc42 kV42 dc42 pm42 cd42 ct42 oc43 kV43 dc43 pm43 cd43 ct43 oc44 kV44 dc44 pm44 cd44 ct44 : Value}
    (a0 : PySem.W.nsIn K mainGlobals "is_word" = some (some (.ref f0)))
    (l0 : K.lookup f0 = some ⟨oc0, od0, .func (PySem.W.fnOf "is_word" "is_word" (defArgs s_is_word) (defBody s_is_word) (defScope s_is_word) .none kV0 dc0 pm0 an0 cd0 ct0), sl0⟩) (c0 : PySem.W.codeIn K cd0 "is_word" = true) (k0 : PySem.W.keepIn K (.ref f0) = true)
    (a1 : PySem.W.nsIn K mainGlobals "is_value" = some (some (.ref f1)))
    (l1 : K.lookup f1 = some ⟨oc1, od1, .func (PySem.W.fnOf "is_value" "is_value" (defArgs s_is_value) (defBody s_is_value) (defScope s_is_value) .none kV1 dc1 pm1 an1 cd1 ct1), sl1⟩) (c1 : PySem.W.codeIn K cd1 "is_value" = true) (k1 : PySem.W.keepIn K (.ref f1) = true)
    (a2 : PySem.W.nsIn K mainGlobals "is_sum_within" = some (some (.ref f2)))
    (l2 : K.lookup f2 = some ⟨oc2, od2, .func (PySem.W.fnOf "is_sum_within" "is_sum_within" (defArgs s_is_sum_within) (defBody s_is_sum_within) (defScope s_is_sum_within) .none kV2 dc2 pm2 an2 cd2 ct2), sl2⟩) (c2 : PySem.W.codeIn K cd2 "is_sum_within" = true) (k2 : PySem.W.keepIn K (.ref f2) = true)
    (a3 : PySem.W.nsIn K mainGlobals "is_sum" = some (some (.ref f3)))
    (l3 : K.lookup f3 = some ⟨oc3, od3, .func (PySem.W.fnOf "is_sum" "is_sum" (defArgs s_is_sum) (defBody s_is_sum) (defScope s_is_sum) .none kV3 dc3 pm3 an3 cd3 ct3), sl3⟩) (c3 : PySem.W.codeIn K cd3 "is_sum" = true) (k3 : PySem.W.keepIn K (.ref f3) = true)
    (a4 : PySem.W.nsIn K mainGlobals "parts_of" = some (some (.ref f4)))
    (l4 : K.lookup f4 = some ⟨oc4, od4, .func (PySem.W.fnOf "parts_of" "parts_of" (defArgs s_parts_of) (defBody s_parts_of) (defScope s_parts_of) .none kV4 dc4 pm4 an4 cd4 ct4), sl4⟩) (c4 : PySem.W.codeIn K cd4 "parts_of" = true) (k4 : PySem.W.keepIn K (.ref f4) = true)
    (a5 : PySem.W.nsIn K mainGlobals "words_in" = some (some (.ref f5)))
    (l5 : K.lookup f5 = some ⟨oc5, od5, .func (PySem.W.fnOf "words_in" "words_in" (defArgs s_words_in) (defBody s_words_in) (defScope s_words_in) .none kV5 dc5 pm5 an5 cd5 ct5), sl5⟩) (c5 : PySem.W.codeIn K cd5 "words_in" = true) (k5 : PySem.W.keepIn K (.ref f5) = true)
    (a6 : PySem.W.nsIn K mainGlobals "bells_in" = some (some (.ref f6)))
    (l6 : K.lookup f6 = some ⟨oc6, od6, .func (PySem.W.fnOf "bells_in" "bells_in" (defArgs s_bells_in) (defBody s_bells_in) (defScope s_bells_in) .none kV6 dc6 pm6 an6 cd6 ct6), sl6⟩) (c6 : PySem.W.codeIn K cd6 "bells_in" = true) (k6 : PySem.W.keepIn K (.ref f6) = true)
    (a7 : PySem.W.nsIn K mainGlobals "words_of" = some (some (.ref f7)))
    (l7 : K.lookup f7 = some ⟨oc7, od7, .func (PySem.W.fnOf "words_of" "words_of" (defArgs s_words_of) (defBody s_words_of) (defScope s_words_of) .none kV7 dc7 pm7 an7 cd7 ct7), sl7⟩) (c7 : PySem.W.codeIn K cd7 "words_of" = true) (k7 : PySem.W.keepIn K (.ref f7) = true)
    (a8 : PySem.W.nsIn K mainGlobals "bells_of" = some (some (.ref f8)))
    (l8 : K.lookup f8 = some ⟨oc8, od8, .func (PySem.W.fnOf "bells_of" "bells_of" (defArgs s_bells_of) (defBody s_bells_of) (defScope s_bells_of) .none kV8 dc8 pm8 an8 cd8 ct8), sl8⟩) (c8 : PySem.W.codeIn K cd8 "bells_of" = true) (k8 : PySem.W.keepIn K (.ref f8) = true)
    (a9 : PySem.W.nsIn K mainGlobals "firsts" = some (some (.ref f9)))
    (l9 : K.lookup f9 = some ⟨oc9, od9, .func (PySem.W.fnOf "firsts" "firsts" (defArgs s_firsts) (defBody s_firsts) (defScope s_firsts) .none kV9 dc9 pm9 an9 cd9 ct9), sl9⟩) (c9 : PySem.W.codeIn K cd9 "firsts" = true) (k9 : PySem.W.keepIn K (.ref f9) = true)
    (a10 : PySem.W.nsIn K mainGlobals "is_tuple_of" = some (some (.ref f10)))
    (l10 : K.lookup f10 = some ⟨oc10, od10, .func (PySem.W.fnOf "is_tuple_of" "is_tuple_of" (defArgs s_is_tuple_of) (defBody s_is_tuple_of) (defScope s_is_tuple_of) .none kV10 dc10 pm10 an10 cd10 ct10), sl10⟩) (c10 : PySem.W.codeIn K cd10 "is_tuple_of" = true) (k10 : PySem.W.keepIn K (.ref f10) = true)
    (a11 : PySem.W.nsIn K mainGlobals "is_rising" = some (some (.ref f11)))
    (l11 : K.lookup f11 = some ⟨oc11, od11, .func (PySem.W.fnOf "is_rising" "is_rising" (defArgs s_is_rising) (defBody s_is_rising) (defScope s_is_rising) .none kV11 dc11 pm11 an11 cd11 ct11), sl11⟩) (c11 : PySem.W.codeIn K cd11 "is_rising" = true) (k11 : PySem.W.keepIn K (.ref f11) = true)
    (a12 : PySem.W.nsIn K mainGlobals "is_place" = some (some (.ref f12)))
    (l12 : K.lookup f12 = some ⟨oc12, od12, .func (PySem.W.fnOf "is_place" "is_place" (defArgs s_is_place) (defBody s_is_place) (defScope s_is_place) .none kV12 dc12 pm12 an12 cd12 ct12), sl12⟩) (c12 : PySem.W.codeIn K cd12 "is_place" = true) (k12 : PySem.W.keepIn K (.ref f12) = true)
    (a13 : PySem.W.nsIn K mainGlobals "is_part" = some (some (.ref f13)))
    (l13 : K.lookup f13 = some ⟨oc13, od13, .func (PySem.W.fnOf "is_part" "is_part" (defArgs s_is_part) (defBody s_is_part) (defScope s_is_part) .none kV13 dc13 pm13 an13 cd13 ct13), sl13⟩) (c13 : PySem.W.codeIn K cd13 "is_part" = true) (k13 : PySem.W.keepIn K (.ref f13) = true)
    (a14 : PySem.W.nsIn K mainGlobals "is_row" = some (some (.ref f14)))
    (l14 : K.lookup f14 = some ⟨oc14, od14, .func (PySem.W.fnOf "is_row" "is_row" (defArgs s_is_row) (defBody s_is_row) (defScope s_is_row) .none kV14 dc14 pm14 an14 cd14 ct14), sl14⟩) (c14 : PySem.W.codeIn K cd14 "is_row" = true) (k14 : PySem.W.keepIn K (.ref f14) = true)
    (a15 : PySem.W.nsIn K mainGlobals "is_program" = some (some (.ref f15)))
    (l15 : K.lookup f15 = some ⟨oc15, od15, .func (PySem.W.fnOf "is_program" "is_program" (defArgs s_is_program) (defBody s_is_program) (defScope s_is_program) .none kV15 dc15 pm15 an15 cd15 ct15), sl15⟩) (c15 : PySem.W.codeIn K cd15 "is_program" = true) (k15 : PySem.W.keepIn K (.ref f15) = true)
    (a16 : PySem.W.nsIn K mainGlobals "is_pass" = some (some (.ref f16)))
    (l16 : K.lookup f16 = some ⟨oc16, od16, .func (PySem.W.fnOf "is_pass" "is_pass" (defArgs s_is_pass) (defBody s_is_pass) (defScope s_is_pass) .none kV16 dc16 pm16 an16 cd16 ct16), sl16⟩) (c16 : PySem.W.codeIn K cd16 "is_pass" = true) (k16 : PySem.W.keepIn K (.ref f16) = true)
    (a17 : PySem.W.nsIn K mainGlobals "are_passes" = some (some (.ref f17)))
    (l17 : K.lookup f17 = some ⟨oc17, od17, .func (PySem.W.fnOf "are_passes" "are_passes" (defArgs s_are_passes) (defBody s_are_passes) (defScope s_are_passes) .none kV17 dc17 pm17 an17 cd17 ct17), sl17⟩) (c17 : PySem.W.codeIn K cd17 "are_passes" = true) (k17 : PySem.W.keepIn K (.ref f17) = true)
    (a18 : PySem.W.nsIn K mainGlobals "are_things" = some (some (.ref f18)))
    (l18 : K.lookup f18 = some ⟨oc18, od18, .func (PySem.W.fnOf "are_things" "are_things" (defArgs s_are_things) (defBody s_are_things) (defScope s_are_things) .none kV18 dc18 pm18 an18 cd18 ct18), sl18⟩) (c18 : PySem.W.codeIn K cd18 "are_things" = true) (k18 : PySem.W.keepIn K (.ref f18) = true)
    (a19 : PySem.W.nsIn K mainGlobals "is_bell" = some (some (.ref f19)))
    (l19 : K.lookup f19 = some ⟨oc19, od19, .func (PySem.W.fnOf "is_bell" "is_bell" (defArgs s_is_bell) (defBody s_is_bell) (defScope s_is_bell) .none kV19 dc19 pm19 an19 cd19 ct19), sl19⟩) (c19 : PySem.W.codeIn K cd19 "is_bell" = true) (k19 : PySem.W.keepIn K (.ref f19) = true)
    (a20 : PySem.W.nsIn K mainGlobals "is_deed" = some (some (.ref f20)))
    (l20 : K.lookup f20 = some ⟨oc20, od20, .func (PySem.W.fnOf "is_deed" "is_deed" (defArgs s_is_deed) (defBody s_is_deed) (defScope s_is_deed) .none kV20 dc20 pm20 an20 cd20 ct20), sl20⟩) (c20 : PySem.W.codeIn K cd20 "is_deed" = true) (k20 : PySem.W.keepIn K (.ref f20) = true)
    (a21 : PySem.W.nsIn K mainGlobals "is_room" = some (some (.ref f21)))
    (l21 : K.lookup f21 = some ⟨oc21, od21, .func (PySem.W.fnOf "is_room" "is_room" (defArgs s_is_room) (defBody s_is_room) (defScope s_is_room) .none kV21 dc21 pm21 an21 cd21 ct21), sl21⟩) (c21 : PySem.W.codeIn K cd21 "is_room" = true) (k21 : PySem.W.keepIn K (.ref f21) = true)
    (a22 : PySem.W.nsIn K mainGlobals "is_hand" = some (some (.ref f22)))
    (l22 : K.lookup f22 = some ⟨oc22, od22, .func (PySem.W.fnOf "is_hand" "is_hand" (defArgs s_is_hand) (defBody s_is_hand) (defScope s_is_hand) .none kV22 dc22 pm22 an22 cd22 ct22), sl22⟩) (c22 : PySem.W.codeIn K cd22 "is_hand" = true) (k22 : PySem.W.keepIn K (.ref f22) = true)
    (a23 : PySem.W.nsIn K mainGlobals "is_formed" = some (some (.ref f23)))
    (l23 : K.lookup f23 = some ⟨oc23, od23, .func (PySem.W.fnOf "is_formed" "is_formed" (defArgs s_is_formed) (defBody s_is_formed) (defScope s_is_formed) .none kV23 dc23 pm23 an23 cd23 ct23), sl23⟩) (c23 : PySem.W.codeIn K cd23 "is_formed" = true) (k23 : PySem.W.keepIn K (.ref f23) = true)
    (a24 : PySem.W.nsIn K mainGlobals "are_among" = some (some (.ref f24)))
    (l24 : K.lookup f24 = some ⟨oc24, od24, .func (PySem.W.fnOf "are_among" "are_among" (defArgs s_are_among) (defBody s_are_among) (defScope s_are_among) .none kV24 dc24 pm24 an24 cd24 ct24), sl24⟩) (c24 : PySem.W.codeIn K cd24 "are_among" = true) (k24 : PySem.W.keepIn K (.ref f24) = true)
    (a25 : PySem.W.nsIn K mainGlobals "sums_in" = some (some (.ref f25)))
    (l25 : K.lookup f25 = some ⟨oc25, od25, .func (PySem.W.fnOf "sums_in" "sums_in" (defArgs s_sums_in) (defBody s_sums_in) (defScope s_sums_in) .none kV25 dc25 pm25 an25 cd25 ct25), sl25⟩) (c25 : PySem.W.codeIn K cd25 "sums_in" = true) (k25 : PySem.W.keepIn K (.ref f25) = true)
    (a26 : PySem.W.nsIn K mainGlobals "is_put_right" = some (some (.ref f26)))
    (l26 : K.lookup f26 = some ⟨oc26, od26, .func (PySem.W.fnOf "is_put_right" "is_put_right" (defArgs s_is_put_right) (defBody s_is_put_right) (defScope s_is_put_right) .none kV26 dc26 pm26 an26 cd26 ct26), sl26⟩) (c26 : PySem.W.codeIn K cd26 "is_put_right" = true) (k26 : PySem.W.keepIn K (.ref f26) = true)
    (a27 : PySem.W.nsIn K mainGlobals "is_deed_there" = some (some (.ref f27)))
    (l27 : K.lookup f27 = some ⟨oc27, od27, .func (PySem.W.fnOf "is_deed_there" "is_deed_there" (defArgs s_is_deed_there) (defBody s_is_deed_there) (defScope s_is_deed_there) .none kV27 dc27 pm27 an27 cd27 ct27), sl27⟩) (c27 : PySem.W.codeIn K cd27 "is_deed_there" = true) (k27 : PySem.W.keepIn K (.ref f27) = true)
    (a28 : PySem.W.nsIn K mainGlobals "stands_in_deed" = some (some (.ref f28)))
    (l28 : K.lookup f28 = some ⟨oc28, od28, .func (PySem.W.fnOf "stands_in_deed" "stands_in_deed" (defArgs s_stands_in_deed) (defBody s_stands_in_deed) (defScope s_stands_in_deed) .none kV28 dc28 pm28 an28 cd28 ct28), sl28⟩) (c28 : PySem.W.codeIn K cd28 "stands_in_deed" = true) (k28 : PySem.W.keepIn K (.ref f28) = true)
    (a29 : PySem.W.nsIn K mainGlobals "stands_in_hand" = some (some (.ref f29)))
    (l29 : K.lookup f29 = some ⟨oc29, od29, .func (PySem.W.fnOf "stands_in_hand" "stands_in_hand" (defArgs s_stands_in_hand) (defBody s_stands_in_hand) (defScope s_stands_in_hand) .none kV29 dc29 pm29 an29 cd29 ct29), sl29⟩) (c29 : PySem.W.codeIn K cd29 "stands_in_hand" = true) (k29 : PySem.W.keepIn K (.ref f29) = true)
    (a30 : PySem.W.nsIn K mainGlobals "is_room_right" = some (some (.ref f30)))
    (l30 : K.lookup f30 = some ⟨oc30, od30, .func (PySem.W.fnOf "is_room_right" "is_room_right" (defArgs s_is_room_right) (defBody s_is_room_right) (defScope s_is_room_right) .none kV30 dc30 pm30 an30 cd30 ct30), sl30⟩) (c30 : PySem.W.codeIn K cd30 "is_room_right" = true) (k30 : PySem.W.keepIn K (.ref f30) = true)
    (a31 : PySem.W.nsIn K mainGlobals "is_hand_right" = some (some (.ref f31)))
    (l31 : K.lookup f31 = some ⟨oc31, od31, .func (PySem.W.fnOf "is_hand_right" "is_hand_right" (defArgs s_is_hand_right) (defBody s_is_hand_right) (defScope s_is_hand_right) .none kV31 dc31 pm31 an31 cd31 ct31), sl31⟩) (c31 : PySem.W.codeIn K cd31 "is_hand_right" = true) (k31 : PySem.W.keepIn K (.ref f31) = true)
    (a32 : PySem.W.nsIn K mainGlobals "deeds_done" = some (some (.ref f32)))
    (l32 : K.lookup f32 = some ⟨oc32, od32, .func (PySem.W.fnOf "deeds_done" "deeds_done" (defArgs s_deeds_done) (defBody s_deeds_done) (defScope s_deeds_done) .none kV32 dc32 pm32 an32 cd32 ct32), sl32⟩) (c32 : PySem.W.codeIn K cd32 "deeds_done" = true) (k32 : PySem.W.keepIn K (.ref f32) = true)
    (a33 : PySem.W.nsIn K mainGlobals "comes_to_itself" = some (some (.ref f33)))
    (l33 : K.lookup f33 = some ⟨oc33, od33, .func (PySem.W.fnOf "comes_to_itself" "comes_to_itself" (defArgs s_comes_to_itself) (defBody s_comes_to_itself) (defScope s_comes_to_itself) .none kV33 dc33 pm33 an33 cd33 ct33), sl33⟩) (c33 : PySem.W.codeIn K cd33 "comes_to_itself" = true) (k33 : PySem.W.keepIn K (.ref f33) = true)
    (a34 : PySem.W.nsIn K mainGlobals "is_world" = some (some (.ref f34)))
    (l34 : K.lookup f34 = some ⟨oc34, od34, .func (PySem.W.fnOf "is_world" "is_world" (defArgs s_is_world) (defBody s_is_world) (defScope s_is_world) .none kV34 dc34 pm34 an34 cd34 ct34), sl34⟩) (c34 : PySem.W.codeIn K cd34 "is_world" = true) (k34 : PySem.W.keepIn K (.ref f34) = true)
    (a35 : PySem.W.nsIn K mainGlobals "_law_pot" = some (some (.ref f35)))
    (l35 : K.lookup f35 = some ⟨oc35, od35, .func (PySem.W.fnOf "_law_pot" "_law_pot" (defArgs s__law_pot) (defBody s__law_pot) (defScope s__law_pot) .none kV35 dc35 pm35 an35 cd35 ct35), sl35⟩) (c35 : PySem.W.codeIn K cd35 "_law_pot" = true) (k35 : PySem.W.keepIn K (.ref f35) = true)
    (a36 : PySem.W.nsIn K mainGlobals "_law_take" = some (some (.ref f36)))
    (l36 : K.lookup f36 = some ⟨oc36, od36, .func (PySem.W.fnOf "_law_take" "_law_take" (defArgs s__law_take) (defBody s__law_take) (defScope s__law_take) .none kV36 dc36 pm36 an36 cd36 ct36), sl36⟩) (c36 : PySem.W.codeIn K cd36 "_law_take" = true) (k36 : PySem.W.keepIn K (.ref f36) = true)
    (a37 : PySem.W.nsIn K mainGlobals "_law_of" = some (some (.ref f37)))
    (l37 : K.lookup f37 = some ⟨oc37, od37, .func (PySem.W.fnOf "_law_of" "_law_of" (defArgs s__law_of) (defBody s__law_of) (defScope s__law_of) .none kV37 dc37 pm37 an37 cd37 ct37), sl37⟩) (c37 : PySem.W.codeIn K cd37 "_law_of" = true) (k37 : PySem.W.keepIn K (.ref f37) = true)
    (a38 : PySem.W.nsIn K mainGlobals "_law_words" = some (some (.ref f38)))
    (l38 : K.lookup f38 = some ⟨oc38, od38, .func (PySem.W.fnOf "_law_words" "_law_words" (defArgs s__law_words) (defBody s__law_words) (defScope s__law_words) .none kV38 dc38 pm38 an38 cd38 ct38), sl38⟩) (c38 : PySem.W.codeIn K cd38 "_law_words" = true) (k38 : PySem.W.keepIn K (.ref f38) = true)
    (a39 : PySem.W.nsIn K mainGlobals "_law_named" = some (some (.ref f39)))
    (l39 : K.lookup f39 = some ⟨oc39, od39, .func (PySem.W.fnOf "_law_named" "_law_named" (defArgs s__law_named) (defBody s__law_named) (defScope s__law_named) .none kV39 dc39 pm39 an39 cd39 ct39), sl39⟩) (c39 : PySem.W.codeIn K cd39 "_law_named" = true) (k39 : PySem.W.keepIn K (.ref f39) = true)
    (a40 : PySem.W.nsIn K mainGlobals "_law_world_of" = some (some (.ref f40)))
    (l40 : K.lookup f40 = some ⟨oc40, od40, .func (PySem.W.fnOf "_law_world_of" "_law_world_of" (defArgs s__law_world_of) (defBody s__law_world_of) (defScope s__law_world_of) .none kV40 dc40 pm40 an40 cd40 ct40), sl40⟩) (c40 : PySem.W.codeIn K cd40 "_law_world_of" = true) (k40 : PySem.W.keepIn K (.ref f40) = true)
    (a41 : PySem.W.nsIn K mainGlobals "_law_small" = some (some (.ref f41)))
    (l41 : K.lookup f41 = some ⟨oc41, od41, .func (PySem.W.fnOf "_law_small" "_law_small" (defArgs s__law_small) (defBody s__law_small) (defScope s__law_small) .none kV41 dc41 pm41 an41 cd41 ct41), sl41⟩) (c41 : PySem.W.codeIn K cd41 "_law_small" = true) (k41 : PySem.W.keepIn K (.ref f41) = true)
    (a42 : PySem.W.nsIn K mainGlobals "_law_with" = some (some (.ref f42)))
    (l42 : K.lookup f42 = some ⟨oc42, od42, .func (PySem.W.fnOf "_law_with" "_law_with" (defArgs s__law_with) (defBody s__law_with) (defScope s__law_with) .none kV42 dc42 pm42 an42 cd42 ct42), sl42⟩) (c42 : PySem.W.codeIn K cd42 "_law_with" = true) (k42 : PySem.W.keepIn K (.ref f42) = true)
    (a43 : PySem.W.nsIn K mainGlobals "_law_truth" = some (some (.ref f43)))
    (l43 : K.lookup f43 = some ⟨oc43, od43, .func (PySem.W.fnOf "_law_truth" "_law_truth" (defArgs s__law_truth) (defBody s__law_truth) (defScope s__law_truth) .none kV43 dc43 pm43 an43 cd43 ct43), sl43⟩) (c43 : PySem.W.codeIn K cd43 "_law_truth" = true) (k43 : PySem.W.keepIn K (.ref f43) = true)
    (a44 : PySem.W.nsIn K mainGlobals "law" = some (some (.ref f44)))
    (l44 : K.lookup f44 = some ⟨oc44, od44, .func (PySem.W.fnOf "law" "law" (defArgs s_law) (defBody s_law) (defScope s_law) .none kV44 dc44 pm44 an44 cd44 ct44), sl44⟩) (c44 : PySem.W.codeIn K cd44 "law" = true) (k44 : PySem.W.keepIn K (.ref f44) = true)
    {D_FORMS : Addr} {es_FORMS : Array DictEntry} {dn_FORMS : Nat} (nt_FORMS : PySem.W.nsIn K mainGlobals "FORMS" = some (some (.ref D_FORMS))) (et_FORMS : K.lookup D_FORMS = some ⟨.type "dict", none, .dict es_FORMS dn_FORMS, #[]⟩) (kt_FORMS : PySem.W.KeysLit pr es_FORMS.toList) (lo_FORMS : (D_FORMS == sysModules) = false) (ki_FORMS : KeysIn (tt_FORMS.map (·.1)) es_FORMS.toList)
    {vt0_0_FORMS vt0_1_FORMS : Tok} {va0_FORMS : Addr} {vj0_FORMS : Nat} {vs0_FORMS : Array (Option Value)} (v0_FORMS : PySem.W.nsIn K D_FORMS "put" = some (some (.ref va0_FORMS))) (u0_FORMS : K.lookup va0_FORMS = some ⟨.type "tuple", none, .seq (List.toArray [.str "word" vt0_0_FORMS, .str "sum" vt0_1_FORMS]) vj0_FORMS, vs0_FORMS⟩)
    {vt1_0_FORMS vt1_1_FORMS : Tok} {va1_FORMS : Addr} {vj1_FORMS : Nat} {vs1_FORMS : Array (Option Value)} (v1_FORMS : PySem.W.nsIn K D_FORMS "unless" = some (some (.ref va1_FORMS))) (u1_FORMS : K.lookup va1_FORMS = some ⟨.type "tuple", none, .seq (List.toArray [.str "sum" vt1_0_FORMS, .str "place" vt1_1_FORMS]) vj1_FORMS, vs1_FORMS⟩)
    {vt2_0_FORMS : Tok} {va2_FORMS : Addr} {vj2_FORMS : Nat} {vs2_FORMS : Array (Option Value)} (v2_FORMS : PySem.W.nsIn K D_FORMS "go" = some (some (.ref va2_FORMS))) (u2_FORMS : K.lookup va2_FORMS = some ⟨.type "tuple", none, .seq (List.toArray [.str "place" vt2_0_FORMS]) vj2_FORMS, vs2_FORMS⟩)
    {vt3_0_FORMS vt3_1_FORMS vt3_2_FORMS vt3_3_FORMS : Tok} {va3_FORMS : Addr} {vj3_FORMS : Nat} {vs3_FORMS : Array (Option Value)} (v3_FORMS : PySem.W.nsIn K D_FORMS "do" = some (some (.ref va3_FORMS))) (u3_FORMS : K.lookup va3_FORMS = some ⟨.type "tuple", none, .seq (List.toArray [.str "goal" vt3_0_FORMS, .str "word" vt3_1_FORMS, .str "word" vt3_2_FORMS, .str "sum" vt3_3_FORMS]) vj3_FORMS, vs3_FORMS⟩)
    {vt4_0_FORMS vt4_1_FORMS : Tok} {va4_FORMS : Addr} {vj4_FORMS : Nat} {vs4_FORMS : Array (Option Value)} (v4_FORMS : PySem.W.nsIn K D_FORMS "wait" = some (some (.ref va4_FORMS))) (u4_FORMS : K.lookup va4_FORMS = some ⟨.type "tuple", none, .seq (List.toArray [.str "word" vt4_0_FORMS, .str "sum" vt4_1_FORMS]) vj4_FORMS, vs4_FORMS⟩)
    {vt5_0_FORMS : Tok} {va5_FORMS : Addr} {vj5_FORMS : Nat} {vs5_FORMS : Array (Option Value)} (v5_FORMS : PySem.W.nsIn K D_FORMS "call" = some (some (.ref va5_FORMS))) (u5_FORMS : K.lookup va5_FORMS = some ⟨.type "tuple", none, .seq (List.toArray [.str "word" vt5_0_FORMS]) vj5_FORMS, vs5_FORMS⟩)
    {vt6_0_FORMS : Tok} {va6_FORMS : Addr} {vj6_FORMS : Nat} {vs6_FORMS : Array (Option Value)} (v6_FORMS : PySem.W.nsIn K D_FORMS "all" = some (some (.ref va6_FORMS))) (u6_FORMS : K.lookup va6_FORMS = some ⟨.type "tuple", none, .seq (List.toArray [.str "word" vt6_0_FORMS]) vj6_FORMS, vs6_FORMS⟩)
    {vt7_0_FORMS : Tok} {va7_FORMS : Addr} {vj7_FORMS : Nat} {vs7_FORMS : Array (Option Value)} (v7_FORMS : PySem.W.nsIn K D_FORMS "tell" = some (some (.ref va7_FORMS))) (u7_FORMS : K.lookup va7_FORMS = some ⟨.type "tuple", none, .seq (List.toArray [.str "sum" vt7_0_FORMS]) vj7_FORMS, vs7_FORMS⟩)
    {vt8_0_FORMS : Tok} {va8_FORMS : Addr} {vj8_FORMS : Nat} {vs8_FORMS : Array (Option Value)} (v8_FORMS : PySem.W.nsIn K D_FORMS "take" = some (some (.ref va8_FORMS))) (u8_FORMS : K.lookup va8_FORMS = some ⟨.type "tuple", none, .seq (List.toArray [.str "word" vt8_0_FORMS]) vj8_FORMS, vs8_FORMS⟩)
    {vt9_0_FORMS : Tok} {va9_FORMS : Addr} {vj9_FORMS : Nat} {vs9_FORMS : Array (Option Value)} (v9_FORMS : PySem.W.nsIn K D_FORMS "give" = some (some (.ref va9_FORMS))) (u9_FORMS : K.lookup va9_FORMS = some ⟨.type "tuple", none, .seq (List.toArray [.str "word" vt9_0_FORMS]) vj9_FORMS, vs9_FORMS⟩)
    {vt10_0_FORMS vt10_1_FORMS : Tok} {va10_FORMS : Addr} {vj10_FORMS : Nat} {vs10_FORMS : Array (Option Value)} (v10_FORMS : PySem.W.nsIn K D_FORMS "pass" = some (some (.ref va10_FORMS))) (u10_FORMS : K.lookup va10_FORMS = some ⟨.type "tuple", none, .seq (List.toArray [.str "word" vt10_0_FORMS, .str "word" vt10_1_FORMS]) vj10_FORMS, vs10_FORMS⟩)
    {vt11_0_FORMS : Tok} {va11_FORMS : Addr} {vj11_FORMS : Nat} {vs11_FORMS : Array (Option Value)} (v11_FORMS : PySem.W.nsIn K D_FORMS "say" = some (some (.ref va11_FORMS))) (u11_FORMS : K.lookup va11_FORMS = some ⟨.type "tuple", none, .seq (List.toArray [.str "sum" vt11_0_FORMS]) vj11_FORMS, vs11_FORMS⟩)
    (z_all : PySem.W.nsIn K mainGlobals "all" = some none)
    (z_any : PySem.W.nsIn K mainGlobals "any" = some none)
    (z_bool : PySem.W.nsIn K mainGlobals "bool" = some none)
    (z_enumerate : PySem.W.nsIn K mainGlobals "enumerate" = some none)
    (z_int : PySem.W.nsIn K mainGlobals "int" = some none)
    (z_isinstance : PySem.W.nsIn K mainGlobals "isinstance" = some none)
    (z_len : PySem.W.nsIn K mainGlobals "len" = some none)
    (z_range : PySem.W.nsIn K mainGlobals "range" = some none)
    (z_set : PySem.W.nsIn K mainGlobals "set" = some none)
    (z_sorted : PySem.W.nsIn K mainGlobals "sorted" = some none)
    (z_str : PySem.W.nsIn K mainGlobals "str" = some none)
    (z_tuple : PySem.W.nsIn K mainGlobals "tuple" = some none)
    (z_zip : PySem.W.nsIn K mainGlobals "zip" = some none)
    {t_GIVEN : Tok} (n_GIVEN : PySem.W.nsIn K mainGlobals "GIVEN" = some (some (.str "given" t_GIVEN)))
    {t_IN_DEEDS_0 t_IN_DEEDS_1 t_IN_DEEDS_2 t_IN_DEEDS_3 : Tok} {a_IN_DEEDS : Addr} {j_IN_DEEDS : Nat} {sl_IN_DEEDS : Array (Option Value)} (n_IN_DEEDS : PySem.W.nsIn K mainGlobals "IN_DEEDS" = some (some (.ref a_IN_DEEDS))) (e_IN_DEEDS : K.lookup a_IN_DEEDS = some ⟨.type "tuple", none, .seq (List.toArray [.str "wait" t_IN_DEEDS_0, .str "call" t_IN_DEEDS_1, .str "all" t_IN_DEEDS_2, .str "tell" t_IN_DEEDS_3]) j_IN_DEEDS, sl_IN_DEEDS⟩)
    {t_IN_HANDS_0 t_IN_HANDS_1 t_IN_HANDS_2 t_IN_HANDS_3 : Tok} {a_IN_HANDS : Addr} {j_IN_HANDS : Nat} {sl_IN_HANDS : Array (Option Value)} (n_IN_HANDS : PySem.W.nsIn K mainGlobals "IN_HANDS" = some (some (.ref a_IN_HANDS))) (e_IN_HANDS : K.lookup a_IN_HANDS = some ⟨.type "tuple", none, .seq (List.toArray [.str "take" t_IN_HANDS_0, .str "give" t_IN_HANDS_1, .str "pass" t_IN_HANDS_2, .str "say" t_IN_HANDS_3]) j_IN_HANDS, sl_IN_HANDS⟩)
    {t_LETTERS : Tok} (n_LETTERS : PySem.W.nsIn K mainGlobals "LETTERS" = some (some (.str "abcdefghijklmnopqrstuvwxyz" t_LETTERS)))
    {t_MANNERS_0 t_MANNERS_1 : Tok} {a_MANNERS : Addr} {j_MANNERS : Nat} {sl_MANNERS : Array (Option Value)} (n_MANNERS : PySem.W.nsIn K mainGlobals "MANNERS" = some (some (.ref a_MANNERS))) (e_MANNERS : K.lookup a_MANNERS = some ⟨.type "tuple", none, .seq (List.toArray [.str "at once" t_MANNERS_0, .str "when free" t_MANNERS_1]) j_MANNERS, sl_MANNERS⟩)
    {t_MOST_BELLS : Tok} (n_MOST_BELLS : PySem.W.nsIn K mainGlobals "MOST_BELLS" = some (some (.int (3) t_MOST_BELLS)))
    {t_MOST_DEEDS : Tok} (n_MOST_DEEDS : PySem.W.nsIn K mainGlobals "MOST_DEEDS" = some (some (.int (4) t_MOST_DEEDS)))
    {t_MOST_DEEP : Tok} (n_MOST_DEEP : PySem.W.nsIn K mainGlobals "MOST_DEEP" = some (some (.int (5) t_MOST_DEEP)))
    {t_MOST_HANDS : Tok} (n_MOST_HANDS : PySem.W.nsIn K mainGlobals "MOST_HANDS" = some (some (.int (4) t_MOST_HANDS)))
    {t_MOST_OPEN : Tok} (n_MOST_OPEN : PySem.W.nsIn K mainGlobals "MOST_OPEN" = some (some (.int (16) t_MOST_OPEN)))
    {t_MOST_OWN : Tok} (n_MOST_OWN : PySem.W.nsIn K mainGlobals "MOST_OWN" = some (some (.int (8) t_MOST_OWN)))
    {t_MOST_PASSES : Tok} (n_MOST_PASSES : PySem.W.nsIn K mainGlobals "MOST_PASSES" = some (some (.int (16) t_MOST_PASSES)))
    {t_MOST_ROOMS : Tok} (n_MOST_ROOMS : PySem.W.nsIn K mainGlobals "MOST_ROOMS" = some (some (.int (4) t_MOST_ROOMS)))
    {t_MOST_ROOM_THINGS : Tok} (n_MOST_ROOM_THINGS : PySem.W.nsIn K mainGlobals "MOST_ROOM_THINGS" = some (some (.int (4) t_MOST_ROOM_THINGS)))
    {t_MOST_ROWS : Tok} (n_MOST_ROWS : PySem.W.nsIn K mainGlobals "MOST_ROWS" = some (some (.int (40) t_MOST_ROWS)))
    {t_MOST_SIGNS : Tok} (n_MOST_SIGNS : PySem.W.nsIn K mainGlobals "MOST_SIGNS" = some (some (.int (8) t_MOST_SIGNS)))
    {t_MOST_VALUE : Tok} (n_MOST_VALUE : PySem.W.nsIn K mainGlobals "MOST_VALUE" = some (some (.int (9) t_MOST_VALUE)))
    {t_SORTS_0 t_SORTS_1 : Tok} {a_SORTS : Addr} {j_SORTS : Nat} {sl_SORTS : Array (Option Value)} (n_SORTS : PySem.W.nsIn K mainGlobals "SORTS" = some (some (.ref a_SORTS))) (e_SORTS : K.lookup a_SORTS = some ⟨.type "tuple", none, .seq (List.toArray [.str "row" t_SORTS_0, .str "turns" t_SORTS_1]) j_SORTS, sl_SORTS⟩)
    {t_TWO_PARTS_0 t_TWO_PARTS_1 t_TWO_PARTS_2 t_TWO_PARTS_3 t_TWO_PARTS_4 : Tok} {a_TWO_PARTS : Addr} {j_TWO_PARTS : Nat} {sl_TWO_PARTS : Array (Option Value)} (n_TWO_PARTS : PySem.W.nsIn K mainGlobals "TWO_PARTS" = some (some (.ref a_TWO_PARTS))) (e_TWO_PARTS : K.lookup a_TWO_PARTS = some ⟨.type "tuple", none, .seq (List.toArray [.str "plus" t_TWO_PARTS_0, .str "minus" t_TWO_PARTS_1, .str "less" t_TWO_PARTS_2, .str "same" t_TWO_PARTS_3, .str "both" t_TWO_PARTS_4]) j_TWO_PARTS, sl_TWO_PARTS⟩)
    {t_WHEN_FREE : Tok} (n_WHEN_FREE : PySem.W.nsIn K mainGlobals "WHEN_FREE" = some (some (.str "when free" t_WHEN_FREE)))
    : ∃ T : Txt K mg, T.a_law = fa ∧ T.pr = pr ∧ ∀ (s : Shared) (v : Value), BindsTo s T.f_law ⟨[v], []⟩ [("_law_script", v)] := by
  have e := hfa.symm.trans (PySem.W.mg_of X G a44)
  cases e
  exact ⟨{
    a_is_word := f0,
    f_is_word := _,
    F_is_word := fun_mk (st := s_is_word) l0 c0 k0,
    b_is_word := (fun_mk (st := s_is_word) l0 c0 k0).binds (ps := ["thing"]) fun _ _ _ _ _ _ us hl => match us, hl with | [_], _ => rfl,
    m_is_word := PySem.W.mg_of X G a0,
    a_is_value := f1,
    f_is_value := _,
    F_is_value := fun_mk (st := s_is_value) l1 c1 k1,
    b_is_value := (fun_mk (st := s_is_value) l1 c1 k1).binds (ps := ["thing"]) fun _ _ _ _ _ _ us hl => match us, hl with | [_], _ => rfl,
    m_is_value := PySem.W.mg_of X G a1,
    a_is_sum_within := f2,
    f_is_sum_within := _,
    F_is_sum_within := fun_mk (st := s_is_sum_within) l2 c2 k2,
    b_is_sum_within := (fun_mk (st := s_is_sum_within) l2 c2 k2).binds (ps := ["thing", "deep"]) fun _ _ _ _ _ _ us hl => match us, hl with | [_, _], _ => rfl,
    m_is_sum_within := PySem.W.mg_of X G a2,
    a_is_sum := f3,
    f_is_sum := _,
    F_is_sum := fun_mk (st := s_is_sum) l3 c3 k3,
    b_is_sum := (fun_mk (st := s_is_sum) l3 c3 k3).binds (ps := ["thing"]) fun _ _ _ _ _ _ us hl => match us, hl with | [_], _ => rfl,
    m_is_sum := PySem.W.mg_of X G a3,
    a_parts_of := f4,
    f_parts_of := _,
    F_parts_of := fun_mk (st := s_parts_of) l4 c4 k4,
    b_parts_of := (fun_mk (st := s_parts_of) l4 c4 k4).binds (ps := ["told"]) fun _ _ _ _ _ _ us hl => match us, hl with | [_], _ => rfl,
    m_parts_of := PySem.W.mg_of X G a4,
    a_words_in := f5,
    f_words_in := _,
    F_words_in := fun_mk (st := s_words_in) l5 c5 k5,
    b_words_in := (fun_mk (st := s_words_in) l5 c5 k5).binds (ps := ["told"]) fun _ _ _ _ _ _ us hl => match us, hl with | [_], _ => rfl,
    m_words_in := PySem.W.mg_of X G a5,
    a_bells_in := f6,
    f_bells_in := _,
    F_bells_in := fun_mk (st := s_bells_in) l6 c6 k6,
    b_bells_in := (fun_mk (st := s_bells_in) l6 c6 k6).binds (ps := ["told"]) fun _ _ _ _ _ _ us hl => match us, hl with | [_], _ => rfl,
    m_bells_in := PySem.W.mg_of X G a6,
    a_words_of := f7,
    f_words_of := _,
    F_words_of := fun_mk (st := s_words_of) l7 c7 k7,
    b_words_of := (fun_mk (st := s_words_of) l7 c7 k7).binds (ps := ["told"]) fun _ _ _ _ _ _ us hl => match us, hl with | [_], _ => rfl,
    m_words_of := PySem.W.mg_of X G a7,
    a_bells_of := f8,
    f_bells_of := _,
    F_bells_of := fun_mk (st := s_bells_of) l8 c8 k8,
    b_bells_of := (fun_mk (st := s_bells_of) l8 c8 k8).binds (ps := ["told"]) fun _ _ _ _ _ _ us hl => match us, hl with | [_], _ => rfl,
    m_bells_of := PySem.W.mg_of X G a8,
    a_firsts := f9,
    f_firsts := _,
    F_firsts := fun_mk (st := s_firsts) l9 c9 k9,
    b_firsts := (fun_mk (st := s_firsts) l9 c9 k9).binds (ps := ["pairs"]) fun _ _ _ _ _ _ us hl => match us, hl with | [_], _ => rfl,
    m_firsts := PySem.W.mg_of X G a9,
    a_is_tuple_of := f10,
    f_is_tuple_of := _,
    F_is_tuple_of := fun_mk (st := s_is_tuple_of) l10 c10 k10,
    b_is_tuple_of := (fun_mk (st := s_is_tuple_of) l10 c10 k10).binds (ps := ["thing", "many"]) fun _ _ _ _ _ _ us hl => match us, hl with | [_, _], _ => rfl,
    m_is_tuple_of := PySem.W.mg_of X G a10,
    a_is_rising := f11,
    f_is_rising := _,
    F_is_rising := fun_mk (st := s_is_rising) l11 c11 k11,
    b_is_rising := (fun_mk (st := s_is_rising) l11 c11 k11).binds (ps := ["words"]) fun _ _ _ _ _ _ us hl => match us, hl with | [_], _ => rfl,
    m_is_rising := PySem.W.mg_of X G a11,
    a_is_place := f12,
    f_is_place := _,
    F_is_place := fun_mk (st := s_is_place) l12 c12 k12,
    b_is_place := (fun_mk (st := s_is_place) l12 c12 k12).binds (ps := ["thing", "many"]) fun _ _ _ _ _ _ us hl => match us, hl with | [_, _], _ => rfl,
    m_is_place := PySem.W.mg_of X G a12,
    a_is_part := f13,
    f_is_part := _,
    F_is_part := fun_mk (st := s_is_part) l13 c13 k13,
    b_is_part := (fun_mk (st := s_is_part) l13 c13 k13).binds (ps := ["thing", "form", "many"]) fun _ _ _ _ _ _ us hl => match us, hl with | [_, _, _], _ => rfl,
    m_is_part := PySem.W.mg_of X G a13,
    a_is_row := f14,
    f_is_row := _,
    F_is_row := fun_mk (st := s_is_row) l14 c14 k14,
    b_is_row := (fun_mk (st := s_is_row) l14 c14 k14).binds (ps := ["thing", "many"]) fun _ _ _ _ _ _ us hl => match us, hl with | [_, _], _ => rfl,
    m_is_row := PySem.W.mg_of X G a14,
    a_is_program := f15,
    f_is_program := _,
    F_is_program := fun_mk (st := s_is_program) l15 c15 k15,
    b_is_program := (fun_mk (st := s_is_program) l15 c15 k15).binds (ps := ["thing"]) fun _ _ _ _ _ _ us hl => match us, hl with | [_], _ => rfl,
    m_is_program := PySem.W.mg_of X G a15,
    a_is_pass := f16,
    f_is_pass := _,
    F_is_pass := fun_mk (st := s_is_pass) l16 c16 k16,
    b_is_pass := (fun_mk (st := s_is_pass) l16 c16 k16).binds (ps := ["thing"]) fun _ _ _ _ _ _ us hl => match us, hl with | [_], _ => rfl,
    m_is_pass := PySem.W.mg_of X G a16,
    a_are_passes := f17,
    f_are_passes := _,
    F_are_passes := fun_mk (st := s_are_passes) l17 c17 k17,
    b_are_passes := (fun_mk (st := s_are_passes) l17 c17 k17).binds (ps := ["thing", "most"]) fun _ _ _ _ _ _ us hl => match us, hl with | [_, _], _ => rfl,
    m_are_passes := PySem.W.mg_of X G a17,
    a_are_things := f18,
    f_are_things := _,
    F_are_things := fun_mk (st := s_are_things) l18 c18 k18,
    b_are_things := (fun_mk (st := s_are_things) l18 c18 k18).binds (ps := ["thing", "most"]) fun _ _ _ _ _ _ us hl => match us, hl with | [_, _], _ => rfl,
    m_are_things := PySem.W.mg_of X G a18,
    a_is_bell := f19,
    f_is_bell := _,
    F_is_bell := fun_mk (st := s_is_bell) l19 c19 k19,
    b_is_bell := (fun_mk (st := s_is_bell) l19 c19 k19).binds (ps := ["thing"]) fun _ _ _ _ _ _ us hl => match us, hl with | [_], _ => rfl,
    m_is_bell := PySem.W.mg_of X G a19,
    a_is_deed := f20,
    f_is_deed := _,
    F_is_deed := fun_mk (st := s_is_deed) l20 c20 k20,
    b_is_deed := (fun_mk (st := s_is_deed) l20 c20 k20).binds (ps := ["thing"]) fun _ _ _ _ _ _ us hl => match us, hl with | [_], _ => rfl,
    m_is_deed := PySem.W.mg_of X G a20,
    a_is_room := f21,
    f_is_room := _,
    F_is_room := fun_mk (st := s_is_room) l21 c21 k21,
    b_is_room := (fun_mk (st := s_is_room) l21 c21 k21).binds (ps := ["thing"]) fun _ _ _ _ _ _ us hl => match us, hl with | [_], _ => rfl,
    m_is_room := PySem.W.mg_of X G a21,
    a_is_hand := f22,
    f_is_hand := _,
    F_is_hand := fun_mk (st := s_is_hand) l22 c22 k22,
    b_is_hand := (fun_mk (st := s_is_hand) l22 c22 k22).binds (ps := ["thing"]) fun _ _ _ _ _ _ us hl => match us, hl with | [_], _ => rfl,
    m_is_hand := PySem.W.mg_of X G a22,
    a_is_formed := f23,
    f_is_formed := _,
    F_is_formed := fun_mk (st := s_is_formed) l23 c23 k23,
    b_is_formed := (fun_mk (st := s_is_formed) l23 c23 k23).binds (ps := ["thing"]) fun _ _ _ _ _ _ us hl => match us, hl with | [_], _ => rfl,
    m_is_formed := PySem.W.mg_of X G a23,
    a_are_among := f24,
    f_are_among := _,
    F_are_among := fun_mk (st := s_are_among) l24 c24 k24,
    b_are_among := (fun_mk (st := s_are_among) l24 c24 k24).binds (ps := ["words", "others"]) fun _ _ _ _ _ _ us hl => match us, hl with | [_, _], _ => rfl,
    m_are_among := PySem.W.mg_of X G a24,
    a_sums_in := f25,
    f_sums_in := _,
    F_sums_in := fun_mk (st := s_sums_in) l25 c25 k25,
    b_sums_in := (fun_mk (st := s_sums_in) l25 c25 k25).binds (ps := ["row"]) fun _ _ _ _ _ _ us hl => match us, hl with | [_], _ => rfl,
    m_sums_in := PySem.W.mg_of X G a25,
    a_is_put_right := f26,
    f_is_put_right := _,
    F_is_put_right := fun_mk (st := s_is_put_right) l26 c26 k26,
    b_is_put_right := (fun_mk (st := s_is_put_right) l26 c26 k26).binds (ps := ["row", "words", "goals", "bells"]) fun _ _ _ _ _ _ us hl => match us, hl with | [_, _, _, _], _ => rfl,
    m_is_put_right := PySem.W.mg_of X G a26,
    a_is_deed_there := f27,
    f_is_deed_there := _,
    F_is_deed_there := fun_mk (st := s_is_deed_there) l27 c27 k27,
    b_is_deed_there := (fun_mk (st := s_is_deed_there) l27 c27 k27).binds (ps := ["rooms", "row"]) fun _ _ _ _ _ _ us hl => match us, hl with | [_, _], _ => rfl,
    m_is_deed_there := PySem.W.mg_of X G a27,
    a_stands_in_deed := f28,
    f_stands_in_deed := _,
    F_stands_in_deed := fun_mk (st := s_stands_in_deed) l28 c28 k28,
    b_stands_in_deed := (fun_mk (st := s_stands_in_deed) l28 c28 k28).binds (ps := ["rooms", "room", "row"]) fun _ _ _ _ _ _ us hl => match us, hl with | [_, _, _], _ => rfl,
    m_stands_in_deed := PySem.W.mg_of X G a28,
    a_stands_in_hand := f29,
    f_stands_in_hand := _,
    F_stands_in_hand := fun_mk (st := s_stands_in_hand) l29 c29 k29,
    b_stands_in_hand := (fun_mk (st := s_stands_in_hand) l29 c29 k29).binds (ps := ["world", "goals", "row"]) fun _ _ _ _ _ _ us hl => match us, hl with | [_, _, _], _ => rfl,
    m_stands_in_hand := PySem.W.mg_of X G a29,
    a_is_room_right := f30,
    f_is_room_right := _,
    F_is_room_right := fun_mk (st := s_is_room_right) l30 c30 k30,
    b_is_room_right := (fun_mk (st := s_is_room_right) l30 c30 k30).binds (ps := ["rooms", "room"]) fun _ _ _ _ _ _ us hl => match us, hl with | [_, _], _ => rfl,
    m_is_room_right := PySem.W.mg_of X G a30,
    a_is_hand_right := f31,
    f_is_hand_right := _,
    F_is_hand_right := fun_mk (st := s_is_hand_right) l31 c31 k31,
    b_is_hand_right := (fun_mk (st := s_is_hand_right) l31 c31 k31).binds (ps := ["world", "hand"]) fun _ _ _ _ _ _ us hl => match us, hl with | [_, _], _ => rfl,
    m_is_hand_right := PySem.W.mg_of X G a31,
    a_deeds_done := f32,
    f_deeds_done := _,
    F_deeds_done := fun_mk (st := s_deeds_done) l32 c32 k32,
    b_deeds_done := (fun_mk (st := s_deeds_done) l32 c32 k32).binds (ps := ["rooms", "deed"]) fun _ _ _ _ _ _ us hl => match us, hl with | [_, _], _ => rfl,
    m_deeds_done := PySem.W.mg_of X G a32,
    a_comes_to_itself := f33,
    f_comes_to_itself := _,
    F_comes_to_itself := fun_mk (st := s_comes_to_itself) l33 c33 k33,
    b_comes_to_itself := (fun_mk (st := s_comes_to_itself) l33 c33 k33).binds (ps := ["rooms", "deed"]) fun _ _ _ _ _ _ us hl => match us, hl with | [_, _], _ => rfl,
    m_comes_to_itself := PySem.W.mg_of X G a33,
    a_is_world := f34,
    f_is_world := _,
    F_is_world := fun_mk (st := s_is_world) l34 c34 k34,
    b_is_world := (fun_mk (st := s_is_world) l34 c34 k34).binds (ps := ["thing"]) fun _ _ _ _ _ _ us hl => match us, hl with | [_], _ => rfl,
    m_is_world := PySem.W.mg_of X G a34,
    a__law_pot := f35,
    f__law_pot := _,
    F__law_pot := fun_mk (st := s__law_pot) l35 c35 k35,
    b__law_pot := (fun_mk (st := s__law_pot) l35 c35 k35).binds (ps := ["_law_script"]) fun _ _ _ _ _ _ us hl => match us, hl with | [_], _ => rfl,
    m__law_pot := PySem.W.mg_of X G a35,
    a__law_take := f36,
    f__law_take := _,
    F__law_take := fun_mk (st := s__law_take) l36 c36 k36,
    b__law_take := (fun_mk (st := s__law_take) l36 c36 k36).binds (ps := ["_law_pot_here", "_law_many"]) fun _ _ _ _ _ _ us hl => match us, hl with | [_, _], _ => rfl,
    m__law_take := PySem.W.mg_of X G a36,
    a__law_of := f37,
    f__law_of := _,
    F__law_of := fun_mk (st := s__law_of) l37 c37 k37,
    b__law_of := (fun_mk (st := s__law_of) l37 c37 k37).binds (ps := ["_law_pot_here", "_law_some"]) fun _ _ _ _ _ _ us hl => match us, hl with | [_, _], _ => rfl,
    m__law_of := PySem.W.mg_of X G a37,
    a__law_words := f38,
    f__law_words := _,
    F__law_words := fun_mk (st := s__law_words) l38 c38 k38,
    b__law_words := (fun_mk (st := s__law_words) l38 c38 k38).binds (ps := ["_law_pot_here", "_law_many"]) fun _ _ _ _ _ _ us hl => match us, hl with | [_, _], _ => rfl,
    m__law_words := PySem.W.mg_of X G a38,
    a__law_named := f39,
    f__law_named := _,
    F__law_named := fun_mk (st := s__law_named) l39 c39 k39,
    b__law_named := (fun_mk (st := s__law_named) l39 c39 k39).binds (ps := ["_law_words_here", "_law_many", "_law_thing"]) fun _ _ _ _ _ _ us hl => match us, hl with | [_, _, _], _ => rfl,
    m__law_named := PySem.W.mg_of X G a39,
    a__law_world_of := f40,
    f__law_world_of := _,
    F__law_world_of := fun_mk (st := s__law_world_of) l40 c40 k40,
    b__law_world_of := (fun_mk (st := s__law_world_of) l40 c40 k40).binds (ps := ["_law_pot_here", "_law_words_here", "_law_sizes"]) fun _ _ _ _ _ _ us hl => match us, hl with | [_, _, _], _ => rfl,
    m__law_world_of := PySem.W.mg_of X G a40,
    a__law_small := f41,
    f__law_small := _,
    F__law_small := fun_mk (st := s__law_small) l41 c41 k41,
    b__law_small := (fun_mk (st := s__law_small) l41 c41 k41).binds (ps := ["_law_pot_here", "_law_words_here", "_law_at", "_law_many"]) fun _ _ _ _ _ _ us hl => match us, hl with | [_, _, _, _], _ => rfl,
    m__law_small := PySem.W.mg_of X G a41,
    a__law_with := f42,
    f__law_with := _,
    F__law_with := fun_mk (st := s__law_with) l42 c42 k42,
    b__law_with := (fun_mk (st := s__law_with) l42 c42 k42).binds (ps := ["_law_row", "_law_thing"]) fun _ _ _ _ _ _ us hl => match us, hl with | [_, _], _ => rfl,
    m__law_with := PySem.W.mg_of X G a42,
    a__law_truth := f43,
    f__law_truth := _,
    F__law_truth := fun_mk (st := s__law_truth) l43 c43 k43,
    b__law_truth := (fun_mk (st := s__law_truth) l43 c43 k43).binds (ps := ["_law_found", "_law_due"]) fun _ _ _ _ _ _ us hl => match us, hl with | [_, _], _ => rfl,
    m__law_truth := PySem.W.mg_of X G a43,
    a_law := _,
    f_law := _,
    F_law := fun_mk (st := s_law) l44 c44 k44,
    b_law := (fun_mk (st := s_law) l44 c44 k44).binds (ps := ["_law_script"]) fun _ _ _ _ _ _ us hl => match us, hl with | [_], _ => rfl,
    m_law := PySem.W.mg_of X G a44,
    pr := pr,
    t_FORMS := fun {w} e => tabT_mk (PySem.W.mg_of X G nt_FORMS) et_FORMS (e ▸ kt_FORMS) lo_FORMS ki_FORMS.all (tabsT_cons v0_FORMS (tupS_mk u0_FORMS (by simp) (.cons ⟨_, rfl⟩ (.cons ⟨_, rfl⟩ .nil))) (tabsT_cons v1_FORMS (tupS_mk u1_FORMS (by simp) (.cons ⟨_, rfl⟩ (.cons ⟨_, rfl⟩ .nil))) (tabsT_cons v2_FORMS (tupS_mk u2_FORMS (by simp) (.cons ⟨_, rfl⟩ .nil)) (tabsT_cons v3_FORMS (tupS_mk u3_FORMS (by simp) (.cons ⟨_, rfl⟩ (.cons ⟨_, rfl⟩ (.cons ⟨_, rfl⟩ (.cons ⟨_, rfl⟩ .nil))))) (tabsT_cons v4_FORMS (tupS_mk u4_FORMS (by simp) (.cons ⟨_, rfl⟩ (.cons ⟨_, rfl⟩ .nil))) (tabsT_cons v5_FORMS (tupS_mk u5_FORMS (by simp) (.cons ⟨_, rfl⟩ .nil)) (tabsT_cons v6_FORMS (tupS_mk u6_FORMS (by simp) (.cons ⟨_, rfl⟩ .nil)) (tabsT_cons v7_FORMS (tupS_mk u7_FORMS (by simp) (.cons ⟨_, rfl⟩ .nil)) (tabsT_cons v8_FORMS (tupS_mk u8_FORMS (by simp) (.cons ⟨_, rfl⟩ .nil)) (tabsT_cons v9_FORMS (tupS_mk u9_FORMS (by simp) (.cons ⟨_, rfl⟩ .nil)) (tabsT_cons v10_FORMS (tupS_mk u10_FORMS (by simp) (.cons ⟨_, rfl⟩ (.cons ⟨_, rfl⟩ .nil))) (tabsT_cons v11_FORMS (tupS_mk u11_FORMS (by simp) (.cons ⟨_, rfl⟩ .nil)) tabsT_nil)))))))))))),
    z_all := PySem.W.mg_none_of X G z_all,
    z_any := PySem.W.mg_none_of X G z_any,
    z_bool := PySem.W.mg_none_of X G z_bool,
    z_enumerate := PySem.W.mg_none_of X G z_enumerate,
    z_int := PySem.W.mg_none_of X G z_int,
    z_isinstance := PySem.W.mg_none_of X G z_isinstance,
    z_len := PySem.W.mg_none_of X G z_len,
    z_range := PySem.W.mg_none_of X G z_range,
    z_set := PySem.W.mg_none_of X G z_set,
    z_sorted := PySem.W.mg_none_of X G z_sorted,
    z_str := PySem.W.mg_none_of X G z_str,
    z_tuple := PySem.W.mg_none_of X G z_tuple,
    z_zip := PySem.W.mg_none_of X G z_zip,
    c_GIVEN := Glob.str (PySem.W.mg_of X G n_GIVEN),
    c_IN_DEEDS := Glob.tup (PySem.W.mg_of X G n_IN_DEEDS) e_IN_DEEDS (Nat.le_of_ble_eq_true rfl) rfl rfl (.cons ⟨_, rfl⟩ (.cons ⟨_, rfl⟩ (.cons ⟨_, rfl⟩ (.cons ⟨_, rfl⟩ (.nil))))),
    c_IN_HANDS := Glob.tup (PySem.W.mg_of X G n_IN_HANDS) e_IN_HANDS (Nat.le_of_ble_eq_true rfl) rfl rfl (.cons ⟨_, rfl⟩ (.cons ⟨_, rfl⟩ (.cons ⟨_, rfl⟩ (.cons ⟨_, rfl⟩ (.nil))))),
    c_LETTERS := Glob.str (PySem.W.mg_of X G n_LETTERS),
    c_MANNERS := Glob.tup (PySem.W.mg_of X G n_MANNERS) e_MANNERS (Nat.le_of_ble_eq_true rfl) rfl rfl (.cons ⟨_, rfl⟩ (.cons ⟨_, rfl⟩ (.nil))),
    c_MOST_BELLS := Glob.int (PySem.W.mg_of X G n_MOST_BELLS),
    c_MOST_DEEDS := Glob.int (PySem.W.mg_of X G n_MOST_DEEDS),
    c_MOST_DEEP := Glob.int (PySem.W.mg_of X G n_MOST_DEEP),
    c_MOST_HANDS := Glob.int (PySem.W.mg_of X G n_MOST_HANDS),
    c_MOST_OPEN := Glob.int (PySem.W.mg_of X G n_MOST_OPEN),
    c_MOST_OWN := Glob.int (PySem.W.mg_of X G n_MOST_OWN),
    c_MOST_PASSES := Glob.int (PySem.W.mg_of X G n_MOST_PASSES),
    c_MOST_ROOMS := Glob.int (PySem.W.mg_of X G n_MOST_ROOMS),
    c_MOST_ROOM_THINGS := Glob.int (PySem.W.mg_of X G n_MOST_ROOM_THINGS),
    c_MOST_ROWS := Glob.int (PySem.W.mg_of X G n_MOST_ROWS),
    c_MOST_SIGNS := Glob.int (PySem.W.mg_of X G n_MOST_SIGNS),
    c_MOST_VALUE := Glob.int (PySem.W.mg_of X G n_MOST_VALUE),
    c_SORTS := Glob.tup (PySem.W.mg_of X G n_SORTS) e_SORTS (Nat.le_of_ble_eq_true rfl) rfl rfl (.cons ⟨_, rfl⟩ (.cons ⟨_, rfl⟩ (.nil))),
    c_TWO_PARTS := Glob.tup (PySem.W.mg_of X G n_TWO_PARTS) e_TWO_PARTS (Nat.le_of_ble_eq_true rfl) rfl rfl (.cons ⟨_, rfl⟩ (.cons ⟨_, rfl⟩ (.cons ⟨_, rfl⟩ (.cons ⟨_, rfl⟩ (.cons ⟨_, rfl⟩ (.nil)))))),
    c_WHEN_FREE := Glob.str (PySem.W.mg_of X G n_WHEN_FREE) }, rfl, rfl, fun s v => .of_eq rfl⟩
theorem q__law_pot (T : Txt K mg) : FnOk P w K mg base CX0 1 T.a__law_pot T.f__law_pot ["_law_script"] (FS K mg 1 spPot) :=
  (ok__law_pot (k := 0) T  Lw.pot_ok).imp fun _ _ _ _ z => pot_imp z
theorem q__law_take (T : Txt K mg) : FnOk P w K mg base CX0 1 T.a__law_take T.f__law_take ["_law_pot_here", "_law_many"] (FS K mg 2 spTake) :=
  (ok__law_take (k := 0) T  Lw.take_ok).imp fun _ _ _ _ z => take_imp z
theorem q__law_of (T : Txt K mg) : FnOk P w K mg base CX0 2 T.a__law_of T.f__law_of ["_law_pot_here", "_law_some"] (FS K mg 2 Bq.spOfQ) :=
  ok__law_of (k := 1) T (q__law_take T) Bq.of_ok
theorem q__law_words (T : Txt K mg) : FnOk P w K mg base CX0 3 T.a__law_words T.f__law_words ["_law_pot_here", "_law_many"] (FS K mg 2 Bq.spWordsQ) :=
  ok__law_words (k := 2) T (q__law_of T) ((q__law_take T).mono (by decide)) Bq.words_ok
theorem q__law_truth (T : Txt K mg) : FnOk P w K mg base CX0 1 T.a__law_truth T.f__law_truth ["_law_found", "_law_due"] (FS K mg 2 Q11.spTruth) :=
  ok__law_truth (k := 0) T  Q11.truth_ok
theorem q_is_tuple_of (T : Txt K mg) : FnOk P w K mg base CX0 1 T.a_is_tuple_of T.f_is_tuple_of ["thing", "many"] (FS K mg 2 Iw.spTup) :=
  ok_is_tuple_of (k := 0) T  Iw.tuple_ok
theorem q_is_word (T : Txt K mg) : FnOk P w K mg base CX0 1 T.a_is_word T.f_is_word ["thing"] (FS K mg 1 Sq.spWord) :=
  ok_is_word (k := 0) T  Sq.is_word_ok
theorem q_is_value (T : Txt K mg) : FnOk P w K mg base CX0 1 T.a_is_value T.f_is_value ["thing"] (FS K mg 1 Sq.spValue) :=
  ok_is_value (k := 0) T  Sq.is_value_ok
theorem q_is_sum_within (T : Txt K mg) : ∀ j, FnOk P w K mg base CX0 (j + 2) T.a_is_sum_within T.f_is_sum_within ["thing", "deep"] (FS K mg 2 (Sq.spWithin j))
  | 0 => fs_none fun args et R ⟨p, d, _, h, _⟩ => by omega
  | j + 1 => ok_is_sum_within T ((q_is_word T).mono (by omega)) ((q_is_value T).mono (by omega)) (q_is_sum_within T j) (Sq.within_ok j)
theorem q_is_sum (T : Txt K mg) : FnOk P w K mg base CX0 9 T.a_is_sum T.f_is_sum ["thing"] (FS K mg 1 Sq.spIsSum) :=
  ok_is_sum (k := 8) T (q_is_sum_within T 6) Sq.is_sum_ok
theorem q_is_place (T : Txt K mg) : FnOk P w K mg base CX0 1 T.a_is_place T.f_is_place ["thing", "many"] (FS K mg 2 Iw.spPlace) :=
  ok_is_place (k := 0) T  Iw.place_ok
theorem q_is_part (T : Txt K mg) : FnOk P w K mg base CX0 10 T.a_is_part T.f_is_part ["thing", "form", "many"] (FS K mg 3 Iw.spPart) :=
  ok_is_part (k := 9) T ((q_is_word T).mono (by decide)) (q_is_sum T) ((q_is_place T).mono (by decide)) Iw.part_ok
theorem q_is_row (T : Txt K mg) (hw : T.pr = w.params) : FnOk P w K mg base CX0 11 T.a_is_row T.f_is_row ["thing", "many"] (FS K mg 2 Iw.spRow) :=
  ok_is_row (k := 10) T hw (q_is_part T) Iw.row_ok
theorem q_is_program (T : Txt K mg) (hw : T.pr = w.params) : FnOk P w K mg base CX0 12 T.a_is_program T.f_is_program ["thing"] (FS K mg 1 Iw.spProg) :=
  ok_is_program (k := 11) T (q_is_row T hw) Iw.prog_ok
theorem q_firsts (T : Txt K mg) : FnOk P w K mg base CX0 1 T.a_firsts T.f_firsts ["pairs"] (FS K mg 1 Iw.spFirsts) :=
  ok_firsts (k := 0) T  Iw.firsts_ok
theorem q_is_pass (T : Txt K mg) : FnOk P w K mg base CX0 2 T.a_is_pass T.f_is_pass ["thing"] (FS K mg 1 Iw.spPass) :=
  ok_is_pass (k := 1) T (q_is_value T) (q_is_word T) (q_is_tuple_of T) Iw.pass_ok
theorem q_is_rising (T : Txt K mg) : FnOk P w K mg base CX0 1 T.a_is_rising T.f_is_rising ["words"] (FS K mg 1 Iw.spRis) :=
  ok_is_rising (k := 0) T  Iw.rising_ok
theorem q_are_passes (T : Txt K mg) : FnOk P w K mg base CX0 3 T.a_are_passes T.f_are_passes ["thing", "most"] (FS K mg 2 Iw.spPasses) :=
  ok_are_passes (k := 2) T (q_is_pass T) ((q_is_rising T).mono (by decide)) ((q_firsts T).mono (by decide)) Iw.passes_ok
theorem q_are_things (T : Txt K mg) : FnOk P w K mg base CX0 4 T.a_are_things T.f_are_things ["thing", "most"] (FS K mg 2 Iw.spThings) :=
  ok_are_things (k := 3) T ((q_firsts T).mono (by decide)) (q_are_passes T) Iw.things_ok
theorem q_is_hand (T : Txt K mg) (hw : T.pr = w.params) : FnOk P w K mg base CX0 13 T.a_is_hand T.f_is_hand ["thing"] (FS K mg 1 Iw.spHand) :=
  ok_is_hand (k := 12) T (q_is_program T hw) ((q_are_things T).mono (by decide)) ((q_is_tuple_of T).mono (by decide)) Iw.hand_ok
theorem q_is_deed (T : Txt K mg) (hw : T.pr = w.params) : FnOk P w K mg base CX0 13 T.a_is_deed T.f_is_deed ["thing"] (FS K mg 1 Iw.spDeed) :=
  ok_is_deed (k := 12) T (q_is_program T hw) ((q_is_word T).mono (by decide)) ((q_is_tuple_of T).mono (by decide)) Iw.deed_ok
theorem q_is_bell (T : Txt K mg) : FnOk P w K mg base CX0 2 T.a_is_bell T.f_is_bell ["thing"] (FS K mg 1 Iw.spBell) :=
  ok_is_bell (k := 1) T (q_is_word T) (q_is_tuple_of T) Iw.bell_ok
theorem q_is_room (T : Txt K mg) (hw : T.pr = w.params) : FnOk P w K mg base CX0 14 T.a_is_room T.f_is_room ["thing"] (FS K mg 1 Iw.spRoom) :=
  ok_is_room (k := 13) T ((q_is_word T).mono (by decide)) ((q_is_tuple_of T).mono (by decide)) ((q_are_things T).mono (by decide)) (q_is_deed T hw) ((q_is_bell T).mono (by decide)) ((q_is_rising T).mono (by decide)) ((q_firsts T).mono (by decide)) Iw.room_ok
theorem q_is_formed (T : Txt K mg) (hw : T.pr = w.params) : FnOk P w K mg base CX0 15 T.a_is_formed T.f_is_formed ["thing"] (FS K mg 1 Iw.spFormed) :=
  ok_is_formed (k := 14) T ((q_is_tuple_of T).mono (by decide)) ((q_is_hand T hw).mono (by decide)) (q_is_room T hw) ((q_are_things T).mono (by decide)) ((q_are_passes T).mono (by decide)) ((q_is_rising T).mono (by decide)) ((q_firsts T).mono (by decide)) Iw.formed_ok
theorem q_sums_in (T : Txt K mg) (hw : T.pr = w.params) : FnOk P w K mg base CX0 1 T.a_sums_in T.f_sums_in ["row"] (FS K mg 1 Iw.spSumsIn) :=
  ok_sums_in (k := 0) T hw  Iw.sums_in_ok
theorem q_are_among (T : Txt K mg) : FnOk P w K mg base CX0 1 T.a_are_among T.f_are_among ["words", "others"] (FS K mg 2 Iw.spAmong) :=
  ok_are_among (k := 0) T  Iw.among_ok
theorem q_parts_of (T : Txt K mg) : FnOk P w K mg base CX0 1 T.a_parts_of T.f_parts_of ["told"] (FS K mg 1 Wb.spParts) :=
  ok_parts_of (k := 0) T  Wb.parts_ok
theorem q_bells_in (T : Txt K mg) : ∀ j, FnOk P w K mg base CX0 (j + 2) T.a_bells_in T.f_bells_in ["told"] (FS K mg 1 ((Wb.spTexts Wb.bellsL) j))
  | 0 => fs_none fun args et R ⟨s, _, h, _⟩ => by have : 1 ≤ s.dep := (by cases s <;> simp [Lw.Sm.dep]); omega
  | j + 1 => ok_bells_in T ((q_parts_of T).mono (by omega)) (q_bells_in T j) (Wb.bells_ok j)
theorem q_bells_of (T : Txt K mg) : FnOk P w K mg base CX0 8 T.a_bells_of T.f_bells_of ["told"] (FS K mg 1 (Wb.spSet Wb.bellsL)) :=
  ok_bells_of (k := 7) T (q_bells_in T 5) Wb.bells_of_ok
theorem q_words_in (T : Txt K mg) : ∀ j, FnOk P w K mg base CX0 (j + 2) T.a_words_in T.f_words_in ["told"] (FS K mg 1 ((Wb.spTexts Wb.wordsL) j))
  | 0 => fs_none fun args et R ⟨s, _, h, _⟩ => by have : 1 ≤ s.dep := (by cases s <;> simp [Lw.Sm.dep]); omega
  | j + 1 => ok_words_in T ((q_parts_of T).mono (by omega)) (q_words_in T j) (Wb.words_ok j)
theorem q_words_of (T : Txt K mg) : FnOk P w K mg base CX0 8 T.a_words_of T.f_words_of ["told"] (FS K mg 1 (Wb.spSet Wb.wordsL)) :=
  ok_words_of (k := 7) T (q_words_in T 5) Wb.words_of_ok
theorem q_is_put_right (T : Txt K mg) (hw : T.pr = w.params) : FnOk P w K mg base CX0 9 T.a_is_put_right T.f_is_put_right ["row", "words", "goals", "bells"] (FS K mg 4 Iw.spPutRight) :=
  ok_is_put_right (k := 8) T ((q_sums_in T hw).mono (by decide)) ((q_are_among T).mono (by decide)) (q_bells_of T) (q_words_of T) Iw.put_right_ok
theorem q_is_deed_there (T : Txt K mg) : FnOk P w K mg base CX0 2 T.a_is_deed_there T.f_is_deed_there ["rooms", "row"] (FS K mg 2 Iw.spThere) :=
  ok_is_deed_there (k := 1) T (q_firsts T) Iw.there_ok
theorem q_stands_in_deed (T : Txt K mg) (hw : T.pr = w.params) : FnOk P w K mg base CX0 10 T.a_stands_in_deed T.f_stands_in_deed ["rooms", "room", "row"] (FS K mg 3 Iw.spSid) :=
  ok_stands_in_deed (k := 9) T ((q_firsts T).mono (by decide)) (q_is_put_right T hw) ((q_is_deed_there T).mono (by decide)) Iw.sid_ok
theorem q_is_room_right (T : Txt K mg) (hw : T.pr = w.params) : FnOk P w K mg base CX0 11 T.a_is_room_right T.f_is_room_right ["rooms", "room"] (FS K mg 2 Iw.spRoomR) :=
  ok_is_room_right (k := 10) T (q_stands_in_deed T hw) Iw.room_right_ok
theorem q_stands_in_hand (T : Txt K mg) (hw : T.pr = w.params) : FnOk P w K mg base CX0 10 T.a_stands_in_hand T.f_stands_in_hand ["world", "goals", "row"] (FS K mg 3 Iw.spSih) :=
  ok_stands_in_hand (k := 9) T (q_is_put_right T hw) ((q_is_deed_there T).mono (by decide)) ((q_are_among T).mono (by decide)) ((q_firsts T).mono (by decide)) Iw.sih_ok
theorem q_is_hand_right (T : Txt K mg) (hw : T.pr = w.params) : FnOk P w K mg base CX0 11 T.a_is_hand_right T.f_is_hand_right ["world", "hand"] (FS K mg 2 Iw.spHandR) :=
  ok_is_hand_right (k := 10) T ((q_firsts T).mono (by decide)) (q_stands_in_hand T hw) Iw.hand_right_ok
theorem q_deeds_done (T : Txt K mg) : FnOk P w K mg base CX0 1 T.a_deeds_done T.f_deeds_done ["rooms", "deed"] (FS K mg 2 Iw.spDone) :=
  ok_deeds_done (k := 0) T  Iw.done_ok
theorem q_comes_to_itself (T : Txt K mg) : FnOk P w K mg base CX0 2 T.a_comes_to_itself T.f_comes_to_itself ["rooms", "deed"] (FS K mg 2 Iw.spSelf) :=
  (ok_comes_to_itself (k := 1) T (q_deeds_done T) (Iw.self_ok _)).imp fun _ _ _ _ z => Iw.self_imp z
theorem q_is_world (T : Txt K mg) (hw : T.pr = w.params) : FnOk P w K mg base CX0 16 T.a_is_world T.f_is_world ["thing"] (FS K mg 1 Iw.spIsWorld) :=
  ok_is_world (k := 15) T (q_is_formed T hw) ((q_firsts T).mono (by decide)) ((q_is_room_right T hw).mono (by decide)) ((q_is_hand_right T hw).mono (by decide)) ((q_comes_to_itself T).mono (by decide)) Iw.is_world_ok
theorem q__law_named (T : Txt K mg) : FnOk P w K mg base CX0 1 T.a__law_named T.f__law_named ["_law_words_here", "_law_many", "_law_thing"] (FS K mg 3 Q11.spNamed) :=
  ok__law_named (k := 0) T  Q11.named_ok
theorem q__law_world_of (T : Txt K mg) : FnOk P w K mg base CX0 3 T.a__law_world_of T.f__law_world_of ["_law_pot_here", "_law_words_here", "_law_sizes"] (FS K mg 3 Q11.spWz) :=
  ok__law_world_of (k := 2) T ((q__law_named T).mono (by decide)) ((q__law_take T).mono (by decide)) (q__law_of T) Q11.world_of_ok
theorem q__law_small (T : Txt K mg) : FnOk P w K mg base CX0 4 T.a__law_small T.f__law_small ["_law_pot_here", "_law_words_here", "_law_at", "_law_many"] (FS K mg 4 Q11.spSmall) :=
  ok__law_small (k := 3) T ((q__law_take T).mono (by decide)) (q__law_world_of T) Q11.small_ok
theorem q__law_with (T : Txt K mg) : FnOk P w K mg base CX0 1 T.a__law_with T.f__law_with ["_law_row", "_law_thing"] (FS K mg 2 Q11.spWith) :=
  ok__law_with (k := 0) T  Q11.with_ok
theorem all_ok (T : Txt K mg) (hw : T.pr = w.params) : FnOk P w K mg base CX0 17 T.a_law T.f_law ["_law_script"] (FS K mg 1 Mw.spLaw) :=
  ok_law (k := 16) T ((q__law_pot T).mono (by decide)) ((q__law_words T).mono (by decide)) ((q__law_take T).mono (by decide)) ((q__law_truth T).mono (by decide)) (q_is_world T hw) ((q__law_small T).mono (by decide)) ((q__law_world_of T).mono (by decide)) ((q__law_with T).mono (by decide)) Q11.law_ok
end K11
open PySem PySem.W PyProof.Rows
set_option maxRecDepth 100000 in
set_option maxHeartbeats 0 in
theorem PySem.Challenge.cw_calledroom_k11_bounds_of_worlds_holds : PySem.Challenge.rw_calledroom_k11_bounds_of_worlds.Holds := by
  w_on; o_law; k_head; (case hw => w_witness2)
  k_fill
  refine Mw.top_walk (l := PySem.Challenge.rw_calledroom_k11_bounds_of_worlds) (k := 17) (x := "_law_script") rfl rfl ⟨rfl, by decide, by decide⟩ (fun w h Y => PySem.W.kIn_of Y) ?F
  case F =>
    intro w mg fa h KX G hmg
    refine (fun z : ∃ T : K11.Txt _ mg, T.a_law = fa ∧ T.pr = w.params ∧ ∀ (s : Shared) (v : Value), BindsTo s T.f_law ⟨[v], []⟩ [("_law_script", v)] => z.elim fun T z => ⟨T.f_law, z.2.2, fun base _ _ => z.1 ▸ K11.all_ok T z.2.1⟩) ?_
    refine' K11.txt_mk (pr := w.params) KX G hmg ?a0 ?l0 ?c0 ?k0 ?a1 ?l1 ?c1 ?k1 ?a2 ?l2 ?c2 ?k2 ?a3 ?l3 ?c3 ?k3 ?a4 ?l4 ?c4 ?k4 ?a5 ?l5 ?c5 ?k5 ?a6 ?l6 ?c6 ?k6 ?a7 ?l7 ?c7 ?k7 ?a8 ?l8 ?c8 ?k8 ?a9 ?l9 ?c9 ?k9 ?a10 ?l10 ?c10 ?k10 ?a11 ?l11 ?c11 ?k11 ?a12 ?l12 ?c12 ?k12 ?a13 ?l13 ?c13 ?k13 ?a14 ?l14 ?c14 ?k14 ?a15 ?l15 ?c15 ?k15 ?a16 ?l16 ?c16 ?k16 ?a17 ?l17 ?c17 ?k17 ?a18 ?l18 ?c18 ?k18 ?a19 ?l19 ?c19 ?k19 ?a20 ?l20 ?c20 ?k20 ?a21 ?l21 ?c21 ?k21 ?a22 ?l22 ?c22 ?k22 ?a23 ?l23 ?c23 ?k23 ?a24 ?l24 ?c24 ?k24 ?a25 ?l25 ?c25 ?k25 ?a26 ?l26 ?c26 ?k26 ?a27 ?l27 ?c27 ?k27 ?a28 ?l28 ?c28 ?k28 ?a29 ?l29 ?c29 ?k29 ?a30 ?l30 ?c30 ?k30 ?a31 ?l31 ?c31 ?k31 ?a32 ?l32 ?c32 ?k32 ?a33 ?l33 ?c33 ?k33 ?a34 ?l34 ?c34 ?k34 ?a35 ?l35 ?c35 ?k35 ?a36 ?l36 ?c36 ?k36 ?a37 ?l37 ?c37 ?k37 ?a38 ?l38 ?c38 ?k38 ?a39 ?l39 ?c39 ?k39 ?a40 ?l40 ?c40 ?k40 ?a41 ?l41 ?c41 ?k41 ?a42 ?l42 ?c42 ?k42 ?a43 ?l43 ?c43 ?k43 ?a44 ?l44 ?c44 ?k44 ?nt_FORMS ?et_FORMS ?kt_FORMS ?lo_FORMS ?ki_FORMS ?v0_FORMS ?u0_FORMS ?v1_FORMS ?u1_FORMS ?v2_FORMS ?u2_FORMS ?v3_FORMS ?u3_FORMS ?v4_FORMS ?u4_FORMS ?v5_FORMS ?u5_FORMS ?v6_FORMS ?u6_FORMS ?v7_FORMS ?u7_FORMS ?v8_FORMS ?u8_FORMS ?v9_FORMS ?u9_FORMS ?v10_FORMS ?u10_FORMS ?v11_FORMS ?u11_FORMS ?z_all ?z_any ?z_bool ?z_enumerate ?z_int ?z_isinstance ?z_len ?z_range ?z_set ?z_sorted ?z_str ?z_tuple ?z_zip ?n_GIVEN ?n_IN_DEEDS ?e_IN_DEEDS ?n_IN_HANDS ?e_IN_HANDS ?n_LETTERS ?n_MANNERS ?e_MANNERS ?n_MOST_BELLS ?n_MOST_DEEDS ?n_MOST_DEEP ?n_MOST_HANDS ?n_MOST_OPEN ?n_MOST_OWN ?n_MOST_PASSES ?n_MOST_ROOMS ?n_MOST_ROOM_THINGS ?n_MOST_ROWS ?n_MOST_SIGNS ?n_MOST_VALUE ?n_SORTS ?e_SORTS ?n_TWO_PARTS ?e_TWO_PARTS ?n_WHEN_FREE
    (case a0 => k_is); (case l0 => k_is); (case c0 => k_is); (case k0 => k_is); (case a1 => k_is); (case l1 => k_is)
    (case c1 => k_is); (case k1 => k_is); (case a2 => k_is); (case l2 => k_is); (case c2 => k_is); (case k2 => k_is)
    (case a3 => k_is); (case l3 => k_is); (case c3 => k_is); (case k3 => k_is); (case a4 => k_is); (case l4 => k_is)
    (case c4 => k_is); (case k4 => k_is); (case a5 => k_is); (case l5 => k_is); (case c5 => k_is); (case k5 => k_is)
    (case a6 => k_is); (case l6 => k_is); (case c6 => k_is); (case k6 => k_is); (case a7 => k_is); (case l7 => k_is)
    (case c7 => k_is); (case k7 => k_is); (case a8 => k_is); (case l8 => k_is); (case c8 => k_is); (case k8 => k_is)
    (case a9 => k_is); (case l9 => k_is); (case c9 => k_is); (case k9 => k_is); (case a10 => k_is); (case l10 => k_is)
    (case c10 => k_is); (case k10 => k_is); (case a11 => k_is); (case l11 => k_is); (case c11 => k_is); (case k11 => k_is)
    (case a12 => k_is); (case l12 => k_is); (case c12 => k_is); (case k12 => k_is); (case a13 => k_is); (case l13 => k_is)
    (case c13 => k_is); (case k13 => k_is); (case a14 => k_is); (case l14 => k_is); (case c14 => k_is); (case k14 => k_is)
    (case a15 => k_is); (case l15 => k_is); (case c15 => k_is); (case k15 => k_is); (case a16 => k_is); (case l16 => k_is)
    (case c16 => k_is); (case k16 => k_is); (case a17 => k_is); (case l17 => k_is); (case c17 => k_is); (case k17 => k_is)
    (case a18 => k_is); (case l18 => k_is); (case c18 => k_is); (case k18 => k_is); (case a19 => k_is); (case l19 => k_is)
    (case c19 => k_is); (case k19 => k_is); (case a20 => k_is); (case l20 => k_is); (case c20 => k_is); (case k20 => k_is)
    (case a21 => k_is); (case l21 => k_is); (case c21 => k_is); (case k21 => k_is); (case a22 => k_is); (case l22 => k_is)
    (case c22 => k_is); (case k22 => k_is); (case a23 => k_is); (case l23 => k_is); (case c23 => k_is); (case k23 => k_is)
    (case a24 => k_is); (case l24 => k_is); (case c24 => k_is); (case k24 => k_is); (case a25 => k_is); (case l25 => k_is)
    (case c25 => k_is); (case k25 => k_is); (case a26 => k_is); (case l26 => k_is); (case c26 => k_is); (case k26 => k_is)
    (case a27 => k_is); (case l27 => k_is); (case c27 => k_is); (case k27 => k_is); (case a28 => k_is); (case l28 => k_is)
    (case c28 => k_is); (case k28 => k_is); (case a29 => k_is); (case l29 => k_is); (case c29 => k_is); (case k29 => k_is)
    (case a30 => k_is); (case l30 => k_is); (case c30 => k_is); (case k30 => k_is); (case a31 => k_is); (case l31 => k_is)
    (case c31 => k_is); (case k31 => k_is); (case a32 => k_is); (case l32 => k_is); (case c32 => k_is); (case k32 => k_is)
    (case a33 => k_is); (case l33 => k_is); (case c33 => k_is); (case k33 => k_is); (case a34 => k_is); (case l34 => k_is)
    (case c34 => k_is); (case k34 => k_is); (case a35 => k_is); (case l35 => k_is); (case c35 => k_is); (case k35 => k_is)
    (case a36 => k_is); (case l36 => k_is); (case c36 => k_is); (case k36 => k_is); (case a37 => k_is); (case l37 => k_is)
    (case c37 => k_is); (case k37 => k_is); (case a38 => k_is); (case l38 => k_is); (case c38 => k_is); (case k38 => k_is)
    (case a39 => k_is); (case l39 => k_is); (case c39 => k_is); (case k39 => k_is); (case a40 => k_is); (case l40 => k_is)
    (case c40 => k_is); (case k40 => k_is); (case a41 => k_is); (case l41 => k_is); (case c41 => k_is); (case k41 => k_is)
    (case a42 => k_is); (case l42 => k_is); (case c42 => k_is); (case k42 => k_is); (case a43 => k_is); (case l43 => k_is)
    (case c43 => k_is); (case k43 => k_is); (case a44 => k_is); (case l44 => k_is); (case c44 => k_is); (case k44 => k_is)
    (case nt_FORMS => k_is); (case et_FORMS => k_is); (case kt_FORMS => first | k_is | (repeat (first | exact trivial | refine ⟨⟨_, _, rfl, rfl⟩, ?_⟩))); (case lo_FORMS => decide); (case ki_FORMS => (repeat (first | exact trivial | refine ⟨⟨_, _, rfl, by decide⟩, ?_⟩))); (case v0_FORMS => k_is)
    (case u0_FORMS => k_is); (case v1_FORMS => k_is); (case u1_FORMS => k_is); (case v2_FORMS => k_is); (case u2_FORMS => k_is); (case v3_FORMS => k_is)
    (case u3_FORMS => k_is); (case v4_FORMS => k_is); (case u4_FORMS => k_is); (case v5_FORMS => k_is); (case u5_FORMS => k_is); (case v6_FORMS => k_is)
    (case u6_FORMS => k_is); (case v7_FORMS => k_is); (case u7_FORMS => k_is); (case v8_FORMS => k_is); (case u8_FORMS => k_is); (case v9_FORMS => k_is)
    (case u9_FORMS => k_is); (case v10_FORMS => k_is); (case u10_FORMS => k_is); (case v11_FORMS => k_is); (case u11_FORMS => k_is); (case z_all => k_is)
    (case z_any => k_is); (case z_bool => k_is); (case z_enumerate => k_is); (case z_int => k_is); (case z_isinstance => k_is); (case z_len => k_is)
    (case z_range => k_is); (case z_set => k_is); (case z_sorted => k_is); (case z_str => k_is); (case z_tuple => k_is); (case z_zip => k_is)
    (case n_GIVEN => k_is); (case n_IN_DEEDS => k_is); (case e_IN_DEEDS => k_is); (case n_IN_HANDS => k_is); (case e_IN_HANDS => k_is); (case n_LETTERS => k_is)
    (case n_MANNERS => k_is); (case e_MANNERS => k_is); (case n_MOST_BELLS => k_is); (case n_MOST_DEEDS => k_is); (case n_MOST_DEEP => k_is); (case n_MOST_HANDS => k_is)
    (case n_MOST_OPEN => k_is); (case n_MOST_OWN => k_is); (case n_MOST_PASSES => k_is); (case n_MOST_ROOMS => k_is); (case n_MOST_ROOM_THINGS => k_is); (case n_MOST_ROWS => k_is)
    (case n_MOST_SIGNS => k_is); (case n_MOST_VALUE => k_is); (case n_SORTS => k_is); (case e_SORTS => k_is); (case n_TWO_PARTS => k_is); (case e_TWO_PARTS => k_is)
    (case n_WHEN_FREE => k_is)
