import PyProof.Rows.All
import Wide.All
import OpenK.AllK
import Wide.FinOn
import HandS.ForMost
import HandS.Exc
import HandS.ExcOwn
import HandS.CallSlots
import HandS.HeadHook1
import HandS.ExcInit
import HandS.Wide
import HandS.WideBits
import HandS.TupAny
import HandS.TupLe
import HandS.Deep
import HandS.Flow
import HandS.Strs
import HandS.ReCall
import HandS.Iter
import HandS.Defaults
import HandS.FStr
import HandS.StrMore
import HandS.Replace
import HandS.Conv
import HandS.Small
import HandS.Finally
import HandS.More
import KE.KExcSuper
import KE.KExcIs
import KE.KSuper
import HandS.ExcValue
import HandS.IsInst
import PyProof.StrBlock2
import HandS.ExcField
import HandS.HeadHook2
import HandS.HeadEnd
import HandS.Ends
import KE.KStateDown
import HandS.Head0
import HandS.Head1
import HandS.Head2
import PySem.Challenge.RW_latticewish_k91_errors
set_option Elab.async false
set_option linter.all false
set_option maxRecDepth 100000
namespace L3
open PySem PySem.Spec PyProof.Rows L2

/-- a dict's keys: ints and texts, tuples of them, other tuples -/
inductive DK where
  | k | t | n
  deriving DecidableEq
/-- deep data -/
inductive W where
  | non | bl (b : Bool) | int (i : Int) | str (x : Str) | ty (n : String) | gl (x : Str)
  | tup (xs : List W) | ktup (xs : List W) | lst (xs : List W) | klst (xs : List W) | dct (d : DK) (kvs : List (W × W)) | ins (C : Str) (fs : List (Str × W)) | exc (C : Str) (fs : List (Str × W))
/-- data with parts of one's own -/
inductive O where
  | fz (w : W) | lst (xs : List O) | dct (d : DK) (kvs : List (W × O)) | ins (C : Str) (fs : List (Str × O))

def kyW : W → Option Key
  | .int i => some (.inl i)
  | .str x => some (.inr x)
  | _ => none
def ktWs : List W → Option (List Key)
  | [] => some []
  | x :: xs => match kyW x, ktWs xs with
    | some k, some ks => some (k :: ks)
    | _, _ => none
def ktW : W → Option (List Key)
  | .tup xs => ktWs xs
  | _ => none

/-- a tuple that is known to its object: it has no dict of its own -/
def TupK (K : PySem.W.Frag) (F : Hp) (p : Addr) (vs : List V) : Prop := (∃ o : Obj, F p = some (.frz o (.tup vs)) ∧ o.dict = none) ∨ (SqT K (fun _ => none) p vs ∧ ∃ o : Obj, K.lookup p = some o ∧ o.dict = none)
section
variable (K : PySem.W.Frag)
mutual
def RepF (F : Hp) : W → V → Prop
  | .non, v => v = .non
  | .bl b, v => v = .bl b
  | .int i, v => v = .int i
  | .str x, v => v = .str x
  | .ty n, v => v = .ty n
  | .gl x, v => v = .ref (He.ga K x)
  | .tup xs, v => ∃ p vs, v = .ref p ∧ F p = some (.tup vs) ∧ RepFs F xs vs
  | .ktup xs, v => ∃ p vs, v = .ref p ∧ TupK K F p vs ∧ RepFs F xs vs
  | .lst xs, v => ∃ p vs, v = .ref p ∧ F p = some (.lst vs) ∧ RepFs F xs vs
  | .klst xs, v => ∃ p vs, v = .ref p ∧ SqL K F p vs ∧ RepFs F xs vs
  | .dct .k kvs, v => ∃ p ks od, v = .ref p ∧ F p = some (.frz od (.dK ks)) ∧ RepK F kvs ks
  | .dct .t kvs, v => ∃ p ks od, v = .ref p ∧ F p = some (.frz od (.dT ks)) ∧ RepT F kvs ks
  | .dct .n _, _ => False
  | .ins C fs, v => ∃ p dx gs, v = .ref p ∧ F p = some (.ins (He.ga K C) dx gs) ∧ F dx = some (.own p) ∧ RepG F fs gs
  | .exc C fs, v => ∃ p d, v = .ref p ∧ F p = some (exo p (He.ga K C) d) ∧ ((fs = [] ∧ d = none) ∨ ∃ dd gs, d = some dd ∧ F dd = some (exd dd gs) ∧ RepG F fs gs)
def RepFs (F : Hp) : List W → List V → Prop
  | [], vs => vs = []
  | x :: xs, vs => ∃ v r, vs = v :: r ∧ RepF F x v ∧ RepFs F xs r
def RepK (F : Hp) : List (W × W) → List (Key × V) → Prop
  | [], vs => vs = []
  | (k, x) :: xs, vs => ∃ k' v r, vs = (k', v) :: r ∧ kyW k = some k' ∧ RepF F x v ∧ RepK F xs r
def RepT (F : Hp) : List (W × W) → List (List Key × V) → Prop
  | [], vs => vs = []
  | (k, x) :: xs, vs => ∃ k' v r, vs = (k', v) :: r ∧ ktW k = some k' ∧ RepF F x v ∧ RepT F xs r
def RepG (F : Hp) : List (Str × W) → List (Str × V) → Prop
  | [], vs => vs = []
  | (f, x) :: xs, vs => ∃ v r, vs = (f, v) :: r ∧ RepF F x v ∧ RepG F xs r
end
mutual
def RepO (F H : Hp) : O → V → List Addr → Prop
  | .fz w, v, L => L = [] ∧ RepF K F w v
  | .lst xs, v, L => ∃ p vs L', v = .ref p ∧ L = p :: L' ∧ H p = some (.lst vs) ∧ RepOs F H xs vs L'
  | .dct .k kvs, v, L => ∃ p ks L', v = .ref p ∧ L = p :: L' ∧ H p = some (.dK ks) ∧ RepOK F H kvs ks L'
  | .dct .t kvs, v, L => ∃ p ks L', v = .ref p ∧ L = p :: L' ∧ H p = some (.dT ks) ∧ RepOT F H kvs ks L'
  | .dct .n _, _, _ => False
  | .ins C fs, v, L => ∃ p dx gs L', v = .ref p ∧ L = p :: dx :: L' ∧ H p = some (.ins (He.ga K C) dx gs) ∧ H dx = some (.own p) ∧ RepOG F H fs gs L'
def RepOs (F H : Hp) : List O → List V → List Addr → Prop
  | [], vs, L => vs = [] ∧ L = []
  | x :: xs, vs, L => ∃ v r L1 L2, vs = v :: r ∧ L = L1 ++ L2 ∧ RepO F H x v L1 ∧ RepOs F H xs r L2
def RepOK (F H : Hp) : List (W × O) → List (Key × V) → List Addr → Prop
  | [], vs, L => vs = [] ∧ L = []
  | (k, x) :: xs, vs, L => ∃ k' v r L1 L2, vs = (k', v) :: r ∧ L = L1 ++ L2 ∧ kyW k = some k' ∧ RepO F H x v L1 ∧ RepOK F H xs r L2
def RepOT (F H : Hp) : List (W × O) → List (List Key × V) → List Addr → Prop
  | [], vs, L => vs = [] ∧ L = []
  | (k, x) :: xs, vs, L => ∃ k' v r L1 L2, vs = (k', v) :: r ∧ L = L1 ++ L2 ∧ ktW k = some k' ∧ RepO F H x v L1 ∧ RepOT F H xs r L2
def RepOG (F H : Hp) : List (Str × O) → List (Str × V) → List Addr → Prop
  | [], vs, L => vs = [] ∧ L = []
  | (f, x) :: xs, vs, L => ∃ v r L1 L2, vs = (f, v) :: r ∧ L = L1 ++ L2 ∧ RepO F H x v L1 ∧ RepOG F H xs r L2
end
end

mutual
def O.val : O → W
  | .fz w => w
  | .lst xs => .lst (O.vals xs)
  | .dct d kvs => .dct d (O.valk kvs)
  | .ins C fs => .ins C (O.valg fs)
def O.vals : List O → List W
  | [] => []
  | x :: xs => x.val :: O.vals xs
def O.valk : List (W × O) → List (W × W)
  | [] => []
  | (k, x) :: xs => (k, x.val) :: O.valk xs
def O.valg : List (Str × O) → List (Str × W)
  | [] => []
  | (k, x) :: xs => (k, x.val) :: O.valg xs
end

abbrev Sub (F F' : Hp) : Prop := ∀ a o, F a = some o → F' a = some o
theorem SqL.mono {K : PySem.W.Frag} {F F' : Hp} (s : Sub F F') {p : Addr} {vs : List V} (h : SqL K F p vs) : SqL K F' p vs := by
  rcases h with (h | ⟨o, h⟩) | h
  · exact .inl (.inl (s _ _ h))
  · exact .inl (.inr ⟨o, s _ _ h⟩)
  · exact .inr h
theorem SqT.mono {K : PySem.W.Frag} {F F' : Hp} (s : Sub F F') {p : Addr} {vs : List V} (h : SqT K F p vs) : SqT K F' p vs := by
  rcases h with (h | ⟨o, h⟩) | h
  · exact .inl (.inl (s _ _ h))
  · exact .inl (.inr ⟨o, s _ _ h⟩)
  · exact .inr h
theorem TupK.mono {K : PySem.W.Frag} {F F' : Hp} (s : Sub F F') {p : Addr} {vs : List V} (h : TupK K F p vs) : TupK K F' p vs := h.imp (fun ⟨o, e, d⟩ => ⟨o, s _ _ e, d⟩) id
theorem TupK.sq {K : PySem.W.Frag} {F H : Hp} (s : Sub F H) {p : Addr} {vs : List V} (h : TupK K F p vs) : SqT K H p vs := by
  rcases h with ⟨o, e, _⟩ | ⟨h, _⟩
  · exact .inl (.inr ⟨o, s _ _ e⟩)
  · exact SqT.mono (F := fun _ => none) (fun _ _ e => by cases e) h
section
variable {K : PySem.W.Frag} {F F' H H' : Hp}
mutual
theorem RepF.mono (s : Sub F F') : ∀ (w : W) {v : V}, RepF K F w v → RepF K F' w v
  | .non, _, h => h
  | .bl _, _, h => h
  | .int _, _, h => h
  | .str _, _, h => h
  | .ty _, _, h => h
  | .gl _, _, h => h
  | .tup xs, _, ⟨p, vs, e, h, r⟩ => ⟨p, vs, e, s _ _ h, RepFs.mono s xs r⟩
  | .ktup xs, _, ⟨p, vs, e, h, r⟩ => ⟨p, vs, e, h.mono s, RepFs.mono s xs r⟩
  | .lst xs, _, ⟨p, vs, e, h, r⟩ => ⟨p, vs, e, s _ _ h, RepFs.mono s xs r⟩
  | .klst xs, _, ⟨p, vs, e, h, r⟩ => ⟨p, vs, e, SqL.mono s h, RepFs.mono s xs r⟩
  | .dct .k kvs, _, ⟨p, ks, od, e, h, r⟩ => ⟨p, ks, od, e, s _ _ h, RepK.mono s kvs r⟩
  | .dct .t kvs, _, ⟨p, ks, od, e, h, r⟩ => ⟨p, ks, od, e, s _ _ h, RepT.mono s kvs r⟩
  | .dct .n _, _, h => h
  | .ins _ fs, _, ⟨p, dx, gs, e, h, h2, r⟩ => ⟨p, dx, gs, e, s _ _ h, s _ _ h2, RepG.mono s fs r⟩
  | .exc _ fs, _, ⟨p, d, e, h, r⟩ => ⟨p, d, e, s _ _ h, r.elim .inl fun ⟨dd, gs, e1, e2, r⟩ => .inr ⟨dd, gs, e1, s _ _ e2, RepG.mono s fs r⟩⟩
theorem RepFs.mono (s : Sub F F') : ∀ (xs : List W) {vs : List V}, RepFs K F xs vs → RepFs K F' xs vs
  | [], _, h => h
  | x :: xs, _, ⟨v, r, e, h, t⟩ => ⟨v, r, e, RepF.mono s x h, RepFs.mono s xs t⟩
theorem RepK.mono (s : Sub F F') : ∀ (xs : List (W × W)) {vs : List (Key × V)}, RepK K F xs vs → RepK K F' xs vs
  | [], _, h => h
  | (_, x) :: xs, _, ⟨k', v, r, e, c, h, t⟩ => ⟨k', v, r, e, c, RepF.mono s x h, RepK.mono s xs t⟩
theorem RepT.mono (s : Sub F F') : ∀ (xs : List (W × W)) {vs : List (List Key × V)}, RepT K F xs vs → RepT K F' xs vs
  | [], _, h => h
  | (_, x) :: xs, _, ⟨k', v, r, e, c, h, t⟩ => ⟨k', v, r, e, c, RepF.mono s x h, RepT.mono s xs t⟩
theorem RepG.mono (s : Sub F F') : ∀ (xs : List (Str × W)) {vs : List (Str × V)}, RepG K F xs vs → RepG K F' xs vs
  | [], _, h => h
  | (_, x) :: xs, _, ⟨v, r, e, h, t⟩ => ⟨v, r, e, RepF.mono s x h, RepG.mono s xs t⟩
end
mutual
theorem RepO.mono (s : Sub F F') : ∀ (o : O) {v : V} {L : List Addr}, (∀ a ∈ L, ∀ u, H a = some u → H' a = some u) → RepO K F H o v L → RepO K F' H' o v L
  | .fz w, _, _, _, ⟨e, h⟩ => ⟨e, h.mono s⟩
  | .lst xs, _, _, k, ⟨p, vs, L', e, eL, h, r⟩ => ⟨p, vs, L', e, eL, k p (by rw [eL]; exact List.mem_cons_self) _ h, RepOs.mono s xs (fun a ha => k a (by rw [eL]; exact List.mem_cons_of_mem _ ha)) r⟩
  | .dct .k xs, _, _, k, ⟨p, ks, L', e, eL, h, r⟩ => ⟨p, ks, L', e, eL, k p (by rw [eL]; exact List.mem_cons_self) _ h, RepOK.mono s xs (fun a ha => k a (by rw [eL]; exact List.mem_cons_of_mem _ ha)) r⟩
  | .dct .t xs, _, _, k, ⟨p, ks, L', e, eL, h, r⟩ => ⟨p, ks, L', e, eL, k p (by rw [eL]; exact List.mem_cons_self) _ h, RepOT.mono s xs (fun a ha => k a (by rw [eL]; exact List.mem_cons_of_mem _ ha)) r⟩
  | .dct .n _, _, _, _, h => h
  | .ins _ xs, _, _, k, ⟨p, dx, gs, L', e, eL, h, h2, r⟩ => ⟨p, dx, gs, L', e, eL, k p (by rw [eL]; exact List.mem_cons_self) _ h, k dx (by rw [eL]; simp) _ h2, RepOG.mono s xs (fun a ha => k a (by rw [eL]; simp [ha])) r⟩
theorem RepOs.mono (s : Sub F F') : ∀ (o : List O) {v : List V} {L : List Addr}, (∀ a ∈ L, ∀ u, H a = some u → H' a = some u) → RepOs K F H o v L → RepOs K F' H' o v L
  | [], _, _, _, h => h
  | x :: xs, _, _, k, ⟨v, r, L1, L2, e, eL, h, t⟩ => ⟨v, r, L1, L2, e, eL, RepO.mono s x (fun a ha => k a (by rw [eL]; simp [ha])) h, RepOs.mono s xs (fun a ha => k a (by rw [eL]; simp [ha])) t⟩
theorem RepOK.mono (s : Sub F F') : ∀ (o : List (W × O)) {v : List (Key × V)} {L : List Addr}, (∀ a ∈ L, ∀ u, H a = some u → H' a = some u) → RepOK K F H o v L → RepOK K F' H' o v L
  | [], _, _, _, h => h
  | (_, x) :: xs, _, _, k, ⟨k', v, r, L1, L2, e, eL, c, h, t⟩ => ⟨k', v, r, L1, L2, e, eL, c, RepO.mono s x (fun a ha => k a (by rw [eL]; simp [ha])) h, RepOK.mono s xs (fun a ha => k a (by rw [eL]; simp [ha])) t⟩
theorem RepOT.mono (s : Sub F F') : ∀ (o : List (W × O)) {v : List (List Key × V)} {L : List Addr}, (∀ a ∈ L, ∀ u, H a = some u → H' a = some u) → RepOT K F H o v L → RepOT K F' H' o v L
  | [], _, _, _, h => h
  | (_, x) :: xs, _, _, k, ⟨k', v, r, L1, L2, e, eL, c, h, t⟩ => ⟨k', v, r, L1, L2, e, eL, c, RepO.mono s x (fun a ha => k a (by rw [eL]; simp [ha])) h, RepOT.mono s xs (fun a ha => k a (by rw [eL]; simp [ha])) t⟩
theorem RepOG.mono (s : Sub F F') : ∀ (o : List (Str × O)) {v : List (Str × V)} {L : List Addr}, (∀ a ∈ L, ∀ u, H a = some u → H' a = some u) → RepOG K F H o v L → RepOG K F' H' o v L
  | [], _, _, _, h => h
  | (_, x) :: xs, _, _, k, ⟨v, r, L1, L2, e, eL, h, t⟩ => ⟨v, r, L1, L2, e, eL, RepO.mono s x (fun a ha => k a (by rw [eL]; simp [ha])) h, RepOG.mono s xs (fun a ha => k a (by rw [eL]; simp [ha])) t⟩
end
/-- a dict -/
def isD : HO → Bool
  | .dK _ => true
  | .dT _ => true
  | _ => false
/-- what is one's own, frozen: dicts are locked -/
def Lk (u : HO) (o : Option HO) : Prop := if isD u = true then ∃ od, o = some (.frz od u) else o = some u
mutual
theorem RepO.freeze (s : Sub F F') : ∀ (o : O) {v : V} {L : List Addr}, (∀ a ∈ L, ∀ u, H a = some u → Lk u (F' a)) → RepO K F H o v L → RepF K F' o.val v
  | .fz w, _, _, _, ⟨e, h⟩ => h.mono s
  | .lst xs, _, _, k, ⟨p, vs, L', e, eL, h, r⟩ => ⟨p, vs, e, k p (by rw [eL]; exact List.mem_cons_self) _ h, RepOs.freeze s xs (fun a ha => k a (by rw [eL]; exact List.mem_cons_of_mem _ ha)) r⟩
  | .dct .k xs, _, _, k, ⟨p, ks, L', e, eL, h, r⟩ =>
    let ⟨od, h2⟩ : ∃ od, F' p = some (.frz od (.dK ks)) := k p (by rw [eL]; exact List.mem_cons_self) _ h
    ⟨p, ks, od, e, h2, RepOK.freeze s xs (fun a ha => k a (by rw [eL]; exact List.mem_cons_of_mem _ ha)) r⟩
  | .dct .t xs, _, _, k, ⟨p, ks, L', e, eL, h, r⟩ =>
    let ⟨od, h2⟩ : ∃ od, F' p = some (.frz od (.dT ks)) := k p (by rw [eL]; exact List.mem_cons_self) _ h
    ⟨p, ks, od, e, h2, RepOT.freeze s xs (fun a ha => k a (by rw [eL]; exact List.mem_cons_of_mem _ ha)) r⟩
  | .dct .n _, _, _, _, h => h
  | .ins _ xs, _, _, k, ⟨p, dx, gs, L', e, eL, h, h2, r⟩ => ⟨p, dx, gs, e, k p (by rw [eL]; exact List.mem_cons_self) _ h, k dx (by rw [eL]; simp) _ h2, RepOG.freeze s xs (fun a ha => k a (by rw [eL]; simp [ha])) r⟩
theorem RepOs.freeze (s : Sub F F') : ∀ (o : List O) {v : List V} {L : List Addr}, (∀ a ∈ L, ∀ u, H a = some u → Lk u (F' a)) → RepOs K F H o v L → RepFs K F' (O.vals o) v
  | [], _, _, _, h => h.1
  | x :: xs, _, _, k, ⟨v, r, L1, L2, e, eL, h, t⟩ => ⟨v, r, e, RepO.freeze s x (fun a ha => k a (by rw [eL]; simp [ha])) h, RepOs.freeze s xs (fun a ha => k a (by rw [eL]; simp [ha])) t⟩
theorem RepOK.freeze (s : Sub F F') : ∀ (o : List (W × O)) {v : List (Key × V)} {L : List Addr}, (∀ a ∈ L, ∀ u, H a = some u → Lk u (F' a)) → RepOK K F H o v L → RepK K F' (O.valk o) v
  | [], _, _, _, h => h.1
  | (_, x) :: xs, _, _, k, ⟨k', v, r, L1, L2, e, eL, c, h, t⟩ => ⟨k', v, r, e, c, RepO.freeze s x (fun a ha => k a (by rw [eL]; simp [ha])) h, RepOK.freeze s xs (fun a ha => k a (by rw [eL]; simp [ha])) t⟩
theorem RepOT.freeze (s : Sub F F') : ∀ (o : List (W × O)) {v : List (List Key × V)} {L : List Addr}, (∀ a ∈ L, ∀ u, H a = some u → Lk u (F' a)) → RepOT K F H o v L → RepT K F' (O.valk o) v
  | [], _, _, _, h => h.1
  | (_, x) :: xs, _, _, k, ⟨k', v, r, L1, L2, e, eL, c, h, t⟩ => ⟨k', v, r, e, c, RepO.freeze s x (fun a ha => k a (by rw [eL]; simp [ha])) h, RepOT.freeze s xs (fun a ha => k a (by rw [eL]; simp [ha])) t⟩
theorem RepOG.freeze (s : Sub F F') : ∀ (o : List (Str × O)) {v : List (Str × V)} {L : List Addr}, (∀ a ∈ L, ∀ u, H a = some u → Lk u (F' a)) → RepOG K F H o v L → RepG K F' (O.valg o) v
  | [], _, _, _, h => h.1
  | (_, x) :: xs, _, _, k, ⟨v, r, L1, L2, e, eL, h, t⟩ => ⟨v, r, e, RepO.freeze s x (fun a ha => k a (by rw [eL]; simp [ha])) h, RepOG.freeze s xs (fun a ha => k a (by rw [eL]; simp [ha])) t⟩
end
/-- what stands at one's own addresses -/
def Mine (H : Hp) (L : List Addr) : Prop := ∀ a ∈ L, ∃ u, H a = some u ∧ ∀ xs, u ≠ .tup xs
theorem Mine.nil : Mine H [] := fun _ h => nomatch h
theorem Mine.cons {p : Addr} {u : HO} {L : List Addr} (h : H p = some u) (n : ∀ xs, u ≠ .tup xs) (m : Mine H L) : Mine H (p :: L) := fun a ha => by
  rcases List.mem_cons.mp ha with rfl | ha
  · exact ⟨u, h, n⟩
  · exact m a ha
theorem Mine.append {L1 L2 : List Addr} (m1 : Mine H L1) (m2 : Mine H L2) : Mine H (L1 ++ L2) := fun a ha => (List.mem_append.mp ha).elim (m1 a) (m2 a)
mutual
theorem RepO.mine : ∀ (o : O) {v : V} {L : List Addr}, RepO K F H o v L → Mine H L
  | .fz w, _, _, ⟨e, h⟩ => by rw [e]; exact .nil
  | .lst xs, _, _, ⟨p, vs, L', e, eL, h, r⟩ => by rw [eL]; exact .cons h (fun _ z => nomatch z) (RepOs.mine xs r)
  | .dct .k xs, _, _, ⟨p, ks, L', e, eL, h, r⟩ => by rw [eL]; exact .cons h (fun _ z => nomatch z) (RepOK.mine xs r)
  | .dct .t xs, _, _, ⟨p, ks, L', e, eL, h, r⟩ => by rw [eL]; exact .cons h (fun _ z => nomatch z) (RepOT.mine xs r)
  | .dct .n _, _, _, h => h.elim
  | .ins _ xs, _, _, ⟨p, dx, gs, L', e, eL, h, h2, r⟩ => by rw [eL]; exact .cons h (fun _ z => nomatch z) (.cons h2 (fun _ z => nomatch z) (RepOG.mine xs r))
theorem RepOs.mine : ∀ (o : List O) {v : List V} {L : List Addr}, RepOs K F H o v L → Mine H L
  | [], _, _, h => by rw [h.2]; exact .nil
  | x :: xs, _, _, ⟨v, r, L1, L2, e, eL, h, t⟩ => by rw [eL]; exact (RepO.mine x h).append (RepOs.mine xs t)
theorem RepOK.mine : ∀ (o : List (W × O)) {v : List (Key × V)} {L : List Addr}, RepOK K F H o v L → Mine H L
  | [], _, _, h => by rw [h.2]; exact .nil
  | (_, x) :: xs, _, _, ⟨k', v, r, L1, L2, e, eL, c, h, t⟩ => by rw [eL]; exact (RepO.mine x h).append (RepOK.mine xs t)
theorem RepOT.mine : ∀ (o : List (W × O)) {v : List (List Key × V)} {L : List Addr}, RepOT K F H o v L → Mine H L
  | [], _, _, h => by rw [h.2]; exact .nil
  | (_, x) :: xs, _, _, ⟨k', v, r, L1, L2, e, eL, c, h, t⟩ => by rw [eL]; exact (RepO.mine x h).append (RepOT.mine xs t)
theorem RepOG.mine : ∀ (o : List (Str × O)) {v : List (Str × V)} {L : List Addr}, RepOG K F H o v L → Mine H L
  | [], _, _, h => by rw [h.2]; exact .nil
  | (_, x) :: xs, _, _, ⟨v, r, L1, L2, e, eL, h, t⟩ => by rw [eL]; exact (RepO.mine x h).append (RepOG.mine xs t)
end
end

/-! ### frames -/
structure Fr (F H : Hp) (L : List Addr) : Prop where
  sub : Sub F H
  nd : L.Nodup
  out : ∀ a ∈ L, F a = none
structure Stp (F H : Hp) (L : List Addr) (F' H' : Hp) (L' : List Addr) : Prop where
  fsub : Sub F F'
  keep : ∀ a o, H a = some o → a ∉ L → H' a = some o
  fnew : ∀ a o, F' a = some o → F a = some o ∨ a ∈ L ∨ H a = none ∨ ∃ xs, o = .tup xs
  lnew : ∀ a ∈ L', a ∈ L ∨ H a = none
section
variable {K : PySem.W.Frag} {F F' F1 F2 H H' H1 H2 : Hp} {L L' L1 L2 : List Addr}
theorem Stp.refl : Stp F H L F H L := ⟨fun _ _ e => e, fun _ _ e _ => e, fun _ _ e => .inl e, fun _ h => .inl h⟩
theorem Stp.trans (a : Stp F H L F1 H1 L1) (b : Stp F1 H1 L1 F2 H2 L2) : Stp F H L F2 H2 L2 := by
  have back : ∀ x, H1 x = none → x ∈ L ∨ H x = none := fun x e => by
    cases q : H x with
    | none => exact .inr rfl
    | some o =>
      by_cases hx : x ∈ L
      · exact .inl hx
      · rw [a.keep x o q hx] at e; cases e
  refine ⟨fun x o e => b.fsub x o (a.fsub x o e), fun x o e n => b.keep x o (a.keep x o e n) fun z => ?_, fun x o e => ?_, fun x hx => ?_⟩
  · rcases a.lnew x z with q | q
    · exact n q
    · rw [e] at q; cases q
  · rcases b.fnew x o e with q | q | q | q
    · exact a.fnew x o q
    · rcases a.lnew x q with z | z
      · exact .inr (.inl z)
      · exact .inr (.inr (.inl z))
    · rcases back x q with z | z
      · exact .inr (.inl z)
      · exact .inr (.inr (.inl z))
    · exact .inr (.inr (.inr q))
  · rcases b.lnew x hx with q | q
    · exact a.lnew x q
    · exact back x q
/-- pure allocation: all that stood stands, the new frozen things are new -/
structure Ext (F H F' H' : Hp) : Prop where
  fsub : Sub F F'
  sub : Sub F' H'
  keep : Sub H H'
  fnew : ∀ a o, F' a = some o → F a = some o ∨ H a = none ∨ ∃ xs, o = .tup xs
theorem Ext.refl (s : Sub F H) : Ext F H F H := ⟨fun _ _ e => e, s, fun _ _ e => e, fun _ _ e => .inl e⟩
theorem Ext.trans (a : Ext F H F1 H1) (b : Ext F1 H1 F2 H2) : Ext F H F2 H2 := by
  refine ⟨fun x o e => b.fsub x o (a.fsub x o e), b.sub, fun x o e => b.keep x o (a.keep x o e), fun x o e => ?_⟩
  rcases b.fnew x o e with q | q | q
  · exact a.fnew x o q
  · refine .inr (.inl ?_)
    cases z : H x with
    | none => rfl
    | some u => rw [a.keep x u z] at q; cases q
  · exact .inr (.inr q)
/-- a new thing, frozen at once -/
theorem Ext.new (s : Sub F H) {p : Addr} {o : HO} (np : H p = none) : Ext F H (upd F p o) (upd H p o) := by
  have nf : ∀ a u, F a = some u → a ≠ p := fun a u e z => by subst z; rw [s _ _ e] at np; cases np
  refine ⟨fun a u e => by rw [upd_ne (nf a u e)]; exact e, fun a u e => ?_, fun a u e => by rw [upd_ne (ne_of_none e np)]; exact e, fun a u e => ?_⟩
  · by_cases h : a = p
    · subst h; rw [upd_same] at e ⊢; exact e
    · rw [upd_ne h] at e ⊢; exact s _ _ e
  · by_cases h : a = p
    · subst h; exact .inr (.inl np)
    · rw [upd_ne h] at e; exact .inl e
theorem Ext.fr (x : Ext F H F' H') (f : Fr F H L) (m : Mine H L) : Fr F' H' L := by
  refine ⟨x.sub, f.nd, fun a ha => ?_⟩
  cases e : F' a with
  | none => rfl
  | some o =>
    obtain ⟨u, hu, nt⟩ := m a ha
    rcases x.fnew a o e with q | q | ⟨xs, q⟩
    · rw [f.out a ha] at q; cases q
    · rw [hu] at q; cases q
    · have := x.sub a o e
      rw [x.keep a u hu] at this
      cases this
      exact absurd q (nt xs)
theorem Ext.stp (x : Ext F H F' H') : Stp F H L F' H' L := ⟨x.fsub, fun a o e _ => x.keep a o e, fun a o e => by
  rcases x.fnew a o e with q | q | q
  · exact .inl q
  · exact .inr (.inr (.inl q))
  · exact .inr (.inr (.inr q)), fun _ h => .inl h⟩
end

/-! ### slots -/
inductive Sl where
  | no | fz (w : W) | own (o : O) | par (o : O)
abbrev En := List Sl
section
variable (K : PySem.W.Frag) (F H : Hp)
/-- the slots: what each holds; Pv the addresses of the parameters that are handed back -/
def RepE : List V → En → L2.St → List Addr → Prop
  | _, [], σ, L => σ = [] ∧ L = []
  | Pv, .no :: ε, σ, L => ∃ x r, σ = x :: r ∧ RepE Pv.tail ε r L
  | Pv, .fz w :: ε, σ, L => ∃ v r, σ = some v :: r ∧ RepF K F w v ∧ RepE Pv.tail ε r L
  | Pv, .own o :: ε, σ, L => ∃ v r L1 L2, σ = some v :: r ∧ L = L1 ++ L2 ∧ RepO K F H o v L1 ∧ RepE Pv.tail ε r L2
  | Pv, .par o :: ε, σ, L => ∃ v r L1 L2, σ = some v :: r ∧ Pv.head? = some v ∧ L = L1 ++ L2 ∧ RepO K F H o v L1 ∧ RepE Pv.tail ε r L2
end
section
variable {K : PySem.W.Frag} {F F' F1 F2 H H' H1 H2 : Hp}
theorem RepE.mine : ∀ {Pv : List V} {ε : En} {σ : L2.St} {L : List Addr}, RepE K F H Pv ε σ L → Mine H L
  | _, [], _, _, ⟨_, e⟩ => by rw [e]; exact .nil
  | _, .no :: ε, _, _, ⟨_, _, _, h⟩ => RepE.mine h
  | _, .fz _ :: ε, _, _, ⟨_, _, _, _, h⟩ => RepE.mine h
  | _, .own o :: ε, _, _, ⟨_, _, _, _, _, e, r, h⟩ => by rw [e]; exact (RepO.mine o r).append (RepE.mine h)
  | _, .par o :: ε, _, _, ⟨_, _, _, _, _, _, e, r, h⟩ => by rw [e]; exact (RepO.mine o r).append (RepE.mine h)
theorem RepE.mono (s : Sub F F') : ∀ {Pv : List V} {ε : En} {σ : L2.St} {L : List Addr}, (∀ a ∈ L, ∀ u, H a = some u → H' a = some u) → RepE K F H Pv ε σ L → RepE K F' H' Pv ε σ L
  | _, [], _, _, _, h => ⟨h.1, h.2⟩
  | _, .no :: ε, _, _, k, ⟨x, r, e, h⟩ => ⟨x, r, e, RepE.mono s k h⟩
  | _, .fz w :: ε, _, _, k, ⟨v, r, e, q, h⟩ => ⟨v, r, e, q.mono s, RepE.mono s k h⟩
  | _, .own o :: ε, _, _, k, ⟨v, r, L1, L2, e, eL, q, h⟩ => ⟨v, r, L1, L2, e, eL, q.mono s _ fun a ha => k a (by rw [eL]; simp [ha]), RepE.mono s (fun a ha => k a (by rw [eL]; simp [ha])) h⟩
  | _, .par o :: ε, _, _, k, ⟨v, r, L1, L2, e, ep, eL, q, h⟩ => ⟨v, r, L1, L2, e, ep, eL, q.mono s _ fun a ha => k a (by rw [eL]; simp [ha]), RepE.mono s (fun a ha => k a (by rw [eL]; simp [ha])) h⟩
theorem RepE.ext (x : Ext F H F' H') {Pv : List V} {ε : En} {σ : L2.St} {L : List Addr} (h : RepE K F H Pv ε σ L) : RepE K F' H' Pv ε σ L := h.mono x.fsub fun a _ u e => x.keep a u e
theorem RepE.len : ∀ {Pv : List V} {ε : En} {σ : L2.St} {L : List Addr}, RepE K F H Pv ε σ L → σ.length = ε.length
  | _, [], _, _, ⟨e, _⟩ => by rw [e]; rfl
  | _, .no :: ε, _, _, ⟨_, _, e, h⟩ => by rw [e, List.length_cons, List.length_cons, RepE.len h]
  | _, .fz _ :: ε, _, _, ⟨_, _, e, _, h⟩ => by rw [e, List.length_cons, List.length_cons, RepE.len h]
  | _, .own o :: ε, _, _, ⟨_, _, _, _, e, _, _, h⟩ => by rw [e, List.length_cons, List.length_cons, RepE.len h]
  | _, .par o :: ε, _, _, ⟨_, _, _, _, e, _, _, _, h⟩ => by rw [e, List.length_cons, List.length_cons, RepE.len h]
theorem RepE.fz_at : ∀ {Pv : List V} {ε : En} {σ : L2.St} {L : List Addr} {i : Nat} {w : W}, RepE K F H Pv ε σ L → ε[i]? = some (.fz w) → ∃ v, σ[i]? = some (some v) ∧ RepF K F w v
  | _, [], _, _, i, _, _, e => by simp at e
  | _, .no :: ε, _, _, 0, _, _, e => by simp at e
  | _, .own _ :: ε, _, _, 0, _, _, e => by simp at e
  | _, .par _ :: ε, _, _, 0, _, _, e => by simp at e
  | _, .fz w :: ε, _, _, 0, _, ⟨v, r, e1, q, _⟩, e => by
    simp at e
    subst e e1
    exact ⟨v, rfl, q⟩
  | _, .no :: ε, _, _, i + 1, _, ⟨_, _, e1, h⟩, e => by subst e1; exact RepE.fz_at (i := i) h (by simpa using e)
  | _, .fz _ :: ε, _, _, i + 1, _, ⟨_, _, e1, _, h⟩, e => by subst e1; exact RepE.fz_at (i := i) h (by simpa using e)
  | _, .own _ :: ε, _, _, i + 1, _, ⟨_, _, _, _, e1, _, _, h⟩, e => by subst e1; exact RepE.fz_at (i := i) h (by simpa using e)
  | _, .par _ :: ε, _, _, i + 1, _, ⟨_, _, _, _, e1, _, _, _, h⟩, e => by subst e1; exact RepE.fz_at (i := i) h (by simpa using e)
end
end L3

set_option Elab.async false
set_option linter.all false
set_option maxRecDepth 100000
namespace L3
open PySem PySem.Spec PyProof.Rows L2

inductive XC where
  | own (C : Str) | blt (n : String)
  deriving DecidableEq
structure Exc where
  cls : XC
  fs : List (Str × W)
inductive Res (α : Type) where
  | ok (a : α) (ε : En) | err (x : Exc) (ε : En) | stuck
abbrev M3 (α : Type) := En → Res α
def Res.bind {α β : Type} : Res α → (α → M3 β) → Res β
  | .ok a ε, f => f a ε
  | .err x ε, _ => .err x ε
  | .stuck, _ => .stuck
def M3.bind {α β : Type} (m : M3 α) (f : α → M3 β) : M3 β := fun ε => (m ε).bind f
def M3.lift {α : Type} : Option α → M3 α
  | some a => fun ε => .ok a ε
  | none => fun _ => .stuck
/-- the context: the fragment, the parameters handed back, what is wished of an exception -/
structure C3 where
  K : PySem.W.Frag
  Pv : List V
  wx : WX
def XC.v (K : PySem.W.Frag) : XC → Value
  | .own C => .ref (He.ga K C)
  | .blt n => .type n
def RepX (K : PySem.W.Frag) (F H : Hp) (x : Exc) (cls : Value) (d : Option Addr) : Prop :=
  cls = x.cls.v K ∧ match x.fs with
    | [] => d = none
    | fs => ∃ dd gs, d = some dd ∧ H dd = some (.xd gs) ∧ RepG K F fs gs
abbrev Rl (α β : Type) := L2.St → Hp → Hp → α → β → List Addr → Prop
def Run {α β : Type} (c : C3) (rel : Rl α β) (m : Res α) (F H : Hp) (L : List Addr) (σ : L2.St) (Q : β → Hp → Prop) : Prop :=
  match m with
  | .ok a ε => ∀ b H' F' La L', Fr F' H' (La ++ L') → RepE c.K F' H' c.Pv ε σ L' → rel σ F' H' a b La → Stp F H L F' H' (La ++ L') → Q b H'
  | .err x ε => ∀ cls d H' F' L', Fr F' H' L' → RepE c.K F' H' c.Pv ε σ L' → RepX c.K F' H' x cls d → Stp F H L F' H' L' → c.wx cls d σ H'
  | .stuck => False
def tG {α β : Type} (c : C3) (rel : Rl α β) (m : M3 α) : L2.St → Hp → (β → Hp → Prop) → Prop := fun σ H Q =>
  ∃ F ε L, Fr F H L ∧ RepE c.K F H c.Pv ε σ L ∧ Run c rel (m ε) F H L σ Q
abbrev rW (c : C3) : Rl W V := fun _ F _ w v La => La = [] ∧ RepF c.K F w v
abbrev rWs (c : C3) : Rl (List W) (List V) := fun _ F _ w v La => La = [] ∧ RepFs c.K F w v
abbrev rB : Rl Bool Bool := fun _ _ _ a b La => La = [] ∧ a = b
abbrev rO (c : C3) : Rl O V := fun _ F H o v La => RepO c.K F H o v La
abbrev JE (X : Cx) (c : C3) (e : Expr) (m : M3 W) : Prop := PE X e (tG c (rW c) m)
abbrev JT (X : Cx) (c : C3) (e : Expr) (m : M3 Bool) : Prop := PT X e (tG c rB m)
abbrev JA (X : Cx) (c : C3) (es : List Expr) (m : M3 (List W)) : Prop := PA X es (tG c (rWs c) m)
abbrev JO (X : Cx) (c : C3) (e : Expr) (m : M3 O) : Prop := PE X e (tG c (rO c) m)

section
variable {X : Cx} {e : Expr} {es : List Expr}
theorem PE.wk {t t' : TE} (h : PE X e t) (w : ∀ σ H Q, t' σ H Q → t σ H Q) : PE X e t' := ⟨fun p s σ H Q I q => h.run p s σ H Q I (w σ H Q q)⟩
theorem PT.wk {t t' : TT} (h : PT X e t) (w : ∀ σ H Q, t' σ H Q → t σ H Q) : PT X e t' := ⟨fun p s σ H Q I q => h.run p s σ H Q I (w σ H Q q)⟩
theorem PW.wk {t t' : TT} (h : PW X e t) (w : ∀ σ H Q, t' σ H Q → t σ H Q) : PW X e t' := ⟨fun wh p s σ H Q I q => h.run wh p s σ H Q I (w σ H Q q)⟩
theorem PA.wk {t t' : TA} (h : PA X es t) (w : ∀ σ H Q, t' σ H Q → t σ H Q) : PA X es t' := ⟨fun ps p s σ H Q I q => h.run ps p s σ H Q I (w σ H Q q)⟩
end

section
variable {α β γ δ : Type} {c : C3} {rel : Rl α β} {relC : Rl γ δ} {F F1 H H1 : Hp} {L L1 : List Addr} {σ : L2.St}
theorem Run.shift {m : Res α} {Q : β → Hp → Prop} (s : Stp F H L F1 H1 L1) (h : Run c rel m F H L σ Q) : Run c rel m F1 H1 L1 σ Q := by
  cases m with
  | ok a ε => exact fun b H' F' La L' fr re r st => h b H' F' La L' fr re r (s.trans st)
  | err x ε => exact fun cls d H' F' L' fr re r st => h cls d H' F' L' fr re r (s.trans st)
  | stuck => exact h
/-- a first part, then the rest: the first part's value frozen (La = []) -/
theorem Run.seq {m : Res α} {f : α → M3 γ} {Q : δ → Hp → Prop} (hr : ∀ σ F H a b La, rel σ F H a b La → La = []) (h : Run c relC (m.bind f) F H L σ Q) :
    Run c rel m F H L σ (fun b H1 => ∃ F1 ε1 L1 a, Fr F1 H1 L1 ∧ RepE c.K F1 H1 c.Pv ε1 σ L1 ∧ rel σ F1 H1 a b [] ∧ Stp F H L F1 H1 L1 ∧ Run c relC (f a ε1) F1 H1 L1 σ Q) := by
  cases m with
  | ok a ε =>
    intro b H' F' La L' fr re r st
    have e := hr _ _ _ _ _ _ r
    subst e
    rw [List.nil_append] at fr st
    exact ⟨F', ε, L', a, fr, re, r, st, Run.shift st h⟩
  | err x ε => exact h
  | stuck => exact h
theorem Run.mono {m : Res α} {Q Q' : β → Hp → Prop} (h : Run c rel m F H L σ Q) (k : ∀ b H', Q b H' → Q' b H') : Run c rel m F H L σ Q' := by
  cases m with
  | ok a ε => exact fun b H' F' La L' fr re r st => k _ _ (h b H' F' La L' fr re r st)
  | err x ε => exact h
  | stuck => exact h
/-- a value at hand, behind a pure allocation -/
theorem Run.give {a : α} {ε : En} {Q : β → Hp → Prop} {b : β} {F' H' : Hp} (h : Run c rel (.ok a ε) F H L σ Q) (fr : Fr F H L) (re : RepE c.K F H c.Pv ε σ L) (x : Ext F H F' H') (r : rel σ F' H' a b []) : Q b H' :=
  h b H' F' [] L (x.fr fr re.mine) (re.ext x) r x.stp
theorem Run.now {a : α} {ε : En} {Q : β → Hp → Prop} {b : β} (h : Run c rel (.ok a ε) F H L σ Q) (fr : Fr F H L) (re : RepE c.K F H c.Pv ε σ L) (r : rel σ F H a b []) : Q b H :=
  h.give fr re (Ext.refl fr.sub) r
theorem rW0 {σ : L2.St} {F H : Hp} {a : W} {b : V} {La : List Addr} (h : rW c σ F H a b La) : La = [] := h.1
theorem rWs0 {σ : L2.St} {F H : Hp} {a : List W} {b : List V} {La : List Addr} (h : rWs c σ F H a b La) : La = [] := h.1
theorem rB0 {σ : L2.St} {F H : Hp} {a b : Bool} {La : List Addr} (h : rB σ F H a b La) : La = [] := h.1
end

/-! ### names, constants -/
section
variable {X : Cx} {c : C3} {pos : Pos}
def mSlot (i : Nat) : M3 W := fun ε => match ε[i]? with
  | some (.fz w) => .ok w ε
  | _ => .stuck
theorem je_slot {i : Nat} {x : Str} (hN : X.N[i]? = some x) (hv : Vis X.env.scope x) (hd : (x == ("__debug__" : Str)) = false) (hcd : (x == ("__classdict__" : Str)) = false) : JE X c (.Name x pos) (mSlot i) := by
  refine PE.wk (pe_var hN hv hd hcd) fun σ H Q ⟨F, ε, L, fr, re, run⟩ => ?_
  unfold mSlot at run
  split at run
  · rename_i w e
    obtain ⟨v, e1, r⟩ := re.fz_at e
    exact ⟨v, e1, run.now fr re ⟨rfl, r⟩⟩
  · exact run.elim
def mCst (w : W) : M3 W := fun ε => .ok w ε
theorem je_cst {e : Expr} {w : W} {v : V} (h : PE X e (tC v)) (r : ∀ F, RepF c.K F w v) : JE X c e (mCst w) :=
  PE.wk h fun σ H Q ⟨F, ε, L, fr, re, run⟩ => run.now fr re ⟨rfl, r F⟩
/-! ### operators -/
/-- a binary operation by values -/
def OpG (K : PySem.W.Frag) (r : R2) (g : W → W → Option W) : Prop := ∀ (F H : Hp) (w1 w2 w : W) (v1 v2 : V) (Q : VK), Sub F H → RepF K F w1 v1 → RepF K F w2 v2 → g w1 w2 = some w →
  (∀ v F' H', Ext F H F' H' → RepF K F' w v → Q v H') → r v1 v2 H Q
def mBin (g : W → W → Option W) (a b : M3 W) : M3 W := a.bind fun x => b.bind fun y => M3.lift (g x y)
theorem tOpG {ma mb : M3 W} {r : R2} {g : W → W → Option W} (hg : OpG c.K r g) {σ : L2.St} {H : Hp} {Q : VK} (h : tG c (rW c) (mBin g ma mb) σ H Q) : tOp r (tG c (rW c) ma) (tG c (rW c) mb) σ H Q := by
  obtain ⟨F, ε, L, fr, re, run⟩ := h
  refine ⟨F, ε, L, fr, re, (Run.seq (rel := rW c) (fun _ _ _ _ _ _ => rW0) run).mono ?_⟩
  rintro v1 H1 ⟨F1, ε1, L1, w1, fr1, re1, ⟨_, r1⟩, st1, run1⟩
  refine ⟨F1, ε1, L1, fr1, re1, (Run.seq (rel := rW c) (fun _ _ _ _ _ _ => rW0) run1).mono ?_⟩
  rintro v2 H2 ⟨F2, ε2, L2, w2, fr2, re2, ⟨_, r2⟩, st2, run2⟩
  unfold M3.lift at run2
  cases e : g w1 w2 with
  | none => rw [e] at run2; exact run2.elim
  | some w =>
    rw [e] at run2
    exact hg F2 H2 w1 w2 w v1 v2 Q fr2.sub (r1.mono st2.fsub) r2 e fun v F' H' x rv => run2.give fr2 re2 x ⟨rfl, rv⟩
theorem je_bin {op : Operator} {a b : Expr} {ma mb : M3 W} {r : R2} {g : W → W → Option W} (ho : OpR X (binaryOp op) r) (hg : OpG c.K r g) (ha : JE X c a ma) (hb : JE X c b mb) : JE X c (.BinOp a op b pos) (mBin g ma mb) :=
  PE.wk (pe_op ho ha hb) fun _ _ _ => tOpG hg
theorem je_cmp {op : CmpOp} {a b : Expr} {ma mb : M3 W} {r : R2} {g : W → W → Option W} (ho : OpR X (compareOp op) r) (hg : OpG c.K r g) (ha : JE X c a ma) (hb : JE X c b mb) (hm : behindInMarks op b = false) : JE X c (.Compare a [op] [b] pos) (mBin g ma mb) :=
  PE.wk (pe_cmpR ho ha hb hm) fun _ _ _ => tOpG hg
def asB : W → Option Bool
  | .bl b => some b
  | _ => none
theorem tTestG {m : M3 W} {t : TE} (h : ∀ σ H Q, tG c (rW c) m σ H Q → t σ H Q) {σ : L2.St} {H : Hp} {Q : Bool → Hp → Prop} (q : tG c rB (m.bind fun w => M3.lift (asB w)) σ H Q) : tTest t σ H Q := by
  obtain ⟨F, ε, L, fr, re, run⟩ := q
  refine h _ _ _ ⟨F, ε, L, fr, re, (Run.seq (rel := rW c) (fun _ _ _ _ _ _ => rW0) run).mono ?_⟩
  rintro v1 H1 ⟨F1, ε1, L1, w1, fr1, re1, ⟨_, r1⟩, st1, run1⟩
  cases w1 <;> first | exact run1.elim | skip
  rename_i b
  obtain rfl : v1 = .bl b := r1
  exact ⟨b, rfl, run1.now fr1 re1 ⟨rfl, rfl⟩⟩
theorem jt_cmp {op : CmpOp} {a b : Expr} {ma mb : M3 W} {r : R2} {g : W → W → Option W} (ho : OpR X (compareOp op) r) (hg : OpG c.K r g) (ha : JE X c a ma) (hb : JE X c b mb) (hm : behindInMarks op b = false) :
    JT X c (.Compare a [op] [b] pos) ((mBin g ma mb).bind fun w => M3.lift (asB w)) :=
  PT.wk (pt_cmpR ho ha hb hm) fun _ _ _ => tTestG fun _ _ _ => tOpG hg
theorem OpG.or {K : PySem.W.Frag} {r r' : R2} {g g' : W → W → Option W} (h : OpG K r g) (h' : OpG K r' g') : OpG K (fun x y H Q => r x y H Q ∨ r' x y H Q) (fun x y => (g x y).or (g' x y)) := by
  intro F H w1 w2 w v1 v2 Q s r1 r2 e k
  have e : (g w1 w2).or (g' w1 w2) = some w := e
  cases e1 : g w1 w2 with
  | some z =>
    rw [e1] at e
    cases e
    exact .inl (h F H w1 w2 _ v1 v2 Q s r1 r2 e1 k)
  | none =>
    rw [e1] at e
    exact .inr (h' F H w1 w2 _ v1 v2 Q s r1 r2 e k)
end
end L3

set_option Elab.async false
set_option linter.all false
set_option maxRecDepth 100000
namespace L3
open PySem PySem.Spec PyProof.Rows L2
theorem ite_some {α : Type} {p : Prop} [Decidable p] {a w : α} (e : (if p then some a else none) = some w) : p ∧ a = w := by
  by_cases h : p
  · rw [if_pos h] at e; exact ⟨h, Option.some.inj e⟩
  · rw [if_neg h] at e; cases e
section
variable {K : PySem.W.Frag} {F F' H H' : Hp}
theorem RepFs.length : ∀ {xs : List W} {vs : List V}, RepFs K F xs vs → vs.length = xs.length
  | [], _, e => by rw [show _ = ([] : List V) from e]; rfl
  | x :: xs, _, ⟨v, r, e, _, t⟩ => by rw [e, List.length_cons, List.length_cons, RepFs.length t]
theorem RepFs.append : ∀ {xs ys : List W} {vs us : List V}, RepFs K F xs vs → RepFs K F ys us → RepFs K F (xs ++ ys) (vs ++ us)
  | [], _, _, _, e, h => by rw [show _ = ([] : List V) from e]; exact h
  | x :: xs, _, _, _, ⟨v, r, e, q, t⟩, h => ⟨v, r ++ _, by rw [e]; rfl, q, RepFs.append t h⟩
theorem RepFs.get : ∀ {xs : List W} {vs : List V} {i : Nat} {w : W}, RepFs K F xs vs → xs[i]? = some w → ∃ v, vs[i]? = some v ∧ RepF K F w v
  | [], _, _, _, _, e => by simp at e
  | x :: xs, _, 0, _, ⟨v, r, e, q, t⟩, h => by
    simp at h
    subst h e
    exact ⟨v, rfl, q⟩
  | x :: xs, _, i + 1, _, ⟨v, r, e, q, t⟩, h => by
    subst e
    obtain ⟨u, h1, h2⟩ := RepFs.get (i := i) t (by simpa using h)
    exact ⟨u, by simpa using h1, h2⟩
theorem RepFs.drop : ∀ {xs : List W} {vs : List V} (n : Nat), RepFs K F xs vs → RepFs K F (xs.drop n) (vs.drop n)
  | _, _, 0, h => h
  | [], _, _ + 1, e => by rw [show _ = ([] : List V) from e]; rfl
  | x :: xs, _, n + 1, ⟨v, r, e, q, t⟩ => by rw [e]; exact RepFs.drop n t
theorem RepFs.take : ∀ {xs : List W} {vs : List V} (n : Nat), RepFs K F xs vs → RepFs K F (xs.take n) (vs.take n)
  | _, _, 0, _ => rfl
  | [], _, _ + 1, e => by rw [show _ = ([] : List V) from e]; rfl
  | x :: xs, _, n + 1, ⟨v, r, e, q, t⟩ => by rw [e]; exact ⟨v, r.take n, rfl, q, RepFs.take n t⟩
theorem RepFs.ints {ns : List Int} : ∀ {xs : List W} {vs : List V}, xs = ns.map W.int → RepFs K F xs vs → vs = ns.map V.int := by
  induction ns with
  | nil => intro xs vs e h; subst e; exact h
  | cons n ns ih =>
    intro xs vs e h
    subst e
    obtain ⟨v, r, e, q, t⟩ := h
    rw [e, show v = .int n from q, ih rfl t]
    rfl
def cutW {α : Type} (xs : List α) (lo hi : Option Int) : List α := (xs.drop (HT.sIx xs.length 0 lo)).take (HT.sIx xs.length xs.length hi - HT.sIx xs.length 0 lo)
theorem RepFs.cut {xs : List W} {vs : List V} (h : RepFs K F xs vs) (lo hi : Option Int) : RepFs K F (cutW xs lo hi) (cutV vs lo hi) := by
  unfold cutW cutV
  rw [h.length]
  exact (h.drop _).take _
/-- a list, a tuple seen in H -/
theorem RepF.lst_of (s : Sub F H) {xs : List W} {v : V} (h : RepF K F (.lst xs) v) : ∃ p vs, v = .ref p ∧ H p = some (.lst vs) ∧ RepFs K F xs vs :=
  let ⟨p, vs, e, hp, r⟩ := h
  ⟨p, vs, e, s _ _ hp, r⟩
theorem RepF.tup_of (s : Sub F H) {xs : List W} {v : V} (h : RepF K F (.tup xs) v) : ∃ p vs, v = .ref p ∧ SqT K H p vs ∧ RepFs K F xs vs :=
  let ⟨p, vs, e, hp, r⟩ := h
  ⟨p, vs, e, SqT.of (s _ _ hp), r⟩
theorem RepF.ktup_of (s : Sub F H) {xs : List W} {v : V} (h : RepF K F (.ktup xs) v) : ∃ p vs, v = .ref p ∧ SqT K H p vs ∧ RepFs K F xs vs :=
  let ⟨p, vs, e, hp, r⟩ := h
  ⟨p, vs, e, hp.sq s, r⟩
def W.seq : W → Option (List W)
  | .tup xs => some xs
  | .ktup xs => some xs
  | .lst xs => some xs
  | _ => none
theorem RepF.seq_of (s : Sub F H) {w : W} {xs : List W} {v : V} (h : RepF K F w v) (e : w.seq = some xs) : ∃ p vs, v = .ref p ∧ (SqL K H p vs ∨ SqT K H p vs) ∧ RepFs K F xs vs := by
  cases w <;> first | (cases e; done) | skip
  · cases e
    obtain ⟨p, vs, e1, e2, r⟩ := h.tup_of s
    exact ⟨p, vs, e1, .inr e2, r⟩
  · cases e
    obtain ⟨p, vs, e1, e2, r⟩ := h.ktup_of s
    exact ⟨p, vs, e1, .inr e2, r⟩
  · cases e
    obtain ⟨p, vs, e1, e2, r⟩ := h.lst_of s
    exact ⟨p, vs, e1, .inl (SqL.of e2), r⟩
/-- a new list, a new tuple of frozen things -/
theorem new_lst (s : Sub F H) {xs : List W} {vs : List V} (r : RepFs K F xs vs) {p : Addr} (np : H p = none) : Ext F H (upd F p (.lst vs)) (upd H p (.lst vs)) ∧ RepF K (upd F p (.lst vs)) (.lst xs) (.ref p) :=
  ⟨Ext.new s np, p, vs, rfl, upd_same, RepFs.mono (Ext.new (o := .lst vs) s np).fsub xs r⟩
theorem new_tup (s : Sub F H) {xs : List W} {vs : List V} (r : RepFs K F xs vs) {p : Addr} (np : H p = none) : Ext F H (upd F p (.tup vs)) (upd H p (.tup vs)) ∧ RepF K (upd F p (.tup vs)) (.tup xs) (.ref p) :=
  ⟨Ext.new s np, p, vs, rfl, upd_same, RepFs.mono (Ext.new (o := .tup vs) s np).fsub xs r⟩
end

/-! ### operators of ints, texts, lists, tuples -/
def W.add : W → W → Option W
  | .int i, .int j => some (.int (i + j))
  | .str a, .str b => if a.length + b.length ≤ sizeLine then some (.str (a ++ b)) else none
  | .lst a, .lst b => if a.length + b.length ≤ sizeLine then some (.lst (a ++ b)) else none
  | .tup a, .tup b => if a.length + b.length ≤ sizeLine then some (.tup (a ++ b)) else none
  | _, _ => none
section
variable {K : PySem.W.Frag} {X : Cx}
abbrev rAddG (K : PySem.W.Frag) : R2 := fun x y H Q => rI0 (fun i j => .int (i + j)) x y H Q ∨ (fun x y H Q => ∃ i j, x = .str i ∧ y = .str j ∧ i.length + j.length ≤ sizeLine ∧ Q (.str (i ++ j)) H : R2) x y H Q ∨ rCat x y H Q ∨ rCatA K x y H Q
theorem op_addG : OpR X (binaryOp .Add) (rAddG X.K) := op_add.or (op_add_str.or (op_cat.or op_catA))
theorem g_add : OpG K (rAddG K) W.add := by
  intro F H w1 w2 w v1 v2 Q s r1 r2 e k
  cases w1 <;> cases w2 <;> first | (cases e; done) | skip
  · cases e
    exact .inl ⟨_, _, r1, r2, k _ F H (Ext.refl s) rfl⟩
  · rename_i a b
    obtain ⟨hz, rfl⟩ := ite_some e
    exact .inr (.inl ⟨_, _, r1, r2, hz, k _ F H (Ext.refl s) rfl⟩)
  · rename_i a b
    obtain ⟨hz, rfl⟩ := ite_some e
    obtain ⟨p, vs, rfl, hp, rs⟩ := RepF.tup_of s r1
    obtain ⟨q, us, rfl, hq, rt⟩ := RepF.tup_of s r2
    refine .inr (.inr (.inr ⟨p, q, vs, us, rfl, rfl, hp, hq, by rw [rs.length, rt.length]; exact hz, fun en => ?_, fun _ en => ?_, fun _ _ c nc => ?_⟩))
    · subst en
      have : a = [] := List.length_eq_zero_iff.mp rs.length.symm
      subst this
      exact k _ F H (Ext.refl s) r2
    · subst en
      have : b = [] := List.length_eq_zero_iff.mp rt.length.symm
      subst this
      rw [List.append_nil] at k
      exact k _ F H (Ext.refl s) r1
    · obtain ⟨x, r⟩ := new_tup s (rs.append rt) nc
      exact k _ _ _ x r
  · rename_i a b
    obtain ⟨hz, rfl⟩ := ite_some e
    obtain ⟨p, vs, rfl, hp, rs⟩ := RepF.lst_of s r1
    obtain ⟨q, us, rfl, hq, rt⟩ := RepF.lst_of s r2
    refine .inr (.inr (.inl ⟨p, q, vs, us, rfl, rfl, hp, hq, by rw [rs.length, rt.length]; exact hz, fun c nc => ?_⟩))
    obtain ⟨x, r⟩ := new_lst s (rs.append rt) nc
    exact k _ _ _ x r
/-- an operation of two ints -/
def W.ii (f : Int → Int → Option W) : W → W → Option W
  | .int i, .int j => f i j
  | _, _ => none
def flat : W → Option V
  | .non => some .non
  | .bl b => some (.bl b)
  | .int i => some (.int i)
  | .str x => some (.str x)
  | _ => none
theorem flat_rep {F : Hp} {w : W} {v u : V} (h : flat w = some v) (r : RepF K F w u) : u = v := by
  cases w <;> first | (cases h; done) | (cases h; exact r)
theorem rep_flat {F : Hp} {w : W} {v : V} (h : flat w = some v) : RepF K F w v := by
  cases w <;> first | (cases h; rfl; done) | (cases h; done)
theorem g_ii {C : Int → Int → Prop} {g : Int → Int → V} {f : Int → Int → Option W} (hf : ∀ i j w, f i j = some w → C i j ∧ flat w = some (g i j)) : OpG K (rI C g) (W.ii f) := by
  intro F H w1 w2 w v1 v2 Q s r1 r2 e k
  cases w1 <;> first | (cases e; done) | skip
  cases w2 <;> first | (cases e; done) | skip
  obtain ⟨h1, h2⟩ := hf _ _ _ e
  exact ⟨_, _, r1, r2, h1, k _ F H (Ext.refl s) (rep_flat h2)⟩
theorem g_ii0 {g : Int → Int → V} {f : Int → Int → Option W} (hf : ∀ i j w, f i j = some w → flat w = some (g i j)) : OpG K (rI0 g) (W.ii f) := by
  intro F H w1 w2 w v1 v2 Q s r1 r2 e k
  cases w1 <;> first | (cases e; done) | skip
  cases w2 <;> first | (cases e; done) | skip
  exact ⟨_, _, r1, r2, k _ F H (Ext.refl s) (rep_flat (hf _ _ _ e))⟩
def W.sub : W → W → Option W := W.ii fun i j => some (.int (i - j))
theorem g_sub : OpG K (rI0 fun i j => .int (i - j)) W.sub := g_ii0 fun _ _ _ e => by cases e; rfl
def W.fdiv : W → W → Option W := W.ii fun i j => if 0 < j ∧ j.natAbs.log2 < 9000 then some (.int (i / j)) else none
theorem g_fdiv : OpG K (rI CDivW fun i j => .int (i / j)) W.fdiv := g_ii fun _ _ _ e => by
  obtain ⟨h, rfl⟩ := ite_some e
  exact ⟨h, rfl⟩
def W.mod : W → W → Option W := W.ii fun i j => if 0 < j then some (.int (i % j)) else none
theorem g_mod : OpG K (rI (fun _ j => 0 < j) fun i j => .int (i % j)) W.mod := g_ii fun _ _ _ e => by
  obtain ⟨h, rfl⟩ := ite_some e
  exact ⟨h, rfl⟩
def W.pow : W → W → Option W := W.ii fun i j => if 0 ≤ j ∧ j ≤ 1000000 ∧ i.natAbs < 2 ^ 64 then some (.int (i ^ j.toNat)) else none
theorem g_pow : OpG K (rI CPow fun i j => .int (i ^ j.toNat)) W.pow := g_ii fun _ _ _ e => by
  obtain ⟨h, rfl⟩ := ite_some e
  exact ⟨h, rfl⟩
def W.shl : W → W → Option W := W.ii fun i j => if 0 ≤ j ∧ j ≤ 1000000 ∧ i.natAbs < 2 ^ 64 then some (.int (i * 2 ^ j.toNat)) else none
theorem g_shl : OpG K (rI CPow fun i j => .int (i * 2 ^ j.toNat)) W.shl := g_ii fun _ _ _ e => by
  obtain ⟨h, rfl⟩ := ite_some e
  exact ⟨h, rfl⟩
def W.shr : W → W → Option W := W.ii fun i j => if 0 ≤ j then some (.int (i / 2 ^ j.toNat)) else none
theorem g_shr : OpG K (rI (fun _ j => 0 ≤ j) fun i j => .int (i / 2 ^ j.toNat)) W.shr := g_ii fun _ _ _ e => by
  obtain ⟨h, rfl⟩ := ite_some e
  exact ⟨h, rfl⟩
def W.band : W → W → Option W := W.ii fun i j => some (.int (Builtin.bitAnd i j))
theorem g_band : OpG K (rI0 fun i j => .int (Builtin.bitAnd i j)) W.band := g_ii0 fun _ _ _ e => by cases e; rfl
def W.bor : W → W → Option W := W.ii fun i j => some (.int (Builtin.bitOr i j))
theorem g_bor : OpG K (rI0 fun i j => .int (Builtin.bitOr i j)) W.bor := g_ii0 fun _ _ _ e => by cases e; rfl
def W.lt : W → W → Option W := W.ii fun i j => some (.bl (decide (i < j)))
theorem g_lt : OpG K (rI0 fun i j => .bl (decide (i < j))) W.lt := g_ii0 fun _ _ _ e => by cases e; rfl
def W.gt : W → W → Option W := W.ii fun i j => some (.bl (decide (j < i)))
theorem g_gt : OpG K (rI0 fun i j => .bl (decide (j < i))) W.gt := g_ii0 fun _ _ _ e => by cases e; rfl
def W.ge : W → W → Option W := W.ii fun i j => some (.bl (decide (j ≤ i)))
theorem g_ge : OpG K (rI0 fun i j => .bl (decide (j ≤ i))) W.ge := g_ii0 fun _ _ _ e => by cases e; rfl
def W.le : W → W → Option W := W.ii fun i j => some (.bl (decide (i ≤ j)))
theorem g_le : OpG K (rI0 fun i j => .bl (decide (i ≤ j))) W.le := g_ii0 fun _ _ _ e => by cases e; rfl
/-- a product of ints; a list, a tuple so often -/
def W.mul : W → W → Option W
  | .int i, .int j => if (Builtin.Int.intBits i : Int) + (Builtin.Int.intBits j : Int) ≤ 134217728 then some (.int (i * j)) else none
  | .lst xs, .int k => if -(2 ^ 63) ≤ k ∧ k < 2 ^ 63 ∧ xs.length * k.toNat ≤ sizeLine then some (.lst (List.replicate k.toNat xs).flatten) else none
  | _, _ => none
theorem RepFs.flat_rep {F : Hp} {xs : List W} {vs : List V} (h : RepFs K F xs vs) : ∀ n : Nat, RepFs K F (List.replicate n xs).flatten (List.replicate n vs).flatten
  | 0 => rfl
  | n + 1 => by rw [List.replicate_succ, List.replicate_succ, List.flatten_cons, List.flatten_cons]; exact h.append (RepFs.flat_rep h n)
abbrev rMulG : R2 := fun x y H Q => rI CMulX (fun i j => .int (i * j)) x y H Q ∨ rRep x y H Q
theorem op_mulG : OpR X (binaryOp .Mult) rMulG := op_mulX.or op_rep
theorem g_mul : OpG K rMulG W.mul := by
  intro F H w1 w2 w v1 v2 Q s r1 r2 e k
  cases w1 <;> first | (cases e; done) | skip
  all_goals (cases w2 <;> first | (cases e; done) | skip)
  · obtain ⟨h, rfl⟩ := ite_some e
    exact .inl ⟨_, _, r1, r2, h, k _ F H (Ext.refl s) rfl⟩
  · obtain ⟨h, rfl⟩ := ite_some e
    obtain ⟨p, vs, rfl, hp, rs⟩ := RepF.lst_of s r1
    refine .inr ⟨p, _, vs, rfl, r2, hp, h.1, h.2.1, by rw [rs.length]; exact h.2.2, fun c nc => ?_⟩
    obtain ⟨x, r⟩ := new_lst s (rs.flat_rep _) nc
    exact k _ _ _ x r
end

/-! ### equality of data -/
mutual
def W.pd : W → Option PyData
  | .non => some .none
  | .bl b => some (.bool b)
  | .int i => some (.int i)
  | .str x => some (.str x)
  | .lst xs => (W.pds xs).map .list
  | .tup xs => (W.pds xs).map .tuple
  | .ktup xs => (W.pds xs).map .tuple
  | _ => none
def W.pds : List W → Option (List PyData)
  | [] => some []
  | x :: xs => (W.pd x).bind fun d => (W.pds xs).map fun ds => d :: ds
end
def pd2 (f : PyData → PyData → Bool) (x y : W) : Option W := match x.pd, y.pd with
  | some d, some e => if SeqAt.shaped d && SeqAt.shaped e then some (.bl (f d e)) else none
  | _, _ => none
section
variable {K : PySem.W.Frag} {F H : Hp} {X : Cx}
mutual
theorem RepF.dp (s : Sub F H) : ∀ (w : W) {v : V} {d : PyData}, RepF K F w v → w.pd = some d → Dp K H v d
  | .non, _, _, h, e => by cases e; rw [show _ = V.non from h]; exact .non
  | .bl b, _, _, h, e => by cases e; rw [show _ = V.bl b from h]; exact .bl b
  | .int i, _, _, h, e => by cases e; rw [show _ = V.int i from h]; exact .int i
  | .str x, _, _, h, e => by cases e; rw [show _ = V.str x from h]; exact .str x
  | .ty _, _, _, _, e => by cases e
  | .gl _, _, _, _, e => by cases e
  | .dct _ _, _, _, _, e => by cases e
  | .ins _ _, _, _, _, e => by cases e
  | .exc _ _, _, _, _, e => by cases e
  | .klst _, _, _, _, e => by cases e
  | .lst xs, _, _, ⟨p, vs, ev, hp, r⟩, e => by
    obtain ⟨ds, e1, e2⟩ := Option.map_eq_some_iff.mp (show (W.pds xs).map PyData.list = _ from e)
    subst e2 ev
    exact .lst (SqL.of (s _ _ hp)) (RepFs.dp s xs r e1)
  | .tup xs, _, _, ⟨p, vs, ev, hp, r⟩, e => by
    obtain ⟨ds, e1, e2⟩ := Option.map_eq_some_iff.mp (show (W.pds xs).map PyData.tuple = _ from e)
    subst e2 ev
    exact .tup (SqT.of (s _ _ hp)) (RepFs.dp s xs r e1)
  | .ktup xs, _, _, h, e => by
    obtain ⟨p, vs, ev, hp, r⟩ := RepF.ktup_of s h
    obtain ⟨ds, e1, e2⟩ := Option.map_eq_some_iff.mp (show (W.pds xs).map PyData.tuple = _ from e)
    subst e2 ev
    exact .tup hp (RepFs.dp s xs r e1)
theorem RepFs.dp (s : Sub F H) : ∀ (xs : List W) {vs : List V} {ds : List PyData}, RepFs K F xs vs → W.pds xs = some ds → DpAll K H vs ds
  | [], _, _, h, e => by cases e; rw [show _ = ([] : List V) from h]; exact .nil
  | x :: xs, _, _, ⟨v, r, ev, q, t⟩, e => by
    obtain ⟨d, e1, e0⟩ := Option.bind_eq_some_iff.mp (show ((W.pd x).bind fun d => (W.pds xs).map fun ds => d :: ds) = _ from e)
    obtain ⟨ds, e2, e3⟩ := Option.map_eq_some_iff.mp e0
    subst e3 ev
    exact .cons (RepF.dp s x q e1) (RepFs.dp s xs t e2)
end
theorem pd2_some {f : PyData → PyData → Bool} {x y w : W} (h : pd2 f x y = some w) : ∃ d e, x.pd = some d ∧ y.pd = some e ∧ SeqAt.shaped d = true ∧ SeqAt.shaped e = true ∧ w = .bl (f d e) := by
  unfold pd2 at h
  cases h1 : x.pd with
  | none => rw [h1] at h; cases h
  | some d => cases h2 : y.pd with
    | none => rw [h1, h2] at h; cases h
    | some e =>
      rw [h1, h2] at h
      obtain ⟨c, rfl⟩ := ite_some h
      rw [Bool.and_eq_true] at c
      exact ⟨d, e, rfl, rfl, c.1, c.2, rfl⟩
def W.eq : W → W → Option W := pd2 PyData.eqv
def W.ne : W → W → Option W := pd2 fun d e => !PyData.eqv d e
theorem g_eq : OpG K (rEqD K) W.eq := by
  intro F H w1 w2 w v1 v2 Q s r1 r2 h k
  obtain ⟨d, e, h1, h2, h3, h4, rfl⟩ := pd2_some h
  exact ⟨d, e, r1.dp s _ h1, r2.dp s _ h2, h3, h4, k _ F H (Ext.refl s) rfl⟩
theorem g_ne : OpG K (rNeD K) W.ne := by
  intro F H w1 w2 w v1 v2 Q s r1 r2 h k
  obtain ⟨d, e, h1, h2, h3, h4, rfl⟩ := pd2_some h
  exact ⟨d, e, r1.dp s _ h1, r2.dp s _ h2, h3, h4, k _ F H (Ext.refl s) rfl⟩
end
end L3

set_option Elab.async false
set_option linter.all false
set_option maxRecDepth 100000
namespace L3
open PySem PySem.Spec PyProof.Rows L2
section
variable {X : Cx} {c : C3} {pos : Pos}
/-! ### argument lists, displays -/
def mNil {α : Type} : M3 (List α) := fun ε => .ok [] ε
def mCons {α : Type} (m : M3 α) (r : M3 (List α)) : M3 (List α) := m.bind fun x => r.bind fun xs ε => .ok (x :: xs) ε
theorem ja_nil : JA X c [] mNil := PA.wk pa_nil fun σ H Q ⟨F, ε, L, fr, re, run⟩ => run.now fr re ⟨rfl, rfl⟩
theorem ja_cons {e : Expr} {es : List Expr} {m : M3 W} {r : M3 (List W)} (hs : starEach (e :: es) X.env = (false, eval e X.env) :: starEach es X.env) (h : JE X c e m) (t : JA X c es r) : JA X c (e :: es) (mCons m r) := by
  refine PA.wk (pa_cons h t hs) fun σ H Q ⟨F, ε, L, fr, re, run⟩ => ?_
  refine ⟨F, ε, L, fr, re, (Run.seq (rel := rW c) (fun _ _ _ _ _ _ => rW0) run).mono ?_⟩
  rintro v1 H1 ⟨F1, ε1, L1, w1, fr1, re1, ⟨_, r1⟩, st1, run1⟩
  refine ⟨F1, ε1, L1, fr1, re1, (Run.seq (rel := rWs c) (fun _ _ _ _ _ _ => rWs0) run1).mono ?_⟩
  rintro vs H2 ⟨F2, ε2, L2, ws, fr2, re2, ⟨_, r2⟩, st2, run2⟩
  exact run2.now fr2 re2 ⟨rfl, _, _, rfl, r1.mono st2.fsub, r2⟩
/-- the rest behind a value that needs no more than a pure allocation -/
def mTup (m : M3 (List W)) : M3 W := m.bind fun xs => M3.lift (if xs.length ≤ sizeLine then some (.tup xs) else none)
def mLst (m : M3 (List W)) : M3 W := m.bind fun xs => M3.lift (if xs.length ≤ sizeLine then some (.lst xs) else none)
theorem lift_some {α β : Type} {rel : Rl α β} {o : Option α} {ε : En} {F H : Hp} {L : List Addr} {σ : L2.St} {Q : β → Hp → Prop} (h : Run c rel (M3.lift o ε) F H L σ Q) : ∃ a, o = some a ∧ Run c rel (.ok a ε) F H L σ Q := by
  cases o with
  | none => exact h.elim
  | some a => exact ⟨a, rfl, h⟩
theorem je_tup {es : List Expr} {x1 : Nat} {m : M3 (List W)} (h : JA X c es m) : JE X c (.Tuple es x1 pos) (mTup m) := by
  refine PE.wk (pe_tup h) fun σ H Q ⟨F, ε, L, fr, re, run⟩ => ?_
  refine ⟨F, ε, L, fr, re, (Run.seq (rel := rWs c) (fun _ _ _ _ _ _ => rWs0) run).mono ?_⟩
  rintro vs H1 ⟨F1, ε1, L1, ws, fr1, re1, ⟨_, r1⟩, st1, run1⟩
  obtain ⟨w, e, run1⟩ := lift_some run1
  obtain ⟨hz, rfl⟩ := ite_some e
  refine ⟨by rw [r1.length]; exact hz, fun p np => ?_⟩
  obtain ⟨x, r⟩ := new_tup fr1.sub r1 np
  exact run1.give fr1 re1 x ⟨rfl, r⟩
theorem je_lst {es : List Expr} {m : M3 (List W)} (h : JA X c es m) : JE X c (.List es pos) (mLst m) := by
  refine PE.wk (pe_lst h) fun σ H Q ⟨F, ε, L, fr, re, run⟩ => ?_
  refine ⟨F, ε, L, fr, re, (Run.seq (rel := rWs c) (fun _ _ _ _ _ _ => rWs0) run).mono ?_⟩
  rintro vs H1 ⟨F1, ε1, L1, ws, fr1, re1, ⟨_, r1⟩, st1, run1⟩
  obtain ⟨w, e, run1⟩ := lift_some run1
  obtain ⟨hz, rfl⟩ := ite_some e
  refine ⟨by rw [r1.length]; exact hz, fun p np => ?_⟩
  obtain ⟨x, r⟩ := new_lst fr1.sub r1 np
  exact run1.give fr1 re1 x ⟨rfl, r⟩
/-! ### tests -/
abbrev JP (X : Cx) (c : C3) (e : Expr) (m : M3 Bool) : Prop := PW X e (tG c rB m)
def mVal (m : M3 W) : M3 Bool := m.bind fun w => M3.lift (asB w)
theorem jt_val {e : Expr} {m : M3 W} (h : JE X c e m) (he : ∀ whole, isTrue e X.env whole = (do let v ← whole; standAt e.pos; holding [v] (truthy v))) : JT X c e (mVal m) :=
  PT.wk (pt_val h he) fun σ H Q q => tTestG (fun _ _ _ h => h) q
theorem jt_cmp' {op : CmpOp} {a b : Expr} {m : M3 W} {t : TE} (h : PT X (.Compare a [op] [b] pos) (tTest t)) (w : ∀ σ H Q, tG c (rW c) m σ H Q → t σ H Q) : JT X c (.Compare a [op] [b] pos) (mVal m) :=
  PT.wk h fun _ _ _ => tTestG w
def mAnd (a b : M3 Bool) : M3 Bool := a.bind fun x => match x with | true => b | false => fun ε => .ok false ε
def mOr (a b : M3 Bool) : M3 Bool := a.bind fun x => match x with | true => fun ε => .ok true ε | false => b
def mNot (a : M3 Bool) : M3 Bool := a.bind fun x ε => .ok (!x) ε
theorem jp_and1 {a : Expr} {m : M3 Bool} (h : JT X c a m) : JP X c (.BoolOp .And [a] pos) m := pw_and1 h
theorem jp_or1 {a : Expr} {m : M3 Bool} (h : JT X c a m) : JP X c (.BoolOp .Or [a] pos) m := pw_or1 h
theorem jp_and {a b : Expr} {rest : List Expr} {ma mb : M3 Bool} (ha : JT X c a ma) (hb : JP X c (.BoolOp .And (b :: rest) pos) mb) : JP X c (.BoolOp .And (a :: b :: rest) pos) (mAnd ma mb) := by
  refine PW.wk (pw_and ha hb) fun σ H Q ⟨F, ε, L, fr, re, run⟩ => ?_
  refine ⟨F, ε, L, fr, re, (Run.seq (rel := rB) (fun _ _ _ _ _ _ => rB0) run).mono ?_⟩
  rintro b1 H1 ⟨F1, ε1, L1, a1, fr1, re1, ⟨_, rfl⟩, st1, run1⟩
  cases a1 with
  | true => exact ⟨F1, ε1, L1, fr1, re1, run1⟩
  | false => exact run1.now fr1 re1 ⟨rfl, rfl⟩
theorem jp_or {a b : Expr} {rest : List Expr} {ma mb : M3 Bool} (ha : JT X c a ma) (hb : JP X c (.BoolOp .Or (b :: rest) pos) mb) : JP X c (.BoolOp .Or (a :: b :: rest) pos) (mOr ma mb) := by
  refine PW.wk (pw_or ha hb) fun σ H Q ⟨F, ε, L, fr, re, run⟩ => ?_
  refine ⟨F, ε, L, fr, re, (Run.seq (rel := rB) (fun _ _ _ _ _ _ => rB0) run).mono ?_⟩
  rintro b1 H1 ⟨F1, ε1, L1, a1, fr1, re1, ⟨_, rfl⟩, st1, run1⟩
  cases a1 with
  | false => exact ⟨F1, ε1, L1, fr1, re1, run1⟩
  | true => exact run1.now fr1 re1 ⟨rfl, rfl⟩
theorem jt_not {a : Expr} {m : M3 Bool} (h : JT X c a m) : JT X c (.UnaryOp .Not a pos) (mNot m) := by
  refine PT.wk (pt_not h) fun σ H Q ⟨F, ε, L, fr, re, run⟩ => ?_
  refine ⟨F, ε, L, fr, re, (Run.seq (rel := rB) (fun _ _ _ _ _ _ => rB0) run).mono ?_⟩
  rintro b1 H1 ⟨F1, ε1, L1, a1, fr1, re1, ⟨_, rfl⟩, st1, run1⟩
  exact run1.now fr1 re1 ⟨rfl, rfl⟩
/-! ### and, or, not as values: bools -/
def mBl (m : M3 Bool) : M3 W := m.bind fun x ε => .ok (.bl x) ε
def mAndV (a b : M3 W) : M3 W := (mVal a).bind fun x => match x with | true => b | false => fun ε => .ok (.bl false) ε
def mOrV (a b : M3 W) : M3 W := (mVal a).bind fun x => match x with | true => fun ε => .ok (.bl true) ε | false => b
def mNotV (a : M3 W) : M3 W := (mVal a).bind fun x ε => .ok (.bl (!x)) ε
theorem Res.bind_assoc {α β γ : Type} (m : Res α) (f : α → M3 β) (g : β → M3 γ) : (m.bind f).bind g = m.bind fun x ε => (f x ε).bind g := by cases m <;> rfl
theorem seqV {γ δ : Type} {relC : Rl γ δ} {m : M3 W} {f : Bool → M3 γ} {ε : En} {F H : Hp} {L : List Addr} {σ : L2.St} {Q : δ → Hp → Prop} (h : Run c relC ((mVal m).bind f ε) F H L σ Q) :
    Run c (rW c) (m ε) F H L σ (fun b H1 => ∃ k F1 ε1 L1, b = .bl k ∧ Fr F1 H1 L1 ∧ RepE c.K F1 H1 c.Pv ε1 σ L1 ∧ Stp F H L F1 H1 L1 ∧ Run c relC (f k ε1) F1 H1 L1 σ Q) := by
  have e : (mVal m).bind f ε = (m ε).bind fun w ε1 => (M3.lift (asB w) ε1).bind f := by
    unfold mVal M3.bind
    rw [Res.bind_assoc]
  rw [e] at h
  refine (Run.seq (rel := rW c) (fun _ _ _ _ _ _ => rW0) h).mono ?_
  rintro v1 H1 ⟨F1, ε1, L1, w1, fr1, re1, ⟨_, r1⟩, st1, run1⟩
  cases w1 <;> first | exact run1.elim | skip
  rename_i b
  exact ⟨b, F1, ε1, L1, r1, fr1, re1, st1, run1⟩
theorem je_one {op : BoolOp} {a : Expr} {m : M3 W} (h : JE X c a m) : JE X c (.BoolOp op [a] pos) m := pe_one h
theorem je_and {a b : Expr} {rest : List Expr} {ma mb : M3 W} (ha : JE X c a ma) (hb : JE X c (.BoolOp .And (b :: rest) pos) mb) : JE X c (.BoolOp .And (a :: b :: rest) pos) (mAndV ma mb) := by
  refine PE.wk (pe_and ha hb) fun σ H Q ⟨F, ε, L, fr, re, run⟩ => ?_
  refine ⟨F, ε, L, fr, re, (seqV run).mono ?_⟩
  rintro b1 H1 ⟨k, F1, ε1, L1, e, fr1, re1, st1, run1⟩
  refine ⟨k, e, ?_⟩
  cases k with
  | true => exact ⟨F1, ε1, L1, fr1, re1, run1⟩
  | false => exact run1.now fr1 re1 ⟨rfl, rfl⟩
theorem je_or {a b : Expr} {rest : List Expr} {ma mb : M3 W} (ha : JE X c a ma) (hb : JE X c (.BoolOp .Or (b :: rest) pos) mb) : JE X c (.BoolOp .Or (a :: b :: rest) pos) (mOrV ma mb) := by
  refine PE.wk (pe_or ha hb) fun σ H Q ⟨F, ε, L, fr, re, run⟩ => ?_
  refine ⟨F, ε, L, fr, re, (seqV run).mono ?_⟩
  rintro b1 H1 ⟨k, F1, ε1, L1, e, fr1, re1, st1, run1⟩
  refine ⟨k, e, ?_⟩
  cases k with
  | false => exact ⟨F1, ε1, L1, fr1, re1, run1⟩
  | true => exact run1.now fr1 re1 ⟨rfl, rfl⟩
theorem je_not {a : Expr} {m : M3 W} (h : JE X c a m) : JE X c (.UnaryOp .Not a pos) (mNotV m) := by
  refine PE.wk (pe_not h) fun σ H Q ⟨F, ε, L, fr, re, run⟩ => ?_
  refine ⟨F, ε, L, fr, re, (seqV run).mono ?_⟩
  rintro b1 H1 ⟨k, F1, ε1, L1, e, fr1, re1, st1, run1⟩
  exact ⟨k, e, run1.now fr1 re1 ⟨rfl, rfl⟩⟩
/-- a if t else b -/
def mIf {α : Type} (t : M3 Bool) (a b : M3 α) : M3 α := t.bind fun x => match x with | true => a | false => b
theorem je_if {t a b : Expr} {mt : M3 Bool} {ma mb : M3 W} (ht : JT X c t mt) (ha : JE X c a ma) (hb : JE X c b mb) : JE X c (.IfExp t a b pos) (mIf mt ma mb) := by
  refine PE.wk (pe_ifExp ht ha hb) fun σ H Q ⟨F, ε, L, fr, re, run⟩ => ?_
  refine ⟨F, ε, L, fr, re, (Run.seq (rel := rB) (fun _ _ _ _ _ _ => rB0) run).mono ?_⟩
  rintro b1 H1 ⟨F1, ε1, L1, a1, fr1, re1, ⟨_, rfl⟩, st1, run1⟩
  cases a1 with
  | false => exact ⟨F1, ε1, L1, fr1, re1, run1⟩
  | true => exact ⟨F1, ε1, L1, fr1, re1, run1⟩
/-! ### one value, then a pure step -/
/-- a unary step by values -/
def UnG (K : PySem.W.Frag) (r : V → Hp → VK → Prop) (g : W → Option W) : Prop := ∀ (F H : Hp) (w1 w : W) (v1 : V) (Q : VK), Sub F H → RepF K F w1 v1 → g w1 = some w → (∀ v F' H', Ext F H F' H' → RepF K F' w v → Q v H') → r v1 H Q
def mUn (g : W → Option W) (a : M3 W) : M3 W := a.bind fun x => M3.lift (g x)
theorem tUnG {m : M3 W} {r : V → Hp → VK → Prop} {g : W → Option W} (hg : UnG c.K r g) {σ : L2.St} {H : Hp} {Q : VK} (h : tG c (rW c) (mUn g m) σ H Q) : tG c (rW c) m σ H (fun x H1 => r x H1 Q) := by
  obtain ⟨F, ε, L, fr, re, run⟩ := h
  refine ⟨F, ε, L, fr, re, (Run.seq (rel := rW c) (fun _ _ _ _ _ _ => rW0) run).mono ?_⟩
  rintro v1 H1 ⟨F1, ε1, L1, w1, fr1, re1, ⟨_, r1⟩, st1, run1⟩
  obtain ⟨w, e, run1⟩ := lift_some run1
  exact hg F1 H1 w1 w v1 Q fr1.sub r1 e fun v F' H' x rv => run1.give fr1 re1 x ⟨rfl, rv⟩
theorem je_un {op : UnaryOp} {a : Expr} {m : M3 W} {r : V → Hp → VK → Prop} {g : W → Option W} (ho : UnR X (unaryOp op) r) (hg : UnG c.K r g) (ha : JE X c a m) : JE X c (.UnaryOp op a pos) (mUn g m) :=
  PE.wk (pe_un ho ha) fun _ _ _ => tUnG hg
def W.i1 (f : Int → Int) : W → Option W
  | .int i => some (.int (f i))
  | _ => none
theorem g_i1 {K : PySem.W.Frag} {f : Int → Int} : UnG K (rU fun i => .int (f i)) (W.i1 f) := by
  intro F H w1 w v1 Q s r1 e k
  cases w1 <;> first | (cases e; done) | skip
  cases e
  exact ⟨_, r1, k _ F H (Ext.refl s) rfl⟩
def W.isN : W → Option W
  | .non => some (.bl true)
  | _ => some (.bl false)
def W.notN : W → Option W
  | .non => some (.bl false)
  | _ => some (.bl true)
def W.isNon : W → Bool
  | .non => true
  | _ => false
theorem rep_non {K : PySem.W.Frag} {F : Hp} {w : W} {v : V} (h : RepF K F w v) : decide (v = .non) = w.isNon := by
  cases w with
  | non => rw [show v = .non from h]; rfl
  | bl b => rw [show v = .bl b from h]; rfl
  | int i => rw [show v = .int i from h]; rfl
  | str x => rw [show v = .str x from h]; rfl
  | ty x => rw [show v = .ty x from h]; rfl
  | gl x => rw [show v = .ref _ from h]; rfl
  | tup xs => obtain ⟨p, vs, rfl, _⟩ := h; rfl
  | ktup xs => obtain ⟨p, vs, rfl, _⟩ := h; rfl
  | lst xs => obtain ⟨p, vs, rfl, _⟩ := h; rfl
  | dct d xs => cases d with
    | k => obtain ⟨p, ks, od, rfl, _⟩ := h; rfl
    | t => obtain ⟨p, ks, od, rfl, _⟩ := h; rfl
    | n => exact h.elim
  | ins C xs => obtain ⟨p, dx, gs, rfl, _⟩ := h; rfl
  | klst xs => obtain ⟨p, vs, rfl, _⟩ := h; rfl
  | exc C xs => obtain ⟨p, d, rfl, _⟩ := h; rfl
theorem g_isN {K : PySem.W.Frag} : UnG K (fun x H Q => Q (.bl (decide (x = .non))) H) W.isN := by
  intro F H w1 w v1 Q s r1 e k
  show Q (.bl (decide (v1 = .non))) H
  rw [rep_non r1]
  cases w1 <;> cases e <;> exact k _ F H (Ext.refl s) rfl
theorem g_notN {K : PySem.W.Frag} : UnG K (fun x H Q => Q (.bl (!decide (x = .non))) H) W.notN := by
  intro F H w1 w v1 Q s r1 e k
  show Q (.bl (!decide (v1 = .non))) H
  rw [rep_non r1]
  cases w1 <;> cases e <;> exact k _ F H (Ext.refl s) rfl
theorem je_isN {a : Expr} {m : M3 W} {j pos'} (h : JE X c a m) : JE X c (.Compare a [.Is] [.Constant .none j pos'] pos) (mUn W.isN m) :=
  PE.wk (pe_cmp (pc_isN h)) fun _ _ _ q => tUnG g_isN q
theorem je_notN {a : Expr} {m : M3 W} {j pos'} (h : JE X c a m) : JE X c (.Compare a [.IsNot] [.Constant .none j pos'] pos) (mUn W.notN m) :=
  PE.wk (pe_cmp (pc_notN h)) fun _ _ _ q => tUnG g_notN q
theorem jt_isN {a : Expr} {m : M3 W} {j pos'} (h : JE X c a m) : JT X c (.Compare a [.Is] [.Constant .none j pos'] pos) (mVal (mUn W.isN m)) :=
  PT.wk (pt_cmp (pc_isN h)) fun _ _ _ q => tTestG (fun _ _ _ q => tUnG g_isN q) q
theorem jt_notN {a : Expr} {m : M3 W} {j pos'} (h : JE X c a m) : JT X c (.Compare a [.IsNot] [.Constant .none j pos'] pos) (mVal (mUn W.notN m)) :=
  PT.wk (pt_cmp (pc_notN h)) fun _ _ _ q => tTestG (fun _ _ _ q => tUnG g_notN q) q
/-! ### attributes -/
def W.fld (ok : Str → Str → Bool) (f : Str) : W → Option W
  | .ins C fs => if ok C f then fs.lookup f else none
  | _ => none
theorem RepG.lookup {K : PySem.W.Frag} {F : Hp} {f : Str} : ∀ {fs : List (Str × W)} {gs : List (Str × V)} {w : W}, RepG K F fs gs → fs.lookup f = some w → ∃ v, gs.lookup f = some v ∧ RepF K F w v
  | [], _, _, _, e => by cases e
  | (g, x) :: fs, _, w, ⟨v, r, e1, q, t⟩, e => by
    subst e1
    rw [List.lookup_cons] at e ⊢
    cases h : f == g with
    | true => rw [h] at e; cases e; exact ⟨v, rfl, q⟩
    | false => rw [h] at e; exact RepG.lookup t e
theorem RepG.lookup_none {K : PySem.W.Frag} {F : Hp} {f : Str} : ∀ {fs : List (Str × W)} {gs : List (Str × V)}, RepG K F fs gs → fs.lookup f = none → gs.lookup f = none
  | [], _, h, _ => by rw [show _ = ([] : List (Str × V)) from h]; rfl
  | (g, x) :: fs, _, ⟨v, r, e1, q, t⟩, e => by
    subst e1
    rw [List.lookup_cons] at e ⊢
    cases h : f == g with
    | true => rw [h] at e; cases e
    | false => rw [h] at e; exact RepG.lookup_none t e
def FldOk (K : PySem.W.Frag) (ok : Str → Str → Bool) : Prop := ∀ C f, ok C f = true → Cls K (He.ga K C) ∧ NoAttr K (He.ga K C) f
theorem je_fld {ok : Str → Str → Bool} {e : Expr} {f : Str} {m : M3 W} (hK : c.K = X.K) (ho : FldOk X.K ok) (hb : attributeBase e f X.env (eval e X.env) = eval e X.env) (h : JE X c e m) : JE X c (.Attribute e f pos) (mUn (W.fld ok f) m) := by
  refine PE.wk (pe_fld h hb) fun σ H Q q => ?_
  refine tUnG (c := c) (r := fun x H1 Q => ∃ a C dx fs v, x = .ref a ∧ H1 a = some (.ins C dx fs) ∧ Cls X.K C ∧ NoAttr X.K C f ∧ fs.lookup f = some v ∧ Q v H1) ?_ q
  intro F H w1 w v1 Q s r1 e k
  cases w1 <;> first | (cases e; done) | skip
  rename_i C fs
  have e : (if ok C f then fs.lookup f else none) = some w := e
  by_cases hc : ok C f = true
  · rw [if_pos hc] at e
    obtain ⟨p, dx, gs, rfl, hp, hd, rg⟩ := r1
    obtain ⟨v, e1, rv⟩ := rg.lookup e
    obtain ⟨h1, h2⟩ := ho C f hc
    rw [← hK] at h1 h2 ⊢
    exact ⟨p, _, dx, gs, v, rfl, s _ _ hp, h1, h2, e1, k v F H (Ext.refl s) rv⟩
  · rw [if_neg hc] at e
    cases e
end
end L3

set_option Elab.async false
set_option linter.all false
set_option maxRecDepth 100000
namespace L3
open PySem PySem.Spec PyProof.Rows L2
/-! ### dicts by keys -/
def lookK : List (W × W) → Key → Option W
  | [], _ => none
  | (k, x) :: r, y => if kyW k = some y then some x else lookK r y
def lookT : List (W × W) → List Key → Option W
  | [], _ => none
  | (k, x) :: r, y => if ktW k = some y then some x else lookT r y
/-- what a dict gives for a key; none where the key is of another kind -/
def W.look : DK → List (W × W) → W → Option (Option W)
  | .k, kvs, y => (kyW y).map (lookK kvs)
  | .t, kvs, y => (ktW y).map (lookT kvs)
  | .n, _, _ => none
def RO (K : PySem.W.Frag) (F : Hp) : Option W → Option V → Prop
  | some w, some v => RepF K F w v
  | none, none => True
  | _, _ => False
section
variable {K : PySem.W.Frag} {F H : Hp}
theorem RepK.look {k : Key} : ∀ {kvs : List (W × W)} {ks : List (Key × V)}, RepK K F kvs ks → RO K F (lookK kvs k) (valV ks k)
  | [], _, h => by rw [show _ = ([] : List (Key × V)) from h]; trivial
  | (w, x) :: kvs, _, ⟨k', v, r, e, c, q, t⟩ => by
    subst e
    unfold lookK
    by_cases h : k' = k
    · rw [if_pos (by rw [c, h]), valV_pos (p := (k', v)) h]; exact q
    · rw [if_neg (by rw [c]; exact fun z => h (Option.some.inj z)), valV_neg (p := (k', v)) h]; exact RepK.look t
theorem RepT.look {k : List Key} : ∀ {kvs : List (W × W)} {ks : List (List Key × V)}, RepT K F kvs ks → RO K F (lookT kvs k) (valV ks k)
  | [], _, h => by rw [show _ = ([] : List (List Key × V)) from h]; trivial
  | (w, x) :: kvs, _, ⟨k', v, r, e, c, q, t⟩ => by
    subst e
    unfold lookT
    by_cases h : k' = k
    · rw [if_pos (by rw [c, h]), valV_pos (p := (k', v)) h]; exact q
    · rw [if_neg (by rw [c]; exact fun z => h (Option.some.inj z)), valV_neg (p := (k', v)) h]; exact RepT.look t
theorem kyW_rep {w : W} {k : Key} {v : V} (h : kyW w = some k) (r : RepF K F w v) : v = kV k := by
  cases w <;> first | (cases h; done) | (cases h; exact r)
theorem ktWs_rep : ∀ {xs : List W} {ks : List Key} {vs : List V}, ktWs xs = some ks → RepFs K F xs vs → vs = ks.map kV
  | [], _, _, h, r => by cases h; exact r
  | x :: xs, ks, _, h, ⟨v, r, e, q, t⟩ => by
    unfold ktWs at h
    cases h1 : kyW x with
    | none => rw [h1] at h; cases h
    | some k => cases h2 : ktWs xs with
      | none => rw [h1, h2] at h; cases h
      | some ls =>
        rw [h1, h2] at h
        cases h
        rw [e, kyW_rep h1 q, ktWs_rep h2 t]
        rfl
theorem ktW_rep (s : Sub F H) {w : W} {k : List Key} {v : V} (h : ktW w = some k) (r : RepF K F w v) : ∃ b, v = .ref b ∧ H b = some (.tup (k.map kV)) := by
  cases w <;> first | (cases h; done) | skip
  obtain ⟨p, vs, e, hp, rs⟩ := r
  exact ⟨p, e, by rw [← ktWs_rep h rs]; exact s _ _ hp⟩
theorem RepF.look (s : Sub F H) {d : DK} {kvs : List (W × W)} {y : W} {v u : V} {o : Option W} (r : RepF K F (.dct d kvs) v) (ry : RepF K F y u) (h : W.look d kvs y = some o) : ∃ a o', v = .ref a ∧ DGet H a u o' ∧ RO K F o o' := by
  cases d with
  | k =>
    obtain ⟨p, ks, od, e, hp, rk⟩ := r
    obtain ⟨k, hk, rfl⟩ := Option.map_eq_some_iff.mp h
    rw [kyW_rep hk ry]
    exact ⟨p, _, e, .inl ⟨ks, k, .inr ⟨od, s _ _ hp⟩, rfl, rfl⟩, rk.look⟩
  | t =>
    obtain ⟨p, ks, od, e, hp, rk⟩ := r
    obtain ⟨k, hk, rfl⟩ := Option.map_eq_some_iff.mp h
    obtain ⟨b, rfl, hb⟩ := ktW_rep s hk ry
    exact ⟨p, _, e, .inr ⟨ks, k, b, .inr ⟨od, s _ _ hp⟩, rfl, hb, rfl⟩, rk.look⟩
  | n => exact r.elim
theorem RO.some {w : W} {o : Option V} (h : RO K F (some w) o) : ∃ v, o = some v ∧ RepF K F w v := by
  cases o with
  | none => exact h.elim
  | some v => exact ⟨v, rfl, h⟩
theorem RO.isSome {a : Option W} {o : Option V} (h : RO K F a o) : o.isSome = a.isSome := by
  cases a <;> cases o <;> first | rfl | exact h.elim
theorem RO.getD {a : Option W} {o : Option V} {w : W} {v : V} (h : RO K F a o) (r : RepF K F w v) : RepF K F (a.getD w) (o.getD v) := by
  cases a <;> cases o <;> first | exact r | exact h | exact h.elim
/-! ### items -/
def W.atS (x : Str) (i : Int) : Option W := if x.length ≤ sizeLine then (atI x.cps.toList i).map fun k => .str ⟨#[k]⟩ else none
def W.item : W → W → Option W
  | .lst xs, .int i => atI xs i
  | .tup xs, .int i => atI xs i
  | .ktup xs, .int i => atI xs i
  | .str x, .int i => W.atS x i
  | .dct d kvs, k => (W.look d kvs k).bind id
  | _, _ => none
theorem RepFs.atI {xs : List W} {vs : List V} {i : Int} {w : W} (r : RepFs K F xs vs) (h : atI xs i = some w) : ∃ v, L2.atI vs i = some v ∧ RepF K F w v := by
  unfold L2.atI at h ⊢
  rw [r.length]
  obtain ⟨j, e1, e2⟩ := Option.bind_eq_some_iff.mp h
  obtain ⟨v, e3, rv⟩ := r.get e2
  exact ⟨v, by rw [e1]; exact e3, rv⟩
end
section
variable {X : Cx} {c : C3} {pos : Pos}
def rDG : R2 := fun x y H Q => ∃ a v, x = .ref a ∧ DGet H a y (some v) ∧ Q v H
theorem ix_dict (hu : X.A.units + 1 < cLine) : IxR X rDG := by
  intro value slice pins s σ H x y v u Q I rx ry h hs
  obtain ⟨a, z, rfl, g, q⟩ := h
  cases rx
  exact tail_any (dict_typeIs I g) PySem.F.slot_dict_getitem.lookup (d_getItem hu I g ry fun w' s3 I3 rw' => ⟨z, H, I3, rw', q⟩) hs
abbrev rItem (K : PySem.W.Frag) : R2 := fun x y H Q => rIx K x y H Q ∨ rDG x y H Q
theorem g_item {K : PySem.W.Frag} : OpG K (rItem K) W.item := by
  intro F H w1 w2 w v1 v2 Q s r1 r2 e k
  cases w1 <;> first | (cases e; done) | skip
  · cases w2 <;> first | (cases e; done) | skip
    rename_i x i
    obtain ⟨hz, e⟩ : x.length ≤ sizeLine ∧ (atI x.cps.toList i).map (fun k => W.str ⟨#[k]⟩) = some w := by
      have e : (if x.length ≤ sizeLine then (atI x.cps.toList i).map fun k => W.str ⟨#[k]⟩ else none) = some w := e
      by_cases h : x.length ≤ sizeLine
      · rw [if_pos h] at e; exact ⟨h, e⟩
      · rw [if_neg h] at e; cases e
    obtain ⟨z, e1, rfl⟩ := Option.map_eq_some_iff.mp e
    exact .inl (.inr (.inr ⟨_, _, z, r1, r2, hz, e1, k _ F H (Ext.refl s) rfl⟩))
  · cases w2 <;> first | (cases e; done) | skip
    obtain ⟨p, vs, rfl, hp, rs⟩ := r1.tup_of s
    obtain ⟨v, e1, rv⟩ := rs.atI e
    exact .inl (.inr (.inl ⟨p, vs, _, v, rfl, r2, hp, e1, k _ F H (Ext.refl s) rv⟩))
  · cases w2 <;> first | (cases e; done) | skip
    obtain ⟨p, vs, rfl, hp, rs⟩ := r1.ktup_of s
    obtain ⟨v, e1, rv⟩ := rs.atI e
    exact .inl (.inr (.inl ⟨p, vs, _, v, rfl, r2, hp, e1, k _ F H (Ext.refl s) rv⟩))
  · cases w2 <;> first | (cases e; done) | skip
    obtain ⟨p, vs, rfl, hp, rs⟩ := r1.lst_of s
    obtain ⟨v, e1, rv⟩ := rs.atI e
    exact .inl (.inl ⟨p, vs, _, v, rfl, r2, SqL.of hp, e1, k _ F H (Ext.refl s) rv⟩)
  · obtain ⟨o, e1, e2⟩ := Option.bind_eq_some_iff.mp (show (W.look _ _ _).bind id = some w from e)
    have e2 : o = some w := e2
    subst e2
    obtain ⟨a, o', rfl, g, ro⟩ := r1.look s r2 e1
    obtain ⟨v, rfl, rv⟩ := ro.some
    exact .inr ⟨a, v, rfl, g, k _ F H (Ext.refl s) rv⟩
theorem je_item {a b : Expr} {ma mb : M3 W} (hK : c.K = X.K) (hu : X.A.units + 1 < cLine) (hs : PlainIx b) (ha : JE X c a ma) (hb : JE X c b mb) : JE X c (.Subscript a b pos) (mBin W.item ma mb) :=
  PE.wk (pe_ix (ix_seq.or (ix_dict hu)) ha hb hs) fun _ _ _ q => tOpG (r := rItem X.K) (by rw [← hK]; exact g_item) q
/-! ### slices -/
def asI : W → Option Int
  | .int i => some i
  | _ => none
def W.slice (w : W) (lo hi : Option Int) : Option W := match w with
  | .lst xs => some (.lst (cutW xs lo hi))
  | .tup xs => some (.tup (cutW xs lo hi))
  | .str x => some (.str ⟨(cutW x.cps.toList lo hi).toArray⟩)
  | _ => none
end
end L3

set_option Elab.async false
set_option linter.all false
set_option maxRecDepth 100000
namespace L3
open PySem PySem.Spec PyProof.Rows L2
/-! ### frames, whatever the order of one's own addresses -/
section
variable {K : PySem.W.Frag} {F F' F1 H H' H1 : Hp} {L L' L1 La Lr Lb Lc : List Addr}
theorem Fr.perm (f : Fr F H L) (p : L.Perm L') : Fr F H L' := ⟨f.sub, p.nodup_iff.mp f.nd, fun a ha => f.out a (p.mem_iff.mpr ha)⟩
theorem Stp.permL (s : Stp F H L F' H' L1) (p : L.Perm L') : Stp F H L' F' H' L1 :=
  ⟨s.fsub, fun a o e n => s.keep a o e fun z => n (p.mem_iff.mp z), fun a o e => (s.fnew a o e).imp id (Or.imp (fun z => p.mem_iff.mp z) id), fun a h => (s.lnew a h).imp (fun z => p.mem_iff.mp z) id⟩
theorem Stp.permR (s : Stp F H L F' H' L1) (p : L1.Perm L') : Stp F H L F' H' L' := ⟨s.fsub, s.keep, s.fnew, fun a h => s.lnew a (p.mem_iff.mpr h)⟩
theorem Mine.perm (m : Mine H L) (p : L.Perm L') : Mine H L' := fun a ha => m a (p.mem_iff.mpr ha)
/-- a part of one's own is handed out and comes back; the rest stands -/
theorem Fr.part (f : Fr F H (La ++ Lr)) (m : Mine H Lr) (f' : Fr F' H' L') (s : Stp F H La F' H' L') : Fr F' H' (L' ++ Lr) ∧ Stp F H (La ++ Lr) F' H' (L' ++ Lr) ∧ ∀ a ∈ Lr, ∀ u, H a = some u → H' a = some u := by
  have nd := List.nodup_append.mp f.nd
  have dis : ∀ a ∈ Lr, a ∉ La := fun a ha hb => nd.2.2 a hb a ha rfl
  have kept : ∀ a ∈ Lr, ∀ u, H a = some u → H' a = some u := fun a ha u e => s.keep a u e (dis a ha)
  refine ⟨⟨f'.sub, List.nodup_append.mpr ⟨f'.nd, nd.2.1, fun a ha b hb e => ?_⟩, fun a ha => ?_⟩, ⟨s.fsub, fun a o e n => s.keep a o e fun z => n (List.mem_append_left _ z), fun a o e => (s.fnew a o e).imp id (Or.imp (fun z => List.mem_append_left _ z) id), fun a ha => ?_⟩, kept⟩
  · subst e
    rcases s.lnew a ha with z | z
    · exact dis a hb z
    · obtain ⟨u, hu, _⟩ := m a hb
      rw [hu] at z; cases z
  · rcases List.mem_append.mp ha with ha | ha
    · exact f'.out a ha
    · cases e : F' a with
      | none => rfl
      | some o =>
        obtain ⟨u, hu, nt⟩ := m a ha
        rcases s.fnew a o e with z | z | z | ⟨xs, z⟩
        · rw [f.out a (List.mem_append_right _ ha)] at z; cases z
        · exact absurd z (dis a ha)
        · rw [hu] at z; cases z
        · have q := f'.sub a o e
          rw [kept a ha u hu] at q
          cases q
          exact absurd z (nt xs)
  · rcases List.mem_append.mp ha with ha | ha
    · exact (s.lnew a ha).imp (fun z => List.mem_append_left _ z) id
    · exact .inl (List.mem_append_right _ ha)
/-- the heap with the dicts of La locked -/
def Locked (La : List Addr) (H H2 : Hp) : Prop := ∀ a, (a ∈ La ∧ ∃ u, H a = some u ∧ Lk u (H2 a)) ∨ ((a ∉ La ∨ H a = none) ∧ H2 a = H a)
/-- the frozen heap with more of one's own in it -/
def frz (F H : Hp) (L : List Addr) : Hp := fun a => if a ∈ L then H a else F a
theorem frz_in {a : Addr} (h : a ∈ L) : frz F H L a = H a := if_pos h
theorem frz_out {a : Addr} (h : a ∉ L) : frz F H L a = F a := if_neg h
theorem Locked.out {H2 : Hp} (k : Locked La H H2) {a : Addr} (h : a ∉ La) : H2 a = H a := (k a).elim (fun z => absurd z.1 h) fun z => z.2
theorem Locked.at {H2 : Hp} (k : Locked La H H2) {a : Addr} (h : a ∈ La) {u : HO} (e : H a = some u) : Lk u (H2 a) := by
  rcases k a with ⟨_, u', e', l⟩ | ⟨h' | h', _⟩
  · rw [e] at e'; cases e'; exact l
  · exact absurd h h'
  · rw [e] at h'; cases h'
theorem Fr.freeze {H2 : Hp} (f : Fr F H (La ++ Lr)) (k : Locked La H H2) : Fr (frz F H2 La) H2 Lr ∧ Stp F H (La ++ Lr) (frz F H2 La) H2 Lr := by
  have nd := List.nodup_append.mp f.nd
  refine ⟨⟨fun a o e => ?_, nd.2.1, fun a ha => ?_⟩, ⟨fun a o e => ?_, fun a o e n => ?_, fun a o e => ?_, fun a ha => .inl (List.mem_append_right _ ha)⟩⟩
  · by_cases h : a ∈ La
    · rw [frz_in h] at e; exact e
    · rw [frz_out h] at e; rw [k.out h]; exact f.sub a o e
  · rw [frz_out fun z => nd.2.2 a z a ha rfl]
    exact f.out a (List.mem_append_right _ ha)
  · have h : a ∉ La := fun z => by rw [f.out a (List.mem_append_left _ z)] at e; cases e
    rw [frz_out h]; exact e
  · rw [k.out fun z => n (List.mem_append_left _ z)]; exact e
  · by_cases h : a ∈ La
    · exact .inr (.inl (List.mem_append_left _ h))
    · rw [frz_out h] at e; exact .inl e
theorem RepO.frozen {H2 : Hp} (f : Fr F H (La ++ Lr)) (k : Locked La H H2) {o : O} {v : V} (r : RepO K F H o v La) : RepF K (frz F H2 La) o.val v :=
  r.freeze (f.freeze k).2.fsub o fun a ha u e => by rw [frz_in ha]; exact k.at ha e
/-- at a state the dicts of La may be locked -/
theorem lock_all {X : Cx} {pins : List (Addr × Obj)} {σ : L2.St} {s : Shared} : ∀ {La : List Addr} {H : Hp}, Inv X pins σ H s → La.Nodup → ∃ H2, Inv X pins σ H2 s ∧ Locked La H H2
  | [], H, I, _ => ⟨H, I, fun a => .inr ⟨.inl (fun z => nomatch z), rfl⟩⟩
  | b :: La, H, I, nd => by
    obtain ⟨nb, nd⟩ := List.nodup_cons.mp nd
    obtain ⟨H1, I1, k⟩ := lock_all I nd
    have hb : H1 b = H b := k.out nb
    cases e : H b with
    | none =>
      refine ⟨H1, I1, fun a => ?_⟩
      rcases k a with ⟨h, z⟩ | ⟨h, z⟩
      · exact .inl ⟨List.mem_cons_of_mem _ h, z⟩
      · by_cases q : a = b
        · subst q; exact .inr ⟨.inr e, z⟩
        · exact .inr ⟨h.imp (fun z y => (List.mem_cons.mp y).elim q z) id, z⟩
    | some u =>
      have other : ∀ H2 : Hp, (∀ a, a ≠ b → H2 a = H1 a) → Lk u (H2 b) → Locked (b :: La) H H2 := fun H2 ho hl a => by
        by_cases q : a = b
        · subst q; exact .inl ⟨List.mem_cons_self, u, e, hl⟩
        · rcases k a with ⟨h, z⟩ | ⟨h, z⟩
          · exact .inl ⟨List.mem_cons_of_mem _ h, by rw [ho a q]; exact z⟩
          · exact .inr ⟨h.imp (fun z y => (List.mem_cons.mp y).elim q z) id, by rw [ho a q]; exact z⟩
      by_cases d : isD u = true
      · have mu : Mut (some u) := by cases u <;> first | trivial | cases d
        obtain ⟨od, I2⟩ := I1.lock (hb.trans e) mu
        exact ⟨_, I2, other _ (fun a q => upd_ne q) (by unfold Lk; rw [if_pos d]; exact ⟨od, upd_same⟩)⟩
      · exact ⟨H1, I1, other H1 (fun _ _ => rfl) (by unfold Lk; rw [if_neg d]; exact hb.trans e)⟩
theorem PE.lock {X : Cx} {e : Expr} {t : TE} (h : PE X e t) : PE X e (fun σ H Q => t σ H fun v H1 => ∃ La : List Addr, La.Nodup ∧ ∀ H2, Locked La H1 H2 → Q v H2) := by
  refine ⟨fun pins s σ H Q I q => thn (h.run pins s σ H _ I q) fun u s1 ⟨v, H1, I1, r1, La, nd, k⟩ => ?_⟩
  obtain ⟨H2, I2, l⟩ := lock_all I1 nd
  exact ⟨v, H2, I2, r1, k H2 l⟩
theorem PSs.lock {X : Cx} {st : List Stmt} {t : TS} (h : PSs X st t) : PSs X st (fun D σ H => ∃ La : List Addr, La.Nodup ∧ ∀ H2, Locked La H H2 → t D σ H2) := by
  refine ⟨fun pins s σ H D I ⟨La, nd, k⟩ => ?_⟩
  obtain ⟨H2, I2, l⟩ := lock_all I nd
  exact h.run pins s σ H2 D I2 (k H2 l)
/-! ### slots taken out and put back -/
def slO : Sl → Option O
  | .own o => some o
  | .par o => some o
  | _ => none
def Sl.put : Sl → O → Sl
  | .par _, o => .par o
  | _, o => .own o
def Sl.isPar : Sl → Prop
  | .par _ => True
  | _ => False
theorem perm3 {A B C : List Addr} : (A ++ (B ++ C)).Perm (B ++ (A ++ C)) := by
  rw [← List.append_assoc, ← List.append_assoc]
  exact List.perm_append_comm.append_right _
theorem head_tail {Pv : List V} {i : Nat} : Pv.tail[i]? = Pv[i + 1]? := by cases Pv <;> rfl
theorem RepE.take : ∀ {Pv : List V} {ε : En} {σ : L2.St} {L : List Addr} {i : Nat} {sl : Sl} {o : O}, RepE K F H Pv ε σ L → ε[i]? = some sl → slO sl = some o →
    ∃ v La Lr, σ[i]? = some (some v) ∧ L.Perm (La ++ Lr) ∧ RepO K F H o v La ∧ RepE K F H Pv (ε.set i .no) σ Lr ∧ (sl.isPar → Pv[i]? = some v)
  | _, [], _, _, i, _, _, _, e, _ => by simp at e
  | Pv, .no :: ε, _, L, 0, sl, o, h, e, eo => by simp at e; subst e; cases eo
  | Pv, .fz _ :: ε, _, L, 0, sl, o, h, e, eo => by simp at e; subst e; cases eo
  | Pv, .own ob :: ε, _, L, 0, sl, o, ⟨v, r, L1, L2, e1, eL, q, t⟩, e, eo => by
    simp at e
    subst e e1 eL
    cases eo
    exact ⟨v, L1, L2, rfl, List.Perm.refl _, q, ⟨_, _, rfl, t⟩, fun z => z.elim⟩
  | Pv, .par ob :: ε, _, L, 0, sl, o, ⟨v, r, L1, L2, e1, ep, eL, q, t⟩, e, eo => by
    simp at e
    subst e e1 eL
    cases eo
    exact ⟨v, L1, L2, rfl, List.Perm.refl _, q, ⟨_, _, rfl, t⟩, fun _ => by rw [← List.head?_eq_getElem?]; exact ep⟩
  | Pv, .no :: ε, _, L, i + 1, sl, o, ⟨x, r, e1, t⟩, e, eo => by
    subst e1
    obtain ⟨v, La, Lr, a1, a2, a3, a4, a5⟩ := RepE.take t (by simpa using e) eo
    exact ⟨v, La, Lr, by simpa using a1, a2, a3, ⟨_, _, rfl, a4⟩, fun z => by rw [← head_tail]; exact a5 z⟩
  | Pv, .fz _ :: ε, _, L, i + 1, sl, o, ⟨x, r, e1, z0, t⟩, e, eo => by
    subst e1
    obtain ⟨v, La, Lr, a1, a2, a3, a4, a5⟩ := RepE.take t (by simpa using e) eo
    exact ⟨v, La, Lr, by simpa using a1, a2, a3, ⟨_, _, rfl, z0, a4⟩, fun z => by rw [← head_tail]; exact a5 z⟩
  | Pv, .own _ :: ε, _, L, i + 1, sl, o, ⟨x, r, N1, N2, e1, eN, z0, t⟩, e, eo => by
    subst e1 eN
    obtain ⟨v, La, Lr, a1, a2, a3, a4, a5⟩ := RepE.take t (by simpa using e) eo
    exact ⟨v, La, N1 ++ Lr, by simpa using a1, (a2.append_left N1).trans perm3, a3, ⟨_, _, N1, Lr, rfl, rfl, z0, a4⟩, fun z => by rw [← head_tail]; exact a5 z⟩
  | Pv, .par _ :: ε, _, L, i + 1, sl, o, ⟨x, r, N1, N2, e1, ep, eN, z0, t⟩, e, eo => by
    subst e1 eN
    obtain ⟨v, La, Lr, a1, a2, a3, a4, a5⟩ := RepE.take t (by simpa using e) eo
    exact ⟨v, La, N1 ++ Lr, by simpa using a1, (a2.append_left N1).trans perm3, a3, ⟨_, _, N1, Lr, rfl, ep, rfl, z0, a4⟩, fun z => by rw [← head_tail]; exact a5 z⟩
theorem RepE.put : ∀ {Pv : List V} {ε : En} {σ : L2.St} {Lc : List Addr} {i : Nat} {sl' : Sl} {o : O} {v : V}, RepE K F H Pv ε σ Lc → ε[i]? = some .no → σ[i]? = some (some v) → RepO K F H o v Lb → slO sl' = some o → (sl'.isPar → Pv[i]? = some v) →
    ∃ L', L'.Perm (Lb ++ Lc) ∧ RepE K F H Pv (ε.set i sl') σ L'
  | _, [], _, _, i, _, _, _, _, e, _, _, _, _ => by simp at e
  | Pv, .fz _ :: ε, _, _, 0, sl', o, v, h, e, es, ro, eo, ep => by simp at e
  | Pv, .own _ :: ε, _, _, 0, sl', o, v, h, e, es, ro, eo, ep => by simp at e
  | Pv, .par _ :: ε, _, _, 0, sl', o, v, h, e, es, ro, eo, ep => by simp at e
  | Pv, .no :: ε, _, _, 0, sl', o, v, ⟨x, r, e1, t⟩, e, es, ro, eo, ep => by
    subst e1
    simp at es
    subst es
    cases sl' with
    | no => cases eo
    | fz w => cases eo
    | own w => cases eo; exact ⟨_, List.Perm.refl _, v, r, _, _, rfl, rfl, ro, t⟩
    | par w => cases eo; exact ⟨_, List.Perm.refl _, v, r, _, _, rfl, by rw [List.head?_eq_getElem?]; exact ep trivial, rfl, ro, t⟩
  | Pv, .no :: ε, _, _, i + 1, sl', o, v, ⟨x, r, e1, t⟩, e, es, ro, eo, ep => by
    subst e1
    obtain ⟨L', p, q⟩ := RepE.put t (by simpa using e) (by simpa using es) ro eo (fun z => by rw [head_tail]; exact ep z)
    exact ⟨L', p, _, _, rfl, q⟩
  | Pv, .fz _ :: ε, _, _, i + 1, sl', o, v, ⟨x, r, e1, z, t⟩, e, es, ro, eo, ep => by
    subst e1
    obtain ⟨L', p, q⟩ := RepE.put t (by simpa using e) (by simpa using es) ro eo (fun z => by rw [head_tail]; exact ep z)
    exact ⟨L', p, _, _, rfl, z, q⟩
  | Pv, .own _ :: ε, _, _, i + 1, sl', o, v, ⟨x, r, M1, M2, e1, eM, z, t⟩, e, es, ro, eo, ep => by
    subst e1 eM
    obtain ⟨L', p, q⟩ := RepE.put t (by simpa using e) (by simpa using es) ro eo (fun z => by rw [head_tail]; exact ep z)
    exact ⟨M1 ++ L', (p.append_left M1).trans perm3, _, _, M1, L', rfl, rfl, z, q⟩
  | Pv, .par _ :: ε, _, _, i + 1, sl', o, v, ⟨x, r, M1, M2, e1, ep0, eM, z, t⟩, e, es, ro, eo, ep => by
    subst e1 eM
    obtain ⟨L', p, q⟩ := RepE.put t (by simpa using e) (by simpa using es) ro eo (fun z => by rw [head_tail]; exact ep z)
    exact ⟨M1 ++ L', (p.append_left M1).trans perm3, _, _, M1, L', rfl, ep0, rfl, z, q⟩
theorem Fr.drop {Ld : List Addr} (f : Fr F H (Ld ++ L)) : Fr F H L := ⟨f.sub, (List.nodup_append.mp f.nd).2.1, fun a ha => f.out a (List.mem_append_right _ ha)⟩
theorem Stp.drop {Ld : List Addr} (s : Stp F H L F' H' (Ld ++ L')) : Stp F H L F' H' L' := ⟨s.fsub, s.keep, s.fnew, fun a ha => s.lnew a (List.mem_append_right _ ha)⟩
end
/-! ### arguments: frozen, or one's own handed out -/
def mkSl : Bool → O → Sl
  | true, o => .par o
  | false, o => .own o
def takeSl : Bool → Sl → Option O
  | true, .par o => some o
  | false, .own o => some o
  | _, _ => none
theorem takeSl_mk {p : Bool} {sl : Sl} {o : O} (h : takeSl p sl = some o) : sl = mkSl p o := by
  cases p <;> cases sl <;> first | (cases h; rfl; done) | (cases h; done)
theorem slO_mk {p : Bool} {o : O} : slO (mkSl p o) = some o := by cases p <;> rfl
inductive AV where
  | fz (w : W) | io (i : Nat) (p : Bool)
def takeArgs : List AV → En → Option (List O × En)
  | [], ε => some ([], ε)
  | .fz w :: r, ε => (takeArgs r ε).map fun q => (.fz w :: q.1, q.2)
  | .io i p :: r, ε => (ε[i]?).bind fun sl => (takeSl p sl).bind fun o => (takeArgs r (ε.set i .no)).map fun q => (o :: q.1, q.2)
def putArgs : List AV → List O → En → En
  | .fz _ :: r, _ :: os, ε => putArgs r os ε
  | .io i p :: r, o :: os, ε => (putArgs r os ε).set i (mkSl p o)
  | _, _, ε => ε
def AVs (K : PySem.W.Frag) (F : Hp) (σ : L2.St) : List AV → List V → Prop
  | [], vs => vs = []
  | .fz w :: r, vs => ∃ v us, vs = v :: us ∧ RepF K F w v ∧ AVs K F σ r us
  | .io i _ :: r, vs => ∃ v us, vs = v :: us ∧ σ[i]? = some (some v) ∧ AVs K F σ r us
section
variable {K : PySem.W.Frag} {F F' H H' : Hp}
theorem AVs.mono (s : Sub F F') {σ : L2.St} : ∀ {as : List AV} {vs : List V}, AVs K F σ as vs → AVs K F' σ as vs
  | [], _, h => h
  | .fz w :: r, _, ⟨v, us, e, q, t⟩ => ⟨v, us, e, q.mono s, AVs.mono s t⟩
  | .io i p :: r, _, ⟨v, us, e, q, t⟩ => ⟨v, us, e, q, AVs.mono s t⟩
theorem put_no : ∀ {as : List AV} {os os' : List O} {ε ε0 : En} {i : Nat}, takeArgs as ε = some (os, ε0) → ε[i]? = some .no → ε0[i]? = some .no ∧ (putArgs as os' ε0)[i]? = some .no
  | [], _, _, _, _, _, h, e => by
    cases h
    exact ⟨e, e⟩
  | .fz w :: r, _, os', ε, ε0, i, h, e => by
    obtain ⟨q, h1, h2⟩ := Option.map_eq_some_iff.mp (show (takeArgs r ε).map (fun q => (O.fz w :: q.1, q.2)) = _ from h)
    cases h2
    cases os' with
    | nil => exact ⟨(put_no (os' := []) h1 e).1, (put_no (os' := []) h1 e).1⟩
    | cons o os' => exact put_no (os' := os') h1 e
  | .io j p :: r, _, os', ε, ε0, i, h, e => by
    obtain ⟨sl, h1, h2⟩ := Option.bind_eq_some_iff.mp (show (ε[j]?).bind (fun sl => (takeSl p sl).bind fun o => (takeArgs r (ε.set j .no)).map fun q => (o :: q.1, q.2)) = _ from h)
    obtain ⟨o, h3, h4⟩ := Option.bind_eq_some_iff.mp h2
    obtain ⟨q, h5, h6⟩ := Option.map_eq_some_iff.mp h4
    cases h6
    have hj : j ≠ i := fun z => by
      subst z
      rw [e] at h1
      cases h1
      cases p <;> cases h3
    have e' : (ε.set j .no)[i]? = some .no := by rw [List.getElem?_set_ne hj]; exact e
    cases os' with
    | nil => exact ⟨(put_no (os' := []) h5 e').1, (put_no (os' := []) h5 e').1⟩
    | cons o' os' =>
      obtain ⟨a, b⟩ := put_no (os' := os') h5 e'
      refine ⟨a, ?_⟩
      show ((putArgs r os' q.2).set j (mkSl p o'))[i]? = _
      rw [List.getElem?_set_ne hj]
      exact b
theorem take_args {Pv : List V} {σ : L2.St} : ∀ {as : List AV} {vs : List V} {ε ε0 : En} {os : List O} {L : List Addr}, RepE K F H Pv ε σ L → AVs K F σ as vs → takeArgs as ε = some (os, ε0) →
    ∃ La Lr, L.Perm (La ++ Lr) ∧ RepOs K F H os vs La ∧ RepE K F H Pv ε0 σ Lr ∧
      ∀ {F' H' : Hp} {os' : List O} {La' Lr' : List Addr}, RepOs K F' H' os' vs La' → RepE K F' H' Pv ε0 σ Lr' → ∃ Ld L', (Ld ++ L').Perm (La' ++ Lr') ∧ RepE K F' H' Pv (putArgs as os' ε0) σ L'
  | [], _, ε, _, _, L, re, av, h => by
    cases h
    rw [show _ = ([] : List V) from av]
    refine ⟨[], L, List.Perm.refl _, ⟨rfl, rfl⟩, re, fun {F' H' os' La' Lr'} ro re' => ⟨La', Lr', List.Perm.refl _, ?_⟩⟩
    cases os' <;> exact re'
  | .fz w :: r, _, ε, ε0, _, L, re, ⟨v, us, e, q, t⟩, h => by
    subst e
    obtain ⟨z, h1, h2⟩ := Option.map_eq_some_iff.mp (show (takeArgs r ε).map (fun q => (O.fz w :: q.1, q.2)) = _ from h)
    cases h2
    obtain ⟨La, Lr, p, ro, re0, back⟩ := take_args re t h1
    refine ⟨La, Lr, p, ⟨v, us, [], La, rfl, rfl, ⟨rfl, q⟩, ro⟩, re0, fun {F' H' os' La' Lr'} ro' re' => ?_⟩
    cases os' with
    | nil => obtain ⟨e1, _⟩ := ro'; cases e1
    | cons o' os' =>
      obtain ⟨v1, r1, M1, M2, e1, eM, _, ro2⟩ := ro'
      cases e1
      subst eM
      obtain ⟨Ld, L', p', re2⟩ := back ro2 re'
      exact ⟨M1 ++ Ld, L', by rw [List.append_assoc, List.append_assoc]; exact p'.append_left M1, re2⟩
  | .io i p :: r, _, ε, ε0, _, L, re, ⟨v, us, e, q, t⟩, h => by
    subst e
    obtain ⟨sl, h1, h2⟩ := Option.bind_eq_some_iff.mp (show (ε[i]?).bind (fun sl => (takeSl p sl).bind fun o => (takeArgs r (ε.set i .no)).map fun q => (o :: q.1, q.2)) = _ from h)
    obtain ⟨o, h3, h4⟩ := Option.bind_eq_some_iff.mp h2
    obtain ⟨z, h5, h6⟩ := Option.map_eq_some_iff.mp h4
    cases h6
    have hs := takeSl_mk h3
    subst hs
    obtain ⟨v', L1, L2', es, p1, ro1, re1, hp⟩ := re.take h1 slO_mk
    rw [q] at es
    cases es
    obtain ⟨La, Lr, p2, ro2, re2, back⟩ := take_args re1 t h5
    refine ⟨L1 ++ La, Lr, ?_, ⟨v, us, L1, La, rfl, rfl, ro1, ro2⟩, re2, fun {F' H' os' La' Lr'} ro' re' => ?_⟩
    · rw [List.append_assoc]
      exact p1.trans (p2.append_left L1)
    · cases os' with
      | nil => obtain ⟨e1, _⟩ := ro'; cases e1
      | cons o' os' =>
        obtain ⟨v1, r1, M1, M2, e1, eM, ro3, ro4⟩ := ro'
        cases e1
        subst eM
        obtain ⟨Ld, L', p', re3⟩ := back ro4 re'
        have hi : i < ε.length := (List.getElem?_eq_some_iff.mp h1).1
        obtain ⟨_, n2⟩ := put_no (os' := os') h5 (show (ε.set i .no)[i]? = some .no by rw [List.getElem?_set_self hi])
        obtain ⟨L'', p3, re4⟩ := RepE.put (sl' := mkSl p o') re3 n2 q ro3 slO_mk fun z => hp (by cases p <;> first | exact z | trivial)
        refine ⟨Ld, L'', ?_, re4⟩
        rw [List.append_assoc]
        exact (p3.append_left Ld).trans (perm3.trans (p'.append_left M1))
end
/-! ### a def by its values -/
inductive FRes where
  | ok (r : O) (os : List O) | err (x : Exc) (os : List O) | stuck
abbrev Fn := List O → FRes
def spF (K : PySem.W.Frag) (f : Fn) : Sp := fun vs H Q E => ∃ F os L, Fr F H L ∧ RepOs K F H os vs L ∧ match f os with
  | .ok r os' => ∀ v H' F' Lr L', Fr F' H' (Lr ++ L') → RepO K F' H' r v Lr → RepOs K F' H' os' vs L' → Stp F H L F' H' (Lr ++ L') → Q v H'
  | .err x os' => ∀ cls d H' F' L', Fr F' H' L' → RepOs K F' H' os' vs L' → RepX K F' H' x cls d → Stp F H L F' H' L' → E cls d H'
  | .stuck => False
/-- a call, by the values of the arguments -/
def callM (f : Fn) (as : List AV) : M3 O := fun ε => match takeArgs as ε with
  | some (os, ε0) => (match f os with
    | .ok r os' => .ok r (putArgs as os' ε0)
    | .err x os' => .err x (putArgs as os' ε0)
    | .stuck => .stuck)
  | none => .stuck
section
variable {c : C3} {F H : Hp} {L : List Addr} {σ : L2.St} {ε : En}
theorem call_sp {f : Fn} {as : List AV} {vs : List V} {Q : VK} (fr : Fr F H L) (re : RepE c.K F H c.Pv ε σ L) (av : AVs c.K F σ as vs) (run : Run c (rO c) (callM f as ε) F H L σ Q) :
    spF c.K f vs H Q (fun cls d H' => c.wx cls d σ H') := by
  unfold callM at run
  cases e : takeArgs as ε with
  | none => rw [e] at run; exact run.elim
  | some q =>
    obtain ⟨os, ε0⟩ := q
    rw [e] at run
    obtain ⟨La, Lr, p, ro, re0, back⟩ := take_args re av e
    have fr2 : Fr F H (La ++ Lr) := fr.perm p
    refine ⟨F, os, La, ⟨fr2.sub, (List.nodup_append.mp fr2.nd).1, fun a ha => fr2.out a (List.mem_append_left _ ha)⟩, ro, ?_⟩
    dsimp only at run
    cases h : f os with
    | stuck => rw [h] at run; exact run.elim
    | ok r os' =>
      rw [h] at run
      intro v H' F' Lv L' fr' rr ros st
      obtain ⟨f1, s1, kept⟩ := fr2.part re0.mine fr' st
      obtain ⟨Ld, L'', p', re'⟩ := back ros (re0.mono st.fsub kept)
      have pp : (Lv ++ L' ++ Lr).Perm (Ld ++ (Lv ++ L'')) := by
        rw [List.append_assoc]
        exact (p'.symm.append_left Lv).trans perm3
      exact run v H' F' Lv L'' (f1.perm pp).drop re' rr ((s1.permL p.symm).permR pp).drop
    | err x os' =>
      rw [h] at run
      intro cls d H' F' L' fr' ros rx st
      obtain ⟨f1, s1, kept⟩ := fr2.part re0.mine fr' st
      obtain ⟨Ld, L'', p', re'⟩ := back ros (re0.mono st.fsub kept)
      exact run cls d H' F' L'' (f1.perm p'.symm).drop re' rx ((s1.permL p.symm).permR p'.symm).drop
/-- what is one's own is frozen at once -/
theorem run_frz {m : Res O} {Q : VK} (run : Run c (rW c) (m.bind fun o ε => .ok o.val ε) F H L σ Q) : Run c (rO c) m F H L σ (fun v H1 => ∃ La : List Addr, La.Nodup ∧ ∀ H2, Locked La H1 H2 → Q v H2) := by
  cases m with
  | stuck => exact run
  | err x ε => exact run
  | ok o ε' =>
    intro v H' F' La L' fr re ro st
    refine ⟨La, (List.nodup_append.mp fr.nd).1, fun H2 k => ?_⟩
    obtain ⟨f2, s2⟩ := fr.freeze k
    refine run v H2 (frz F' H2 La) [] L' f2 ?_ ⟨rfl, ro.frozen fr k⟩ (st.trans s2)
    refine re.mono s2.fsub fun a ha u e => ?_
    rw [k.out fun z => (List.nodup_append.mp fr.nd).2.2 a z a ha rfl]
    exact e
end
end L3

set_option Elab.async false
set_option linter.all false
set_option maxRecDepth 100000
namespace L3
open PySem PySem.Spec PyProof.Rows L2
inductive Out where
  | next (ε : En) | ret (o : O) (ε : En) | brk (ε : En) | cnt (ε : En) | err (x : Exc) (ε : En) | stuck
abbrev MS := En → Out
def RunS (c : C3) (m : Out) (F H : Hp) (L : List Addr) (D : Ends) : Prop :=
  match m with
  | .next ε => ∀ σ' H' F' L', Fr F' H' L' → RepE c.K F' H' c.Pv ε σ' L' → Stp F H L F' H' L' → D.nx σ' H'
  | .brk ε => ∀ σ' H' F' L', Fr F' H' L' → RepE c.K F' H' c.Pv ε σ' L' → Stp F H L F' H' L' → D.bk σ' H'
  | .cnt ε => ∀ σ' H' F' L', Fr F' H' L' → RepE c.K F' H' c.Pv ε σ' L' → Stp F H L F' H' L' → D.ct σ' H'
  | .ret o ε => ∀ v σ' H' F' La L', Fr F' H' (La ++ L') → RepE c.K F' H' c.Pv ε σ' L' → RepO c.K F' H' o v La → Stp F H L F' H' (La ++ L') → D.rt v H'
  | .err x ε => ∀ cls d σ' H' F' L', Fr F' H' L' → RepE c.K F' H' c.Pv ε σ' L' → RepX c.K F' H' x cls d → Stp F H L F' H' L' → c.wx cls d σ' H'
  | .stuck => False
def tS (c : C3) (m : MS) : TS := fun D σ H => ∃ F ε L, Fr F H L ∧ RepE c.K F H c.Pv ε σ L ∧ RunS c (m ε) F H L D
abbrev JS (X : Cx) (c : C3) (st : Stmt) (m : MS) : Prop := PS X st (tS c m)
abbrev JSs (X : Cx) (c : C3) (st : List Stmt) (m : MS) : Prop := PSs X st (tS c m)
theorem PS.wk {X : Cx} {st : Stmt} {t t' : TS} (h : PS X st t) (w : ∀ D σ H, t' D σ H → t D σ H) : PS X st t' := ⟨fun p s σ H D I q => h.run p s σ H D I (w D σ H q)⟩
theorem PSs.wk {X : Cx} {st : List Stmt} {t t' : TS} (h : PSs X st t) (w : ∀ D σ H, t' D σ H → t D σ H) : PSs X st t' := ⟨fun p s σ H D I q => h.run p s σ H D I (w D σ H q)⟩
section
variable {X : Cx} {c : C3} {F F1 H H1 : Hp} {L L1 : List Addr} {σ : L2.St} {pos : Pos}
theorem RunS.shift {m : Out} {D : Ends} (s : Stp F H L F1 H1 L1) (h : RunS c m F H L D) : RunS c m F1 H1 L1 D := by
  cases m with
  | next ε => exact fun σ' H' F' L' fr re st => h σ' H' F' L' fr re (s.trans st)
  | brk ε => exact fun σ' H' F' L' fr re st => h σ' H' F' L' fr re (s.trans st)
  | cnt ε => exact fun σ' H' F' L' fr re st => h σ' H' F' L' fr re (s.trans st)
  | ret o ε => exact fun v σ' H' F' La L' fr re ro st => h v σ' H' F' La L' fr re ro (s.trans st)
  | err x ε => exact fun cls d σ' H' F' L' fr re rx st => h cls d σ' H' F' L' fr re rx (s.trans st)
  | stuck => exact h
/-! ### sequences -/
def Out.bind : Out → MS → Out
  | .next ε, f => f ε
  | o, _ => o
def sSeq (a b : MS) : MS := fun ε => (a ε).bind b
theorem js_nil : JSs X c [] .next := PSs.wk pss_nil fun D σ H ⟨F, ε, L, fr, re, run⟩ => run σ H F L fr re Stp.refl
theorem RunS.seq {m : Out} {f : MS} {D : Ends} (h : RunS c (m.bind f) F H L D) : RunS c m F H L { D with nx := tS c f D } := by
  cases m with
  | next ε => exact fun σ' H' F' L' fr re st => ⟨F', ε, L', fr, re, RunS.shift st h⟩
  | _ => exact h
theorem js_cons {st : Stmt} {rest : List Stmt} {a b : MS} (h1 : JS X c st a) (h2 : JSs X c rest b) : JSs X c (st :: rest) (sSeq a b) :=
  PSs.wk (pss_cons h1 h2) fun D σ H ⟨F, ε, L, fr, re, run⟩ => ⟨F, ε, L, fr, re, RunS.seq run⟩
theorem js_one {st : Stmt} {a : MS} (h1 : JS X c st a) : JSs X c [st] a := pss_one h1
/-- an expression, then a statement's rest -/
def Res.out {α : Type} : Res α → (α → MS) → Out
  | .ok a ε, f => f a ε
  | .err x ε, _ => .err x ε
  | .stuck, _ => .stuck
theorem RunS.expr {α β : Type} {rel : Rl α β} {m : Res α} {f : α → MS} {D : Ends} (hr : ∀ σ F H a b La, rel σ F H a b La → La = []) (h : RunS c (m.out f) F H L D) :
    Run c rel m F H L σ (fun b H1 => ∃ F1 ε1 L1 a, Fr F1 H1 L1 ∧ RepE c.K F1 H1 c.Pv ε1 σ L1 ∧ rel σ F1 H1 a b [] ∧ Stp F H L F1 H1 L1 ∧ RunS c (f a ε1) F1 H1 L1 D) := by
  cases m with
  | ok a ε =>
    intro b H' F' La L' fr re r st
    have e := hr _ _ _ _ _ _ r
    subst e
    rw [List.nil_append] at fr st
    exact ⟨F', ε, L', a, fr, re, r, st, RunS.shift st h⟩
  | err x ε => exact fun cls d H' F' L' fr re rx st => h cls d σ H' F' L' fr re rx st
  | stuck => exact h
/-- one's own -/
theorem RunS.exprO {m : Res O} {f : O → MS} {D : Ends} (h : RunS c (m.out f) F H L D) :
    Run c (rO c) m F H L σ (fun b H1 => ∃ F1 ε1 La L1 o, Fr F1 H1 (La ++ L1) ∧ RepE c.K F1 H1 c.Pv ε1 σ L1 ∧ RepO c.K F1 H1 o b La ∧ Stp F H L F1 H1 (La ++ L1) ∧ RunS c (f o ε1) F1 H1 (La ++ L1) D) := by
  cases m with
  | ok a ε => exact fun b H' F' La L' fr re r st => ⟨F', ε, La, L', a, fr, re, r, st, RunS.shift st h⟩
  | err x ε => exact fun cls d H' F' L' fr re rx st => h cls d σ H' F' L' fr re rx st
  | stuck => exact h
/-! ### if, return, expression -/
def sIf (t : M3 Bool) (a b : MS) : MS := fun ε => (t ε).out fun x => match x with | true => a | false => b
theorem js_if {t : Expr} {a b : List Stmt} {mt : M3 Bool} {ma mb : MS} (ht : JT X c t mt) (ha : JSs X c a ma) (hb : JSs X c b mb) : JS X c (.If t a b pos) (sIf mt ma mb) := by
  refine PS.wk (ps_if ht ha hb) fun D σ H ⟨F, ε, L, fr, re, run⟩ => ?_
  refine ⟨F, ε, L, fr, re, (RunS.expr (rel := rB) (fun _ _ _ _ _ _ => rB0) run).mono ?_⟩
  rintro b1 H1 ⟨F1, ε1, L1, a1, fr1, re1, ⟨_, rfl⟩, st1, run1⟩
  cases a1 with
  | true => exact ⟨F1, ε1, L1, fr1, re1, run1⟩
  | false => exact ⟨F1, ε1, L1, fr1, re1, run1⟩
def sRet (m : M3 W) : MS := fun ε => (m ε).out fun w ε' => .ret (.fz w) ε'
theorem js_ret {e : Expr} {m : M3 W} (h : JE X c e m) : JS X c (.Return (some e) pos) (sRet m) := by
  refine PS.wk (ps_ret h) fun D σ H ⟨F, ε, L, fr, re, run⟩ => ?_
  refine ⟨F, ε, L, fr, re, (RunS.expr (rel := rW c) (fun _ _ _ _ _ _ => rW0) run).mono ?_⟩
  rintro v H1 ⟨F1, ε1, L1, w, fr1, re1, ⟨_, r1⟩, st1, run1⟩
  exact run1 v σ H1 F1 [] L1 fr1 re1 ⟨rfl, r1⟩ Stp.refl
def sRetO (m : M3 O) : MS := fun ε => (m ε).out fun o ε' => .ret o ε'
theorem js_retO {e : Expr} {m : M3 O} (h : JO X c e m) : JS X c (.Return (some e) pos) (sRetO m) := by
  refine PS.wk (ps_ret h) fun D σ H ⟨F, ε, L, fr, re, run⟩ => ?_
  refine ⟨F, ε, L, fr, re, (RunS.exprO run).mono ?_⟩
  rintro v H1 ⟨F1, ε1, La, L1, o, fr1, re1, r1, st1, run1⟩
  exact run1 v σ H1 F1 La L1 fr1 re1 r1 Stp.refl
def sRetN : MS := fun ε => .ret (.fz .non) ε
theorem js_retN : JS X c (.Return none pos) sRetN := PS.wk ps_retN fun D σ H ⟨F, ε, L, fr, re, run⟩ => run .non σ H F [] L fr re ⟨rfl, rfl⟩ Stp.refl
def sExpr {α : Type} (m : M3 α) : MS := fun ε => (m ε).out fun _ ε' => .next ε'
theorem js_expr {e : Expr} {m : M3 W} (h : JE X c e m) (hs : swapsWith e none pos.line X.env = pure false) : JS X c (.Expr e pos) (sExpr m) := by
  refine PS.wk (ps_expr h hs) fun D σ H ⟨F, ε, L, fr, re, run⟩ => ?_
  refine ⟨F, ε, L, fr, re, (RunS.expr (rel := rW c) (fun _ _ _ _ _ _ => rW0) run).mono ?_⟩
  rintro v H1 ⟨F1, ε1, L1, w, fr1, re1, ⟨_, r1⟩, st1, run1⟩
  exact run1 σ H1 F1 L1 fr1 re1 Stp.refl
theorem js_pass : JS X c (.Pass pos) .next := PS.wk ps_pass fun D σ H ⟨F, ε, L, fr, re, run⟩ => run σ H F L fr re Stp.refl
theorem js_break : JS X c (.Break pos) .brk := PS.wk ps_break fun D σ H ⟨F, ε, L, fr, re, run⟩ => run σ H F L fr re Stp.refl
theorem js_cont : JS X c (.Continue pos) .cnt := PS.wk ps_continue fun D σ H ⟨F, ε, L, fr, re, run⟩ => run σ H F L fr re Stp.refl
theorem js_never {st : Stmt} : JS X c st (fun _ => .stuck) := PS.wk ps_never fun D σ H ⟨F, ε, L, fr, re, run⟩ => run
/-! ### stores -/
/-- a slot is written; what it held goes -/
def setSl (i : Nat) (s : Sl) (ε : En) : Option En := match ε[i]? with
  | some (.par _) => none
  | some _ => some (ε.set i s)
  | none => none
theorem RepE.setFz {K : PySem.W.Frag} {i : Nat} {w : W} {v : V} : ∀ {Pv : List V} {ε ε' : En} {σ : L2.St} {L : List Addr}, RepE K F H Pv ε σ L → setSl i (.fz w) ε = some ε' → RepF K F w v →
    ∃ Ld L', L.Perm (Ld ++ L') ∧ RepE K F H Pv ε' (σ.set i (some v)) L' := by
  induction i with
  | zero =>
    intro Pv ε ε' σ L re e rf
    cases ε with
    | nil => cases e
    | cons s ε =>
      cases s with
      | no => cases e; obtain ⟨x, r, rfl, t⟩ := re; exact ⟨[], L, List.Perm.refl _, v, r, rfl, rf, t⟩
      | fz z => cases e; obtain ⟨x, r, rfl, _, t⟩ := re; exact ⟨[], L, List.Perm.refl _, v, r, rfl, rf, t⟩
      | own z => cases e; obtain ⟨x, r, L1, L2, rfl, rfl, _, t⟩ := re; exact ⟨L1, L2, List.Perm.refl _, v, r, rfl, rf, t⟩
      | par z => cases e
  | succ i ih =>
    intro Pv ε ε' σ L re e rf
    cases ε with
    | nil => cases e
    | cons s ε =>
      have key : ∃ ε1, setSl i (.fz w) ε = some ε1 ∧ ε' = s :: ε1 := by
        unfold setSl at e ⊢
        rw [List.getElem?_cons_succ] at e
        cases h : ε[i]? with
        | none => rw [h] at e; cases e
        | some z => cases z <;> rw [h] at e <;> first | (cases e; done) | (cases e; exact ⟨_, rfl, rfl⟩)
      obtain ⟨ε1, h1, rfl⟩ := key
      cases s with
      | no => obtain ⟨x, r, rfl, t⟩ := re; obtain ⟨Ld, L', p, q⟩ := ih t h1 rf; exact ⟨Ld, L', p, _, _, rfl, q⟩
      | fz z => obtain ⟨x, r, rfl, y, t⟩ := re; obtain ⟨Ld, L', p, q⟩ := ih t h1 rf; exact ⟨Ld, L', p, _, _, rfl, y, q⟩
      | own z => obtain ⟨x, r, L1, L2, rfl, rfl, y, t⟩ := re; obtain ⟨Ld, L', p, q⟩ := ih t h1 rf; exact ⟨Ld, L1 ++ L', (p.append_left L1).trans perm3, _, _, L1, L', rfl, rfl, y, q⟩
      | par z => obtain ⟨x, r, L1, L2, rfl, ep, rfl, y, t⟩ := re; obtain ⟨Ld, L', p, q⟩ := ih t h1 rf; exact ⟨Ld, L1 ++ L', (p.append_left L1).trans perm3, _, _, L1, L', rfl, ep, rfl, y, q⟩
theorem RepE.setOwn {K : PySem.W.Frag} {i : Nat} {o : O} {v : V} {La : List Addr} : ∀ {Pv : List V} {ε ε' : En} {σ : L2.St} {L : List Addr}, RepE K F H Pv ε σ L → setSl i (.own o) ε = some ε' → RepO K F H o v La →
    ∃ Ld L', (La ++ L).Perm (Ld ++ L') ∧ RepE K F H Pv ε' (σ.set i (some v)) L' := by
  induction i with
  | zero =>
    intro Pv ε ε' σ L re e rf
    cases ε with
    | nil => cases e
    | cons s ε =>
      cases s with
      | no => cases e; obtain ⟨x, r, rfl, t⟩ := re; exact ⟨[], La ++ L, List.Perm.refl _, v, r, La, L, rfl, rfl, rf, t⟩
      | fz z => cases e; obtain ⟨x, r, rfl, _, t⟩ := re; exact ⟨[], La ++ L, List.Perm.refl _, v, r, La, L, rfl, rfl, rf, t⟩
      | own z => cases e; obtain ⟨x, r, L1, L2, rfl, rfl, _, t⟩ := re; exact ⟨L1, La ++ L2, perm3, v, r, La, L2, rfl, rfl, rf, t⟩
      | par z => cases e
  | succ i ih =>
    intro Pv ε ε' σ L re e rf
    cases ε with
    | nil => cases e
    | cons s ε =>
      have key : ∃ ε1, setSl i (.own o) ε = some ε1 ∧ ε' = s :: ε1 := by
        unfold setSl at e ⊢
        rw [List.getElem?_cons_succ] at e
        cases h : ε[i]? with
        | none => rw [h] at e; cases e
        | some z => cases z <;> rw [h] at e <;> first | (cases e; done) | (cases e; exact ⟨_, rfl, rfl⟩)
      obtain ⟨ε1, h1, rfl⟩ := key
      cases s with
      | no => obtain ⟨x, r, rfl, t⟩ := re; obtain ⟨Ld, L', p, q⟩ := ih t h1 rf; exact ⟨Ld, L', p, _, _, rfl, q⟩
      | fz z => obtain ⟨x, r, rfl, y, t⟩ := re; obtain ⟨Ld, L', p, q⟩ := ih t h1 rf; exact ⟨Ld, L', p, _, _, rfl, y, q⟩
      | own z => obtain ⟨x, r, L1, L2, rfl, rfl, y, t⟩ := re; obtain ⟨Ld, L', p, q⟩ := ih t h1 rf; exact ⟨Ld, L1 ++ L', perm3.trans ((p.append_left L1).trans perm3), _, _, L1, L', rfl, rfl, y, q⟩
      | par z => obtain ⟨x, r, L1, L2, rfl, ep, rfl, y, t⟩ := re; obtain ⟨Ld, L', p, q⟩ := ih t h1 rf; exact ⟨Ld, L1 ++ L', perm3.trans ((p.append_left L1).trans perm3), _, _, L1, L', rfl, ep, rfl, y, q⟩
def Out.of : Option En → Out
  | some ε => .next ε
  | none => .stuck
def sSet (i : Nat) (m : M3 W) : MS := fun ε => (m ε).out fun w ε' => .of (setSl i (.fz w) ε')
def sSetO (i : Nat) (m : M3 O) : MS := fun ε => (m ε).out fun o ε' => .of (setSl i (.own o) ε')
theorem of_some {o : Option En} {F H : Hp} {L : List Addr} {D : Ends} (h : RunS c (.of o) F H L D) : ∃ ε, o = some ε ∧ RunS c (.next ε) F H L D := by
  cases o with
  | none => exact h.elim
  | some ε => exact ⟨ε, rfl, h⟩
theorem js_set {i : Nat} {x : Str} {e : Expr} {m : M3 W} {pos' : Pos} (hN : X.N.Nodup) (hi : X.N[i]? = some x) (hx : Loc X.env.scope x) (h : JE X c e m) (hs : swapsWith e (some (.Name x pos')) pos.line X.env = pure false)
    (hf : X.fn x = true ∨ X.env.scope.names.lookup x = some .local) : JS X c (.Assign [.Name x pos'] e pos) (sSet i m) := by
  refine PS.wk (ps_set hN hi hx h hs hf) fun D σ H ⟨F, ε, L, fr, re, run⟩ => ?_
  refine ⟨F, ε, L, fr, re, (RunS.expr (rel := rW c) (fun _ _ _ _ _ _ => rW0) run).mono ?_⟩
  rintro v H1 ⟨F1, ε1, L1, w, fr1, re1, ⟨_, r1⟩, st1, run1⟩
  obtain ⟨ε2, e2, run2⟩ := of_some run1
  obtain ⟨Ld, L', p, re2⟩ := re1.setFz e2 r1
  exact run2 _ H1 F1 L' (fr1.perm p).drop re2 (Stp.refl.permR p).drop
theorem js_setO {i : Nat} {x : Str} {e : Expr} {m : M3 O} {pos' : Pos} (hN : X.N.Nodup) (hi : X.N[i]? = some x) (hx : Loc X.env.scope x) (h : JO X c e m) (hs : swapsWith e (some (.Name x pos')) pos.line X.env = pure false)
    (hf : X.fn x = true ∨ X.env.scope.names.lookup x = some .local) : JS X c (.Assign [.Name x pos'] e pos) (sSetO i m) := by
  refine PS.wk (ps_set hN hi hx h hs hf) fun D σ H ⟨F, ε, L, fr, re, run⟩ => ?_
  refine ⟨F, ε, L, fr, re, (RunS.exprO run).mono ?_⟩
  rintro v H1 ⟨F1, ε1, La, L1, o, fr1, re1, r1, st1, run1⟩
  obtain ⟨ε2, e2, run2⟩ := of_some run1
  obtain ⟨Ld, L', p, re2⟩ := re1.setOwn e2 r1
  exact run2 _ H1 F1 L' (fr1.perm p).drop re2 (Stp.refl.permR p).drop
end
/-! ### a def -/
def initSl : List Bool → List O → Option En
  | [], [] => some []
  | true :: m, o :: os => (initSl m os).map fun r => .par o :: r
  | false :: m, .fz w :: os => (initSl m os).map fun r => .fz w :: r
  | _, _ => none
def finSl : List Bool → List O → En → Option (List O)
  | [], [], _ => some []
  | true :: m, _ :: os, .par o :: ε => (finSl m os ε).map fun r => o :: r
  | false :: m, .fz w :: os, _ :: ε => (finSl m os ε).map fun r => .fz w :: r
  | _, _, _ => none
section
variable {K : PySem.W.Frag} {F F' H H' : Hp}
theorem init_rep : ∀ {m : List Bool} {os : List O} {vs : List V} {L : List Addr} {ε : En} (k : Nat), RepOs K F H os vs L → initSl m os = some ε → RepE K F H vs (ε ++ List.replicate k .no) (vs.map some ++ List.replicate k none) L
  | [], [], _, _, _, k, ⟨e1, e2⟩, e => by
    cases e
    subst e1 e2
    induction k with
    | zero => exact ⟨rfl, rfl⟩
    | succ k ih => exact ⟨none, _, rfl, ih⟩
  | true :: m, o :: os, _, _, _, k, ⟨v, r, L1, L2, e1, e2, ro, t⟩, e => by
    obtain ⟨ε', h, rfl⟩ := Option.map_eq_some_iff.mp (show (initSl m os).map (fun r => Sl.par o :: r) = _ from e)
    subst e1 e2
    exact ⟨v, _, L1, L2, rfl, rfl, rfl, ro, init_rep k t h⟩
  | false :: m, .fz w :: os, _, _, _, k, ⟨v, r, L1, L2, e1, e2, ⟨e3, rf⟩, t⟩, e => by
    obtain ⟨ε', h, rfl⟩ := Option.map_eq_some_iff.mp (show (initSl m os).map (fun r => Sl.fz w :: r) = _ from e)
    subst e1 e2 e3
    exact ⟨v, _, rfl, rf, init_rep k t h⟩
  | [], _ :: _, _, _, _, _, _, e => by cases e
  | true :: _, [], _, _, _, _, _, e => by cases e
  | false :: _, [], _, _, _, _, _, e => by cases e
  | false :: _, .lst _ :: _, _, _, _, _, _, e => by cases e
  | false :: _, .dct _ _ :: _, _, _, _, _, _, e => by cases e
  | false :: _, .ins _ _ :: _, _, _, _, _, _, e => by cases e
theorem fin_rep (s : Sub F F') : ∀ {m : List Bool} {os os' : List O} {vs : List V} {L L' : List Addr} {ε : En} {σ : L2.St}, RepOs K F H os vs L → RepE K F' H' vs ε σ L' → finSl m os ε = some os' → ∃ Ld Lp, L'.Perm (Ld ++ Lp) ∧ RepOs K F' H' os' vs Lp
  | [], [], _, _, _, L', _, _, ⟨e1, e2⟩, _, e => by
    cases e
    exact ⟨L', [], by simp, e1, rfl⟩
  | true :: m, ob :: os, _, _, _, L', .par o :: ε, σ, ⟨v, r, L1, L2, e1, e2, ro, t⟩, re, e => by
    obtain ⟨os', h, rfl⟩ := Option.map_eq_some_iff.mp (show (finSl m os ε).map (fun r => o :: r) = _ from e)
    subst e1 e2
    obtain ⟨v', r', M1, M2, e3, e4, e5, ro', t'⟩ := re
    subst e3 e5
    cases e4
    obtain ⟨Ld, Lp, p, q⟩ := fin_rep s t t' h
    exact ⟨Ld, M1 ++ Lp, (p.append_left M1).trans perm3, v, r, M1, Lp, rfl, rfl, ro', q⟩
  | false :: m, .fz w :: os, _, _, _, L', sl :: ε, σ, ⟨v, r, L1, L2, e1, e2, ⟨e3, rf⟩, t⟩, re, e => by
    obtain ⟨os', h, rfl⟩ := Option.map_eq_some_iff.mp (show (finSl m os ε).map (fun r => O.fz w :: r) = _ from e)
    subst e1 e2 e3
    have key : ∃ r' M1 M2, L' = M1 ++ M2 ∧ RepE K F' H' r ε r' M2 := by
      cases sl with
      | no => obtain ⟨x, r', rfl, t'⟩ := re; exact ⟨r', [], L', rfl, t'⟩
      | fz z => obtain ⟨x, r', rfl, _, t'⟩ := re; exact ⟨r', [], L', rfl, t'⟩
      | own z => obtain ⟨x, r', M1, M2, rfl, rfl, _, t'⟩ := re; exact ⟨r', M1, M2, rfl, t'⟩
      | par z => obtain ⟨x, r', M1, M2, rfl, _, rfl, _, t'⟩ := re; exact ⟨r', M1, M2, rfl, t'⟩
    obtain ⟨r', M1, M2, rfl, t'⟩ := key
    obtain ⟨Ld, Lp, p, q⟩ := fin_rep s t t' h
    exact ⟨M1 ++ Ld, Lp, by rw [List.append_assoc]; exact p.append_left M1, v, r, [], Lp, rfl, rfl, ⟨rfl, rf.mono s⟩, q⟩
  | [], _ :: _, _, _, _, _, _, _, _, _, e => by cases e
  | true :: _, [], _, _, _, _, _, _, _, _, e => by cases e
  | false :: _, [], _, _, _, _, _, _, _, _, e => by cases e
  | true :: _, _ :: _, _, _, _, _, [], _, _, _, e => by cases e
  | true :: _, _ :: _, _, _, _, _, .no :: _, _, _, _, e => by cases e
  | true :: _, _ :: _, _, _, _, _, .fz _ :: _, _, _, _, e => by cases e
  | true :: _, _ :: _, _, _, _, _, .own _ :: _, _, _, _, e => by cases e
  | false :: _, .fz _ :: _, _, _, _, _, [], _, _, _, e => by cases e
  | false :: _, .lst _ :: _, _, _, _, _, _, _, _, _, e => by cases e
  | false :: _, .dct _ _ :: _, _, _, _, _, _, _, _, _, e => by cases e
  | false :: _, .ins _ _ :: _, _, _, _, _, _, _, _, _, e => by cases e
end
/-- a def: io the parameters that are handed back, k the number of its further slots -/
def fnM (io : List Bool) (k : Nat) (m : MS) : Fn := fun os => match initSl io os with
  | none => .stuck
  | some ε => match m (ε ++ List.replicate k .no) with
    | .ret o ε' => (match finSl io os ε' with
      | some os' => .ok o os'
      | none => .stuck)
    | .next ε' => (match finSl io os ε' with
      | some os' => .ok (.fz .non) os'
      | none => .stuck)
    | .err x ε' => (match finSl io os ε' with
      | some os' => .err x os'
      | none => .stuck)
    | _ => .stuck
theorem initSl_len : ∀ {m : List Bool} {os : List O} {ε : En}, initSl m os = some ε → os.length = m.length
  | [], [], _, _ => rfl
  | true :: m, o :: os, _, e => by
    obtain ⟨ε', h, _⟩ := Option.map_eq_some_iff.mp (show (initSl m os).map (fun r => Sl.par o :: r) = _ from e)
    rw [List.length_cons, List.length_cons, initSl_len h]
  | false :: m, .fz w :: os, _, e => by
    obtain ⟨ε', h, _⟩ := Option.map_eq_some_iff.mp (show (initSl m os).map (fun r => Sl.fz w :: r) = _ from e)
    rw [List.length_cons, List.length_cons, initSl_len h]
  | [], _ :: _, _, e => by cases e
  | true :: _, [], _, e => by cases e
  | false :: _, [], _, e => by cases e
  | false :: _, .lst _ :: _, _, e => by cases e
  | false :: _, .dct _ _ :: _, _, e => by cases e
  | false :: _, .ins _ _ :: _, _, e => by cases e
theorem RepOs.length {K : PySem.W.Frag} {F H : Hp} : ∀ {os : List O} {vs : List V} {L : List Addr}, RepOs K F H os vs L → vs.length = os.length
  | [], _, _, ⟨e, _⟩ => by rw [e]; rfl
  | x :: xs, _, _, ⟨v, r, L1, L2, e, _, _, t⟩ => by rw [e, List.length_cons, List.length_cons, RepOs.length t]
theorem fn_sp {K : PySem.W.Frag} {io : List Bool} {k : Nat} {m : MS} {vs : List V} {H : Hp} {Q : VK} {E : XK} (h : spF K (fnM io k m) vs H Q E) :
    tS ⟨K, vs, fun cls d _ H' => E cls d H'⟩ m { nx := fun _ H' => Q .non H', rt := Q } (vs.map some ++ List.replicate k none) H := by
  obtain ⟨F, os, L, fr, ro, q⟩ := h
  unfold fnM at q
  cases e : initSl io os with
  | none => rw [e] at q; exact q.elim
  | some ε =>
    rw [e] at q
    refine ⟨F, ε ++ List.replicate k .no, L, fr, init_rep k ro e, ?_⟩
    dsimp only at q
    cases hm : m (ε ++ List.replicate k .no) with
    | stuck => rw [hm] at q; exact q.elim
    | brk _ => rw [hm] at q; exact q.elim
    | cnt _ => rw [hm] at q; exact q.elim
    | ret o ε' =>
      rw [hm] at q
      dsimp only at q
      cases hf : finSl io os ε' with
      | none => rw [hf] at q; exact q.elim
      | some os' =>
        rw [hf] at q
        intro v σ' H' F' La L' fr' re' r' st
        obtain ⟨Ld, Lp, p, ro'⟩ := fin_rep st.fsub ro re' hf
        have pp : (La ++ L').Perm (Ld ++ (La ++ Lp)) := (p.append_left La).trans perm3
        exact q v H' F' La Lp (fr'.perm pp).drop r' ro' (st.permR pp).drop
    | next ε' =>
      rw [hm] at q
      dsimp only at q
      cases hf : finSl io os ε' with
      | none => rw [hf] at q; exact q.elim
      | some os' =>
        rw [hf] at q
        intro σ' H' F' L' fr' re' st
        obtain ⟨Ld, Lp, p, ro'⟩ := fin_rep st.fsub ro re' hf
        exact q .non H' F' [] Lp (fr'.perm p).drop ⟨rfl, rfl⟩ ro' (st.permR p).drop
    | err x ε' =>
      rw [hm] at q
      dsimp only at q
      cases hf : finSl io os ε' with
      | none => rw [hf] at q; exact q.elim
      | some os' =>
        rw [hf] at q
        intro cls d σ' H' F' L' fr' re' rx st
        obtain ⟨Ld, Lp, p, ro'⟩ := fin_rep st.fsub ro re' hf
        exact q cls d H' F' Lp (fr'.perm p).drop ro' rx (st.permR p).drop
theorem spF_len {K : PySem.W.Frag} {io : List Bool} {k : Nat} {m : MS} {vs : List V} {H : Hp} {Q : VK} {E : XK} (h : spF K (fnM io k m) vs H Q E) : vs.length = io.length := by
  obtain ⟨F, os, L, fr, ro, q⟩ := h
  unfold fnM at q
  cases e : initSl io os with
  | none => rw [e] at q; exact q.elim
  | some ε => rw [ro.length, initSl_len e]
end L3

set_option Elab.async false
set_option linter.all false
set_option maxRecDepth 100000
namespace L3
open PySem PySem.Spec PyProof.Rows L2
abbrev rAV (c : C3) : Rl (List AV) (List V) := fun σ F _ as vs La => La = [] ∧ AVs c.K F σ as vs
abbrev JV (X : Cx) (c : C3) (es : List Expr) (m : M3 (List AV)) : Prop := PA X es (tG c (rAV c) m)
/-- what a callee is known to keep -/
abbrev FnK (X : Cx) (k : Nat) (f : Addr) (fd : FuncData) (ps : List Str) (fn : Fn) : Prop := FnOk X.prog X.w X.K X.mg X.base (L2.CX X.prog X.w) k f fd ps (spF X.K fn)
section
variable {X : Cx} {c : C3} {pos : Pos}
theorem jv_nil : JV X c [] mNil := PA.wk pa_nil fun σ H Q ⟨F, ε, L, fr, re, run⟩ => run.now fr re ⟨rfl, rfl⟩
def avFz (m : M3 W) : M3 AV := m.bind fun w ε => .ok (.fz w) ε
def avIo (i : Nat) (p : Bool) : M3 AV := fun ε => match ε[i]? with
  | some (.own _) => .ok (.io i p) ε
  | some (.par _) => .ok (.io i p) ε
  | _ => .stuck
theorem bind_bind {α β γ : Type} (m : M3 α) (f : α → M3 β) (g : β → M3 γ) (ε : En) : ((m.bind f).bind g) ε = (m.bind fun x => (f x).bind g) ε := Res.bind_assoc _ _ _
theorem jv_fz {e : Expr} {es : List Expr} {m : M3 W} {r : M3 (List AV)} (hs : starEach (e :: es) X.env = (false, eval e X.env) :: starEach es X.env) (h : JE X c e m) (t : JV X c es r) : JV X c (e :: es) (mCons (avFz m) r) := by
  refine PA.wk (pa_cons h t hs) fun σ H Q ⟨F, ε, L, fr, re, run⟩ => ?_
  unfold mCons avFz at run
  rw [bind_bind] at run
  refine ⟨F, ε, L, fr, re, (Run.seq (rel := rW c) (fun _ _ _ _ _ _ => rW0) run).mono ?_⟩
  rintro v1 H1 ⟨F1, ε1, L1, w1, fr1, re1, ⟨_, r1⟩, st1, run1⟩
  refine ⟨F1, ε1, L1, fr1, re1, (Run.seq (rel := rAV c) (fun _ _ _ _ _ _ h => h.1) (show Run c _ ((r ε1).bind _) F1 H1 L1 σ Q from run1)).mono ?_⟩
  rintro vs H2 ⟨F2, ε2, L2, ws, fr2, re2, ⟨_, r2⟩, st2, run2⟩
  exact run2.now fr2 re2 ⟨rfl, _, _, rfl, r1.mono st2.fsub, r2⟩
theorem RepE.own_at {K : PySem.W.Frag} {F H : Hp} : ∀ {Pv : List V} {ε : En} {σ : L2.St} {L : List Addr} {i : Nat} {s : Sl} {o : O}, RepE K F H Pv ε σ L → ε[i]? = some s → slO s = some o → ∃ v, σ[i]? = some (some v) := fun {Pv ε σ L i s o} h e eo => by
  obtain ⟨v, _, _, h1, _⟩ := h.take e eo
  exact ⟨v, h1⟩
theorem jv_io {i : Nat} {p : Bool} {x : Str} {px : Pos} {es : List Expr} {r : M3 (List AV)} (hN : X.N[i]? = some x) (hv : Vis X.env.scope x) (hd : (x == ("__debug__" : Str)) = false) (hcd : (x == ("__classdict__" : Str)) = false) (t : JV X c es r) :
    JV X c (.Name x px :: es) (mCons (avIo i p) r) := by
  refine PA.wk (pa_cons (pe_var hN hv hd hcd) t rfl) fun σ H Q ⟨F, ε, L, fr, re, run⟩ => ?_
  have key : ∃ v, σ[i]? = some (some v) ∧ Run c (rAV c) ((r ε).bind fun xs ε => .ok (AV.io i p :: xs) ε) F H L σ Q := by
    unfold mCons M3.bind avIo at run
    cases e : ε[i]? with
    | none => rw [e] at run; exact run.elim
    | some s =>
      rw [e] at run
      cases s with
      | no => exact run.elim
      | fz w => exact run.elim
      | own o => obtain ⟨v, h⟩ := re.own_at e rfl; exact ⟨v, h, run⟩
      | par o => obtain ⟨v, h⟩ := re.own_at e rfl; exact ⟨v, h, run⟩
  obtain ⟨v, hv', run'⟩ := key
  refine ⟨v, hv', F, ε, L, fr, re, (Run.seq (rel := rAV c) (fun _ _ _ _ _ _ h => h.1) run').mono ?_⟩
  rintro vs H2 ⟨F2, ε2, L2, ws, fr2, re2, ⟨_, r2⟩, st2, run2⟩
  exact run2.now fr2 re2 ⟨rfl, _, _, rfl, hv', r2⟩
/-! ### calls -/
def mCall (f : Fn) (m : M3 (List AV)) : M3 O := m.bind (callM f)
/-- frozen at once -/
def mFr (m : M3 O) : M3 W := m.bind fun o ε => .ok o.val ε
theorem jo_fr {e : Expr} {m : M3 O} (h : JO X c e m) : JE X c e (mFr m) := PE.wk (PE.lock h) fun σ H Q ⟨F, ε, L, fr, re, run⟩ => ⟨F, ε, L, fr, re, run_frz run⟩
theorem tCallG {m : M3 (List AV)} {f : Fn} {σ : L2.St} {H : Hp} {Q : VK} (hK : c.K = X.K) (h : tG c (rO c) (mCall f m) σ H Q) : tG c (rAV c) m σ H (fun vs H1 => spF X.K f vs H1 Q (fun cls d H' => c.wx cls d σ H')) := by
  obtain ⟨F, ε, L, fr, re, run⟩ := h
  refine ⟨F, ε, L, fr, re, (Run.seq (rel := rAV c) (fun _ _ _ _ _ _ h => h.1) run).mono ?_⟩
  rintro vs H1 ⟨F1, ε1, L1, as, fr1, re1, ⟨_, r1⟩, st1, run1⟩
  rw [← hK]
  exact call_sp fr1 re1 r1 run1
variable {k : Nat} {f C : Addr} {fd : FuncData} {ps : List Str} {fn : Fn} {x mth : Str} {p apos : Pos} {e o : Expr} {es : List Expr} {m : M3 (List AV)}
theorem jo_call (hK : c.K = X.K) (tk : Takes X c.wx) (G : FnK X k f fd ps fn) (hr : Room k X.A) (hg : Gl X x) (hm : X.mg x = some (.ref f)) (hk : PySem.W.keepIn X.K (.ref f) = true) (hb : Binds X.K fd ps [])
    (ha : JV X c (e :: es) m) (hdb : (x == ("__debug__" : Str)) = false) (he : starEach (e :: es) X.env = (false, eval e X.env) :: starEach es X.env) (hpl : (backTo pos (starEach es X.env)).any (·.1) = false) : JO X c (.Call (.Name x p) (e :: es) [] pos) (mCall fn m) := by
  refine PE.wk (pe_callSD (E := WE c.wx) G hr hg hm hk hb .nil (fun σ => passAt tk σ) ha hdb he hpl) fun σ H Q q => ?_
  obtain ⟨F, ε, L, fr, re, run⟩ := tCallG hK q
  refine ⟨F, ε, L, fr, re, run.mono fun vs H1 h => ?_⟩
  rw [List.append_nil]
  exact h
theorem jo_call0 (hK : c.K = X.K) (tk : Takes X c.wx) (G : FnK X k f fd ps fn) (hr : Room k X.A) (hg : Gl X x) (hm : X.mg x = some (.ref f)) (hk : PySem.W.keepIn X.K (.ref f) = true) (hb : Binds X.K fd ps [])
    (hdb : (x == ("__debug__" : Str)) = false) : JO X c (.Call (.Name x p) [] [] pos) (mCall fn mNil) := by
  refine ⟨fun pins s σ H Q I h => ?_⟩
  obtain ⟨F, ε, L, fr, re, run⟩ := tCallG hK h
  have run := run.now (rel := rAV c) fr re ⟨rfl, (rfl : AVs c.K F σ [] [])⟩
  exact wpAny_Call_Name_kw (ld_glob I hg hm (PySem.W.callWith_K0 I.kIn hk (run_fnSD (us := []) G hr hb .nil (passAt tk σ) I .nil run)) hdb)
/-! ### methods: the receiver is frozen, or one's own -/
/-- what is known of a method's name: for each class that has it, the function -/
def MthOk (X : Cx) (k : Nat) (mth : Str) (t : Str → Option Fn) : Prop := ∀ C fn, t C = some fn → Cls X.K (He.ga X.K C) ∧ ∃ f fd ps, Meth X.K (He.ga X.K C) mth f ∧ FnK X k f fd ps fn ∧ Binds X.K fd ps []
def tMethD (X : Cx) (k : Nat) (mth : Str) (E : L2.St → XK) (ta : TE) (t : TA) : TE := fun σ H Q => ta σ H fun x H1 => ∃ (a dx C f : Addr) (fs : List (Str × V)) (fd : FuncData) (ps : List Str) (sp : Sp), x = .ref a ∧ H1 a = some (.ins C dx fs) ∧ fs.lookup mth = none ∧ Cls X.K C ∧ Meth X.K C mth f ∧
  FnOk X.prog X.w X.K X.mg X.base (L2.CX X.prog X.w) k f fd ps sp ∧ Binds X.K fd ps [] ∧ t σ H1 fun vs H2 => sp (x :: vs) H2 Q (E σ)
theorem pe_methD {pl : Sem Bool} {ta : TE} {t : TA} {E : L2.St → XK} (he : PE X o ta) (hr : Room k X.A) (hx : ∀ σ, PassesAt (L2.CX X.prog X.w) X σ (E σ)) (ha : PA X (e :: es) t)
    (hst : starEach (e :: es) X.env = (false, eval e X.env) :: starEach es X.env) (hpl : (backTo pos (starEach es X.env)).any (·.1) = false)
    (ht : eval (.Call (.Attribute o mth apos) (e :: es) [] pos) X.env = (do
      let ov ← eval o X.env
      standAt apos.atName
      let (f, first) ← holding [ov] (getMethod ov mth pl)
      callWith pos f first (backTo pos (starEach (e :: es) X.env)) (backToKw pos (keywordEach [] X.env)))) :
    PE X (.Call (.Attribute o mth apos) (e :: es) [] pos) (tMethD X k mth E ta t) := by
  refine ⟨fun pins s σ H Q I h => ?_⟩
  refine PySem.W.methodCall_KW (pl := pl) (thn (he.run pins s σ H _ I h) fun u s1 ⟨x, H1, I1, rx, a, dx, C, f, fs, fd, ps, sp, ex, ea, l, c, hm, F, hb, q⟩ => ?_) ht
  subst ex
  obtain rfl : u = Value.ref a := rx
  refine getmeth_ok I1 ea c hm l ?_
  refine PySem.W.callWith_K (first := [.ref a]) (h₀ := X.base) I.ok.mod.kin hm.kp (thn (ha.run pos pins s1 σ H1 _ I1 q) fun us s2 ⟨vs, H2, I2, r, q2⟩ => ⟨I2.kIn, ?_⟩) hst hpl
  exact run_fnSD (us := .ref a :: us) (vs := .ref a :: vs) F hr hb .nil (hx σ) I2 (.cons rfl r) (by rw [List.append_nil]; exact q2)
theorem pe_methD0 {pl : Sem Bool} {ta : TE} {E : L2.St → XK} (he : PE X o ta) (hr : Room k X.A) (hx : ∀ σ, PassesAt (L2.CX X.prog X.w) X σ (E σ))
    (ht : eval (.Call (.Attribute o mth apos) [] [] pos) X.env = (do
      let ov ← eval o X.env
      standAt apos.atName
      let (f, first) ← holding [ov] (getMethod ov mth pl)
      callWith pos f first (backTo pos (starEach [] X.env)) (backToKw pos (keywordEach [] X.env)))) :
    PE X (.Call (.Attribute o mth apos) [] [] pos) (tMethD X k mth E ta tNil) := by
  refine ⟨fun pins s σ H Q I h => ?_⟩
  refine PySem.W.methodCall_KW (pl := pl) (thn (he.run pins s σ H _ I h) fun u s1 ⟨x, H1, I1, rx, a, dx, C, f, fs, fd, ps, sp, ex, ea, l, c, hm, F, hb, q⟩ => ?_) ht
  subst ex
  obtain rfl : u = Value.ref a := rx
  refine getmeth_ok I1 ea c hm l ?_
  exact PySem.W.callWith_K0 (first := [.ref a]) I1.kIn hm.kp (run_fnSD (us := [.ref a]) (vs := [.ref a]) F hr hb .nil (hx σ) I1 (.cons rfl .nil) q)
/-- the class of what is seen, and its attributes' names -/
def clsOf : AV → En → Option (Str × List Str)
  | .fz (.ins C fs), _ => some (C, fs.map (·.1))
  | .io i _, ε => (match ε[i]? with
    | some (.own (.ins C fs)) => some (C, fs.map (·.1))
    | some (.par (.ins C fs)) => some (C, fs.map (·.1))
    | _ => none)
  | _, _ => none
theorem RepG.keys {K : PySem.W.Frag} {F : Hp} : ∀ {fs : List (Str × W)} {gs : List (Str × V)}, RepG K F fs gs → gs.map (·.1) = fs.map (·.1)
  | [], _, h => by rw [show _ = ([] : List (Str × V)) from h]; rfl
  | (g, x) :: fs, _, ⟨v, r, e1, q, t⟩ => by subst e1; rw [List.map_cons, List.map_cons, RepG.keys t]
theorem RepOG.keys {K : PySem.W.Frag} {F H : Hp} : ∀ {fs : List (Str × O)} {gs : List (Str × V)} {L : List Addr}, RepOG K F H fs gs L → gs.map (·.1) = fs.map (·.1)
  | [], _, _, h => by rw [h.1]; rfl
  | (g, x) :: fs, _, _, ⟨v, r, L1, L2, e1, _, q, t⟩ => by subst e1; rw [List.map_cons, List.map_cons, RepOG.keys t]
theorem lookup_keys {fs : List (Str × V)} {m : Str} (h : m ∉ fs.map (·.1)) : fs.lookup m = none := by
  induction fs with
  | nil => rfl
  | cons p fs ih =>
    rw [List.map_cons, List.mem_cons, not_or] at h
    rw [List.lookup_cons, show (m == p.1) = false from beq_eq_false_iff_ne.mpr h.1]
    exact ih h.2
def mMeth (mth : Str) (t : Str → Option Fn) (recv : M3 AV) (args : M3 (List AV)) : M3 O := recv.bind fun r ε => match clsOf r ε with
  | some (C, ks) => if mth ∈ ks then .stuck else (match t C with
    | some fn => (args.bind fun as => callM fn (r :: as)) ε
    | none => .stuck)
  | none => .stuck
/-- behind the receiver -/
theorem meth_go {mt : Str} {t : Str → Option Fn} {r : AV} {ε : En} {F H : Hp} {L : List Addr} {σ : L2.St} {Q : VK} {v : V} {args : M3 (List AV)} (hK : c.K = X.K) (T : MthOk X k mt t) (fr : Fr F H L) (re : RepE c.K F H c.Pv ε σ L)
    (rv : (∃ w, r = .fz w ∧ RepF c.K F w v) ∨ ∃ i p, r = .io i p ∧ σ[i]? = some (some v))
    (run : Run c (rO c) (match clsOf r ε with
      | some (C, ks) => if mt ∈ ks then .stuck else (match t C with
        | some fn => (args.bind fun as => callM fn (r :: as)) ε
        | none => .stuck)
      | none => .stuck) F H L σ Q) :
    ∃ (a dx C f : Addr) (fs : List (Str × V)) (fd : FuncData) (ps : List Str) (sp : Sp), v = .ref a ∧ H a = some (.ins C dx fs) ∧ fs.lookup mt = none ∧ Cls X.K C ∧ Meth X.K C mt f ∧
      FnOk X.prog X.w X.K X.mg X.base (L2.CX X.prog X.w) k f fd ps sp ∧ Binds X.K fd ps [] ∧ tG c (rAV c) args σ H fun vs H2 => sp (v :: vs) H2 Q (WE c.wx σ) := by
  cases e : clsOf r ε with
  | none => rw [e] at run; exact run.elim
  | some q =>
    obtain ⟨C, ks⟩ := q
    rw [e] at run
    dsimp only at run
    by_cases hm : mt ∈ ks
    · rw [if_pos hm] at run; exact run.elim
    rw [if_neg hm] at run
    cases ht : t C with
    | none => rw [ht] at run; exact run.elim
    | some fn =>
      rw [ht] at run
      obtain ⟨cl, f, fd, ps, me, G, bi⟩ := T C fn ht
      have at_ : ∃ a dx gs, v = .ref a ∧ H a = some (.ins (He.ga X.K C) dx gs) ∧ gs.map (·.1) = ks := by
        rcases rv with ⟨w, rfl, rf⟩ | ⟨i, p, rfl, hi⟩
        · cases w <;> first | (cases e; done) | skip
          cases e
          obtain ⟨a, dx, gs, ea, h1, _, rg⟩ := rf
          exact ⟨a, dx, gs, ea, by rw [← hK]; exact fr.sub _ _ h1, rg.keys⟩
        · unfold clsOf at e
          dsimp only at e
          cases h : ε[i]? with
          | none => rw [h] at e; cases e
          | some s =>
            rw [h] at e
            have key : ∃ fs, slO s = some (.ins C fs) ∧ ks = fs.map (·.1) := by
              cases s with
              | no => cases e
              | fz w => cases e
              | own o => cases o <;> first | (cases e; done) | (cases e; exact ⟨_, rfl, rfl⟩)
              | par o => cases o <;> first | (cases e; done) | (cases e; exact ⟨_, rfl, rfl⟩)
            obtain ⟨fs, k1, k2⟩ := key
            obtain ⟨v', La, Lr, h1, _, ⟨a, dx, gs, L', ea, _, h2, _, rg⟩, _⟩ := re.take h k1
            rw [hi] at h1
            cases h1
            exact ⟨a, dx, gs, ea, by rw [← hK]; exact h2, by rw [k2]; exact rg.keys⟩
      obtain ⟨a, dx, gs, ea, ha, hk⟩ := at_
      refine ⟨a, dx, _, f, gs, fd, ps, _, ea, ha, lookup_keys (by rw [hk]; exact hm), cl, me, G, bi, F, ε, L, fr, re, ?_⟩
      refine (Run.seq (rel := rAV c) (fun _ _ _ _ _ _ h => h.1) run).mono ?_
      rintro vs H1 ⟨F1, ε1, L1, as, fr1, re1, ⟨_, r1⟩, st1, run1⟩
      rw [← hK]
      refine call_sp fr1 re1 ?_ run1
      rcases rv with ⟨w, rfl, rf⟩ | ⟨i, p, rfl, hi⟩
      · exact ⟨v, vs, rfl, rf.mono st1.fsub, r1⟩
      · exact ⟨v, vs, rfl, hi, r1⟩
theorem recvFz {ms : M3 W} {mt : Str} {t : Str → Option Fn} {args : M3 (List AV)} {σ : L2.St} {H : Hp} {Q : VK} (hK : c.K = X.K) (T : MthOk X k mt t) (h : tG c (rO c) (mMeth mt t (avFz ms) args) σ H Q) : tMethD X k mt (WE c.wx) (tG c (rW c) ms) (tG c (rAV c) args) σ H Q := by
  obtain ⟨F, ε, L, fr, re, run⟩ := h
  unfold mMeth avFz at run
  rw [bind_bind] at run
  refine ⟨F, ε, L, fr, re, (Run.seq (rel := rW c) (fun _ _ _ _ _ _ => rW0) run).mono ?_⟩
  rintro v1 H1 ⟨F1, ε1, L1, w1, fr1, re1, ⟨_, r1⟩, st1, run1⟩
  exact meth_go (r := .fz w1) hK T fr1 re1 (.inl ⟨w1, rfl, r1⟩) run1
theorem recvIo {i : Nat} {pp : Bool} {mt : Str} {t : Str → Option Fn} {args : M3 (List AV)} {σ : L2.St} {H : Hp} {Q : VK} (hK : c.K = X.K) (T : MthOk X k mt t) (h : tG c (rO c) (mMeth mt t (avIo i pp) args) σ H Q) : tMethD X k mt (WE c.wx) (tVar i) (tG c (rAV c) args) σ H Q := by
  obtain ⟨F, ε, L, fr, re, run⟩ := h
  unfold mMeth M3.bind avIo at run
  cases e : ε[i]? with
  | none => rw [e] at run; exact run.elim
  | some s =>
    rw [e] at run
    cases s with
    | no => exact run.elim
    | fz w => exact run.elim
    | own o => obtain ⟨v, h⟩ := re.own_at e rfl; exact ⟨v, h, meth_go (r := .io i pp) hK T fr re (.inr ⟨i, pp, rfl, h⟩) run⟩
    | par o => obtain ⟨v, h⟩ := re.own_at e rfl; exact ⟨v, h, meth_go (r := .io i pp) hK T fr re (.inr ⟨i, pp, rfl, h⟩) run⟩
/-! ### a new instance -/
/-- the class's __init__ on a new empty instance -/
def makeF (C : Str) (f : Fn) : Fn := fun os => match f (.ins C [] :: os) with
  | .ok (.fz .non) (o :: os') => .ok o os'
  | .err x (_ :: os') => .err x os'
  | _ => .stuck
/-- what is known of a class that is made -/
def MkOk (X : Cx) (k : Nat) (C : Str) (fn : Fn) : Prop := ∃ f fd ps, Mk X.K (He.ga X.K C) f ∧ FnK X k f fd ps fn ∧ Binds X.K fd ps [] ∧ X.mg C = some (.ref (He.ga X.K C))
theorem run_makeSD {C f : Addr} {sp : Sp} {E : XK} {pins : List (Addr × Obj)} {σ : L2.St} {H : Hp} {s : Shared} {Q : VK} {us : List Value} {vs : List V} (M : Mk X.K C f) (F : FnOk X.prog X.w X.K X.mg X.base (L2.CX X.prog X.w) k f fd ps sp) (hr : Room (k + 1) X.A) (hb : Binds X.K fd ps [])
    (hx : PassesAt (L2.CX X.prog X.w) X σ E) (I : Inv X pins σ H s) (r : Vals vs us)
    (h : ∀ x dx, H x = none → H dx = none → dx ≠ x → sp (.ref x :: vs) (upd (upd H dx (.own x)) x (.ins C dx [])) (fun v H2 => v = .non ∧ Q (.ref x) H2) E) :
    wpAny (model X.prog X.w) X.A (call (.ref C) us) (EP X pins σ Q) X.xe s := by
  have hq := h (s.heap.objs.size + 1) s.heap.objs.size (I.hok.fresh (Nat.le_succ _)) (I.hok.fresh (Nat.le_refl _)) (Nat.ne_of_lt (Nat.lt_succ_self _))
  have I2 := Inv.made (C := C) I
  have r2 : Vals (V.ref (s.heap.objs.size + 1) :: vs) (Value.ref (s.heap.objs.size + 1) :: us) := .cons rfl r
  have hl : (Value.ref (s.heap.objs.size + 1) :: us ++ []).length = ps.length := by
    have e := r2.length
    rw [F.len _ _ _ _ hq] at e
    rw [List.append_nil]
    exact e.symm
  refine wpAny_call (make_map (f := f) I.kIn M.makes M.init (beq_iff_eq.mp M.fn) (codeAny_mono (F.run _ X.stack _ _ ⟨Value.ref (s.heap.objs.size + 1) :: us, []⟩ (Value.ref (s.heap.objs.size + 1) :: us) _ _ E (hr.make C us [])
    (I2.env0.make C us []) (by have := hb _ (Value.ref (s.heap.objs.size + 1) :: us) I2.kIn hl; rwa [List.append_nil] at this) r2 hq) fun r s' hq' => ?_))
  cases r with
  | error e => exact hx pins _ _ e s' I2 hq'
  | ok fl =>
    cases fl with
    | ret u =>
      obtain ⟨v, H', I3, rv, ev, q3⟩ := I2.after hq'
      subst ev
      exact ⟨rv, ⟨V.ref (s.heap.objs.size + 1), H', I3, rfl, q3⟩⟩
    | next => exact False.elim hq'
    | brk => exact False.elim hq'
    | cont => exact False.elim hq'
end
end L3

set_option Elab.async false
set_option linter.all false
set_option maxRecDepth 100000
namespace L3
open PySem PySem.Spec PyProof.Rows L2
section
variable {X : Cx} {c : C3} {pos : Pos}
theorem make_sp {K : PySem.W.Frag} {C : Str} {f : Fn} {vs : List V} {H : Hp} {Q : VK} {E : XK} {x dx : Addr} (h : spF K (makeF C f) vs H Q E) (hx : H x = none) (hd : H dx = none) (ne : dx ≠ x) :
    spF K f (.ref x :: vs) (upd (upd H dx (.own x)) x (.ins (He.ga K C) dx [])) (fun v H2 => v = .non ∧ Q (.ref x) H2) E := by
  obtain ⟨F, os, L, fr, ro, q⟩ := h
  generalize hH : upd (upd H dx (.own x)) x (.ins (He.ga K C) dx []) = H1
  have kp : Sub H H1 := fun a o e => by
    rw [← hH, upd_ne (ne_of_none e hx), upd_ne (ne_of_none e hd)]; exact e
  have mL : Mine H L := by
    have : ∀ {os : List O} {vs : List V} {L : List Addr}, RepOs K F H os vs L → Mine H L := fun h => RepOs.mine _ h
    exact this ro
  have nx : ∀ a ∈ L, a ≠ x ∧ a ≠ dx := fun a ha => by
    obtain ⟨u, hu, _⟩ := mL a ha
    exact ⟨ne_of_none hu hx, ne_of_none hu hd⟩
  have fx : ∀ a, H a = none → F a = none := fun a e => by
    cases z : F a with
    | none => rfl
    | some o => rw [fr.sub a o z] at e; cases e
  have f1 : Fr F H1 (x :: dx :: L) := ⟨fun a o e => kp a o (fr.sub a o e), List.nodup_cons.mpr ⟨fun z => by
      rcases List.mem_cons.mp z with z | z
      · exact ne z.symm
      · exact (nx x z).1 rfl, List.nodup_cons.mpr ⟨fun z => (nx dx z).2 rfl, fr.nd⟩⟩, fun a ha => by
      rcases List.mem_cons.mp ha with rfl | ha
      · exact fx _ hx
      · rcases List.mem_cons.mp ha with rfl | ha
        · exact fx _ hd
        · exact fr.out a ha⟩
  have s1 : Stp F H L F H1 (x :: dx :: L) := ⟨fun _ _ e => e, fun a o e _ => kp a o e, fun a o e => .inl e, fun a ha => by
      rcases List.mem_cons.mp ha with rfl | ha
      · exact .inr hx
      · rcases List.mem_cons.mp ha with rfl | ha
        · exact .inr hd
        · exact .inl ha⟩
  have r1 : RepOs K F H1 (.ins C [] :: os) (.ref x :: vs) (x :: dx :: L) := by
    refine ⟨.ref x, vs, [x, dx], L, rfl, rfl, ⟨x, dx, [], [], rfl, rfl, ?_, ?_, rfl, rfl⟩, RepOs.mono (fun _ _ e => e) os (fun a _ u e => kp a u e) ro⟩
    · rw [← hH, upd_same]
    · rw [← hH, upd_ne ne, upd_same]
  refine ⟨F, .ins C [] :: os, x :: dx :: L, f1, r1, ?_⟩
  unfold makeF at q
  cases hf : f (.ins C [] :: os) with
  | stuck => rw [hf] at q; exact q.elim
  | ok r os1 =>
    rw [hf] at q
    intro v H' F' Lr L' fr' rr ros st
    cases r with
    | fz w =>
      cases w <;> first | exact q.elim | skip
      cases os1 with
      | nil => exact q.elim
      | cons o os' =>
        obtain ⟨eL, ev⟩ := rr
        obtain ⟨v1, r1', M1, M2, e1, e2, ro1, ro2⟩ := ros
        cases e1
        subst eL e2
        exact ⟨ev, q (.ref x) H' F' M1 M2 fr' ro1 ro2 (s1.trans st)⟩
    | _ => exact q.elim
  | err xx os1 =>
    rw [hf] at q
    cases os1 with
    | nil => exact q.elim
    | cons o os' =>
      intro cls d H' F' L' fr' ros rx st
      obtain ⟨v1, r1', M1, M2, e1, e2, ro1, ro2⟩ := ros
      cases e1
      subst e2
      exact q cls d H' F' M2 fr'.drop ro2 rx (s1.trans st).drop
variable {k : Nat} {C : Str} {fn : Fn} {p : Pos} {e : Expr} {es : List Expr} {m : M3 (List AV)}
theorem jo_make (hK : c.K = X.K) (tk : Takes X c.wx) (M : MkOk X k C fn) (hr : Room (k + 1) X.A) (hg : Gl X C)
    (ha : JV X c (e :: es) m) (hdb : (C == ("__debug__" : Str)) = false) (he : starEach (e :: es) X.env = (false, eval e X.env) :: starEach es X.env) (hpl : (backTo pos (starEach es X.env)).any (·.1) = false) : JO X c (.Call (.Name C p) (e :: es) [] pos) (mCall (makeF C fn) m) := by
  obtain ⟨f, fd, ps, mk, G, hb, hm⟩ := M
  refine ⟨fun pins s σ H Q I h => ?_⟩
  have h := tCallG hK h
  refine wpAny_Call_Name_kw (ld_glob I hg hm ?_ hdb)
  refine PySem.W.callWith_K (h₀ := X.base) I.ok.mod.kin mk.kp (thn (ha.run pos pins s σ H _ I h) fun us s1 ⟨vs, H1, I1, r, q⟩ => ⟨I1.kIn, ?_⟩) he hpl
  exact run_makeSD mk G hr hb (passAt tk σ) I1 r fun x dx hx hd ne => make_sp q hx hd ne
theorem jo_make0 (hK : c.K = X.K) (tk : Takes X c.wx) (M : MkOk X k C fn) (hr : Room (k + 1) X.A) (hg : Gl X C)
    (hdb : (C == ("__debug__" : Str)) = false) : JO X c (.Call (.Name C p) [] [] pos) (mCall (makeF C fn) mNil) := by
  obtain ⟨f, fd, ps, mk, G, hb, hm⟩ := M
  refine ⟨fun pins s σ H Q I h => ?_⟩
  obtain ⟨F, ε, L, fr, re, run⟩ := tCallG hK h
  have run := run.now (rel := rAV c) fr re ⟨rfl, (rfl : AVs c.K F σ [] [])⟩
  refine wpAny_Call_Name_kw (ld_glob I hg hm ?_ hdb)
  exact PySem.W.callWith_K0 I.kIn mk.kp (run_makeSD (us := []) mk G hr hb (passAt tk σ) I .nil fun x dx hx hd ne => make_sp run hx hd ne)
theorem jo_meth {pl : Sem Bool} {mth : Str} {t : Str → Option Fn} {o : Expr} {ms : M3 W} {apos : Pos} (hK : c.K = X.K) (tk : Takes X c.wx) (T : MthOk X k mth t) (hr : Room k X.A) (ho : JE X c o ms) (ha : JV X c (e :: es) m)
    (hst : starEach (e :: es) X.env = (false, eval e X.env) :: starEach es X.env) (hpl : (backTo pos (starEach es X.env)).any (·.1) = false)
    (ht : eval (.Call (.Attribute o mth apos) (e :: es) [] pos) X.env = (do
      let ov ← eval o X.env
      standAt apos.atName
      let (f, first) ← holding [ov] (getMethod ov mth pl)
      callWith pos f first (backTo pos (starEach (e :: es) X.env)) (backToKw pos (keywordEach [] X.env)))) :
    JO X c (.Call (.Attribute o mth apos) (e :: es) [] pos) (mMeth mth t (avFz ms) m) :=
  PE.wk (pe_methD ho hr (fun σ => passAt tk σ) ha hst hpl ht) fun _ _ _ q => recvFz hK T q
theorem jo_meth0 {pl : Sem Bool} {mth : Str} {t : Str → Option Fn} {o : Expr} {ms : M3 W} {apos : Pos} (hK : c.K = X.K) (tk : Takes X c.wx) (T : MthOk X k mth t) (hr : Room k X.A) (ho : JE X c o ms)
    (ht : eval (.Call (.Attribute o mth apos) [] [] pos) X.env = (do
      let ov ← eval o X.env
      standAt apos.atName
      let (f, first) ← holding [ov] (getMethod ov mth pl)
      callWith pos f first (backTo pos (starEach [] X.env)) (backToKw pos (keywordEach [] X.env)))) :
    JO X c (.Call (.Attribute o mth apos) [] [] pos) (mMeth mth t (avFz ms) mNil) := by
  refine PE.wk (pe_methD0 ho hr (fun σ => passAt tk σ) ht) fun σ H Q q => ?_
  obtain ⟨F, ε, L, fr, re, run⟩ := recvFz hK T q
  refine ⟨F, ε, L, fr, re, run.mono ?_⟩
  rintro x H1 ⟨a, dx, C, f, fs, fd, ps, sp, h1, h2, h3, h4, h5, h6, h7, F1, ε1, L1, fr1, re1, run1⟩
  exact ⟨a, dx, C, f, fs, fd, ps, sp, h1, h2, h3, h4, h5, h6, h7, run1.now (rel := rAV c) fr1 re1 ⟨rfl, rfl⟩⟩
theorem jo_methIo {pl : Sem Bool} {mth : Str} {t : Str → Option Fn} {i : Nat} {pp : Bool} {x : Str} {px apos : Pos} (hK : c.K = X.K) (tk : Takes X c.wx) (T : MthOk X k mth t) (hr : Room k X.A)
    (hN : X.N[i]? = some x) (hv : Vis X.env.scope x) (hd : (x == ("__debug__" : Str)) = false) (hcd : (x == ("__classdict__" : Str)) = false) (ha : JV X c (e :: es) m)
    (hst : starEach (e :: es) X.env = (false, eval e X.env) :: starEach es X.env) (hpl : (backTo pos (starEach es X.env)).any (·.1) = false)
    (ht : eval (.Call (.Attribute (.Name x px) mth apos) (e :: es) [] pos) X.env = (do
      let ov ← eval (.Name x px) X.env
      standAt apos.atName
      let (f, first) ← holding [ov] (getMethod ov mth pl)
      callWith pos f first (backTo pos (starEach (e :: es) X.env)) (backToKw pos (keywordEach [] X.env)))) :
    JO X c (.Call (.Attribute (.Name x px) mth apos) (e :: es) [] pos) (mMeth mth t (avIo i pp) m) :=
  PE.wk (pe_methD (pe_var hN hv hd hcd) hr (fun σ => passAt tk σ) ha hst hpl ht) fun _ _ _ q => recvIo hK T q
theorem jo_methIo0 {pl : Sem Bool} {mth : Str} {t : Str → Option Fn} {i : Nat} {pp : Bool} {x : Str} {px apos : Pos} (hK : c.K = X.K) (tk : Takes X c.wx) (T : MthOk X k mth t) (hr : Room k X.A)
    (hN : X.N[i]? = some x) (hv : Vis X.env.scope x) (hd : (x == ("__debug__" : Str)) = false) (hcd : (x == ("__classdict__" : Str)) = false)
    (ht : eval (.Call (.Attribute (.Name x px) mth apos) [] [] pos) X.env = (do
      let ov ← eval (.Name x px) X.env
      standAt apos.atName
      let (f, first) ← holding [ov] (getMethod ov mth pl)
      callWith pos f first (backTo pos (starEach [] X.env)) (backToKw pos (keywordEach [] X.env)))) :
    JO X c (.Call (.Attribute (.Name x px) mth apos) [] [] pos) (mMeth mth t (avIo i pp) mNil) := by
  refine PE.wk (pe_methD0 (pe_var hN hv hd hcd) hr (fun σ => passAt tk σ) ht) fun σ H Q q => ?_
  obtain ⟨v, hv', a, dx, C, f, fs, fd, ps, sp, h1, h2, h3, h4, h5, h6, h7, F1, ε1, L1, fr1, re1, run1⟩ := recvIo hK T q
  exact ⟨v, hv', a, dx, C, f, fs, fd, ps, sp, h1, h2, h3, h4, h5, h6, h7, run1.now (rel := rAV c) fr1 re1 ⟨rfl, rfl⟩⟩
end
end L3

set_option Elab.async false
set_option linter.all false
set_option maxRecDepth 100000
namespace L3
open PySem PySem.Spec PyProof.Rows L2
/-! ### what is walked -/
/-- the iterator J yields ws, whatever is added -/
def ItOk (K : PySem.W.Frag) (J : It) (ws : List W) (F' : Hp) : Prop := ∀ (F2 H2 : Hp), Sub F' F2 → Sub F2 H2 →
  (∀ i, ws.length ≤ i → J.stop i H2) ∧ ∀ i w, ws[i]? = some w → J.go i H2 ∧ ∀ x H3, J.yld i H2 x H3 → ∃ F3, Ext F2 H2 F3 H3 ∧ RepF K F3 w x
def tI (c : C3) (m : M3 (List W)) : TI := fun σ H R => ∃ F ε L, Fr F H L ∧ RepE c.K F H c.Pv ε σ L ∧ match m ε with
  | .ok ws ε' => ∀ J H' F' L', Fr F' H' L' → RepE c.K F' H' c.Pv ε' σ L' → Stp F H L F' H' L' → ItOk c.K J ws F' → R J H'
  | .err x ε' => ∀ cls d H' F' L', Fr F' H' L' → RepE c.K F' H' c.Pv ε' σ L' → RepX c.K F' H' x cls d → Stp F H L F' H' L' → c.wx cls d σ H'
  | .stuck => False
abbrev JI (X : Cx) (c : C3) (tg iter : Expr) (m : M3 (List W)) : Prop := PI X tg iter (tI c m)
theorem PI.wk {X : Cx} {tg iter : Expr} {t t' : TI} (h : PI X tg iter t) (w : ∀ σ H R, t' σ H R → t σ H R) : PI X tg iter t' := ⟨fun p s σ H R I q => h.run p s σ H R I (w σ H R q)⟩
section
variable {X : Cx} {c : C3} {pos : Pos} {tg : Expr}
/-- from an expression's value to its items -/
theorem tI_of {β : Type} {α : Type} {rel : Rl α β} {m : M3 α} {g : α → Option (List W)} {σ : L2.St} {H : Hp} {R : It → Hp → Prop} (hr : ∀ σ F H a b La, rel σ F H a b La → La = []) (h : tI c (m.bind fun w => M3.lift (g w)) σ H R) :
    tG c rel m σ H (fun v H1 => ∃ F1 w ws, Sub F1 H1 ∧ rel σ F1 H1 w v [] ∧ g w = some ws ∧ ∀ J F' H', Ext F1 H1 F' H' → ItOk c.K J ws F' → R J H') := by
  obtain ⟨F, ε, L, fr, re, run⟩ := h
  refine ⟨F, ε, L, fr, re, ?_⟩
  unfold M3.bind at run
  cases e : m ε with
  | stuck => rw [e] at run; exact run.elim
  | err x ε' => rw [e] at run; exact run
  | ok w ε' =>
    rw [e] at run
    intro v H' F' La L' fr' re' r st
    obtain rfl := hr _ _ _ _ _ _ r
    rw [List.nil_append] at fr' st
    have run : (match (M3.lift (g w) : M3 (List W)) ε' with
      | .ok ws ε' => ∀ J H' F' L', Fr F' H' L' → RepE c.K F' H' c.Pv ε' σ L' → Stp F H L F' H' L' → ItOk c.K J ws F' → R J H'
      | .err x ε' => ∀ cls d H' F' L', Fr F' H' L' → RepE c.K F' H' c.Pv ε' σ L' → RepX c.K F' H' x cls d → Stp F H L F' H' L' → c.wx cls d σ H'
      | .stuck => False) := run
    cases hg : g w with
    | none => rw [hg] at run; exact run.elim
    | some ws =>
      rw [hg] at run
      exact ⟨F', w, ws, fr'.sub, r, hg, fun J F2 H2 x it => run J H2 F2 L' (x.fr fr' re'.mine) (re'.ext x) (st.trans x.stp) it⟩
def W.lstOf : W → Option (List W)
  | .lst xs => some xs
  | .klst xs => some xs
  | _ => none
def W.tupOf : W → Option (List W)
  | .tup xs => some xs
  | .ktup xs => some xs
  | _ => none
theorem itl_ok {K : PySem.W.Frag} {F' : Hp} {xs : List W} {p : Addr} {vs : List V} (hp : SqL K F' p vs) (r : RepFs K F' xs vs) : ItOk K (Itl K p) xs F' := by
  intro F2 H2 s1 s2
  have hq : SqL K H2 p vs := SqL.mono s2 (SqL.mono s1 hp)
  refine ⟨fun i hi => ⟨vs, hq, by rw [r.length]; exact hi⟩, fun i w hw => ?_⟩
  obtain ⟨v, hv, rv⟩ := r.get hw
  refine ⟨⟨vs, v, hq, hv⟩, fun x H3 ⟨e, y⟩ => ?_⟩
  subst e
  have := y vs hq
  rw [hv] at this
  cases this
  exact ⟨F2, Ext.refl s2, rv.mono s1⟩
theorem itt_ok {K : PySem.W.Frag} {F' H' : Hp} {xs : List W} {p : Addr} {vs : List V} (hp : ∀ H2, Sub F' H2 → SqT K H2 p vs) (r : RepFs K F' xs vs) : ItOk K (Itt K p) xs F' := by
  intro F2 H2 s1 s2
  have hq : SqT K H2 p vs := hp H2 fun a o e => s2 _ _ (s1 _ _ e)
  refine ⟨fun i hi => ⟨vs, hq, by rw [r.length]; exact hi⟩, fun i w hw => ?_⟩
  obtain ⟨v, hv, rv⟩ := r.get hw
  refine ⟨⟨vs, v, hq, hv⟩, fun x H3 ⟨e, y⟩ => ?_⟩
  subst e
  have := y vs hq
  rw [hv] at this
  cases this
  exact ⟨F2, Ext.refl s2, rv.mono s1⟩
def mIter {α : Type} (g : α → Option (List W)) (m : M3 α) : M3 (List W) := m.bind fun w => M3.lift (g w)
theorem ji_list {l : Expr} {m : M3 W} (hK : c.K = X.K) (h : JE X c l m) : JI X c tg l (mIter W.lstOf m) := by
  refine PI.wk (pi_list h) fun σ H R q => ?_
  obtain ⟨F, ε, L, fr, re, run⟩ := tI_of (rel := rW c) (g := W.lstOf) (fun _ _ _ _ _ _ => rW0) q
  refine ⟨F, ε, L, fr, re, run.mono ?_⟩
  rintro v H1 ⟨F1, w, ws, s1, ⟨_, r1⟩, hg, k⟩
  cases w <;> first | (cases hg; done) | skip
  · cases hg
    obtain ⟨p, vs, rfl, hp, rs⟩ := r1
    refine ⟨p, rfl, ⟨vs, SqL.of (s1 _ _ hp)⟩, k _ F1 H1 (Ext.refl s1) ?_⟩
    rw [← hK]
    exact itl_ok (SqL.of hp) rs
  · cases hg
    obtain ⟨p, vs, rfl, hp, rs⟩ := r1
    refine ⟨p, rfl, ⟨vs, by rw [← hK]; exact SqL.mono s1 hp⟩, k _ F1 H1 (Ext.refl s1) ?_⟩
    rw [← hK]
    exact itl_ok hp rs
theorem ji_tup {l : Expr} {m : M3 W} (hK : c.K = X.K) (h : JE X c l m) : JI X c tg l (mIter W.tupOf m) := by
  refine PI.wk (pi_tup h) fun σ H R q => ?_
  obtain ⟨F, ε, L, fr, re, run⟩ := tI_of (rel := rW c) (g := W.tupOf) (fun _ _ _ _ _ _ => rW0) q
  refine ⟨F, ε, L, fr, re, run.mono ?_⟩
  rintro v H1 ⟨F1, w, ws, s1, ⟨_, r1⟩, hg, k⟩
  cases w <;> first | (cases hg; done) | skip
  · cases hg
    obtain ⟨p, vs, rfl, hp, rs⟩ := r1
    refine ⟨p, rfl, ⟨vs, SqT.of (s1 _ _ hp)⟩, k _ F1 H1 (Ext.refl s1) ?_⟩
    rw [← hK]
    exact itt_ok (H' := H1) (fun H2 s => SqT.of (s _ _ hp)) rs
  · cases hg
    obtain ⟨p, vs, rfl, hp, rs⟩ := r1
    refine ⟨p, rfl, ⟨vs, (by rw [← hK]; exact hp.sq s1)⟩, k _ F1 H1 (Ext.refl s1) ?_⟩
    rw [← hK]
    exact itt_ok (H' := H1) (fun H2 s => hp.sq s) rs
/-- lo, lo + c, .. -/
def intsW (lo c : Int) (n : Nat) : List W := (List.range n).map fun (i : Nat) => .int (lo + (i : Int) * c)
theorem ints_get {lo c : Int} {n i : Nat} {w : W} (h : (intsW lo c n)[i]? = some w) : i < n ∧ w = .int (lo + (i : Int) * c) := by
  unfold intsW at h
  rw [List.getElem?_map] at h
  obtain ⟨j, h1, rfl⟩ := Option.map_eq_some_iff.mp h
  obtain ⟨h2, h3⟩ := List.getElem?_eq_some_iff.mp h1
  rw [List.getElem_range] at h3
  rw [List.length_range] at h2
  subst h3
  exact ⟨h2, rfl⟩
theorem ints_len {lo c : Int} {n : Nat} : (intsW lo c n).length = n := by simp [intsW]
theorem itr_ok {K : PySem.W.Frag} {F' : Hp} {lo : Int} {n : Nat} : ItOk K (Itr lo n) (intsW lo 1 n) F' := by
  intro F2 H2 s1 s2
  refine ⟨fun i hi => by rw [ints_len] at hi; exact hi, fun i w hw => ?_⟩
  obtain ⟨h1, rfl⟩ := ints_get hw
  refine ⟨h1, fun x H3 ⟨e, y⟩ => ?_⟩
  subst e y
  exact ⟨F2, Ext.refl s2, by rw [Int.mul_one]; rfl⟩
theorem itc_ok {K : PySem.W.Frag} {F' : Hp} {lo cc : Int} {n : Nat} : ItOk K (Itc lo cc n) (intsW lo cc n) F' := by
  intro F2 H2 s1 s2
  refine ⟨fun i hi => by rw [ints_len] at hi; exact hi, fun i w hw => ?_⟩
  obtain ⟨h1, rfl⟩ := ints_get hw
  refine ⟨h1, fun x H3 ⟨e, y⟩ => ?_⟩
  subst e y
  exact ⟨F2, Ext.refl s2, rfl⟩
def rng1 : List W → Option (List W)
  | [.int j] => if -(2 ^ 62) ≤ j ∧ j < 2 ^ 62 then some (intsW 0 1 j.toNat) else none
  | _ => none
theorem ji_range1 {a : Expr} {m : M3 (List W)} {p : Pos} (hg : Gl X "range") (hm : X.mg "range" = none) (ha : JA X c [a] m) (hs : starEach [a] X.env = [(false, eval a X.env)]) : JI X c tg (.Call (.Name "range" p) [a] [] pos) (mIter rng1 m) := by
  refine PI.wk (pi_range1 hg hm ha hs) fun σ H R q => ?_
  obtain ⟨F, ε, L, fr, re, run⟩ := tI_of (rel := rWs c) (g := rng1) (fun _ _ _ _ _ _ => rWs0) q
  refine ⟨F, ε, L, fr, re, run.mono ?_⟩
  rintro vs H1 ⟨F1, w, ws, s1, ⟨_, r1⟩, hg, k⟩
  unfold rng1 at hg
  split at hg
  · rename_i j
    obtain ⟨h, rfl⟩ := ite_some hg
    obtain ⟨v, r, rfl, rfl, rfl⟩ := r1
    exact ⟨j, rfl, h.1, h.2, k _ F1 H1 (Ext.refl s1) itr_ok⟩
  · cases hg
def rng3 : List W → Option (List W)
  | [.int i, .int j, .int c] => if c ≠ 0 ∧ c.natAbs < 1073741824 ∧ Builtin.Range.small i j c = true ∧ 0 ≤ Builtin.Range.rangeSize i j c then some (intsW i c (Builtin.Range.rangeSize i j c).toNat) else none
  | _ => none
theorem ji_range3 {a b d : Expr} {m : M3 (List W)} {p : Pos} (hg : Gl X "range") (hm : X.mg "range" = none) (ha : JA X c [a, b, d] m)
    (hs : starEach [a, b, d] X.env = (false, eval a X.env) :: starEach [b, d] X.env) (hp : (backTo pos (starEach [b, d] X.env)).any (·.1) = false) : JI X c tg (.Call (.Name "range" p) [a, b, d] [] pos) (mIter rng3 m) := by
  refine PI.wk (pi_range3 hg hm ha hs hp) fun σ H R q => ?_
  obtain ⟨F, ε, L, fr, re, run⟩ := tI_of (rel := rWs c) (g := rng3) (fun _ _ _ _ _ _ => rWs0) q
  refine ⟨F, ε, L, fr, re, run.mono ?_⟩
  rintro vs H1 ⟨F1, w, ws, s1, ⟨_, r1⟩, hg, k⟩
  unfold rng3 at hg
  split at hg
  · rename_i i j z
    obtain ⟨v, r, rfl, rfl, v2, r2, rfl, rfl, v3, r3, rfl, rfl, rfl⟩ := r1
    obtain ⟨h, rfl⟩ := ite_some hg
    exact ⟨i, j, z, _, rfl, ⟨h.1, h.2.1, h.2.2.1, (Int.toNat_of_nonneg h.2.2.2).symm⟩, k _ F1 H1 (Ext.refl s1) itc_ok⟩
  · cases hg
/-- a text, sign by sign -/
def signsW (x : Str) : List W := x.cps.toList.map fun k => .str ⟨#[k]⟩
def W.strOf : W → Option (List W)
  | .str x => some (signsW x)
  | _ => none
theorem its_ok {K : PySem.W.Frag} {F' : Hp} {x : Str} : ItOk K (Its x) (signsW x) F' := by
  intro F2 H2 s1 s2
  refine ⟨fun i hi => (show x.cps.size ≤ i by simpa [signsW] using hi), fun i w hw => ?_⟩
  unfold signsW at hw
  rw [List.getElem?_map] at hw
  obtain ⟨k, h1, rfl⟩ := Option.map_eq_some_iff.mp hw
  have h2 : x.cps[i]? = some k := by simpa using h1
  refine ⟨(Array.getElem?_eq_some_iff.mp h2).1, fun v H3 ⟨e, c, h3, y⟩ => ?_⟩
  subst e y
  rw [h2] at h3
  cases h3
  exact ⟨F2, Ext.refl s2, rfl⟩
theorem ji_str {l : Expr} {m : M3 W} (h : JE X c l m) : JI X c tg l (mIter W.strOf m) := by
  refine PI.wk (pi_str h) fun σ H R q => ?_
  obtain ⟨F, ε, L, fr, re, run⟩ := tI_of (rel := rW c) (g := W.strOf) (fun _ _ _ _ _ _ => rW0) q
  refine ⟨F, ε, L, fr, re, run.mono ?_⟩
  rintro v H1 ⟨F1, w, ws, s1, ⟨_, r1⟩, hg, k⟩
  cases w <;> first | (cases hg; done) | skip
  cases hg
  exact ⟨_, r1, k _ F1 H1 (Ext.refl s1) its_ok⟩
/-- enumerate(list) -/
def enumW (n : Nat) : List W → List W
  | [] => []
  | w :: ws => .tup [.int (n : Int), w] :: enumW (n + 1) ws
theorem enumW_len : ∀ {ws : List W} {n : Nat}, (enumW n ws).length = ws.length
  | [], _ => rfl
  | _ :: ws, n => by rw [enumW, List.length_cons, List.length_cons, enumW_len]
theorem enumW_get : ∀ {ws : List W} {n i : Nat} {w : W}, (enumW n ws)[i]? = some w → ∃ z, ws[i]? = some z ∧ w = .tup [.int ((n + i : Nat) : Int), z]
  | [], _, _, _, h => by simp [enumW] at h
  | z :: ws, n, 0, w, h => by
    simp [enumW] at h
    exact ⟨z, rfl, h.symm⟩
  | z :: ws, n, i + 1, w, h => by
    obtain ⟨y, h1, h2⟩ := enumW_get (ws := ws) (n := n + 1) (i := i) (by simpa [enumW] using h)
    exact ⟨y, by simpa using h1, by rw [h2]; congr 4; omega⟩
theorem ite_ok {K : PySem.W.Frag} {F' : Hp} {xs : List W} {p : Addr} {vs : List V} (hp : F' p = some (.lst vs)) (r : RepFs K F' xs vs) : ItOk K (Ite K p) (enumW 0 xs) F' := by
  intro F2 H2 s1 s2
  have hq : H2 p = some (.lst vs) := s2 _ _ (s1 _ _ hp)
  refine ⟨fun i hi => ⟨vs, SqL.of hq, by rw [r.length]; rw [enumW_len] at hi; exact hi⟩, fun i w hw => ?_⟩
  obtain ⟨z, hz, rfl⟩ := enumW_get hw
  obtain ⟨v, hv, rv⟩ := r.get hz
  refine ⟨⟨vs, v, SqL.of hq, hv⟩, fun x H3 ⟨T, y, e1, e2, e3, e4⟩ => ?_⟩
  subst e1 e3
  have := e4 vs (SqL.of hq)
  rw [hv] at this
  cases this
  obtain ⟨x1, x2⟩ := new_tup (K := K) (xs := [.int ((0 + i : Nat) : Int), z]) (vs := [.int (i : Int), v]) s2 ⟨_, _, rfl, by rw [Nat.zero_add]; rfl, _, _, rfl, rv.mono s1, rfl⟩ e2
  exact ⟨_, x1, x2⟩
def enum1 : List W → Option (List W)
  | [.lst xs] => some (enumW 0 xs)
  | _ => none
theorem ji_enum {e : Expr} {m : M3 (List W)} {p tpos : Pos} {elts : List Expr} {kk : Nat} (hK : c.K = X.K) (hg : Gl X "enumerate") (hm : X.mg "enumerate" = none) (ha : JA X c [e] m) (hs : starEach [e] X.env = [(false, eval e X.env)]) :
    JI X c (.Tuple elts kk tpos) (.Call (.Name "enumerate" p) [e] [] pos) (mIter enum1 m) := by
  refine PI.wk (pi_enum hg hm ha hs) fun σ H R q => ?_
  obtain ⟨F, ε, L, fr, re, run⟩ := tI_of (rel := rWs c) (g := enum1) (fun _ _ _ _ _ _ => rWs0) q
  refine ⟨F, ε, L, fr, re, run.mono ?_⟩
  rintro vs H1 ⟨F1, w, ws, s1, ⟨_, r1⟩, hg, k⟩
  unfold enum1 at hg
  split at hg
  · cases hg
    obtain ⟨v, r, rfl, ⟨p, us, rfl, hp, rs⟩, rfl⟩ := r1
    refine ⟨p, us, rfl, SqL.of (s1 _ _ hp), k _ F1 H1 (Ext.refl s1) ?_⟩
    rw [← hK]
    exact ite_ok hp rs
  · cases hg
/-- a frozen dict: its items, its keys, its values -/
def keyOf : Key → W
  | .inl i => .int i
  | .inr x => .str x
theorem keyOf_ky {k : W} {k' : Key} (h : kyW k = some k') : k = keyOf k' := by cases k <;> first | (cases h; done) | (cases h; rfl)
theorem keyOf_rep {K : PySem.W.Frag} {F : Hp} (k : Key) : RepF K F (keyOf k) (kV k) := by cases k <;> rfl
theorem RepK.get {K : PySem.W.Frag} {F : Hp} : ∀ {kvs : List (W × W)} {ks : List (Key × V)} {i : Nat} {p : W × W}, RepK K F kvs ks → kvs[i]? = some p → ∃ k v, ks[i]? = some (k, v) ∧ p.1 = keyOf k ∧ RepF K F p.2 v
  | [], _, _, _, _, h => by simp at h
  | (w, x) :: kvs, _, 0, p, ⟨k', v, r, e, c, q, t⟩, h => by
    simp at h
    subst h e
    exact ⟨k', v, rfl, keyOf_ky c, q⟩
  | (w, x) :: kvs, _, i + 1, p, ⟨k', v, r, e, c, q, t⟩, h => by
    subst e
    obtain ⟨k, v', h1, h2, h3⟩ := RepK.get (i := i) t (by simpa using h)
    exact ⟨k, v', by simpa using h1, h2, h3⟩
theorem RepK.length {K : PySem.W.Frag} {F : Hp} : ∀ {kvs : List (W × W)} {ks : List (Key × V)}, RepK K F kvs ks → ks.length = kvs.length
  | [], _, h => by rw [show _ = ([] : List (Key × V)) from h]; rfl
  | (w, x) :: kvs, _, ⟨k', v, r, e, c, q, t⟩ => by rw [e, List.length_cons, List.length_cons, RepK.length t]
def itemsK (kvs : List (W × W)) : List W := kvs.map fun p => .tup [p.1, p.2]
def keysK (kvs : List (W × W)) : List W := kvs.map fun p => p.1
def valsK (kvs : List (W × W)) : List W := kvs.map fun p => p.2
theorem map_get {α β : Type} {f : α → β} {l : List α} {i : Nat} {b : β} (h : (l.map f)[i]? = some b) : ∃ a, l[i]? = some a ∧ b = f a := by
  rw [List.getElem?_map] at h
  obtain ⟨a, h1, h2⟩ := Option.map_eq_some_iff.mp h
  exact ⟨a, h1, h2.symm⟩
theorem iti_ok {K : PySem.W.Frag} {F' : Hp} {kvs : List (W × W)} {d : Addr} {od : Obj} {ks : List (Key × V)} (hp : F' d = some (.frz od (.dK ks))) (r : RepK K F' kvs ks) : ItOk K (Iti d od ks) (itemsK kvs) F' := by
  intro F2 H2 s1 s2
  have hq := s2 _ _ (s1 _ _ hp)
  refine ⟨fun i hi => ⟨hq, by rw [r.length]; simpa [itemsK] using hi⟩, fun i w hw => ?_⟩
  obtain ⟨p, hz, rfl⟩ := map_get hw
  obtain ⟨k, v, hv, e1, rv⟩ := r.get hz
  refine ⟨⟨hq, (List.getElem?_eq_some_iff.mp hv).1⟩, fun x H3 ⟨T, k', v', h1, h2, h3, h4⟩ => ?_⟩
  rw [hv] at h1
  cases h1
  subst h2 h4
  obtain ⟨x1, x2⟩ := new_tup (K := K) (xs := [p.1, p.2]) (vs := [kV k, v]) s2 ⟨_, _, rfl, by rw [e1]; exact keyOf_rep k, _, _, rfl, rv.mono s1, rfl⟩ h3
  exact ⟨_, x1, x2⟩
theorem itk_ok {K : PySem.W.Frag} {F' : Hp} {kvs : List (W × W)} {d : Addr} {od : Obj} {ks : List (Key × V)} (hp : F' d = some (.frz od (.dK ks))) (r : RepK K F' kvs ks) : ItOk K (Itk d od ks) (keysK kvs) F' := by
  intro F2 H2 s1 s2
  have hq := s2 _ _ (s1 _ _ hp)
  refine ⟨fun i hi => ⟨hq, by rw [r.length]; simpa [keysK] using hi⟩, fun i w hw => ?_⟩
  obtain ⟨p, hz, rfl⟩ := map_get hw
  obtain ⟨k, v, hv, e1, rv⟩ := r.get hz
  refine ⟨⟨hq, (List.getElem?_eq_some_iff.mp hv).1⟩, fun x H3 ⟨h0, k', v', h1, h2⟩ => ?_⟩
  rw [hv] at h1
  cases h1
  subst h0 h2
  exact ⟨F2, Ext.refl s2, by rw [e1]; exact keyOf_rep k⟩
theorem itd_ok {K : PySem.W.Frag} {F' : Hp} {kvs : List (W × W)} {d : Addr} {od : Obj} {ks : List (Key × V)} (hp : F' d = some (.frz od (.dK ks))) (r : RepK K F' kvs ks) : ItOk K (Itd d od ks) (valsK kvs) F' := by
  intro F2 H2 s1 s2
  have hq := s2 _ _ (s1 _ _ hp)
  refine ⟨fun i hi => ⟨hq, by rw [r.length]; simpa [valsK] using hi⟩, fun i w hw => ?_⟩
  obtain ⟨p, hz, rfl⟩ := map_get hw
  obtain ⟨k, v, hv, e1, rv⟩ := r.get hz
  refine ⟨⟨hq, (List.getElem?_eq_some_iff.mp hv).1⟩, fun x H3 ⟨h0, k', h1⟩ => ?_⟩
  rw [hv] at h1
  cases h1
  subst h0
  exact ⟨F2, Ext.refl s2, rv.mono s1⟩
def W.itemsOf : W → Option (List W)
  | .dct .k kvs => some (itemsK kvs)
  | _ => none
def W.keysOf : W → Option (List W)
  | .dct .k kvs => some (keysK kvs)
  | _ => none
def W.valsOf : W → Option (List W)
  | .dct .k kvs => some (valsK kvs)
  | _ => none
theorem ji_items {e : Expr} {m : M3 W} {apos tpos : Pos} {elts : List Expr} {kk : Nat} (hK : c.K = X.K) (h : JE X c e m) (hb : attributeBase e "items" X.env (eval e X.env) = eval e X.env) (hl : (apos.endLine == pos.line) = true) :
    JI X c (.Tuple elts kk tpos) (.Call (.Attribute e "items" apos) [] [] pos) (mIter W.itemsOf m) := by
  refine PI.wk (pi_items h hb hl) fun σ H R q => ?_
  obtain ⟨F, ε, L, fr, re, run⟩ := tI_of (rel := rW c) (g := W.itemsOf) (fun _ _ _ _ _ _ => rW0) q
  refine ⟨F, ε, L, fr, re, run.mono ?_⟩
  rintro v H1 ⟨F1, w, ws, s1, ⟨_, r1⟩, hg, k⟩
  unfold W.itemsOf at hg
  split at hg
  · cases hg
    obtain ⟨p, ks, od, rfl, hp, rs⟩ := r1
    exact ⟨p, od, ks, rfl, s1 _ _ hp, k _ F1 H1 (Ext.refl s1) (by rw [hK]; rw [hK] at rs; exact iti_ok hp rs)⟩
  · cases hg
theorem ji_keys {e : Expr} {m : M3 W} (h : JE X c e m) : JI X c tg e (mIter W.keysOf m) := by
  refine PI.wk (pi_keys h) fun σ H R q => ?_
  obtain ⟨F, ε, L, fr, re, run⟩ := tI_of (rel := rW c) (g := W.keysOf) (fun _ _ _ _ _ _ => rW0) q
  refine ⟨F, ε, L, fr, re, run.mono ?_⟩
  rintro v H1 ⟨F1, w, ws, s1, ⟨_, r1⟩, hg, k⟩
  unfold W.keysOf at hg
  split at hg
  · cases hg
    obtain ⟨p, ks, od, rfl, hp, rs⟩ := r1
    exact ⟨p, od, rfl, .inl ⟨ks, s1 _ _ hp, k _ F1 H1 (Ext.refl s1) (itk_ok hp rs)⟩⟩
  · cases hg
theorem ji_vals {e : Expr} {m : M3 W} {apos : Pos} (h : JE X c e m) (hb : attributeBase e "values" X.env (eval e X.env) = eval e X.env) (hl : (apos.endLine == pos.line) = true) :
    JI X c tg (.Call (.Attribute e "values" apos) [] [] pos) (mIter W.valsOf m) := by
  refine PI.wk (pi_values h hb hl) fun σ H R q => ?_
  obtain ⟨F, ε, L, fr, re, run⟩ := tI_of (rel := rW c) (g := W.valsOf) (fun _ _ _ _ _ _ => rW0) q
  refine ⟨F, ε, L, fr, re, run.mono ?_⟩
  rintro v H1 ⟨F1, w, ws, s1, ⟨_, r1⟩, hg, k⟩
  unfold W.valsOf at hg
  split at hg
  · cases hg
    obtain ⟨p, ks, od, rfl, hp, rs⟩ := r1
    exact ⟨p, od, ks, rfl, s1 _ _ hp, k _ F1 H1 (Ext.refl s1) (itd_ok hp rs)⟩
  · cases hg
/-! ### targets -/
/-- only the slots is are written -/
def Only (is : List Nat) (σ σ' : L2.St) : Prop := σ'.length = σ.length ∧ ∀ j, j ∉ is → σ'[j]? = σ[j]?
def tT (c : C3) (is : List Nat) (g : W → En → Option En) : TG := fun v σ H Q => ∃ F ε L w, Fr F H L ∧ RepE c.K F H c.Pv ε σ L ∧ RepF c.K F w v ∧ ∃ ε', g w ε = some ε' ∧ ∀ σ' H' F' L', Only is σ σ' → Fr F' H' L' → RepE c.K F' H' c.Pv ε' σ' L' → Stp F H L F' H' L' → Q σ' H'
abbrev JG (X : Cx) (c : C3) (tg : Expr) (is : List Nat) (g : W → En → Option En) : Prop := PG X tg (tT c is g)
theorem PG.wk {tg : Expr} {t t' : TG} (h : PG X tg t) (w : ∀ v σ H Q, t' v σ H Q → t v σ H Q) : PG X tg t' := ⟨fun p s σ H v u Q I r q => h.run p s σ H v u Q I r (w v σ H Q q)⟩
def tgName (i : Nat) : W → En → Option En := fun w ε => setSl i (.fz w) ε
theorem jg_name {i : Nat} {x : Str} (hN : X.N.Nodup) (hi : X.N[i]? = some x) (hx : Loc X.env.scope x) (hf : X.fn x = true ∨ X.env.scope.names.lookup x = some .local) : JG X c (.Name x pos) [i] (tgName i) := by
  refine PG.wk (pg_name hN hi hx hf) fun v σ H Q ⟨F, ε, L, w, fr, re, rw', ε', e, k⟩ => ?_
  obtain ⟨Ld, L', p, re2⟩ := re.setFz e rw'
  exact k _ H F L' ⟨List.length_set, fun j hj => List.getElem?_set_ne fun z => hj (by simp [z])⟩ (fr.perm p).drop re2 (Stp.refl.permR p).drop
def tgAll : List (W → En → Option En) → List W → En → Option En
  | [], [], ε => some ε
  | g :: gs, w :: ws, ε => (g w ε).bind (tgAll gs ws)
  | _, _, _ => none
def tTs (c : C3) (is : List Nat) (g : List W → En → Option En) : TGs := fun vs σ H Q => ∃ F ε L ws, Fr F H L ∧ RepE c.K F H c.Pv ε σ L ∧ RepFs c.K F ws vs ∧ ∃ ε', g ws ε = some ε' ∧ ∀ σ' H' F' L', Only is σ σ' → Fr F' H' L' → RepE c.K F' H' c.Pv ε' σ' L' → Stp F H L F' H' L' → Q σ' H'
abbrev JGs (X : Cx) (c : C3) (ts : List Expr) (is : List Nat) (g : List W → En → Option En) : Prop := PGs X ts (tTs c is g)
theorem PGs.wk {ts : List Expr} {t t' : TGs} (h : PGs X ts t) (w : ∀ v σ H Q, t' v σ H Q → t v σ H Q) : PGs X ts t' := ⟨fun p s σ H v u Q I r q => h.run p s σ H v u Q I r (w v σ H Q q)⟩
theorem jgs_nil : JGs X c [] [] (tgAll []) := PGs.wk pgs_nil fun vs σ H Q ⟨F, ε, L, ws, fr, re, rs, ε', e, k⟩ => by
  cases ws with
  | nil => cases e; exact ⟨rs, k σ H F L ⟨rfl, fun _ _ => rfl⟩ fr re Stp.refl⟩
  | cons w ws => cases e
theorem jgs_cons {e : Expr} {es : List Expr} {i1 i2 : List Nat} {g : W → En → Option En} {gs : List (W → En → Option En)} (h1 : JG X c e i1 g) (h2 : JGs X c es i2 (tgAll gs)) (hs : (assignEach (e :: es) X.env).map (·.2) = assign e X.env :: (assignEach es X.env).map (·.2)) : JGs X c (e :: es) (i1 ++ i2) (tgAll (g :: gs)) := by
  refine PGs.wk (pgs_cons h1 h2 hs) fun vs σ H Q ⟨F, ε, L, ws, fr, re, rs, ε', e, k⟩ => ?_
  cases ws with
  | nil => cases e
  | cons w ws =>
    obtain ⟨v, r, rfl, rv, rt⟩ := rs
    obtain ⟨ε1, e1, e2⟩ := Option.bind_eq_some_iff.mp (show (g w ε).bind (tgAll gs ws) = some ε' from e)
    refine ⟨v, r, rfl, F, ε, L, w, fr, re, rv, ε1, e1, fun σ1 H1 F1 L1 on1 fr1 re1 st1 => ?_⟩
    exact ⟨F1, ε1, L1, ws, fr1, re1, RepFs.mono st1.fsub ws rt, ε', e2, fun σ' H' F' L' on' fr' re' st' => k σ' H' F' L' ⟨on'.1.trans on1.1, fun j hj => by
      rw [List.mem_append, not_or] at hj
      exact (on'.2 j hj.2).trans (on1.2 j hj.1)⟩ fr' re' (st1.trans st')⟩
def tgTup (n : Nat) (gs : List (W → En → Option En)) : W → En → Option En
  | .tup xs, ε => if xs.length = n then tgAll gs xs ε else none
  | .ktup xs, ε => if xs.length = n then tgAll gs xs ε else none
  | _, _ => none
theorem jg_tup {es : List Expr} {k n : Nat} {is : List Nat} {gs : List (W → En → Option En)} (hK : c.K = X.K) (hc : X.calm = true) (h : JGs X c es is (tgAll gs)) (hn : (assignEach es X.env).length = n) (hst : (assignEach es X.env).findIdx? (·.1) = none) : JG X c (.Tuple es k pos) is (tgTup n gs) := by
  refine PG.wk (pg_tup hc h hn hst) fun v σ H Q ⟨F, ε, L, w, fr, re, rw', ε', e, k⟩ => ?_
  have fin : ∀ xs : List W, (if xs.length = n then tgAll gs xs ε else none) = some ε' → (∃ p vs, v = .ref p ∧ SqT c.K H p vs ∧ RepFs c.K F xs vs) → gTup X.K n (tTs c is (tgAll gs)) v σ H Q := fun xs e1 ⟨p, vs, e2, e3, e4⟩ => by
    by_cases hl : xs.length = n
    · rw [if_pos hl] at e1
      exact ⟨p, vs, e2, by rw [← hK]; exact e3, by rw [e4.length]; exact hl, F, ε, L, xs, fr, re, e4, ε', e1, k⟩
    · rw [if_neg hl] at e1; cases e1
  cases w <;> first | (cases e; done) | skip
  · exact fin _ e (rw'.tup_of fr.sub)
  · exact fin _ e (rw'.ktup_of fr.sub)
end
end L3

set_option Elab.async false
set_option linter.all false
set_option maxRecDepth 100000
namespace L3
open PySem PySem.Spec PyProof.Rows L2
/-- the slots that were free ahead are free again -/
def mask : En → En → En
  | .no :: a, _ :: b => .no :: mask a b
  | _ :: a, s :: b => s :: mask a b
  | _, b => b
theorem RepE.mask {K : PySem.W.Frag} {F H : Hp} : ∀ {Pv : List V} {a b : En} {σ : L2.St} {L : List Addr}, RepE K F H Pv b σ L → ∃ Ld L', L.Perm (Ld ++ L') ∧ RepE K F H Pv (L3.mask a b) σ L'
  | Pv, [], b, σ, L, h => ⟨[], L, List.Perm.refl _, by cases b <;> exact h⟩
  | Pv, s :: a, [], σ, L, h => ⟨[], L, List.Perm.refl _, by cases s <;> exact h⟩
  | Pv, s :: a, t :: b, σ, L, h => by
    have keep : ∀ {P : Prop}, (∃ r Lr, RepE K F H Pv.tail b r Lr ∧ P) → P := fun h => h.elim fun _ h => h.elim fun _ h => h.2
    cases t with
    | no =>
      obtain ⟨x, r, rfl, t⟩ := h
      obtain ⟨Ld, L', p, q⟩ := RepE.mask (a := a) t
      refine ⟨Ld, L', p, ?_⟩
      cases s <;> exact ⟨x, r, rfl, q⟩
    | fz w =>
      obtain ⟨x, r, rfl, z, t⟩ := h
      obtain ⟨Ld, L', p, q⟩ := RepE.mask (a := a) t
      refine ⟨Ld, L', p, ?_⟩
      cases s <;> first | exact ⟨_, r, rfl, q⟩ | exact ⟨x, r, rfl, z, q⟩
    | own o =>
      obtain ⟨x, r, L1, L2, rfl, rfl, z, t⟩ := h
      obtain ⟨Ld, L', p, q⟩ := RepE.mask (a := a) t
      cases s with
      | no => exact ⟨L1 ++ Ld, L', by rw [List.append_assoc]; exact p.append_left L1, _, r, rfl, q⟩
      | _ => exact ⟨Ld, L1 ++ L', (p.append_left L1).trans perm3, x, r, L1, L', rfl, rfl, z, q⟩
    | par o =>
      obtain ⟨x, r, L1, L2, rfl, ep, rfl, z, t⟩ := h
      obtain ⟨Ld, L', p, q⟩ := RepE.mask (a := a) t
      cases s with
      | no => exact ⟨L1 ++ Ld, L', by rw [List.append_assoc]; exact p.append_left L1, _, r, rfl, q⟩
      | _ => exact ⟨Ld, L1 ++ L', (p.append_left L1).trans perm3, x, r, L1, L', rfl, ep, rfl, z, q⟩
/-- for: over the items -/
def forL (g : W → En → Option En) (body : MS) (ε0 : En) : List W → MS
  | [], ε => .next ε
  | w :: ws, ε => match g w ε with
    | none => .stuck
    | some ε1 => match body ε1 with
      | .next ε2 => forL g body ε0 ws (mask ε0 ε2)
      | .cnt ε2 => forL g body ε0 ws (mask ε0 ε2)
      | .brk ε2 => .next (mask ε0 ε2)
      | o => o
def sFor (it : M3 (List W)) (g : W → En → Option En) (body : MS) : MS := fun ε => (it ε).out fun ws ε1 => forL g body ε1 ws ε1
/-- while -/
def whL (t : M3 Bool) (body : MS) (ε0 : En) : Nat → MS
  | 0, _ => .stuck
  | n + 1, ε => (t ε).out fun b ε1 => match b with
    | false => .next (mask ε0 ε1)
    | true => match body ε1 with
      | .next ε2 => whL t body ε0 n (mask ε0 ε2)
      | .cnt ε2 => whL t body ε0 n (mask ε0 ε2)
      | .brk ε2 => .next (mask ε0 ε2)
      | o => o
def sWhile (n : Nat) (t : M3 Bool) (body : MS) : MS := fun ε => whL t body ε n ε
section
variable {X : Cx} {c : C3} {pos : Pos} {tg iter : Expr}
theorem mask_run {ε0 ε : En} {σ : L2.St} {F H : Hp} {L : List Addr} (fr : Fr F H L) (re : RepE c.K F H c.Pv ε σ L) : ∃ L', Fr F H L' ∧ RepE c.K F H c.Pv (mask ε0 ε) σ L' ∧ Stp F H L F H L' := by
  obtain ⟨Ld, L', p, q⟩ := re.mask (a := ε0)
  exact ⟨L', (fr.perm p).drop, q, (Stp.refl.permR p).drop⟩
theorem js_for {body : List Stmt} {m : M3 (List W)} {is : List Nat} {g : W → En → Option En} {mb : MS} (hp : PassesOwn (model X.prog X.w) X.A X.env X.xe) (hc : X.calm = true) (hi : JI X c tg iter m) (hg : JG X c tg is g) (hb : JSs X c body mb)
    (hs : ∀ x, foldedSetIterable iter X.env x = pure x) : JS X c (.For tg iter body [] pos) (sFor m g mb) := by
  refine PS.wk (ps_for hp hc hi hg hb hs) fun D σ H ⟨F, ε, L, fr, re, run⟩ => ?_
  refine ⟨F, ε, L, fr, re, ?_⟩
  unfold sFor at run
  cases em : m ε with
  | stuck => rw [em] at run; exact run.elim
  | err x ε' => rw [em] at run; exact fun cls d H' F' L' fr' re' rx st => run cls d σ H' F' L' fr' re' rx st
  | ok ws ε' =>
    rw [em] at run
    intro J H1 F1 L1 fr1 re1 st1 it
    have run1 : RunS c (forL g mb ε' ws ε') F1 H1 L1 D := RunS.shift st1 run
    refine ⟨fun i n σ H => n = ws.length - i ∧ i ≤ ws.length ∧ ∃ F ε L, Fr F H L ∧ RepE c.K F H c.Pv ε σ L ∧ Sub F1 F ∧ RunS c (forL g mb ε' (ws.drop i) ε) F H L D, ⟨_, rfl, Nat.zero_le _, F1, ε', L1, fr1, re1, fun _ _ e => e, run1⟩, ?_⟩
    rintro i n σ2 H2 ⟨rfl, hle, F2, ε2, L2, fr2, re2, s2, run2⟩
    obtain ⟨stop, turn⟩ := it F2 H2 s2 fr2.sub
    by_cases hlt : i < ws.length
    · obtain ⟨go, yld⟩ := turn i ws[i] (List.getElem?_eq_getElem hlt)
      refine .inr ⟨go, fun σ' H' => ∃ F ε L, Fr F H' L ∧ RepE c.K F H' c.Pv ε σ' L ∧ Sub F1 F ∧ RunS c (forL g mb ε' (ws.drop (i + 1)) ε) F H' L D, fun σ' H' q => ⟨ws.length - (i + 1), by omega, rfl, hlt, q⟩, fun x H3 y => ?_⟩
      obtain ⟨F3, ex, rx⟩ := yld x H3 y
      rw [List.drop_eq_getElem_cons hlt] at run2
      unfold forL at run2
      cases eg : g ws[i] ε2 with
      | none => rw [eg] at run2; exact run2.elim
      | some ε3 =>
        rw [eg] at run2
        refine ⟨F3, ε2, L2, ws[i], ex.fr fr2 re2.mine, re2.ext ex, rx, ε3, eg, fun σ4 H4 F4 L4 _ fr4 re4 st4 => ⟨F4, ε3, L4, fr4, re4, ?_⟩⟩
        have st : Stp F2 H2 L2 F4 H4 L4 := ex.stp.trans st4
        have s4 : Sub F1 F4 := fun a o e => st.fsub a o (s2 a o e)
        dsimp only at run2
        cases eb : mb ε3 with
        | stuck => rw [eb] at run2; exact run2.elim
        | ret o ε4 => rw [eb] at run2; exact RunS.shift (m := .ret o ε4) st run2
        | err x ε4 => rw [eb] at run2; exact RunS.shift (m := .err x ε4) st run2
        | next ε4 =>
          rw [eb] at run2
          intro σ5 H5 F5 L5 fr5 re5 st5
          obtain ⟨L6, fr6, re6, st6⟩ := mask_run (ε0 := ε') fr5 re5
          exact ⟨F5, _, L6, fr6, re6, fun a o e => st5.fsub a o (s4 a o e), RunS.shift ((st.trans st5).trans st6) run2⟩
        | cnt ε4 =>
          rw [eb] at run2
          intro σ5 H5 F5 L5 fr5 re5 st5
          obtain ⟨L6, fr6, re6, st6⟩ := mask_run (ε0 := ε') fr5 re5
          exact ⟨F5, _, L6, fr6, re6, fun a o e => st5.fsub a o (s4 a o e), RunS.shift ((st.trans st5).trans st6) run2⟩
        | brk ε4 =>
          rw [eb] at run2
          intro σ5 H5 F5 L5 fr5 re5 st5
          obtain ⟨L6, fr6, re6, st6⟩ := mask_run (ε0 := ε') fr5 re5
          exact run2 σ5 H5 F5 L6 fr6 re6 ((st.trans st5).trans st6)
    · have e : i = ws.length := by omega
      subst e
      rw [List.drop_length] at run2
      exact .inl ⟨stop _ (Nat.le_refl _), run2 σ2 H2 F2 L2 fr2 re2 Stp.refl⟩
theorem js_while {t : Expr} {body : List Stmt} {n : Nat} {mt : M3 Bool} {mb : MS} (hp : PassesOwn (model X.prog X.w) X.A X.env X.xe) (ht : JT X c t mt) (hb : JSs X c body mb) : JS X c (.While t body [] pos) (sWhile n mt mb) := by
  refine PS.wk (ps_while hp ht hb) fun D σ H ⟨F, ε', L, fr, re, run⟩ => ?_
  refine ⟨fun n σ H => ∃ F ε L, Fr F H L ∧ RepE c.K F H c.Pv ε σ L ∧ RunS c (whL mt mb ε' n ε) F H L D, ⟨n, F, ε', L, fr, re, run⟩, ?_⟩
  rintro m σ2 H2 ⟨F2, ε2, L2, fr2, re2, run2⟩
  cases m with
  | zero => exact run2.elim
  | succ m =>
    unfold whL at run2
    refine ⟨F2, ε2, L2, fr2, re2, (RunS.expr (rel := rB) (fun _ _ _ _ _ _ => rB0) run2).mono ?_⟩
    rintro b H3 ⟨F3, ε3, L3, a3, fr3, re3, ⟨_, rfl⟩, st3, run3⟩
    cases a3 with
    | false =>
      rw [if_neg Bool.false_ne_true]
      obtain ⟨L6, fr6, re6, st6⟩ := mask_run (ε0 := ε') fr3 re3
      exact run3 σ2 H3 F3 L6 fr6 re6 st6
    | true =>
      rw [if_pos rfl]
      refine ⟨fun σ' H' => ∃ F ε L, Fr F H' L ∧ RepE c.K F H' c.Pv ε σ' L ∧ RunS c (whL mt mb ε' m ε) F H' L D, fun σ' H' q => ⟨m, Nat.lt_succ_self m, q⟩, F3, ε3, L3, fr3, re3, ?_⟩
      dsimp only at run3
      cases eb : mb ε3 with
      | stuck => rw [eb] at run3; exact run3.elim
      | ret o ε4 => rw [eb] at run3; exact run3
      | err x ε4 => rw [eb] at run3; exact run3
      | next ε4 =>
        rw [eb] at run3
        intro σ5 H5 F5 L5 fr5 re5 st5
        obtain ⟨L6, fr6, re6, st6⟩ := mask_run (ε0 := ε') fr5 re5
        exact ⟨F5, _, L6, fr6, re6, RunS.shift (st5.trans st6) run3⟩
      | cnt ε4 =>
        rw [eb] at run3
        intro σ5 H5 F5 L5 fr5 re5 st5
        obtain ⟨L6, fr6, re6, st6⟩ := mask_run (ε0 := ε') fr5 re5
        exact ⟨F5, _, L6, fr6, re6, RunS.shift (st5.trans st6) run3⟩
      | brk ε4 =>
        rw [eb] at run3
        intro σ5 H5 F5 L5 fr5 re5 st5
        obtain ⟨L6, fr6, re6, st6⟩ := mask_run (ε0 := ε') fr5 re5
        exact run3 σ5 H5 F5 L6 fr6 re6 (st5.trans st6)
end
end L3

set_option Elab.async false
set_option linter.all false
set_option maxRecDepth 100000
namespace L3
open PySem PySem.Spec PyProof.Rows L2
/-- the slots of a block's own names forgotten -/
def wipeE (ε : En) : List Nat → En
  | [] => ε
  | v :: vs => (wipeE ε vs).set v Sl.no
section
variable {K : PySem.W.Frag} {F H : Hp}
theorem RepE.drop1 : ∀ {Pv : List V} {ε : En} {σ : L2.St} {L : List Addr} (i : Nat), RepE K F H Pv ε σ L → ∃ Ld L', L.Perm (Ld ++ L') ∧ RepE K F H Pv (ε.set i Sl.no) (σ.set i none) L'
  | Pv, [], σ, L, i, h => ⟨[], L, List.Perm.refl _, by rw [h.1]; exact ⟨rfl, h.2⟩⟩
  | Pv, .no :: ε, σ, L, 0, ⟨x, r, e, t⟩ => ⟨[], L, List.Perm.refl _, none, r, by rw [e]; rfl, t⟩
  | Pv, .fz w :: ε, σ, L, 0, ⟨x, r, e, z, t⟩ => ⟨[], L, List.Perm.refl _, none, r, by rw [e]; rfl, t⟩
  | Pv, .own o :: ε, σ, L, 0, ⟨x, r, L1, L2, e, eL, z, t⟩ => ⟨L1, L2, by rw [eL], none, r, by rw [e]; rfl, t⟩
  | Pv, .par o :: ε, σ, L, 0, ⟨x, r, L1, L2, e, ep, eL, z, t⟩ => ⟨L1, L2, by rw [eL], none, r, by rw [e]; rfl, t⟩
  | Pv, .no :: ε, σ, L, i + 1, ⟨x, r, e, t⟩ => let ⟨Ld, L', p, q⟩ := RepE.drop1 i t; ⟨Ld, L', p, x, _, by rw [e]; rfl, q⟩
  | Pv, .fz w :: ε, σ, L, i + 1, ⟨x, r, e, z, t⟩ => let ⟨Ld, L', p, q⟩ := RepE.drop1 i t; ⟨Ld, L', p, x, _, by rw [e]; rfl, z, q⟩
  | Pv, .own o :: ε, σ, L, i + 1, ⟨x, r, L1, L2, e, eL, z, t⟩ => let ⟨Ld, L', p, q⟩ := RepE.drop1 i t; ⟨Ld, L1 ++ L', by rw [eL]; exact (p.append_left L1).trans perm3, x, _, L1, L', by rw [e]; rfl, rfl, z, q⟩
  | Pv, .par o :: ε, σ, L, i + 1, ⟨x, r, L1, L2, e, ep, eL, z, t⟩ => let ⟨Ld, L', p, q⟩ := RepE.drop1 i t; ⟨Ld, L1 ++ L', by rw [eL]; exact (p.append_left L1).trans perm3, x, _, L1, L', by rw [e]; rfl, ep, rfl, z, q⟩
theorem RepE.wipe {Pv : List V} {ε : En} {σ : L2.St} : ∀ {vs : List Nat} {L : List Addr}, RepE K F H Pv ε σ L → ∃ Ld L', L.Perm (Ld ++ L') ∧ RepE K F H Pv (wipeE ε vs) (L2.wipe σ vs) L'
  | [], L, h => ⟨[], L, List.Perm.refl _, h⟩
  | v :: vs, L, h => by
    obtain ⟨Ld, L', p, q⟩ := RepE.wipe (vs := vs) h
    obtain ⟨Ld2, L2, p2, q2⟩ := RepE.drop1 v q
    exact ⟨Ld ++ Ld2, L2, p.trans (by rw [List.append_assoc]; exact p2.append_left Ld), q2⟩
theorem RepE.other : ∀ {Pv : List V} {ε : En} {σ σ' : L2.St} {L : List Addr}, RepE K F H Pv ε σ L → σ'.length = σ.length → (∀ i : Nat, ε[i]? = some Sl.no ∨ σ'[i]? = σ[i]?) → RepE K F H Pv ε σ' L
  | Pv, [], σ, σ', L, h, hl, _ => by
    rw [h.1] at hl
    exact ⟨List.length_eq_zero_iff.mp hl, h.2⟩
  | Pv, s :: ε, σ, [], L, h, hl, _ => by
    have := h.len
    rw [← hl] at this
    cases this
  | Pv, s :: ε, σ, y :: σ', L, h, hl, k => by
    have tl : ∀ {r : L2.St}, σ = y :: r ∨ (∃ x, σ = x :: r) → ∀ {L2 : List Addr}, RepE K F H Pv.tail ε r L2 → RepE K F H Pv.tail ε σ' L2 := fun {r} e {L2} t => by
      have e' : ∃ x, σ = x :: r := e.elim (fun z => ⟨y, z⟩) id
      obtain ⟨x, rfl⟩ := e'
      refine RepE.other t (by simpa using hl) fun i => ?_
      have := k (i + 1)
      simpa using this
    have hd : s = .no ∨ (∀ {x : Option V} {r : L2.St}, σ = x :: r → y = x) := by
      rcases k 0 with z | z
      · left; simpa using z
      · right
        intro x r e
        rw [e] at z
        simpa using z
    cases s with
    | no => obtain ⟨x, r, e, t⟩ := h; exact ⟨y, σ', rfl, tl (.inr ⟨x, e⟩) t⟩
    | fz w =>
      obtain ⟨x, r, e, z, t⟩ := h
      rcases hd with q | q
      · cases q
      · exact ⟨x, σ', by rw [q e], z, tl (.inr ⟨_, e⟩) t⟩
    | own o =>
      obtain ⟨x, r, L1, L2, e, eL, z, t⟩ := h
      rcases hd with q | q
      · cases q
      · exact ⟨x, σ', L1, L2, by rw [q e], eL, z, tl (.inr ⟨_, e⟩) t⟩
    | par o =>
      obtain ⟨x, r, L1, L2, e, ep, eL, z, t⟩ := h
      rcases hd with q | q
      · cases q
      · exact ⟨x, σ', L1, L2, by rw [q e], ep, eL, z, tl (.inr ⟨_, e⟩) t⟩
theorem wipeE_len (ε : En) : ∀ vs : List Nat, (wipeE ε vs).length = ε.length
  | [] => rfl
  | v :: vs => by unfold wipeE; rw [List.length_set, wipeE_len ε vs]
theorem wipe_at {ε : En} {σ : L2.St} (hl : σ.length = ε.length) {i : Nat} : ∀ {vs : List Nat}, (wipeE ε vs)[i]? = some Sl.no ∨ σ[i]? = (L2.wipe σ vs)[i]?
  | [] => .inr rfl
  | v :: vs => by
    unfold wipeE L2.wipe
    by_cases e : v = i
    · subst e
      by_cases h : v < ε.length
      · left
        rw [List.getElem?_set_self (by rw [wipeE_len]; exact h)]
      · right
        rw [List.getElem?_eq_none (by omega), List.getElem?_eq_none (by rw [List.length_set, L2.wipe_length]; omega)]
    · rw [List.getElem?_set_ne e, List.getElem?_set_ne e]
      exact wipe_at hl
theorem RepE.unwipe {Pv : List V} {ε : En} {σ : L2.St} {vs : List Nat} {L : List Addr} (h : RepE K F H Pv (wipeE ε vs) (L2.wipe σ vs) L) : RepE K F H Pv (wipeE ε vs) σ L := by
  have e := h.len
  rw [L2.wipe_length, wipeE_len] at e
  exact h.other (by rw [L2.wipe_length]) fun i => wipe_at e
end
/-- no exception -/
def Res.quiet {α : Type} : Res α → Res α
  | .err _ _ => .stuck
  | r => r
/-- [elt for .. in .. if ..] -/
def compL (g : W → En → Option En) (t : M3 Bool) (e : M3 W) (vs : List Nat) : List W → List W → M3 (List W)
  | [], acc, ε => .ok acc ε
  | w :: ws, acc, ε => match g w ε with
    | none => .stuck
    | some ε1 => (t ε1).quiet.bind fun b ε2 => match b with
      | true => (e ε2).quiet.bind fun y ε3 => if acc.length < sizeLine then compL g t e vs ws (acc ++ [y]) (wipeE ε3 vs) else .stuck
      | false => compL g t e vs ws acc (wipeE ε2 vs)
def mComp (it : M3 (List W)) (g : W → En → Option En) (t : M3 Bool) (e : M3 W) (vs : List Nat) : M3 W := it.bind fun ws ε => (compL g t e vs ws [] (wipeE ε vs)).bind fun acc ε => .ok (.lst acc) ε
abbrev C3.blk (c : C3) : C3 := ⟨c.K, c.Pv, fun _ _ _ _ => False⟩
abbrev JTs (X : Cx) (c : C3) (ts : List Expr) (m : M3 Bool) : Prop := PTs X ts (tG c rB m)
theorem run_quiet {α β γ δ : Type} {c : C3} {rel : Rl α β} {relC : Rl γ δ} {m : Res α} {f : α → M3 γ} {F H Fz Hz : Hp} {L Lz : List Addr} {σ σ2 : L2.St} {Q : δ → Hp → Prop} (h : Run c relC (m.quiet.bind f) F H L σ Q) :
    Run c.blk rel m Fz Hz Lz σ2 (fun b H1 => ∃ F1 ε1 L1 a, Fr F1 H1 L1 ∧ RepE c.K F1 H1 c.Pv ε1 σ2 L1 ∧ (∃ La, Fr F1 H1 (La ++ L1) ∧ rel σ2 F1 H1 a b La ∧ Stp Fz Hz Lz F1 H1 (La ++ L1)) ∧ Run c relC (f a ε1) F H L σ Q) := by
  cases m with
  | ok a ε => exact fun b H' F' La L' fr re r st => ⟨F', ε, L', a, fr.drop, re, ⟨La, fr, r, st⟩, h⟩
  | err x ε => exact h.elim
  | stuck => exact h.elim
theorem upd_id {H : Hp} {D : Addr} {o : HO} (h : H D = some o) : H = upd H D o := by
  funext a
  by_cases q : a = D
  · subst q; rw [upd_same, h]
  · rw [upd_ne q]
theorem only_wipe {is vs : List Nat} {σ σ' : L2.St} (h : Only is σ σ') (sub : ∀ i ∈ is, i ∈ vs) : L2.wipe σ' vs = L2.wipe σ vs := by
  have at_ : ∀ {τ : L2.St} {i : Nat}, (L2.wipe τ vs)[i]? = if i ∈ vs ∧ i < τ.length then some none else τ[i]? := by
    intro τ i
    clear sub
    induction vs with
    | nil => simp [L2.wipe]
    | cons v vs ih =>
      unfold L2.wipe
      by_cases e : v = i
      · subst e
        by_cases hl : v < τ.length
        · rw [List.getElem?_set_self (by rw [L2.wipe_length]; exact hl), if_pos ⟨List.mem_cons_self, hl⟩]
        · rw [if_neg fun z => hl z.2, List.getElem?_eq_none (by rw [List.length_set, L2.wipe_length]; omega), List.getElem?_eq_none (by omega)]
      · rw [List.getElem?_set_ne e, ih]
        have : (i ∈ v :: vs ∧ i < τ.length) ↔ (i ∈ vs ∧ i < τ.length) := by
          rw [List.mem_cons]
          exact and_congr_left fun _ => ⟨fun z => z.elim (fun q => absurd q.symm e) id, .inr⟩
        simp only [this]
  apply List.ext_getElem?
  intro i
  rw [at_, at_, h.1]
  by_cases hv : i ∈ vs ∧ i < σ.length
  · rw [if_pos hv, if_pos hv]
  · rw [if_neg hv, if_neg hv]
    by_cases hi : i ∈ is
    · have := sub i hi
      have hl : σ.length ≤ i := by
        by_cases z : i < σ.length
        · exact absurd ⟨this, z⟩ hv
        · omega
      rw [List.getElem?_eq_none hl, List.getElem?_eq_none (by rw [h.1]; exact hl)]
    · exact h.2 i hi
theorem wipe_wipe {σ : L2.St} {vs : List Nat} : L2.wipe (L2.wipe σ vs) vs = L2.wipe σ vs := only_wipe (is := vs) ⟨L2.wipe_length _ _, fun j hj => by
  induction vs with
  | nil => rfl
  | cons v vs ih =>
    rw [List.mem_cons, not_or] at hj
    unfold L2.wipe
    rw [List.getElem?_set_ne (Ne.symm hj.1)]
    exact ih hj.2⟩ fun _ h => h
section
variable {X : Cx} {c : C3} {pos : Pos}
theorem je_lc {elt tg iter : Expr} {ifs : List Expr} {scope : Scope} {own : List (Str × Nat)} {is : List Nat} {m : M3 (List W)} {g : W → En → Option En} {t : M3 Bool} {e : M3 W} (hc : X.calm = true) (hN : X.N.Nodup) (hi : JI X c tg iter m) (ok : BlkOk X.N X.env.scope scope own)
    (sub : ∀ i ∈ is, i ∈ own.map (·.2))
    (hg : ∀ (s : Shared) (H : Hp) (C : Addr) (cl : List (Str × Addr)) (fp : List Addr), JG (X.blk s H scope (compEnvC scope cl C X.env) fp) c.blk tg is g) (ht : ∀ (s : Shared) (H : Hp) (C : Addr) (cl : List (Str × Addr)) (fp : List Addr), JTs (X.blk s H scope (compEnvC scope cl C X.env) fp) c.blk ifs t)
    (he : ∀ (s : Shared) (H : Hp) (C : Addr) (cl : List (Str × Addr)) (fp : List Addr), JE (X.blk s H scope (compEnvC scope cl C X.env) fp) c.blk elt e) (hs : ∀ x, foldedSetIterable iter X.env x = pure x) :
    JE X c (.ListComp elt [⟨tg, iter, ifs, 0⟩] scope pos) (mComp m g t e (own.map (·.2))) := by
  refine PE.wk (pe_lc hc hN hi ok hg ht he hs) fun σ H Q ⟨F, ε, L, fr, re, run⟩ => ?_
  generalize own.map (·.2) = vs at *
  refine ⟨F, ε, L, fr, re, ?_⟩
  unfold mComp M3.bind at run
  cases em : m ε with
  | stuck => rw [em] at run; exact run.elim
  | err x ε' => rw [em] at run; exact run
  | ok ws ε' =>
    rw [em] at run
    intro J H1 F1 L1 fr1 re1 st1 it D hD
    have run1 : Run c (rW c) ((compL g t e vs ws [] (wipeE ε' vs)).bind fun acc ε => .ok (.lst acc) ε) F1 H1 L1 σ Q := Run.shift st1 run
    obtain ⟨Ld, L1', p1, re1'⟩ := re1.wipe (vs := vs)
    have fD : F1 D = none := by
      cases z : F1 D with
      | none => rfl
      | some o => rw [fr1.sub _ _ z] at hD; cases hD
    have fr1' : Fr F1 H1 L1' := (fr1.perm p1).drop
    have frD : Fr F1 (upd H1 D (.lst [])) (L1' ++ [D]) := ⟨fun a o z => by rw [upd_ne (ne_of_none z fD)]; exact fr1.sub a o z, List.nodup_append.mpr ⟨fr1'.nd, by simp, fun a ha b hb q => by
        rw [List.mem_singleton] at hb
        subst hb q
        obtain ⟨u, hu, _⟩ := re1'.mine a ha
        rw [hD] at hu; cases hu⟩, fun a ha => by
        rcases List.mem_append.mp ha with ha | ha
        · exact fr1'.out a ha
        · rw [List.mem_singleton] at ha; rw [ha]; exact fD⟩
    have stD : Stp F1 H1 L1 F1 (upd H1 D (.lst [])) (L1' ++ [D]) := ⟨fun _ _ z => z, fun a o z _ => by rw [upd_ne (ne_of_none z hD)]; exact z, fun a o z => .inl z, fun a ha => by
        rcases List.mem_append.mp ha with ha | ha
        · exact .inl (p1.mem_iff.mpr (List.mem_append_right _ ha))
        · rw [List.mem_singleton] at ha; rw [ha]; exact .inr hD⟩
    refine ⟨fun i n H => n = ws.length - i ∧ i ≤ ws.length ∧ ∃ F ε0 L acc accv, Fr F H (L ++ [D]) ∧ RepE c.K F H c.Pv (wipeE ε0 vs) (L2.wipe σ vs) L ∧ H D = some (.lst accv) ∧ RepFs c.K F acc accv ∧ Sub F1 F ∧
      Run c (rW c) ((compL g t e vs (ws.drop i) acc (wipeE ε0 vs)).bind fun acc ε => .ok (.lst acc) ε) F H (L ++ [D]) σ Q, ⟨_, rfl, Nat.zero_le _, F1, ε', L1', [], [], frD, ?_, upd_same, rfl, fun _ _ z => z, Run.shift stD run1⟩, ?_⟩
    · exact re1'.mono (fun _ _ z => z) fun a ha u z => by rw [upd_ne (ne_of_none z hD)]; exact z
    rintro i n H2 ⟨rfl, hle, F2, ε2, Lb, acc, accv, fr2, re2, hD2, ra, s2, run2⟩
    have fr2' : Fr F2 H2 Lb := ⟨fr2.sub, (List.nodup_append.mp fr2.nd).1, fun a ha => fr2.out a (List.mem_append_left _ ha)⟩
    have mD : ∀ {H : Hp}, H D = some (.lst accv) → Mine H [D] := fun h => Mine.cons h (fun _ z => nomatch z) Mine.nil
    obtain ⟨stop, turn⟩ := it F2 H2 s2 fr2.sub
    by_cases hlt : i < ws.length
    · obtain ⟨go, yld⟩ := turn i ws[i] (List.getElem?_eq_getElem hlt)
      rw [List.drop_eq_getElem_cons hlt] at run2
      unfold compL at run2
      refine .inr ⟨go, fun H => ∃ F ε0 L acc accv, Fr F H (L ++ [D]) ∧ RepE c.K F H c.Pv (wipeE ε0 vs) (L2.wipe σ vs) L ∧ H D = some (.lst accv) ∧ RepFs c.K F acc accv ∧ Sub F1 F ∧
        Run c (rW c) ((compL g t e vs (ws.drop (i + 1)) acc (wipeE ε0 vs)).bind fun acc ε => .ok (.lst acc) ε) F H (L ++ [D]) σ Q, fun H' q => ⟨ws.length - (i + 1), by omega, rfl, hlt, q⟩, fun x H3 y => ?_⟩
      obtain ⟨F3, ex, rx⟩ := yld x H3 y
      cases eg : g ws[i] (wipeE ε2 vs) with
      | none => rw [eg] at run2; exact run2.elim
      | some ε3 =>
        rw [eg] at run2
        dsimp only at run2
        refine ⟨F3, wipeE ε2 vs, Lb, ws[i], ex.fr fr2' re2.mine, re2.ext ex, rx, ε3, eg, fun σ4 H4 F4 L4 on4 fr4 re4 st4 => ⟨(only_wipe on4 sub).trans wipe_wipe, F4, ε3, L4, fr4, re4, ?_⟩⟩
        have st : Stp F2 H2 Lb F4 H4 L4 := ex.stp.trans st4
        rw [Res.bind_assoc] at run2
        refine (run_quiet (Lz := L4) (σ2 := σ4) run2).mono ?_
        rintro b H5 ⟨F5, ε5, L5, b5, fr5, re5, ⟨La5, _, ⟨rfl, rfl⟩, st5⟩, run5⟩
        have st25 : Stp F2 H2 Lb F5 H5 L5 := st.trans st5
        -- the next turn's state
        have nxt : ∀ {F6 H6 : Hp} {ε6 : En} {L6 : List Addr} {acc' : List W} {accv' : List V}, Fr F6 H6 L6 → RepE c.K F6 H6 c.Pv ε6 σ4 L6 → Stp F2 H2 Lb F6 H6 L6 → RepFs c.K F6 acc' accv' →
            Run c (rW c) ((compL g t e vs (ws.drop (i + 1)) acc' (wipeE ε6 vs)).bind fun acc ε => .ok (.lst acc) ε) F2 H2 (Lb ++ [D]) σ Q → ∀ H7, H7 = upd H6 D (.lst accv') →
            ∃ F ε0 L acc accv, Fr F H7 (L ++ [D]) ∧ RepE c.K F H7 c.Pv (wipeE ε0 vs) (L2.wipe σ vs) L ∧ H7 D = some (.lst accv) ∧ RepFs c.K F acc accv ∧ Sub F1 F ∧
              Run c (rW c) ((compL g t e vs (ws.drop (i + 1)) acc (wipeE ε0 vs)).bind fun acc ε => .ok (.lst acc) ε) F H7 (L ++ [D]) σ Q := by
          intro F6 H6 ε6 L6 acc' accv' fr6 re6 st6 ra6 run6 H7 e7
          obtain ⟨frP, stP, kD⟩ := fr2.part (mD hD2) fr6 st6
          have hD6 : H6 D = some (.lst accv) := kD D (List.mem_singleton.mpr rfl) _ hD2
          have fD6 : F6 D = none := frP.out D (List.mem_append_right _ (List.mem_singleton.mpr rfl))
          obtain ⟨Ld7, L7, p7, re7⟩ := re6.wipe (vs := vs)
          rw [(only_wipe on4 sub).trans wipe_wipe] at re7
          have pp : (L6 ++ [D]).Perm (Ld7 ++ (L7 ++ [D])) := by
            rw [← List.append_assoc]
            exact p7.append_right [D]
          have fr7 : Fr F6 H6 (L7 ++ [D]) := (frP.perm pp).drop
          have st7 : Stp F2 H2 (Lb ++ [D]) F6 H6 (L7 ++ [D]) := (stP.permR pp).drop
          have nD : ∀ a ∈ L7, a ≠ D := fun a ha z => (List.nodup_append.mp fr7.nd).2.2 a ha D (List.mem_singleton.mpr rfl) z
          refine ⟨F6, ε6, L7, acc', accv', ⟨fun a o z => ?_, fr7.nd, fr7.out⟩, ?_, by rw [e7, upd_same], ra6, fun a o z => st6.fsub a o (s2 a o z), ?_⟩
          · rw [e7, upd_ne fun q => by rw [q, fD6] at z; cases z]; exact fr7.sub a o z
          · exact re7.mono (fun _ _ z => z) fun a ha u z => by rw [e7, upd_ne (nD a ha)]; exact z
          · refine Run.shift (st7.trans ⟨fun _ _ z => z, fun a o z n => ?_, fun a o z => .inl z, fun a ha => .inl ha⟩) run6
            rw [e7, upd_ne fun q => n (by rw [q]; exact List.mem_append_right _ (List.mem_singleton.mpr rfl))]; exact z
        cases b5 with
        | false =>
          rw [if_neg Bool.false_ne_true]
          obtain ⟨frP, stP, kD⟩ := fr2.part (mD hD2) fr5 st25
          have hD5 : H5 D = some (.lst accv) := kD D (List.mem_singleton.mpr rfl) _ hD2
          exact nxt fr5 re5 st25 (RepFs.mono st25.fsub acc ra) run5 H5 (upd_id hD5)
        | true =>
          rw [if_pos rfl]
          refine ⟨F5, ε5, L5, fr5, re5, ?_⟩
          have run5 := run5
          dsimp only at run5
          rw [Res.bind_assoc] at run5
          refine (run_quiet (Lz := L5) (σ2 := σ4) run5).mono ?_
          rintro yv H6 ⟨F6, ε6, L6, yw, fr6, re6, ⟨La6, _, ⟨rfl, ry⟩, st6⟩, run6⟩
          have st26 : Stp F2 H2 Lb F6 H6 L6 := st25.trans st6
          obtain ⟨frP, stP, kD⟩ := fr2.part (mD hD2) fr6 st26
          have hD6 : H6 D = some (.lst accv) := kD D (List.mem_singleton.mpr rfl) _ hD2
          by_cases hz : acc.length < sizeLine
          · rw [if_pos hz] at run6
            exact ⟨accv, hD6, by rw [ra.length]; exact hz, nxt fr6 re6 st26 ((RepFs.mono st26.fsub acc ra).append (ys := [yw]) (us := [yv]) ⟨_, _, rfl, ry, rfl⟩) run6 _ rfl⟩
          · rw [if_neg hz] at run6
            exact run6.elim
    · have ei : i = ws.length := by omega
      subst ei
      rw [List.drop_length] at run2
      unfold compL at run2
      refine .inl ⟨stop _ (Nat.le_refl _), ?_⟩
      have re2' := re2.unwipe
      have fD2 : F2 D = none := fr2.out D (List.mem_append_right _ (List.mem_singleton.mpr rfl))
      refine run2 (.ref D) H2 (upd F2 D (.lst accv)) [] Lb ⟨fun a o z => ?_, fr2'.nd, fun a ha => ?_⟩ (re2'.mono (fun a o z => by rw [upd_ne (ne_of_none z fD2)]; exact z) fun _ _ _ z => z)
        ⟨rfl, D, accv, rfl, upd_same, RepFs.mono (fun a o z => by rw [upd_ne (ne_of_none z fD2)]; exact z) acc ra⟩ ⟨fun a o z => by rw [upd_ne (ne_of_none z fD2)]; exact z, fun a o z _ => z, fun a o z => ?_, fun a ha => .inl (List.mem_append_left _ ha)⟩
      · by_cases q : a = D
        · subst q; rw [upd_same] at z; cases z; exact hD2
        · rw [upd_ne q] at z; exact fr2.sub a o z
      · have q : a ≠ D := fun z => (List.nodup_append.mp fr2.nd).2.2 a ha D (List.mem_singleton.mpr rfl) z
        rw [upd_ne q]; exact fr2'.out a ha
      · by_cases q : a = D
        · exact .inr (.inl (by rw [q]; exact List.mem_append_right _ (List.mem_singleton.mpr rfl)))
        · rw [upd_ne q] at z; exact .inl z
end
end L3

set_option Elab.async false
set_option linter.all false
set_option maxRecDepth 100000
namespace L3
open PySem PySem.Spec PyProof.Rows L2
/-! ### built-ins by values -/
def CallG (K : PySem.W.Frag) (r : List V → Hp → VK → Prop) (g : List W → Option W) : Prop := ∀ (F H : Hp) (ws : List W) (w : W) (vs : List V) (Q : VK), Sub F H → RepFs K F ws vs → g ws = some w → (∀ v F' H', Ext F H F' H' → RepF K F' w v → Q v H') → r vs H Q
def mBi (g : List W → Option W) (m : M3 (List W)) : M3 W := m.bind fun ws => M3.lift (g ws)
section
variable {X : Cx} {c : C3} {pos : Pos}
theorem tBiG {m : M3 (List W)} {r : List V → Hp → VK → Prop} {g : List W → Option W} (hg : CallG c.K r g) {σ : L2.St} {H : Hp} {Q : VK} (h : tG c (rW c) (mBi g m) σ H Q) : tG c (rWs c) m σ H (fun vs H1 => r vs H1 Q) := by
  obtain ⟨F, ε, L, fr, re, run⟩ := h
  refine ⟨F, ε, L, fr, re, (Run.seq (rel := rWs c) (fun _ _ _ _ _ _ => rWs0) run).mono ?_⟩
  rintro vs H1 ⟨F1, ε1, L1, ws, fr1, re1, ⟨_, r1⟩, st1, run1⟩
  obtain ⟨w, e, run1⟩ := lift_some run1
  exact hg F1 H1 ws w vs Q fr1.sub r1 e fun v F' H' x rv => run1.give fr1 re1 x ⟨rfl, rv⟩
theorem je_bi {id : String} {r : List V → Hp → VK → Prop} {g : List W → Option W} {x : Str} {p : Pos} {e : Expr} {es : List Expr} {m : M3 (List W)} (hc : CallR X (.builtin id) r) (hG : CallG c.K r g) (hg : Gl X x) (hm : X.mg x = none) (hv : bootBuiltins x = some (.builtin id)) (ha : JA X c (e :: es) m)
    (hn : x ≠ "__name__") (hdb : (x == ("__debug__" : Str)) = false) (he : starEach (e :: es) X.env = (false, eval e X.env) :: starEach es X.env) (hpl : (backTo pos (starEach es X.env)).any (·.1) = false) : JE X c (.Call (.Name x p) (e :: es) [] pos) (mBi g m) :=
  PE.wk (pe_callB hc hg hm hv ha hn hdb he hpl) fun _ _ _ q => tBiG hG q
theorem je_ty {T : String} {r : List V → Hp → VK → Prop} {g : List W → Option W} {x : Str} {p : Pos} {e : Expr} {es : List Expr} {m : M3 (List W)} (hc : CallR X (.type T) r) (hG : CallG c.K r g) (hg : Gl X x) (hm : X.mg x = none) (hv : bootBuiltins x = some (.type T)) (ha : JA X c (e :: es) m)
    (hn : x ≠ "__name__") (hdb : (x == ("__debug__" : Str)) = false) (he : starEach (e :: es) X.env = (false, eval e X.env) :: starEach es X.env) (hpl : (backTo pos (starEach es X.env)).any (·.1) = false) : JE X c (.Call (.Name x p) (e :: es) [] pos) (mBi g m) :=
  PE.wk (pe_callTy hc hg hm hv ha hn hdb he hpl) fun _ _ _ q => tBiG hG q
def W.len : List W → Option W
  | [.str x] => if x.length ≤ sizeLine then some (.int x.length) else none
  | [.lst xs] => some (.int xs.length)
  | [.tup xs] => some (.int xs.length)
  | [.ktup xs] => some (.int xs.length)
  | _ => none
variable {K : PySem.W.Frag}
theorem one {F : Hp} {w : W} {vs : List V} (r : RepFs K F [w] vs) : ∃ v, vs = [v] ∧ RepF K F w v := by
  obtain ⟨v, r', rfl, h, rfl⟩ := r
  exact ⟨v, rfl, h⟩
theorem g_len : CallG K (fun xs H Q => ∃ x n, xs = [x] ∧ LenV K x H n ∧ Q (.int n) H) W.len := by
  intro F H ws w vs Q s r e k
  unfold W.len at e
  split at e
  · obtain ⟨hz, rfl⟩ := ite_some e
    obtain ⟨v, rfl, h⟩ := one r
    rw [show v = .str _ from h]
    exact ⟨_, _, rfl, ⟨hz, rfl⟩, k _ F H (Ext.refl s) rfl⟩
  · cases e
    obtain ⟨v, rfl, h⟩ := one r
    obtain ⟨p, us, rfl, hp, rs⟩ := h.lst_of s
    exact ⟨_, us.length, rfl, .inl ⟨us, SqL.of hp, rfl⟩, k _ F H (Ext.refl s) (by rw [rs.length]; rfl)⟩
  · cases e
    obtain ⟨v, rfl, h⟩ := one r
    obtain ⟨p, us, rfl, hp, rs⟩ := h.tup_of s
    exact ⟨_, us.length, rfl, .inr ⟨us, hp, rfl⟩, k _ F H (Ext.refl s) (by rw [rs.length]; rfl)⟩
  · cases e
    obtain ⟨v, rfl, h⟩ := one r
    obtain ⟨p, us, rfl, hp, rs⟩ := h.ktup_of s
    exact ⟨_, us.length, rfl, .inr ⟨us, hp, rfl⟩, k _ F H (Ext.refl s) (by rw [rs.length]; rfl)⟩
  · cases e
def W.absI : List W → Option W
  | [.int i] => some (.int (if i < 0 then -i else i))
  | _ => none
theorem g_abs : CallG K (fun xs H Q => ∃ i, xs = [.int i] ∧ Q (.int (if i < 0 then -i else i)) H) W.absI := by
  intro F H ws w vs Q s r e k
  unfold W.absI at e
  split at e
  · cases e
    obtain ⟨v, rfl, h⟩ := one r
    rw [show v = .int _ from h]
    exact ⟨_, rfl, k _ F H (Ext.refl s) rfl⟩
  · cases e
/-- int(x): an int, a bool, a text -/
def W.toInt : List W → Option W
  | [.int i] => some (.int i)
  | [.bl b] => some (.int (if b then 1 else 0))
  | [.str x] => if x.length ≤ 640 then (PySem.intText? x).map .int else none
  | _ => none
abbrev rToInt : List V → Hp → VK → Prop := fun xs H Q => ((∃ i, xs = [.int i] ∧ Q (.int i) H) ∨ ∃ k, xs = [.bl k] ∧ Q (.int (if k then 1 else 0)) H) ∨ ∃ a n, xs = [.str a] ∧ PySem.intText? a = some n ∧ a.length ≤ 640 ∧ Q (.int n) H
theorem CallR.or {f : Value} {r r' : List V → Hp → VK → Prop} (h : CallR X f r) (h' : CallR X f r') : CallR X f (fun xs H Q => r xs H Q ∨ r' xs H Q) := by
  intro pins s σ H xs us Q I rx q
  rcases q with q | q
  · exact h pins s σ H xs us Q I rx q
  · exact h' pins s σ H xs us Q I rx q
theorem call_toInt : CallR X (.type "int") rToInt := CallR.or call_int1 call_int_str
theorem g_toInt : CallG K rToInt W.toInt := by
  intro F H ws w vs Q s r e k
  unfold W.toInt at e
  split at e
  · cases e
    obtain ⟨v, rfl, h⟩ := one r
    rw [show v = .int _ from h]
    exact .inl (.inl ⟨_, rfl, k _ F H (Ext.refl s) rfl⟩)
  · cases e
    obtain ⟨v, rfl, h⟩ := one r
    rw [show v = .bl _ from h]
    exact .inl (.inr ⟨_, rfl, k _ F H (Ext.refl s) rfl⟩)
  · rename_i x
    obtain ⟨v, rfl, h⟩ := one r
    rw [show v = .str _ from h]
    by_cases hl : x.length ≤ 640
    · rw [if_pos hl] at e
      obtain ⟨n, e1, rfl⟩ := Option.map_eq_some_iff.mp e
      exact .inr ⟨_, n, rfl, e1, hl, k _ F H (Ext.refl s) rfl⟩
    · rw [if_neg hl] at e; cases e
  · cases e
/-- str(x): an int, a text -/
def W.toStr : List W → Option W
  | [.int i] => if i.natAbs.log2 < 1920 then some (.str (toString i)) else none
  | _ => none
theorem g_toStr : CallG K (fun xs H Q => ∃ i, xs = [.int i] ∧ i.natAbs.log2 < 1920 ∧ Q (.str (toString i)) H) W.toStr := by
  intro F H ws w vs Q s r e k
  unfold W.toStr at e
  split at e
  · obtain ⟨hz, rfl⟩ := ite_some e
    obtain ⟨v, rfl, h⟩ := one r
    rw [show v = .int _ from h]
    exact ⟨_, rfl, hz, k _ F H (Ext.refl s) rfl⟩
  · cases e
/-! ### lists of ints, of bools -/
def asIs : List W → Option (List Int)
  | [] => some []
  | x :: xs => (asI x).bind fun i => (asIs xs).map fun is => i :: is
theorem asIs_map : ∀ {xs : List W} {ns : List Int}, asIs xs = some ns → xs = ns.map W.int
  | [], _, h => by cases h; rfl
  | x :: xs, _, h => by
    obtain ⟨i, h1, h2⟩ := Option.bind_eq_some_iff.mp (show (asI x).bind (fun i => (asIs xs).map fun is => i :: is) = _ from h)
    obtain ⟨is, h3, rfl⟩ := Option.map_eq_some_iff.mp h2
    cases x <;> first | (cases h1; done) | skip
    cases h1
    rw [asIs_map h3]
    rfl
def asBs : List W → Option (List Bool)
  | [] => some []
  | x :: xs => (asB x).bind fun i => (asBs xs).map fun is => i :: is
theorem asBs_map {F : Hp} : ∀ {xs : List W} {ns : List Bool} {vs : List V}, asBs xs = some ns → RepFs K F xs vs → vs = ns.map V.bl
  | [], _, _, h, r => by cases h; exact r
  | x :: xs, _, _, h, ⟨v, r, e, q, t⟩ => by
    obtain ⟨i, h1, h2⟩ := Option.bind_eq_some_iff.mp (show (asB x).bind (fun i => (asBs xs).map fun is => i :: is) = _ from h)
    obtain ⟨is, h3, rfl⟩ := Option.map_eq_some_iff.mp h2
    cases x <;> first | (cases h1; done) | skip
    cases h1
    rw [e, asBs_map h3 t, show v = .bl _ from q]
    rfl
def W.sumI : List W → Option W
  | [.lst xs] => (asIs xs).map fun ns => .int ns.sum
  | _ => none
theorem g_sum : CallG K (rSum K) W.sumI := by
  intro F H ws w vs Q s r e k
  unfold W.sumI at e
  split at e
  · obtain ⟨ns, e1, rfl⟩ := Option.map_eq_some_iff.mp e
    obtain ⟨v, rfl, h⟩ := one r
    obtain ⟨p, us, rfl, hp, rs⟩ := h.lst_of s
    exact ⟨p, ns, rfl, by rw [← rs.ints (asIs_map e1)]; exact SqL.of hp, k _ F H (Ext.refl s) rfl⟩
  · cases e
def W.anyB : List W → Option W
  | [.lst xs] => (asBs xs).map fun ns => .bl (ns.any id)
  | _ => none
def W.allB : List W → Option W
  | [.lst xs] => (asBs xs).map fun ns => .bl (ns.all id)
  | _ => none
theorem g_any : CallG K (rAny K) W.anyB := by
  intro F H ws w vs Q s r e k
  unfold W.anyB at e
  split at e
  · obtain ⟨ns, e1, rfl⟩ := Option.map_eq_some_iff.mp e
    obtain ⟨v, rfl, h⟩ := one r
    obtain ⟨p, us, rfl, hp, rs⟩ := h.lst_of s
    exact ⟨p, ns, rfl, by rw [← asBs_map e1 rs]; exact SqL.of hp, k _ F H (Ext.refl s) rfl⟩
  · cases e
theorem g_all : CallG K (rAll K) W.allB := by
  intro F H ws w vs Q s r e k
  unfold W.allB at e
  split at e
  · obtain ⟨ns, e1, rfl⟩ := Option.map_eq_some_iff.mp e
    obtain ⟨v, rfl, h⟩ := one r
    obtain ⟨p, us, rfl, hp, rs⟩ := h.lst_of s
    exact ⟨p, ns, rfl, by rw [← asBs_map e1 rs]; exact SqL.of hp, k _ F H (Ext.refl s) rfl⟩
  · cases e
/-! ### list(..), tuple(..) -/
def W.toList : List W → Option W
  | [w] => w.seq.map .lst
  | _ => none
theorem g_toList : CallG K (fun xs H Q => ∃ p ys, xs = [.ref p] ∧ (SqL K H p ys ∨ SqT K H p ys) ∧ ∀ l, H l = none → Q (.ref l) (upd H l (.lst ys))) W.toList := by
  intro F H ws w vs Q s r e k
  unfold W.toList at e
  split at e
  · obtain ⟨xs, e1, rfl⟩ := Option.map_eq_some_iff.mp e
    obtain ⟨v, rfl, h⟩ := one r
    obtain ⟨p, us, rfl, hp, rs⟩ := h.seq_of s e1
    refine ⟨p, us, rfl, hp, fun l nl => ?_⟩
    obtain ⟨x, rr⟩ := new_lst s rs nl
    exact k _ _ _ x rr
  · cases e
/-- list(d) of a frozen dict -/
def W.toListD : List W → Option W
  | [.dct .k kvs] => some (.lst (keysK kvs))
  | _ => none
theorem keys_rep {F : Hp} : ∀ {kvs : List (W × W)} {ks : List (Key × V)}, RepK K F kvs ks → RepFs K F (keysK kvs) (ks.map fun kv => kV kv.1)
  | [], _, h => by rw [show _ = ([] : List (Key × V)) from h]; rfl
  | (w, x) :: kvs, _, ⟨k', v, r, e, c, q, t⟩ => by
    rw [e]
    exact ⟨kV k', _, rfl, (by show RepF K F w (kV k'); rw [keyOf_ky c]; exact keyOf_rep k'), keys_rep t⟩
theorem g_toListD : CallG K (fun xs H Q => ∃ (a : Addr) (kvs : List (Key × V)), xs = [.ref a] ∧ Rd H a (.dK kvs) ∧ ∀ p, H p = none → Q (.ref p) (upd H p (.lst (kvs.map fun kv => kV kv.1)))) W.toListD := by
  intro F H ws w vs Q s r e k
  unfold W.toListD at e
  split at e
  · cases e
    obtain ⟨v, rfl, h⟩ := one r
    obtain ⟨p, ks, od, rfl, hp, rk⟩ := h
    refine ⟨p, ks, rfl, .inr ⟨od, s _ _ hp⟩, fun l nl => ?_⟩
    obtain ⟨x, rr⟩ := new_lst s (keys_rep rk) nl
    exact k _ _ _ x rr
  · cases e
def W.toTup : List W → Option W
  | [.lst xs] => some (.tup xs)
  | [.tup xs] => some (.tup xs)
  | [.ktup xs] => some (.ktup xs)
  | _ => none
theorem g_toTup : CallG K (fun xs H Q => ∃ p ys, xs = [.ref p] ∧ ((SqL K H p ys ∧ ∀ l, H l = none → Q (.ref l) (upd H l (.tup ys))) ∨ (SqT K H p ys ∧ Q (.ref p) H))) W.toTup := by
  intro F H ws w vs Q s r e k
  unfold W.toTup at e
  split at e
  · cases e
    obtain ⟨v, rfl, h⟩ := one r
    obtain ⟨p, us, rfl, hp, rs⟩ := h.lst_of s
    refine ⟨p, us, rfl, .inl ⟨SqL.of hp, fun l nl => ?_⟩⟩
    obtain ⟨x, rr⟩ := new_tup s rs nl
    exact k _ _ _ x rr
  · cases e
    obtain ⟨v, rfl, h⟩ := one r
    obtain ⟨p, us, rfl, hp, rs⟩ := h.tup_of s
    exact ⟨p, us, rfl, .inr ⟨hp, k _ F H (Ext.refl s) h⟩⟩
  · cases e
    obtain ⟨v, rfl, h⟩ := one r
    obtain ⟨p, us, rfl, hp, rs⟩ := h.ktup_of s
    exact ⟨p, us, rfl, .inr ⟨hp, k _ F H (Ext.refl s) h⟩⟩
  · cases e
/-- tuple(list), known to its object -/
theorem call_tupleK : CallR X (.type "tuple") (fun xs H Q => ∃ p ys, xs = [.ref p] ∧ SqL X.K H p ys ∧ ∀ l (o : Obj), o.dict = none → H l = none → Q (.ref l) (upd H l (.frz o (.tup ys)))) := by
  intro pins s σ H xs us Q I r h
  obtain ⟨p, ys, rfl, hq, q⟩ := h
  obtain ⟨u, rfl, rx⟩ := vals1 r
  cases rx
  obtain ⟨its, r', pl, hz⟩ := I.list hq
  have hlen := r'.length
  refine call_tuple_list pl.isList (fun h' kp => ?_) (by simp only [List.size_toArray] <;> omega)
  have I1 : Inv X pins σ H { s with heap := h' } := I.kept (t' := s.toks) kp
  have I2 : Inv X pins σ (upd H h'.objs.size (.frz { cls := .type "tuple", data := .seq its.toArray } (.tup ys))) { s with heap := h'.push { cls := .type "tuple", data := .seq its.toArray } } :=
    I1.laid (t' := s.toks) (fun b o e => Heap.get?_push_of_some _ e) (Nat.le_refl _) ⟨Heap.get?_push_size _ rfl, hz, its, r', IsTup.new _ _⟩
  exact ⟨.ref h'.objs.size, _, I2, rfl, q _ _ rfl (I1.hok.fresh (Nat.le_refl _))⟩
def W.toTupK : List W → Option W
  | [.lst xs] => some (.ktup xs)
  | _ => none
theorem g_toTupK : CallG K (fun xs H Q => ∃ p ys, xs = [.ref p] ∧ SqL K H p ys ∧ ∀ l (o : Obj), o.dict = none → H l = none → Q (.ref l) (upd H l (.frz o (.tup ys)))) W.toTupK := by
  intro F H ws w vs Q s r e k
  unfold W.toTupK at e
  split at e
  · cases e
    obtain ⟨v, rfl, h⟩ := one r
    obtain ⟨p, us, rfl, hp, rs⟩ := h.lst_of s
    refine ⟨p, us, rfl, SqL.of hp, fun l o ho nl => ?_⟩
    have x := Ext.new (o := .frz o (.tup us)) s nl
    exact k _ _ _ x ⟨l, us, rfl, .inl ⟨o, upd_same, ho⟩, RepFs.mono x.fsub _ rs⟩
  · cases e
end
end L3

set_option Elab.async false
set_option linter.all false
set_option maxRecDepth 100000
namespace L3
open PySem PySem.Spec PyProof.Rows L2
/-! ### expressions that only read -/
def rd {α : Type} (g : En → Option α) : M3 α := fun ε => match g ε with
  | some a => .ok a ε
  | none => .stuck
theorem rd_bind {α β : Type} (g : En → Option α) (f : α → En → Option β) : (rd g).bind (fun a => rd (f a)) = rd (fun ε => (g ε).bind fun a => f a ε) := by
  funext ε
  unfold M3.bind rd
  cases h : g ε <;> simp only [h, Res.bind, Option.bind]
theorem lift_rd {α : Type} (o : Option α) : (M3.lift o : M3 α) = rd (fun _ => o) := by
  funext ε
  unfold M3.lift rd
  cases o <;> rfl
theorem ok_rd {α : Type} (a : α) : (fun ε => Res.ok a ε : M3 α) = rd (fun _ => some a) := rfl
def tR {α β : Type} (c : C3) (rep : Hp → α → β → Prop) (g : En → Option α) : L2.St → Hp → (β → Hp → Prop) → Prop := fun σ H Q => ∃ F ε L, Fr F H L ∧ RepE c.K F H c.Pv ε σ L ∧ ∃ w, g ε = some w ∧ ∀ v H' F', Ext F H F' H' → rep F' w v → Q v H'
abbrev JR (X : Cx) (c : C3) (e : Expr) (g : En → Option W) : Prop := PE X e (tR c (RepF c.K) g)
abbrev JRT (X : Cx) (c : C3) (e : Expr) (g : En → Option Bool) : Prop := PT X e (tR c (fun _ (a b : Bool) => a = b) g)
abbrev JRA (X : Cx) (c : C3) (es : List Expr) (g : En → Option (List W)) : Prop := PA X es (tR c (RepFs c.K) g)
def rSlot (i : Nat) : En → Option W := fun ε => match ε[i]? with
  | some (.fz w) => some w
  | _ => none
theorem mSlot_rd (i : Nat) : mSlot i = rd (rSlot i) := by
  funext ε
  unfold mSlot rd rSlot
  cases ε[i]? with
  | none => rfl
  | some s => cases s <;> rfl
theorem run_rd {α β : Type} {c : C3} {rel : Rl α β} {g : En → Option α} {ε : En} {F H : Hp} {L : List Addr} {σ : L2.St} {Q : β → Hp → Prop} (h : Run c rel (rd g ε) F H L σ Q) : ∃ a, g ε = some a ∧ Run c rel (.ok a ε) F H L σ Q := by
  unfold rd at h
  cases e : g ε with
  | none => rw [e] at h; exact h.elim
  | some a => rw [e] at h; exact ⟨a, rfl, h⟩
section
variable {X : Cx} {pins : List (Addr × Obj)} {σ σ' : L2.St} {H : Hp} {s s' : Shared}
theorem unlock_all (I0 : Inv X pins σ H s) : ∀ {La : List Addr} {H' : Hp}, Inv X pins σ' H' s' → (∀ a ∈ La, ∀ u, H a = some u → Lk u (H' a)) → ∃ H3, Inv X pins σ' H3 s' ∧ (∀ a ∈ La, ∀ u, H a = some u → H3 a = some u) ∧ ∀ a, a ∉ La → H3 a = H' a
  | [], H', I, _ => ⟨H', I, (by simp), fun _ _ => rfl⟩
  | b :: La, H', I, k => by
    obtain ⟨H3, I3, k3, o3⟩ := unlock_all I0 (La := La) I fun a ha => k a (List.mem_cons_of_mem _ ha)
    by_cases hb : b ∈ La
    · exact ⟨H3, I3, fun a ha => (List.mem_cons.mp ha).elim (fun z => by subst z; exact k3 a hb) (k3 a), fun a ha => o3 a fun z => ha (List.mem_cons_of_mem _ z)⟩
    · have eb : H3 b = H' b := o3 b hb
      cases e : H b with
      | none => exact ⟨H3, I3, fun a ha u hu => (List.mem_cons.mp ha).elim (fun z => by subst z; rw [e] at hu; cases hu) (fun z => k3 a z u hu), fun a ha => o3 a fun z => ha (List.mem_cons_of_mem _ z)⟩
      | some u =>
        have l := k b List.mem_cons_self u e
        by_cases d : isD u = true
        · unfold Lk at l
          rw [if_pos d] at l
          obtain ⟨od, l⟩ := l
          have mu : Mut (some u) := by cases u <;> first | trivial | cases d
          have I4 := I3.unlock (d := b) (od := od) (u := u) (eb.trans l) (I0.nofrz e mu)
          refine ⟨_, I4, fun a ha u' hu => ?_, fun a ha => ?_⟩
          · by_cases q : a = b
            · subst q; rw [e] at hu; cases hu; exact upd_same
            · rw [upd_ne q]
              exact k3 a ((List.mem_cons.mp ha).resolve_left q) u' hu
          · rw [upd_ne fun z => ha (by rw [z]; exact List.mem_cons_self)]
            exact o3 a fun z => ha (List.mem_cons_of_mem _ z)
        · unfold Lk at l
          rw [if_neg d] at l
          refine ⟨H3, I3, fun a ha u' hu => ?_, fun a ha => o3 a fun z => ha (List.mem_cons_of_mem _ z)⟩
          rcases List.mem_cons.mp ha with z | z
          · subst z; rw [e] at hu; cases hu; exact eb.trans l
          · exact k3 a z u' hu
end
def frS : Sl → Sl
  | .own o => .fz o.val
  | .par o => .fz o.val
  | s => s
def flatW : W → Bool
  | .non => true
  | .bl _ => true
  | .int _ => true
  | .str _ => true
  | .ty _ => true
  | .gl _ => true
  | _ => false
theorem flat_any {K : PySem.W.Frag} {F F' : Hp} {w : W} {v : V} (f : flatW w = true) (r : RepF K F w v) : RepF K F' w v := by
  cases w <;> first | (cases f; done) | exact r
theorem RepE.freeze {K : PySem.W.Frag} {F F' H H' : Hp} (s : Sub F F') : ∀ {Pv : List V} {ε : En} {σ : L2.St} {L : List Addr}, (∀ a ∈ L, ∀ u, H a = some u → Lk u (F' a)) → RepE K F H Pv ε σ L → RepE K F' H' Pv (ε.map frS) σ []
  | _, [], _, _, _, h => ⟨h.1, rfl⟩
  | _, .no :: ε, _, _, k, ⟨x, r, e, h⟩ => ⟨x, r, e, RepE.freeze s k h⟩
  | _, .fz w :: ε, _, _, k, ⟨v, r, e, q, h⟩ => ⟨v, r, e, q.mono s, RepE.freeze s k h⟩
  | _, .own o :: ε, _, _, k, ⟨v, r, L1, L2, e, eL, q, h⟩ => ⟨v, r, e, RepO.freeze s o (fun a ha => k a (by rw [eL]; simp [ha])) q, RepE.freeze s (fun a ha => k a (by rw [eL]; simp [ha])) h⟩
  | _, .par o :: ε, _, _, k, ⟨v, r, L1, L2, e, ep, eL, q, h⟩ => ⟨v, r, e, RepO.freeze s o (fun a ha => k a (by rw [eL]; simp [ha])) q, RepE.freeze s (fun a ha => k a (by rw [eL]; simp [ha])) h⟩
section
variable {X : Cx} {c : C3} {pos : Pos}
/-- the heap behind a run with all of L frozen: L is one's own again -/
theorem back_own {F H H2 F1 H1 H3 : Hp} {L : List Addr} {ε : En} {σ : L2.St} (fr : Fr F H L) (re : RepE c.K F H c.Pv ε σ L) (k : Locked L H H2) (f1 : Fr F1 H1 []) (st : Stp (frz F H2 L) H2 [] F1 H1 []) (h3 : ∀ a ∈ L, ∀ u, H a = some u → H3 a = some u) (o3 : ∀ a, a ∉ L → H3 a = H1 a) :
    Fr (fun a => if a ∈ L then none else F1 a) H3 L ∧ RepE c.K (fun a => if a ∈ L then none else F1 a) H3 c.Pv ε σ L ∧ Stp F H L (fun a => if a ∈ L then none else F1 a) H3 L := by
  have sub : Sub F (fun a => if a ∈ L then none else F1 a) := fun a o e => by
    have n : a ∉ L := fun z => by rw [fr.out a z] at e; cases e
    show (if a ∈ L then none else F1 a) = some o
    rw [if_neg n]
    exact st.fsub a o (by rw [frz_out n]; exact e)
  refine ⟨⟨fun a o e => ?_, fr.nd, fun a ha => if_pos ha⟩, re.mono sub fun a ha u e => h3 a ha u e, ⟨sub, fun a o e n => ?_, fun a o e => ?_, fun a ha => .inl ha⟩⟩
  · have e : (if a ∈ L then none else F1 a) = some o := e
    by_cases n : a ∈ L
    · rw [if_pos n] at e; cases e
    · rw [if_neg n] at e
      rw [o3 a n]
      exact f1.sub a o e
  · rw [o3 a n]
    exact st.keep a o (by rw [k.out n]; exact e) (fun z => nomatch z)
  · have e : (if a ∈ L then none else F1 a) = some o := e
    by_cases n : a ∈ L
    · rw [if_pos n] at e; cases e
    · rw [if_neg n] at e
      rcases st.fnew a o e with z | z | z | z
      · rw [frz_out n] at z; exact .inl z
      · cases z
      · rw [k.out n] at z; exact .inr (.inr (.inl z))
      · exact .inr (.inr (.inr z))
/-- one's own, read: the result holds no address -/
def bor (g : En → Option W) : En → Option W := fun ε => (g (ε.map frS)).filter flatW
theorem run_rd' {α β : Type} {rel : Rl α β} {rep : Hp → α → β → Prop} {g : En → Option α} {σ : L2.St} {H : Hp} {Q : β → Hp → Prop} (hr : ∀ {F H : Hp} {a : α} {b : β}, rep F a b → rel σ F H a b []) (h : tG c rel (rd g) σ H Q) : tR c rep g σ H Q := by
  obtain ⟨F, ε, L, fr, re, run⟩ := h
  obtain ⟨w, e, run⟩ := run_rd run
  exact ⟨F, ε, L, fr, re, w, e, fun v H' F' x r => run.give fr re x (hr r)⟩
theorem JR.e {e : Expr} {g : En → Option W} (h : JR X c e g) : JE X c e (rd g) := PE.wk h fun σ H Q q => run_rd' (rel := rW c) (fun r => ⟨rfl, r⟩) q
theorem JRT.e {e : Expr} {g : En → Option Bool} (h : JRT X c e g) : JT X c e (rd g) := PT.wk h fun σ H Q q => run_rd' (rel := rB) (fun r => ⟨rfl, r⟩) q
theorem JRA.e {es : List Expr} {g : En → Option (List W)} (h : JRA X c es g) : JA X c es (rd g) := PA.wk h fun σ H Q q => run_rd' (rel := rWs c) (fun r => ⟨rfl, r⟩) q
theorem je_bor {e : Expr} {g : En → Option W} (h : JE X c e (rd g)) : JR X c e (bor g) := by
  refine ⟨fun pins s σ H Q I ⟨F, ε, L, fr, re, w, ew, run⟩ => ?_⟩
  have hw : g (ε.map frS) = some w ∧ flatW w = true := by
    unfold bor at ew
    exact Option.filter_eq_some_iff.mp ew
  obtain ⟨hw, fl⟩ := hw
  obtain ⟨H2, I2, k⟩ := lock_all I fr.nd
  have fr' : Fr F H (L ++ []) := by rw [List.append_nil]; exact fr
  obtain ⟨f2, s2⟩ := fr'.freeze k
  have kl : ∀ a ∈ L, ∀ u, H a = some u → Lk u (frz F H2 L a) := fun a ha u e => by rw [frz_in ha]; exact k.at ha e
  have re2 : RepE c.K (frz F H2 L) H2 c.Pv (ε.map frS) σ [] := re.freeze s2.fsub kl
  refine thn (h.run pins s σ H2 (fun v H' => ∃ F1, Fr F1 H' [] ∧ Stp (frz F H2 L) H2 [] F1 H' [] ∧ RepF c.K F1 w v) I2 ⟨_, _, [], f2, re2, ?_⟩) fun u s1 ⟨v, H1, I1, rv, F1, f1, st, rf⟩ => ?_
  · unfold rd
    rw [hw]
    intro b H' F' La L' fr1 re1 r1 st1
    obtain ⟨eL, r1⟩ := r1
    subst eL
    have : L' = [] := by
      cases L' with
      | nil => rfl
      | cons a L' => have := re1.mine; exact (by
          have hne : ∀ {Pv : List V} {ε : En} {σ : L2.St} {L : List Addr}, RepE c.K F' H' Pv (ε.map frS) σ L → L = [] := by
            intro Pv ε
            induction ε generalizing Pv with
            | nil => intro σ L h; exact h.2
            | cons s ε ih =>
              intro σ L h
              cases s with
              | no => obtain ⟨x, r, e, t⟩ := h; exact ih t
              | fz w => obtain ⟨x, r, e, q, t⟩ := h; exact ih t
              | own o => obtain ⟨x, r, e, q, t⟩ := h; exact ih t
              | par o => obtain ⟨x, r, e, q, t⟩ := h; exact ih t
          exact absurd (hne re1) (by simp))
    subst this
    exact ⟨F', fr1, st1, r1⟩
  · have kp : ∀ a ∈ L, ∀ u, H a = some u → Lk u (H1 a) := fun a ha u e => by
      have l := k.at ha e
      unfold Lk at l ⊢
      by_cases d : isD u = true
      · rw [if_pos d] at l ⊢
        obtain ⟨od, l⟩ := l
        exact ⟨od, st.keep a _ l (fun z => nomatch z)⟩
      · rw [if_neg d] at l ⊢
        exact st.keep a _ l (fun z => nomatch z)
    obtain ⟨H3, I3, h3, o3⟩ := unlock_all I I1 kp
    obtain ⟨fr3, re3, st3⟩ := back_own fr re k f1 st h3 o3
    refine ⟨v, H3, I3, rv, run v H3 _ ⟨st3.fsub, fr3.sub, fun a u e => ?_, fun a o e => ?_⟩ (flat_any fl rf)⟩
    · by_cases n : a ∈ L
      · exact h3 a n u e
      · exact st3.keep a u e n
    · rcases st3.fnew a o e with z | z | z
      · exact .inl z
      · rw [fr3.out a z] at e; cases e
      · exact .inr z
/-- a slot of one's own is frozen ahead of a statement -/
def frzSl (i : Nat) (ε : En) : En := match ε[i]? with
  | some (Sl.own o) => ε.set i (.fz o.val)
  | _ => ε
theorem RepE.putFz {K : PySem.W.Frag} {F H : Hp} {w : W} {v : V} : ∀ {Pv : List V} {ε : En} {σ : L2.St} {L : List Addr} {i : Nat}, RepE K F H Pv ε σ L → ε[i]? = some .no → σ[i]? = some (some v) → RepF K F w v → RepE K F H Pv (ε.set i (.fz w)) σ L
  | _, [], _, _, i, _, e, _, _ => by simp at e
  | _, .fz _ :: ε, _, _, 0, h, e, _, _ => by simp at e
  | _, .own _ :: ε, _, _, 0, h, e, _, _ => by simp at e
  | _, .par _ :: ε, _, _, 0, h, e, _, _ => by simp at e
  | _, .no :: ε, _, _, 0, ⟨x, r, e1, t⟩, e, es, rf => by
    subst e1
    simp at es
    subst es
    exact ⟨v, r, rfl, rf, t⟩
  | _, .no :: ε, _, _, i + 1, ⟨x, r, e1, t⟩, e, es, rf => by
    subst e1
    exact ⟨x, r, rfl, RepE.putFz t (by simpa using e) (by simpa using es) rf⟩
  | _, .fz _ :: ε, _, _, i + 1, ⟨x, r, e1, z, t⟩, e, es, rf => by
    subst e1
    exact ⟨x, r, rfl, z, RepE.putFz t (by simpa using e) (by simpa using es) rf⟩
  | _, .own _ :: ε, _, _, i + 1, ⟨x, r, L1, L2, e1, eL, z, t⟩, e, es, rf => by
    subst e1
    exact ⟨x, r, L1, L2, rfl, eL, z, RepE.putFz t (by simpa using e) (by simpa using es) rf⟩
  | _, .par _ :: ε, _, _, i + 1, ⟨x, r, L1, L2, e1, ep, eL, z, t⟩, e, es, rf => by
    subst e1
    exact ⟨x, r, L1, L2, rfl, ep, eL, z, RepE.putFz t (by simpa using e) (by simpa using es) rf⟩
theorem PS.lock {X : Cx} {st : Stmt} {t : TS} (h : PS X st t) : PS X st (fun D σ H => ∃ La : List Addr, La.Nodup ∧ ∀ H2, Locked La H H2 → t D σ H2) := by
  refine ⟨fun pins s σ H D I ⟨La, nd, k⟩ => ?_⟩
  obtain ⟨H2, I2, l⟩ := lock_all I nd
  exact h.run pins s σ H2 D I2 (k H2 l)
theorem frz_slot {K : PySem.W.Frag} {F H : Hp} {Pv : List V} {ε : En} {σ : L2.St} {L : List Addr} {i : Nat} (fr : Fr F H L) (re : RepE K F H Pv ε σ L) :
    ∃ La : List Addr, La.Nodup ∧ ∀ H2, Locked La H H2 → ∃ F2 L2, Fr F2 H2 L2 ∧ RepE K F2 H2 Pv (frzSl i ε) σ L2 ∧ Stp F H L F2 H2 L2 := by
  have same : (frzSl i ε = ε) → ∃ La : List Addr, La.Nodup ∧ ∀ H2, Locked La H H2 → ∃ F2 L2, Fr F2 H2 L2 ∧ RepE K F2 H2 Pv (frzSl i ε) σ L2 ∧ Stp F H L F2 H2 L2 := fun e => by
    refine ⟨[], List.nodup_nil, fun H2 k => ?_⟩
    have : H2 = H := by funext a; exact k.out (fun z => nomatch z)
    subst this
    exact ⟨F, L, fr, by rw [e]; exact re, Stp.refl⟩
  unfold frzSl at same ⊢
  cases e : ε[i]? with
  | none => rw [e] at same; exact same rfl
  | some s =>
    rw [e] at same
    cases s with
    | no => exact same rfl
    | fz w => exact same rfl
    | par o => exact same rfl
    | own o =>
      obtain ⟨v, La, Lr, es, p, ro, re0, _⟩ := re.take e rfl
      have fr2 : Fr F H (La ++ Lr) := fr.perm p
      refine ⟨La, (List.nodup_append.mp fr2.nd).1, fun H2 k => ?_⟩
      obtain ⟨f3, s3⟩ := fr2.freeze k
      have hi : i < ε.length := (List.getElem?_eq_some_iff.mp e).1
      have re1 : RepE K (frz F H2 La) H2 Pv (ε.set i .no) σ Lr := re0.mono s3.fsub fun a ha u e => by
        rw [k.out fun z => (List.nodup_append.mp fr2.nd).2.2 a z a ha rfl]
        exact e
      have re2 := RepE.putFz (i := i) (w := o.val) (v := v) re1 (by rw [List.getElem?_set_self hi]) es (ro.frozen fr2 k)
      rw [List.set_set] at re2
      exact ⟨_, Lr, f3, re2, s3.permL p.symm⟩
theorem js_frz {st : Stmt} {m : MS} {i : Nat} (h : JS X c st m) : JS X c st (fun ε => m (frzSl i ε)) := by
  refine PS.wk (PS.lock h) fun D σ H ⟨F, ε, L, fr, re, run⟩ => ?_
  obtain ⟨La, nd, k⟩ := frz_slot (i := i) fr re
  refine ⟨La, nd, fun H2 l => ?_⟩
  obtain ⟨F2, L2, f2, r2, s2⟩ := k H2 l
  exact ⟨F2, _, L2, f2, r2, RunS.shift s2 run⟩
end
end L3

set_option Elab.async false
set_option linter.all false
set_option maxRecDepth 100000
namespace L3
open PySem PySem.Spec PyProof.Rows L2
/-! ### places within one's own -/
inductive Step where
  | fld (f : Str) | ix (n : Nat) | key (k : Key) | keyT (k : List Key)
  deriving DecidableEq
def StepH (H : Hp) (a : Addr) : Step → V → Prop
  | .fld f, u => ∃ C dx fs, H a = some (.ins C dx fs) ∧ fs.lookup f = some u
  | .ix n, u => ∃ vs, H a = some (.lst vs) ∧ vs[n]? = some u
  | .key k, u => ∃ ks, H a = some (.dK ks) ∧ valV ks k = some u
  | .keyT k, u => ∃ ks, H a = some (.dT ks) ∧ valV ks k = some u
def At (H : Hp) : V → List Step → V → Prop
  | u, [], v => v = u
  | u, s :: p, v => ∃ a u', u = .ref a ∧ StepH H a s u' ∧ At H u' p v
def lookKO : List (W × O) → Key → Option O
  | [], _ => none
  | (k, x) :: r, y => if kyW k = some y then some x else lookKO r y
def lookTO : List (W × O) → List Key → Option O
  | [], _ => none
  | (k, x) :: r, y => if ktW k = some y then some x else lookTO r y
def putKO : List (W × O) → Key → O → List (W × O)
  | [], _, _ => []
  | (k, x) :: r, y, o => if kyW k = some y then (k, o) :: r else (k, x) :: putKO r y o
def putTO : List (W × O) → List Key → O → List (W × O)
  | [], _, _ => []
  | (k, x) :: r, y, o => if ktW k = some y then (k, o) :: r else (k, x) :: putTO r y o
def putG : List (Str × O) → Str → O → List (Str × O)
  | [], _, _ => []
  | (k, x) :: r, y, o => if y == k then (k, o) :: r else (k, x) :: putG r y o
def step1 : O → Step → Option O
  | .ins _ fs, .fld f => fs.lookup f
  | .lst xs, .ix n => xs[n]?
  | .dct .k kvs, .key k => lookKO kvs k
  | .dct .t kvs, .keyT k => lookTO kvs k
  | _, _ => none
def put1 : O → Step → O → O
  | .ins C fs, .fld f, o => .ins C (putG fs f o)
  | .lst xs, .ix n, o => .lst (xs.set n o)
  | .dct .k kvs, .key k, o => .dct .k (putKO kvs k o)
  | .dct .t kvs, .keyT k, o => .dct .t (putTO kvs k o)
  | o, _, _ => o
def getP : O → List Step → Option O
  | o, [] => some o
  | o, s :: p => (step1 o s).bind fun x => getP x p
def setP : O → List Step → O → O
  | _, [], o' => o'
  | o, s :: p, o' => match step1 o s with
    | some x => put1 o s (setP x p o')
    | none => o
theorem perm_in {A B C D : List Addr} (h : A.Perm (B ++ C)) : (D ++ A).Perm (B ++ (D ++ C)) := (h.append_left D).trans perm3
section
variable {K : PySem.W.Frag} {F F' H H' : Hp}
abbrev Kept (H H' : Hp) (L : List Addr) : Prop := ∀ a ∈ L, ∀ u, H a = some u → H' a = some u
/-- a place one step down, and how it is filled again -/
theorem RepOs.at1 : ∀ {xs : List O} {vs : List V} {L : List Addr} {n : Nat} {o1 : O}, RepOs K F H xs vs L → xs[n]? = some o1 →
    ∃ v1 La Lr, vs[n]? = some v1 ∧ L.Perm (La ++ Lr) ∧ RepO K F H o1 v1 La ∧ ∀ {F' H' : Hp} {o1' : O} {La' : List Addr}, Sub F F' → Kept H H' Lr → RepO K F' H' o1' v1 La' → ∃ L', L'.Perm (La' ++ Lr) ∧ RepOs K F' H' (xs.set n o1') vs L'
  | [], _, _, _, _, _, e => by simp at e
  | x :: xs, _, _, 0, o1, ⟨v, r, L1, L2, e1, eL, q, t⟩, e => by
    simp at e
    subst e e1 eL
    exact ⟨v, L1, L2, rfl, List.Perm.refl _, q, fun s k ro => ⟨_, List.Perm.refl _, v, r, _, L2, rfl, rfl, ro, t.mono s _ k⟩⟩
  | x :: xs, _, _, n + 1, o1, ⟨v, r, L1, L2, e1, eL, q, t⟩, e => by
    subst e1 eL
    obtain ⟨v1, La, Lr, h1, h2, h3, h4⟩ := RepOs.at1 (n := n) t (by simpa using e)
    refine ⟨v1, La, L1 ++ Lr, by simpa using h1, perm_in h2, h3, fun {F' H' o1' La'} s k ro => ?_⟩
    obtain ⟨L', p, q'⟩ := h4 s (fun a ha => k a (List.mem_append_right _ ha)) ro
    exact ⟨L1 ++ L', perm_in p, v, r, L1, L', rfl, rfl, q.mono s _ fun a ha => k a (List.mem_append_left _ ha), q'⟩
theorem RepOG.at1 : ∀ {xs : List (Str × O)} {vs : List (Str × V)} {L : List Addr} {f : Str} {o1 : O}, RepOG K F H xs vs L → xs.lookup f = some o1 →
    ∃ v1 La Lr, vs.lookup f = some v1 ∧ L.Perm (La ++ Lr) ∧ RepO K F H o1 v1 La ∧ ∀ {F' H' : Hp} {o1' : O} {La' : List Addr}, Sub F F' → Kept H H' Lr → RepO K F' H' o1' v1 La' → ∃ L', L'.Perm (La' ++ Lr) ∧ RepOG K F' H' (putG xs f o1') vs L'
  | [], _, _, _, _, _, e => by cases e
  | (g, x) :: xs, _, _, f, o1, ⟨v, r, L1, L2, e1, eL, q, t⟩, e => by
    subst e1 eL
    rw [List.lookup_cons] at e
    cases h : f == g with
    | true =>
      rw [h] at e
      cases e
      refine ⟨v, L1, L2, by rw [List.lookup_cons, h], List.Perm.refl _, q, fun s k ro => ⟨_, List.Perm.refl _, ?_⟩⟩
      unfold putG
      rw [if_pos h]
      exact ⟨v, r, _, L2, rfl, rfl, ro, t.mono s _ k⟩
    | false =>
      rw [h] at e
      obtain ⟨v1, La, Lr, h1, h2, h3, h4⟩ := RepOG.at1 t e
      refine ⟨v1, La, L1 ++ Lr, by rw [List.lookup_cons, h]; exact h1, perm_in h2, h3, fun {F' H' o1' La'} s k ro => ?_⟩
      obtain ⟨L', p, q'⟩ := h4 s (fun a ha => k a (List.mem_append_right _ ha)) ro
      refine ⟨L1 ++ L', perm_in p, ?_⟩
      unfold putG
      rw [if_neg (by rw [h]; exact Bool.false_ne_true)]
      exact ⟨v, r, L1, L', rfl, rfl, q.mono s _ fun a ha => k a (List.mem_append_left _ ha), q'⟩
theorem RepOK.at1 {k : Key} : ∀ {xs : List (W × O)} {vs : List (Key × V)} {L : List Addr} {o1 : O}, RepOK K F H xs vs L → lookKO xs k = some o1 →
    ∃ v1 La Lr, valV vs k = some v1 ∧ L.Perm (La ++ Lr) ∧ RepO K F H o1 v1 La ∧ ∀ {F' H' : Hp} {o1' : O} {La' : List Addr}, Sub F F' → Kept H H' Lr → RepO K F' H' o1' v1 La' → ∃ L', L'.Perm (La' ++ Lr) ∧ RepOK K F' H' (putKO xs k o1') vs L'
  | [], _, _, _, _, e => by cases e
  | (w, x) :: xs, _, _, o1, ⟨k', v, r, L1, L2, e1, eL, ck, q, t⟩, e => by
    subst e1 eL
    unfold lookKO at e
    by_cases h : k' = k
    · rw [if_pos (by rw [ck, h])] at e
      cases e
      refine ⟨v, L1, L2, valV_pos (p := (k', v)) h, List.Perm.refl _, q, fun s kk ro => ⟨_, List.Perm.refl _, ?_⟩⟩
      unfold putKO
      rw [if_pos (by rw [ck, h])]
      exact ⟨k', v, r, _, L2, rfl, rfl, ck, ro, t.mono s _ kk⟩
    · have hn : ¬ kyW w = some k := by rw [ck]; exact fun z => h (Option.some.inj z)
      rw [if_neg hn] at e
      obtain ⟨v1, La, Lr, h1, h2, h3, h4⟩ := RepOK.at1 t e
      refine ⟨v1, La, L1 ++ Lr, by rw [valV_neg (p := (k', v)) h]; exact h1, perm_in h2, h3, fun {F' H' o1' La'} s kk ro => ?_⟩
      obtain ⟨L', p, q'⟩ := h4 s (fun a ha => kk a (List.mem_append_right _ ha)) ro
      refine ⟨L1 ++ L', perm_in p, ?_⟩
      unfold putKO
      rw [if_neg hn]
      exact ⟨k', v, r, L1, L', rfl, rfl, ck, q.mono s _ fun a ha => kk a (List.mem_append_left _ ha), q'⟩
theorem RepOT.at1 {k : List Key} : ∀ {xs : List (W × O)} {vs : List (List Key × V)} {L : List Addr} {o1 : O}, RepOT K F H xs vs L → lookTO xs k = some o1 →
    ∃ v1 La Lr, valV vs k = some v1 ∧ L.Perm (La ++ Lr) ∧ RepO K F H o1 v1 La ∧ ∀ {F' H' : Hp} {o1' : O} {La' : List Addr}, Sub F F' → Kept H H' Lr → RepO K F' H' o1' v1 La' → ∃ L', L'.Perm (La' ++ Lr) ∧ RepOT K F' H' (putTO xs k o1') vs L'
  | [], _, _, _, _, e => by cases e
  | (w, x) :: xs, _, _, o1, ⟨k', v, r, L1, L2, e1, eL, ck, q, t⟩, e => by
    subst e1 eL
    unfold lookTO at e
    by_cases h : k' = k
    · rw [if_pos (by rw [ck, h])] at e
      cases e
      refine ⟨v, L1, L2, valV_pos (p := (k', v)) h, List.Perm.refl _, q, fun s kk ro => ⟨_, List.Perm.refl _, ?_⟩⟩
      unfold putTO
      rw [if_pos (by rw [ck, h])]
      exact ⟨k', v, r, _, L2, rfl, rfl, ck, ro, t.mono s _ kk⟩
    · have hn : ¬ ktW w = some k := by rw [ck]; exact fun z => h (Option.some.inj z)
      rw [if_neg hn] at e
      obtain ⟨v1, La, Lr, h1, h2, h3, h4⟩ := RepOT.at1 t e
      refine ⟨v1, La, L1 ++ Lr, by rw [valV_neg (p := (k', v)) h]; exact h1, perm_in h2, h3, fun {F' H' o1' La'} s kk ro => ?_⟩
      obtain ⟨L', p, q'⟩ := h4 s (fun a ha => kk a (List.mem_append_right _ ha)) ro
      refine ⟨L1 ++ L', perm_in p, ?_⟩
      unfold putTO
      rw [if_neg hn]
      exact ⟨k', v, r, L1, L', rfl, rfl, ck, q.mono s _ fun a ha => kk a (List.mem_append_left _ ha), q'⟩
theorem RepO.at1 {o o1 : O} {v : V} {L : List Addr} {s : Step} (h : RepO K F H o v L) (e : step1 o s = some o1) :
    ∃ a v1 La Lr, v = .ref a ∧ StepH H a s v1 ∧ L.Perm (La ++ Lr) ∧ RepO K F H o1 v1 La ∧ ∀ {F' H' : Hp} {o1' : O} {La' : List Addr}, Sub F F' → Kept H H' Lr → RepO K F' H' o1' v1 La' → ∃ L', L'.Perm (La' ++ Lr) ∧ RepO K F' H' (put1 o s o1') v L' := by
  cases o with
  | fz w => cases s <;> cases e
  | lst xs =>
    cases s <;> first | (cases e; done) | skip
    rename_i n
    obtain ⟨a, vs, L', ev, eL, ha, r⟩ := h
    subst ev eL
    obtain ⟨v1, La, Lr, h1, h2, h3, h4⟩ := r.at1 (show xs[n]? = some o1 from e)
    refine ⟨a, v1, La, a :: Lr, rfl, ⟨vs, ha, h1⟩, perm_in (D := [a]) h2, h3, fun {F' H' o1' La'} s k ro => ?_⟩
    obtain ⟨L2, p, q⟩ := h4 s (fun b hb => k b (List.mem_cons_of_mem _ hb)) ro
    exact ⟨a :: L2, perm_in (D := [a]) p, a, vs, L2, rfl, rfl, k a List.mem_cons_self _ ha, q⟩
  | dct d kvs =>
    cases d with
    | k =>
      cases s <;> first | (cases e; done) | skip
      rename_i n
      obtain ⟨a, vs, L', ev, eL, ha, r⟩ := h
      subst ev eL
      obtain ⟨v1, La, Lr, h1, h2, h3, h4⟩ := r.at1 (show lookKO kvs n = some o1 from e)
      refine ⟨a, v1, La, a :: Lr, rfl, ⟨vs, ha, h1⟩, perm_in (D := [a]) h2, h3, fun {F' H' o1' La'} s k ro => ?_⟩
      obtain ⟨L2, p, q⟩ := h4 s (fun b hb => k b (List.mem_cons_of_mem _ hb)) ro
      exact ⟨a :: L2, perm_in (D := [a]) p, a, vs, L2, rfl, rfl, k a List.mem_cons_self _ ha, q⟩
    | t =>
      cases s <;> first | (cases e; done) | skip
      rename_i n
      obtain ⟨a, vs, L', ev, eL, ha, r⟩ := h
      subst ev eL
      obtain ⟨v1, La, Lr, h1, h2, h3, h4⟩ := r.at1 (show lookTO kvs n = some o1 from e)
      refine ⟨a, v1, La, a :: Lr, rfl, ⟨vs, ha, h1⟩, perm_in (D := [a]) h2, h3, fun {F' H' o1' La'} s k ro => ?_⟩
      obtain ⟨L2, p, q⟩ := h4 s (fun b hb => k b (List.mem_cons_of_mem _ hb)) ro
      exact ⟨a :: L2, perm_in (D := [a]) p, a, vs, L2, rfl, rfl, k a List.mem_cons_self _ ha, q⟩
    | n => exact h.elim
  | ins C fs =>
    cases s <;> first | (cases e; done) | skip
    rename_i f
    obtain ⟨a, dx, gs, L', ev, eL, ha, hd, r⟩ := h
    subst ev eL
    obtain ⟨v1, La, Lr, h1, h2, h3, h4⟩ := r.at1 (show fs.lookup f = some o1 from e)
    refine ⟨a, v1, La, a :: dx :: Lr, rfl, ⟨_, dx, gs, ha, h1⟩, perm_in (D := [a, dx]) h2, h3, fun {F' H' o1' La'} s k ro => ?_⟩
    obtain ⟨L2, p, q⟩ := h4 s (fun b hb => k b (by simp [hb])) ro
    exact ⟨a :: dx :: L2, perm_in (D := [a, dx]) p, a, dx, gs, L2, rfl, rfl, k a (by simp) _ ha, k dx (by simp) _ hd, q⟩
theorem RepO.at_ : ∀ {p : List Step} {o o1 : O} {v : V} {L : List Addr}, RepO K F H o v L → getP o p = some o1 →
    ∃ v1 La Lr, At H v p v1 ∧ L.Perm (La ++ Lr) ∧ RepO K F H o1 v1 La ∧ ∀ {F' H' : Hp} {o1' : O} {La' : List Addr}, Sub F F' → Kept H H' Lr → RepO K F' H' o1' v1 La' → ∃ L', L'.Perm (La' ++ Lr) ∧ RepO K F' H' (setP o p o1') v L'
  | [], o, o1, v, L, h, e => by
    cases e
    exact ⟨v, L, [], rfl, by rw [List.append_nil], h, fun {F' H' o1' La'} s k ro => ⟨La', by rw [List.append_nil], ro⟩⟩
  | s :: p, o, o1, v, L, h, e => by
    obtain ⟨x, e1, e2⟩ := Option.bind_eq_some_iff.mp (show (step1 o s).bind (fun x => getP x p) = some o1 from e)
    obtain ⟨a, v1, La, Lr, ev, hs, pm, r1, back⟩ := h.at1 e1
    subst ev
    obtain ⟨v2, Lb, Lc, ha, pm2, r2, back2⟩ := RepO.at_ r1 e2
    refine ⟨v2, Lb, Lc ++ Lr, ⟨a, v1, rfl, hs, ha⟩, pm.trans (by rw [← List.append_assoc]; exact pm2.append_right Lr), r2, fun {F' H' o1' La'} s' k ro => ?_⟩
    obtain ⟨L1, p1, q1⟩ := back2 s' (fun b hb => k b (List.mem_append_left _ hb)) ro
    obtain ⟨L2, p2, q2⟩ := back s' (fun b hb => k b (List.mem_append_right _ hb)) q1
    refine ⟨L2, p2.trans (by rw [← List.append_assoc]; exact p1.append_right Lr), ?_⟩
    unfold setP
    rw [e1]
    exact q2
theorem StepH.det {a : Addr} {s : Step} {u v : V} (h : StepH H a s u) (h' : StepH H a s v) : u = v := by
  cases s with
  | fld f =>
    obtain ⟨C, dx, fs, e, l⟩ := h
    obtain ⟨C', dx', fs', e', l'⟩ := h'
    rw [e] at e'
    cases e'
    exact Option.some.inj (l.symm.trans l')
  | ix n =>
    obtain ⟨fs, e, l⟩ := h
    obtain ⟨fs', e', l'⟩ := h'
    rw [e] at e'
    cases e'
    exact Option.some.inj (l.symm.trans l')
  | key n =>
    obtain ⟨fs, e, l⟩ := h
    obtain ⟨fs', e', l'⟩ := h'
    rw [e] at e'
    cases e'
    exact Option.some.inj (l.symm.trans l')
  | keyT n =>
    obtain ⟨fs, e, l⟩ := h
    obtain ⟨fs', e', l'⟩ := h'
    rw [e] at e'
    cases e'
    exact Option.some.inj (l.symm.trans l')
theorem At.det : ∀ {p : List Step} {u v v' : V}, At H u p v → At H u p v' → v = v'
  | [], _, _, _, h, h' => h.trans h'.symm
  | s :: p, _, _, _, ⟨a, u1, e, hs, h⟩, ⟨a', u1', e', hs', h'⟩ => by
    rw [e] at e'
    cases e'
    have := hs.det hs'
    subst this
    exact At.det h h'
theorem StepH.mono (k : Sub H H') {a : Addr} {s : Step} {u : V} (h : StepH H a s u) : StepH H' a s u := by
  cases s with
  | fld f => obtain ⟨C, dx, fs, e, l⟩ := h; exact ⟨C, dx, fs, k _ _ e, l⟩
  | ix n => obtain ⟨fs, e, l⟩ := h; exact ⟨fs, k _ _ e, l⟩
  | key n => obtain ⟨fs, e, l⟩ := h; exact ⟨fs, k _ _ e, l⟩
  | keyT n => obtain ⟨fs, e, l⟩ := h; exact ⟨fs, k _ _ e, l⟩
theorem At.mono (k : Sub H H') : ∀ {p : List Step} {u v : V}, At H u p v → At H' u p v
  | [], _, _, h => h
  | s :: p, _, _, ⟨a, u1, e, hs, h⟩ => ⟨a, u1, e, hs.mono k, At.mono k h⟩
theorem At.snoc {s : Step} {a : Addr} {u : V} : ∀ {p : List Step} {v : V}, At H v p (.ref a) → StepH H a s u → At H v (p ++ [s]) u
  | [], v, h, q => ⟨a, u, h.symm, q, rfl⟩
  | t :: p, v, ⟨b, u1, e, hs, h⟩, q => ⟨b, u1, e, hs, At.snoc h q⟩
theorem getP_snoc {s : Step} : ∀ {p : List Step} {o o1 : O}, getP o p = some o1 → getP o (p ++ [s]) = step1 o1 s
  | [], o, o1, h => by
    cases h
    show (step1 o s).bind (fun x => some x) = _
    cases step1 o s <;> rfl
  | t :: p, o, o1, h => by
    obtain ⟨x, e1, e2⟩ := Option.bind_eq_some_iff.mp (show (step1 o t).bind (fun x => getP x p) = some o1 from h)
    show (step1 o t).bind (fun x => getP x (p ++ [s])) = _
    rw [e1]
    exact getP_snoc e2
/-- the same at a slot -/
theorem RepE.at_ {Pv : List V} {ε : En} {σ : L2.St} {L : List Addr} {i : Nat} {sl : Sl} {o o1 : O} {p : List Step} (re : RepE K F H Pv ε σ L) (e : ε[i]? = some sl) (eo : slO sl = some o) (eg : getP o p = some o1) :
    ∃ pv v1 La Lr, σ[i]? = some (some pv) ∧ At H pv p v1 ∧ L.Perm (La ++ Lr) ∧ RepO K F H o1 v1 La ∧ ∀ {F' H' : Hp} {o1' : O} {La' : List Addr}, Sub F F' → Kept H H' Lr → RepO K F' H' o1' v1 La' → ∃ L', L'.Perm (La' ++ Lr) ∧ RepE K F' H' Pv (ε.set i (sl.put (setP o p o1'))) σ L' := by
  obtain ⟨pv, La, Lr, es, pm, ro, re0, hp⟩ := re.take e eo
  obtain ⟨v1, Lb, Lc, ha, pm2, r2, back⟩ := ro.at_ eg
  refine ⟨pv, v1, Lb, Lc ++ Lr, es, ha, pm.trans (by rw [← List.append_assoc]; exact pm2.append_right Lr), r2, fun {F' H' o1' La'} s k r' => ?_⟩
  obtain ⟨L1, p1, q1⟩ := back s (fun b hb => k b (List.mem_append_left _ hb)) r'
  have re1 : RepE K F' H' Pv (ε.set i .no) σ Lr := re0.mono s fun b hb => k b (List.mem_append_right _ hb)
  have hi : i < ε.length := (List.getElem?_eq_some_iff.mp e).1
  obtain ⟨L2, p2, q2⟩ := RepE.put (sl' := sl.put (setP o p o1')) re1 (by rw [List.getElem?_set_self hi]) es q1 (by cases sl <;> rfl) (by cases sl <;> first | exact hp | exact fun z => z.elim)
  rw [List.set_set] at q2
  exact ⟨L2, p2.trans (by rw [← List.append_assoc]; exact p1.append_right Lr), q2⟩
end
end L3

set_option Elab.async false
set_option linter.all false
set_option maxRecDepth 100000
namespace L3
open PySem PySem.Spec PyProof.Rows L2
/-! ### reading forms of the rules -/
def rBin (g : W → W → Option W) (a b : En → Option W) : En → Option W := fun ε => (a ε).bind fun x => (b ε).bind fun y => g x y
def rUn (g : W → Option W) (a : En → Option W) : En → Option W := fun ε => (a ε).bind g
def rNil : En → Option (List W) := fun _ => some []
def rCons (a : En → Option W) (r : En → Option (List W)) : En → Option (List W) := fun ε => (a ε).bind fun x => (r ε).bind fun xs => some (x :: xs)
def rTup (m : En → Option (List W)) : En → Option W := fun ε => (m ε).bind fun xs => if xs.length ≤ sizeLine then some (.tup xs) else none
def rLst (m : En → Option (List W)) : En → Option W := fun ε => (m ε).bind fun xs => if xs.length ≤ sizeLine then some (.lst xs) else none
def rBi (g : List W → Option W) (m : En → Option (List W)) : En → Option W := fun ε => (m ε).bind g
def rVal (a : En → Option W) : En → Option Bool := fun ε => (a ε).bind asB
def rAndV (a b : En → Option W) : En → Option W := fun ε => (a ε).bind fun x => (asB x).bind fun k => if k = true then b ε else some (.bl false)
def rOrV (a b : En → Option W) : En → Option W := fun ε => (a ε).bind fun x => (asB x).bind fun k => if k = true then some (.bl true) else b ε
def rNotV (a : En → Option W) : En → Option W := fun ε => (a ε).bind fun x => (asB x).map fun k => .bl (!k)
def rAnd (a b : En → Option Bool) : En → Option Bool := fun ε => (a ε).bind fun x => if x = true then b ε else some false
def rOr (a b : En → Option Bool) : En → Option Bool := fun ε => (a ε).bind fun x => if x = true then some true else b ε
def rNot (a : En → Option Bool) : En → Option Bool := fun ε => (a ε).map fun x => !x
def rIf (t : En → Option Bool) (a b : En → Option W) : En → Option W := fun ε => (t ε).bind fun x => if x = true then a ε else b ε
theorem bind2 {α β : Type} {o : Option α} {f : α → Option β} {b : β} (h : o.bind f = some b) : ∃ a, o = some a ∧ f a = some b := Option.bind_eq_some_iff.mp h
section
variable {X : Cx} {c : C3} {pos : Pos}
/-- the first part, then the rest -/
theorem tR_bind {α β γ δ : Type} {rep : Hp → α → β → Prop} {rep2 : Hp → γ → δ → Prop} {a : En → Option α} {f : α → En → Option γ} {σ : L2.St} {H : Hp} {Q : δ → Hp → Prop} (h : tR c rep2 (fun ε => (a ε).bind fun x => f x ε) σ H Q) :
    tR c rep a σ H (fun v H1 => ∃ F ε L x, Fr F H1 L ∧ RepE c.K F H1 c.Pv ε σ L ∧ rep F x v ∧ ∃ w, f x ε = some w ∧ ∀ u H' F', Ext F H1 F' H' → rep2 F' w u → Q u H') := by
  obtain ⟨F, ε, L, fr, re, w, e, k⟩ := h
  obtain ⟨x, e1, e2⟩ := bind2 e
  exact ⟨F, ε, L, fr, re, x, e1, fun v H1 F1 x1 r1 => ⟨F1, ε, L, x, x1.fr fr re.mine, re.ext x1, r1, w, e2, fun u H' F' x2 r2 => k u H' F' (x1.trans x2) r2⟩⟩
theorem jr_slot {i : Nat} {x : Str} (hN : X.N[i]? = some x) (hv : Vis X.env.scope x) (hd : (x == ("__debug__" : Str)) = false) (hcd : (x == ("__classdict__" : Str)) = false) : JR X c (.Name x pos) (rSlot i) :=
  PE.wk (pe_var hN hv hd hcd) fun σ H Q ⟨F, ε, L, fr, re, w, e, k⟩ => by
    unfold rSlot at e
    split at e
    · rename_i w' e'
      cases e
      obtain ⟨v, e1, r⟩ := re.fz_at e'
      exact ⟨v, e1, k v H F (Ext.refl fr.sub) r⟩
    · cases e
theorem jr_cst {e : Expr} {w : W} {v : V} (h : PE X e (tC v)) (r : ∀ F, RepF c.K F w v) : JR X c e (fun _ => some w) := PE.wk h fun σ H Q ⟨F, ε, L, fr, re, w', e', k⟩ => by
  cases e'
  exact k v H F (Ext.refl fr.sub) (r F)
theorem tOpR {r : R2} {g : W → W → Option W} {ma mb : En → Option W} (hg : OpG c.K r g) {σ : L2.St} {H : Hp} {Q : VK} (h : tR c (RepF c.K) (rBin g ma mb) σ H Q) : tOp r (tR c (RepF c.K) ma) (tR c (RepF c.K) mb) σ H Q := by
  obtain ⟨F, ε, L, fr, re, w, e, k⟩ := h
  obtain ⟨x, e1, e⟩ := bind2 e
  obtain ⟨y, e2, e⟩ := bind2 e
  exact ⟨F, ε, L, fr, re, x, e1, fun v1 H1 F1 x1 r1 => ⟨F1, ε, L, x1.fr fr re.mine, re.ext x1, y, e2, fun v2 H2 F2 x2 r2 => hg F2 H2 x y w v1 v2 Q x2.sub (r1.mono x2.fsub) r2 e fun v F' H' x3 rv => k v H' F' ((x1.trans x2).trans x3) rv⟩⟩
theorem tUnR {r : V → Hp → VK → Prop} {g : W → Option W} {m : En → Option W} (hg : UnG c.K r g) {σ : L2.St} {H : Hp} {Q : VK} (h : tR c (RepF c.K) (rUn g m) σ H Q) : tR c (RepF c.K) m σ H (fun x H1 => r x H1 Q) := by
  obtain ⟨F, ε, L, fr, re, w, e, k⟩ := h
  obtain ⟨x, e1, e⟩ := bind2 e
  exact ⟨F, ε, L, fr, re, x, e1, fun v1 H1 F1 x1 r1 => hg F1 H1 x w v1 Q x1.sub r1 e fun v F' H' x3 rv => k v H' F' (x1.trans x3) rv⟩
theorem tTestR {m : En → Option W} {t : TE} (h : ∀ σ H Q, tR c (RepF c.K) m σ H Q → t σ H Q) {σ : L2.St} {H : Hp} {Q : Bool → Hp → Prop} (q : tR c (fun _ (a b : Bool) => a = b) (rVal m) σ H Q) : tTest t σ H Q := by
  obtain ⟨F, ε, L, fr, re, w, e, k⟩ := q
  obtain ⟨x, e1, e⟩ := bind2 e
  refine h _ _ _ ⟨F, ε, L, fr, re, x, e1, fun v1 H1 F1 x1 r1 => ?_⟩
  cases x <;> first | (cases e; done) | skip
  cases e
  exact ⟨_, r1, k _ H1 F1 x1 rfl⟩
theorem jr_bin {op : Operator} {a b : Expr} {ma mb : En → Option W} {r : R2} {g : W → W → Option W} (ho : OpR X (binaryOp op) r) (hg : OpG c.K r g) (ha : JR X c a ma) (hb : JR X c b mb) : JR X c (.BinOp a op b pos) (rBin g ma mb) :=
  PE.wk (pe_op ho ha hb) fun _ _ _ => tOpR hg
theorem jr_cmp {op : CmpOp} {a b : Expr} {ma mb : En → Option W} {r : R2} {g : W → W → Option W} (ho : OpR X (compareOp op) r) (hg : OpG c.K r g) (ha : JR X c a ma) (hb : JR X c b mb) (hm : behindInMarks op b = false) : JR X c (.Compare a [op] [b] pos) (rBin g ma mb) :=
  PE.wk (pe_cmpR ho ha hb hm) fun _ _ _ => tOpR hg
theorem jrt_cmp {op : CmpOp} {a b : Expr} {ma mb : En → Option W} {r : R2} {g : W → W → Option W} (ho : OpR X (compareOp op) r) (hg : OpG c.K r g) (ha : JR X c a ma) (hb : JR X c b mb) (hm : behindInMarks op b = false) : JRT X c (.Compare a [op] [b] pos) (rVal (rBin g ma mb)) :=
  PT.wk (pt_cmpR ho ha hb hm) fun _ _ _ => tTestR fun _ _ _ => tOpR hg
theorem jr_un {op : UnaryOp} {a : Expr} {m : En → Option W} {r : V → Hp → VK → Prop} {g : W → Option W} (ho : UnR X (unaryOp op) r) (hg : UnG c.K r g) (ha : JR X c a m) : JR X c (.UnaryOp op a pos) (rUn g m) :=
  PE.wk (pe_un ho ha) fun _ _ _ => tUnR hg
theorem jra_nil : JRA X c [] rNil := PA.wk pa_nil fun σ H Q ⟨F, ε, L, fr, re, w, e, k⟩ => by
  cases e
  exact k [] H F (Ext.refl fr.sub) rfl
theorem jra_cons {e : Expr} {es : List Expr} {m : En → Option W} {r : En → Option (List W)} (hs : starEach (e :: es) X.env = (false, eval e X.env) :: starEach es X.env) (h : JR X c e m) (t : JRA X c es r) : JRA X c (e :: es) (rCons m r) := by
  refine PA.wk (pa_cons h t hs) fun σ H Q ⟨F, ε, L, fr, re, w, e, k⟩ => ?_
  obtain ⟨x, e1, e⟩ := bind2 e
  obtain ⟨xs, e2, e⟩ := bind2 e
  cases e
  exact ⟨F, ε, L, fr, re, x, e1, fun v1 H1 F1 x1 r1 => ⟨F1, ε, L, x1.fr fr re.mine, re.ext x1, xs, e2, fun v2 H2 F2 x2 r2 => k _ H2 F2 (x1.trans x2) ⟨v1, v2, rfl, r1.mono x2.fsub, r2⟩⟩⟩
theorem jr_tup {es : List Expr} {x1 : Nat} {m : En → Option (List W)} (h : JRA X c es m) : JR X c (.Tuple es x1 pos) (rTup m) := by
  refine PE.wk (pe_tup h) fun σ H Q ⟨F, ε, L, fr, re, w, e, k⟩ => ?_
  obtain ⟨x, e1, e⟩ := bind2 e
  obtain ⟨hz, rfl⟩ := ite_some e
  refine ⟨F, ε, L, fr, re, x, e1, fun v1 H1 F1 x1 r1 => ⟨by rw [r1.length]; exact hz, fun p np => ?_⟩⟩
  obtain ⟨x2, r⟩ := new_tup x1.sub r1 np
  exact k _ _ _ (x1.trans x2) r
theorem jr_lst {es : List Expr} {m : En → Option (List W)} (h : JRA X c es m) : JR X c (.List es pos) (rLst m) := by
  refine PE.wk (pe_lst h) fun σ H Q ⟨F, ε, L, fr, re, w, e, k⟩ => ?_
  obtain ⟨x, e1, e⟩ := bind2 e
  obtain ⟨hz, rfl⟩ := ite_some e
  refine ⟨F, ε, L, fr, re, x, e1, fun v1 H1 F1 x1 r1 => ⟨by rw [r1.length]; exact hz, fun p np => ?_⟩⟩
  obtain ⟨x2, r⟩ := new_lst x1.sub r1 np
  exact k _ _ _ (x1.trans x2) r
theorem jr_item {a b : Expr} {ma mb : En → Option W} (hK : c.K = X.K) (hu : X.A.units + 1 < cLine) (hs : PlainIx b) (ha : JR X c a ma) (hb : JR X c b mb) : JR X c (.Subscript a b pos) (rBin W.item ma mb) :=
  PE.wk (pe_ix (ix_seq.or (ix_dict hu)) ha hb hs) fun _ _ _ q => tOpR (r := rItem X.K) (by rw [← hK]; exact g_item) q
theorem jr_fld {ok : Str → Str → Bool} {e : Expr} {f : Str} {m : En → Option W} (hK : c.K = X.K) (ho : FldOk X.K ok) (hb : attributeBase e f X.env (eval e X.env) = eval e X.env) (h : JR X c e m) : JR X c (.Attribute e f pos) (rUn (W.fld ok f) m) := by
  refine PE.wk (pe_fld h hb) fun σ H Q q => ?_
  refine tUnR (c := c) (r := fun x H1 Q => ∃ a C dx fs v, x = .ref a ∧ H1 a = some (.ins C dx fs) ∧ Cls X.K C ∧ NoAttr X.K C f ∧ fs.lookup f = some v ∧ Q v H1) ?_ q
  intro F H w1 w v1 Q s r1 e k
  cases w1 <;> first | (cases e; done) | skip
  rename_i C fs
  have e : (if ok C f then fs.lookup f else none) = some w := e
  by_cases hc : ok C f = true
  · rw [if_pos hc] at e
    obtain ⟨p, dx, gs, rfl, hp, hd, rg⟩ := r1
    obtain ⟨v, e1, rv⟩ := rg.lookup e
    obtain ⟨h1, h2⟩ := ho C f hc
    rw [← hK] at h1 h2 ⊢
    exact ⟨p, _, dx, gs, v, rfl, s _ _ hp, h1, h2, e1, k v F H (Ext.refl s) rv⟩
  · rw [if_neg hc] at e
    cases e
theorem jr_isN {a : Expr} {m : En → Option W} {j pos'} (h : JR X c a m) : JR X c (.Compare a [.Is] [.Constant .none j pos'] pos) (rUn W.isN m) :=
  PE.wk (pe_cmp (pc_isN h)) fun _ _ _ q => tUnR g_isN q
theorem jr_notN {a : Expr} {m : En → Option W} {j pos'} (h : JR X c a m) : JR X c (.Compare a [.IsNot] [.Constant .none j pos'] pos) (rUn W.notN m) :=
  PE.wk (pe_cmp (pc_notN h)) fun _ _ _ q => tUnR g_notN q
theorem jrt_isN {a : Expr} {m : En → Option W} {j pos'} (h : JR X c a m) : JRT X c (.Compare a [.Is] [.Constant .none j pos'] pos) (rVal (rUn W.isN m)) :=
  PT.wk (pt_cmp (pc_isN h)) fun _ _ _ q => tTestR (fun _ _ _ q => tUnR g_isN q) q
theorem jrt_notN {a : Expr} {m : En → Option W} {j pos'} (h : JR X c a m) : JRT X c (.Compare a [.IsNot] [.Constant .none j pos'] pos) (rVal (rUn W.notN m)) :=
  PT.wk (pt_cmp (pc_notN h)) fun _ _ _ q => tTestR (fun _ _ _ q => tUnR g_notN q) q
theorem tBiR {m : En → Option (List W)} {r : List V → Hp → VK → Prop} {g : List W → Option W} (hg : CallG c.K r g) {σ : L2.St} {H : Hp} {Q : VK} (h : tR c (RepF c.K) (rBi g m) σ H Q) : tR c (RepFs c.K) m σ H (fun vs H1 => r vs H1 Q) := by
  obtain ⟨F, ε, L, fr, re, w, e, k⟩ := h
  obtain ⟨x, e1, e⟩ := bind2 e
  exact ⟨F, ε, L, fr, re, x, e1, fun v1 H1 F1 x1 r1 => hg F1 H1 x w v1 Q x1.sub r1 e fun v F' H' x3 rv => k v H' F' (x1.trans x3) rv⟩
theorem jr_bi {id : String} {r : List V → Hp → VK → Prop} {g : List W → Option W} {x : Str} {p : Pos} {e : Expr} {es : List Expr} {m : En → Option (List W)} (hc : CallR X (.builtin id) r) (hG : CallG c.K r g) (hg : Gl X x) (hm : X.mg x = none) (hv : bootBuiltins x = some (.builtin id)) (ha : JRA X c (e :: es) m)
    (hn : x ≠ "__name__") (hdb : (x == ("__debug__" : Str)) = false) (he : starEach (e :: es) X.env = (false, eval e X.env) :: starEach es X.env) (hpl : (backTo pos (starEach es X.env)).any (·.1) = false) : JR X c (.Call (.Name x p) (e :: es) [] pos) (rBi g m) :=
  PE.wk (pe_callB hc hg hm hv ha hn hdb he hpl) fun _ _ _ q => tBiR hG q
theorem jr_ty {T : String} {r : List V → Hp → VK → Prop} {g : List W → Option W} {x : Str} {p : Pos} {e : Expr} {es : List Expr} {m : En → Option (List W)} (hc : CallR X (.type T) r) (hG : CallG c.K r g) (hg : Gl X x) (hm : X.mg x = none) (hv : bootBuiltins x = some (.type T)) (ha : JRA X c (e :: es) m)
    (hn : x ≠ "__name__") (hdb : (x == ("__debug__" : Str)) = false) (he : starEach (e :: es) X.env = (false, eval e X.env) :: starEach es X.env) (hpl : (backTo pos (starEach es X.env)).any (·.1) = false) : JR X c (.Call (.Name x p) (e :: es) [] pos) (rBi g m) :=
  PE.wk (pe_callTy hc hg hm hv ha hn hdb he hpl) fun _ _ _ q => tBiR hG q
theorem jr_one {op : BoolOp} {a : Expr} {m : En → Option W} (h : JR X c a m) : JR X c (.BoolOp op [a] pos) m := pe_one h
theorem jr_and {a b : Expr} {rest : List Expr} {ma mb : En → Option W} (ha : JR X c a ma) (hb : JR X c (.BoolOp .And (b :: rest) pos) mb) : JR X c (.BoolOp .And (a :: b :: rest) pos) (rAndV ma mb) := by
  refine PE.wk (pe_and ha hb) fun σ H Q ⟨F, ε, L, fr, re, w, e, k⟩ => ?_
  obtain ⟨x, e1, e⟩ := bind2 e
  obtain ⟨y, e2, e⟩ := bind2 e
  refine ⟨F, ε, L, fr, re, x, e1, fun v1 H1 F1 x1 r1 => ?_⟩
  cases x <;> first | (cases e2; done) | skip
  cases e2
  refine ⟨y, r1, ?_⟩
  cases y with
  | true => exact ⟨F1, ε, L, x1.fr fr re.mine, re.ext x1, w, e, fun v H' F' x2 r2 => k v H' F' (x1.trans x2) r2⟩
  | false =>
    cases (show some (W.bl false) = some w from e)
    exact k _ H1 F1 x1 rfl
theorem jr_or {a b : Expr} {rest : List Expr} {ma mb : En → Option W} (ha : JR X c a ma) (hb : JR X c (.BoolOp .Or (b :: rest) pos) mb) : JR X c (.BoolOp .Or (a :: b :: rest) pos) (rOrV ma mb) := by
  refine PE.wk (pe_or ha hb) fun σ H Q ⟨F, ε, L, fr, re, w, e, k⟩ => ?_
  obtain ⟨x, e1, e⟩ := bind2 e
  obtain ⟨y, e2, e⟩ := bind2 e
  refine ⟨F, ε, L, fr, re, x, e1, fun v1 H1 F1 x1 r1 => ?_⟩
  cases x <;> first | (cases e2; done) | skip
  cases e2
  refine ⟨y, r1, ?_⟩
  cases y with
  | false => exact ⟨F1, ε, L, x1.fr fr re.mine, re.ext x1, w, e, fun v H' F' x2 r2 => k v H' F' (x1.trans x2) r2⟩
  | true =>
    cases (show some (W.bl true) = some w from e)
    exact k _ H1 F1 x1 rfl
theorem jr_not {a : Expr} {m : En → Option W} (h : JR X c a m) : JR X c (.UnaryOp .Not a pos) (rNotV m) := by
  refine PE.wk (pe_not h) fun σ H Q ⟨F, ε, L, fr, re, w, e, k⟩ => ?_
  obtain ⟨x, e1, e⟩ := bind2 e
  refine ⟨F, ε, L, fr, re, x, e1, fun v1 H1 F1 x1 r1 => ?_⟩
  cases x <;> first | (cases e; done) | skip
  cases e
  exact ⟨_, r1, k _ H1 F1 x1 rfl⟩
abbrev JRP (X : Cx) (c : C3) (e : Expr) (g : En → Option Bool) : Prop := PW X e (tR c (fun _ (a b : Bool) => a = b) g)
theorem jrt_val {e : Expr} {m : En → Option W} (h : JR X c e m) (he : ∀ whole, isTrue e X.env whole = (do let v ← whole; standAt e.pos; holding [v] (truthy v))) : JRT X c e (rVal m) :=
  PT.wk (pt_val h he) fun σ H Q q => tTestR (fun _ _ _ h => h) q
theorem jrp_and1 {a : Expr} {m : En → Option Bool} (h : JRT X c a m) : JRP X c (.BoolOp .And [a] pos) m := pw_and1 h
theorem jrp_or1 {a : Expr} {m : En → Option Bool} (h : JRT X c a m) : JRP X c (.BoolOp .Or [a] pos) m := pw_or1 h
theorem jrp_and {a b : Expr} {rest : List Expr} {ma mb : En → Option Bool} (ha : JRT X c a ma) (hb : JRP X c (.BoolOp .And (b :: rest) pos) mb) : JRP X c (.BoolOp .And (a :: b :: rest) pos) (rAnd ma mb) := by
  refine PW.wk (pw_and ha hb) fun σ H Q ⟨F, ε, L, fr, re, w, e, k⟩ => ?_
  obtain ⟨x, e1, e⟩ := bind2 e
  refine ⟨F, ε, L, fr, re, x, e1, fun v1 H1 F1 x1 r1 => ?_⟩
  subst r1
  cases x with
  | true => exact ⟨F1, ε, L, x1.fr fr re.mine, re.ext x1, w, e, fun v H' F' x2 r2 => k v H' F' (x1.trans x2) r2⟩
  | false =>
    cases (show some false = some w from e)
    exact k _ H1 F1 x1 rfl
theorem jrp_or {a b : Expr} {rest : List Expr} {ma mb : En → Option Bool} (ha : JRT X c a ma) (hb : JRP X c (.BoolOp .Or (b :: rest) pos) mb) : JRP X c (.BoolOp .Or (a :: b :: rest) pos) (rOr ma mb) := by
  refine PW.wk (pw_or ha hb) fun σ H Q ⟨F, ε, L, fr, re, w, e, k⟩ => ?_
  obtain ⟨x, e1, e⟩ := bind2 e
  refine ⟨F, ε, L, fr, re, x, e1, fun v1 H1 F1 x1 r1 => ?_⟩
  subst r1
  cases x with
  | false => exact ⟨F1, ε, L, x1.fr fr re.mine, re.ext x1, w, e, fun v H' F' x2 r2 => k v H' F' (x1.trans x2) r2⟩
  | true =>
    cases (show some true = some w from e)
    exact k _ H1 F1 x1 rfl
theorem jrt_not {a : Expr} {m : En → Option Bool} (h : JRT X c a m) : JRT X c (.UnaryOp .Not a pos) (rNot m) := by
  refine PT.wk (pt_not h) fun σ H Q ⟨F, ε, L, fr, re, w, e, k⟩ => ?_
  obtain ⟨x, e1, rfl⟩ := Option.map_eq_some_iff.mp e
  refine ⟨F, ε, L, fr, re, x, e1, fun v1 H1 F1 x1 r1 => ?_⟩
  subst r1
  exact k _ H1 F1 x1 rfl
theorem jr_if {t a b : Expr} {mt : En → Option Bool} {ma mb : En → Option W} (ht : JRT X c t mt) (ha : JR X c a ma) (hb : JR X c b mb) : JR X c (.IfExp t a b pos) (rIf mt ma mb) := by
  refine PE.wk (pe_ifExp ht ha hb) fun σ H Q ⟨F, ε, L, fr, re, w, e, k⟩ => ?_
  obtain ⟨x, e1, e⟩ := bind2 e
  refine ⟨F, ε, L, fr, re, x, e1, fun v1 H1 F1 x1 r1 => ?_⟩
  subst r1
  cases x with
  | false => exact ⟨F1, ε, L, x1.fr fr re.mine, re.ext x1, w, e, fun v H' F' x2 r2 => k v H' F' (x1.trans x2) r2⟩
  | true => exact ⟨F1, ε, L, x1.fr fr re.mine, re.ext x1, w, e, fun v H' F' x2 r2 => k v H' F' (x1.trans x2) r2⟩
/-! ### places -/
abbrev Pl := Nat × List Step
def getS (ε : En) (q : Pl) : Option O := (ε[q.1]?).bind fun sl => (slO sl).bind fun o => getP o q.2
def setS (ε : En) (q : Pl) (o1 : O) : En := match ε[q.1]? with
  | some sl => (match slO sl with
    | some o => ε.set q.1 (sl.put (setP o q.2 o1))
    | none => ε)
  | none => ε
theorem RepE.atS {F H : Hp} {Pv : List V} {ε : En} {σ : L2.St} {L : List Addr} {q : Pl} {o1 : O} (re : RepE c.K F H Pv ε σ L) (e : getS ε q = some o1) :
    ∃ pv v1 La Lr, σ[q.1]? = some (some pv) ∧ At H pv q.2 v1 ∧ L.Perm (La ++ Lr) ∧ RepO c.K F H o1 v1 La ∧ ∀ {F' H' : Hp} {o1' : O} {La' : List Addr}, Sub F F' → Kept H H' Lr → RepO c.K F' H' o1' v1 La' → ∃ L', L'.Perm (La' ++ Lr) ∧ RepE c.K F' H' Pv (setS ε q o1') σ L' := by
  obtain ⟨sl, e1, e2⟩ := bind2 e
  obtain ⟨o, e3, e4⟩ := bind2 e2
  obtain ⟨pv, v1, La, Lr, h1, h2, h3, h4, h5⟩ := re.at_ e1 e3 e4
  refine ⟨pv, v1, La, Lr, h1, h2, h3, h4, fun {F' H' o1' La'} s k r => ?_⟩
  obtain ⟨L', p, q'⟩ := h5 s k r
  refine ⟨L', p, ?_⟩
  unfold setS
  rw [e1]
  dsimp only
  rw [e3]
  exact q'
def tP (c : C3) (g : En → Option Pl) : TE := fun σ H Q => ∃ F ε L, Fr F H L ∧ RepE c.K F H c.Pv ε σ L ∧ ∃ q, g ε = some q ∧ ∀ v H' F', Ext F H F' H' → (∃ pv, σ[q.1]? = some (some pv) ∧ At H' pv q.2 v) → Q v H'
abbrev JPa (X : Cx) (c : C3) (e : Expr) (g : En → Option Pl) : Prop := PE X e (tP c g)
def pSlot (i : Nat) : En → Option Pl := fun ε => (getS ε (i, [])).map fun _ => (i, [])
theorem jp_slot {i : Nat} {x : Str} (hN : X.N[i]? = some x) (hv : Vis X.env.scope x) (hd : (x == ("__debug__" : Str)) = false) (hcd : (x == ("__classdict__" : Str)) = false) : JPa X c (.Name x pos) (pSlot i) :=
  PE.wk (pe_var hN hv hd hcd) fun σ H Q ⟨F, ε, L, fr, re, q, e, k⟩ => by
    obtain ⟨o, e1, rfl⟩ := Option.map_eq_some_iff.mp (show (getS ε (i, [])).map (fun _ => (i, [])) = some q from e)
    obtain ⟨pv, v1, La, Lr, h1, h2, _⟩ := re.atS e1
    exact ⟨pv, h1, k pv H F (Ext.refl fr.sub) ⟨pv, h1, rfl⟩⟩
def pFld (ok : Str → Str → Bool) (f : Str) (g : En → Option Pl) : En → Option Pl := fun ε => (g ε).bind fun q => match getS ε q with
  | some (.ins C fs) => if ok C f = true ∧ (fs.lookup f).isSome = true then some (q.1, q.2 ++ [.fld f]) else none
  | _ => none
theorem jp_fld {ok : Str → Str → Bool} {e : Expr} {f : Str} {g : En → Option Pl} (hK : c.K = X.K) (ho : FldOk X.K ok) (hb : attributeBase e f X.env (eval e X.env) = eval e X.env) (h : JPa X c e g) : JPa X c (.Attribute e f pos) (pFld ok f g) := by
  refine PE.wk (pe_fld h hb) fun σ H Q ⟨F, ε, L, fr, re, q, e, k⟩ => ?_
  obtain ⟨q0, e1, e⟩ := bind2 e
  refine ⟨F, ε, L, fr, re, q0, e1, fun v H1 F1 x1 ⟨pv, hp, ha⟩ => ?_⟩
  split at e
  · rename_i C fs eg
    obtain ⟨⟨hok, hf⟩, rfl⟩ := ite_some e
    obtain ⟨pv', v1, La, Lr, h1, h2, h3, h4, _⟩ := (re.ext x1).atS eg
    rw [hp] at h1
    cases h1
    have := ha.det h2
    subst this
    obtain ⟨a, dx, gs, L', ev, _, hi, _, rg⟩ := h4
    subst ev
    obtain ⟨o, eo⟩ := Option.isSome_iff_exists.mp hf
    obtain ⟨u, _, _, hu, _⟩ := rg.at1 eo
    obtain ⟨k1, k2⟩ := ho C f hok
    rw [← hK] at k1 k2 ⊢
    exact ⟨a, _, dx, gs, u, rfl, hi, k1, k2, hu, k u H1 F1 x1 ⟨pv, hp, ha.snoc ⟨_, dx, gs, hi, hu⟩⟩⟩
  · cases e
def ixStep : O → W → Option Step
  | .lst xs, .int n => (ixN xs.length n).map .ix
  | .dct .k kvs, w => (kyW w).bind fun k => if (lookKO kvs k).isSome = true then some (.key k) else none
  | .dct .t kvs, w => (ktW w).bind fun k => if (lookTO kvs k).isSome = true then some (.keyT k) else none
  | _, _ => none
def pIx (g : En → Option Pl) (h : En → Option W) : En → Option Pl := fun ε => (g ε).bind fun q => (h ε).bind fun w => (getS ε q).bind fun o => (ixStep o w).map fun s => (q.1, q.2 ++ [s])
theorem RepOs.length' {K : PySem.W.Frag} {F H : Hp} {xs : List O} {vs : List V} {L : List Addr} (h : RepOs K F H xs vs L) : vs.length = xs.length := RepOs.length h
theorem ixN_lt {n : Nat} {i : Int} {j : Nat} (h : ixN n i = some j) : j < n := (ixN_seq h).2.1
theorem jp_ix {a b : Expr} {g : En → Option Pl} {h : En → Option W} (hK : c.K = X.K) (hu : X.A.units + 1 < cLine) (hs : PlainIx b) (ha : JPa X c a g) (hb : JR X c b h) : JPa X c (.Subscript a b pos) (pIx g h) := by
  refine PE.wk (pe_ix (ix_seq.or (ix_dict hu)) ha hb hs) fun σ H Q ⟨F, ε, L, fr, re, q, e, k⟩ => ?_
  obtain ⟨q0, e1, e⟩ := bind2 e
  obtain ⟨w, e2, e⟩ := bind2 e
  obtain ⟨o, e3, e⟩ := bind2 e
  obtain ⟨s, e4, rfl⟩ := Option.map_eq_some_iff.mp e
  refine ⟨F, ε, L, fr, re, q0, e1, fun v H1 F1 x1 ⟨pv, hp, hat⟩ => ⟨F1, ε, L, x1.fr fr re.mine, re.ext x1, w, e2, fun y H2 F2 x2 ry => ?_⟩⟩
  have x12 := x1.trans x2
  obtain ⟨pv', v1, La, Lr, h1, h2, h3, h4, _⟩ := (re.ext x12).atS e3
  rw [hp] at h1
  cases h1
  have hat2 := hat.mono x2.keep
  have := hat2.det h2
  subst this
  cases o with
  | fz w => cases e4
  | ins C fs => cases e4
  | lst xs =>
    obtain ⟨n, ew⟩ : ∃ n, w = .int n := by cases w <;> first | exact ⟨_, rfl⟩ | (cases e4; done)
    subst ew
    obtain ⟨j, ej, rfl⟩ := Option.map_eq_some_iff.mp (show (ixN xs.length n).map Step.ix = some s from e4)
    obtain ⟨a, vs, L', ev, _, hi, rs⟩ := h4
    subst ev
    have hl : j < vs.length := by rw [rs.length']; exact ixN_lt ej
    exact .inl (.inl ⟨a, vs, n, vs[j], rfl, ry, SqL.of hi, by unfold L2.atI; rw [rs.length', ej]; exact List.getElem?_eq_getElem hl, k _ H2 F2 x12 ⟨pv, hp, hat2.snoc ⟨vs, hi, List.getElem?_eq_getElem hl⟩⟩⟩)
  | dct d kvs =>
    cases d with
    | k =>
      obtain ⟨ky, ek, e5⟩ := bind2 (show (kyW w).bind (fun k => if (lookKO kvs k).isSome = true then some (Step.key k) else none) = some s from e4)
      obtain ⟨hsm, rfl⟩ := ite_some e5
      obtain ⟨a, ks, L', ev, _, hi, rs⟩ := h4
      subst ev
      obtain ⟨o1, eo⟩ := Option.isSome_iff_exists.mp hsm
      obtain ⟨u, _, _, hv, _⟩ := rs.at1 eo
      have := kyW_rep ek ry
      subst this
      exact .inr ⟨a, u, rfl, .inl ⟨ks, ky, .inl hi, rfl, hv.symm⟩, k _ H2 F2 x12 ⟨pv, hp, hat2.snoc ⟨ks, hi, hv⟩⟩⟩
    | t =>
      obtain ⟨ky, ek, e5⟩ := bind2 (show (ktW w).bind (fun k => if (lookTO kvs k).isSome = true then some (Step.keyT k) else none) = some s from e4)
      obtain ⟨hsm, rfl⟩ := ite_some e5
      obtain ⟨a, ks, L', ev, _, hi, rs⟩ := h4
      subst ev
      obtain ⟨o1, eo⟩ := Option.isSome_iff_exists.mp hsm
      obtain ⟨u, _, _, hv, _⟩ := rs.at1 eo
      obtain ⟨b, rfl, hb⟩ := ktW_rep x2.sub ek ry
      exact .inr ⟨a, u, rfl, .inr ⟨ks, ky, b, .inl hi, rfl, hb, hv.symm⟩, k _ H2 F2 x12 ⟨pv, hp, hat2.snoc ⟨ks, hi, hv⟩⟩⟩
    | n => exact h4.elim
/-- what is frozen at a place -/
def rPl (g : En → Option Pl) : En → Option W := fun ε => (g ε).bind fun q => match getS ε q with
  | some (.fz w) => some w
  | _ => none
theorem jr_pl {e : Expr} {g : En → Option Pl} (h : JPa X c e g) : JR X c e (rPl g) := by
  refine PE.wk h fun σ H Q ⟨F, ε, L, fr, re, w, e, k⟩ => ?_
  obtain ⟨q0, e1, e⟩ := bind2 e
  refine ⟨F, ε, L, fr, re, q0, e1, fun v H1 F1 x1 ⟨pv, hp, hat⟩ => ?_⟩
  split at e
  · rename_i w' eg
    cases e
    obtain ⟨pv', v1, La, Lr, h1, h2, h3, ⟨_, h4⟩, _⟩ := (re.ext x1).atS eg
    rw [hp] at h1
    cases h1
    have := hat.det h2
    subst this
    exact k v H1 F1 x1 h4
  · cases e
end
end L3

set_option Elab.async false
set_option linter.all false
set_option maxRecDepth 100000
namespace L3
open PySem PySem.Spec PyProof.Rows L2
/-! ### one's own, changed -/
section
variable {K : PySem.W.Frag} {F F' H H' : Hp} {L L' La Lr Lb : List Addr}
theorem repFs_own : ∀ {ws : List W} {vs : List V}, RepFs K F ws vs → RepOs K F H (ws.map .fz) vs []
  | [], _, h => ⟨h, rfl⟩
  | w :: ws, _, ⟨v, r, e, q, t⟩ => ⟨v, r, [], [], e, rfl, ⟨rfl, q⟩, repFs_own t⟩
theorem RepOs.append : ∀ {xs ys : List O} {vs us : List V} {L1 L2 : List Addr}, RepOs K F H xs vs L1 → RepOs K F H ys us L2 → RepOs K F H (xs ++ ys) (vs ++ us) (L1 ++ L2)
  | [], _, _, _, _, _, h, t => by rw [h.1, h.2]; exact t
  | x :: xs, _, _, _, _, _, ⟨v, r, M1, M2, e, eL, q, t⟩, h => ⟨v, r ++ _, M1, M2 ++ _, by rw [e]; rfl, by rw [eL, List.append_assoc], q, RepOs.append t h⟩
theorem RepOs.split : ∀ {xs : List O} {vs : List V} {L : List Addr} (n : Nat), RepOs K F H xs vs L → ∃ L1 L2, L = L1 ++ L2 ∧ RepOs K F H (xs.take n) (vs.take n) L1 ∧ RepOs K F H (xs.drop n) (vs.drop n) L2
  | xs, vs, L, 0, h => ⟨[], L, rfl, ⟨rfl, rfl⟩, h⟩
  | [], _, _, n + 1, h => ⟨[], [], by rw [h.2]; rfl, by rw [h.1]; exact ⟨rfl, rfl⟩, by rw [h.1]; exact ⟨rfl, rfl⟩⟩
  | x :: xs, _, _, n + 1, ⟨v, r, M1, M2, e, eL, q, t⟩ => by
    subst e eL
    obtain ⟨L1, L2, eL, h1, h2⟩ := RepOs.split n t
    exact ⟨M1 ++ L1, L2, by rw [eL, List.append_assoc], ⟨v, _, M1, L1, rfl, rfl, q, h1⟩, h2⟩
theorem RepOs.set1 (s : Sub F F') : ∀ {xs : List O} {vs : List V} {L : List Addr} {j : Nat} {y : O} {vy : V}, RepOs K F H xs vs L → Kept H H' L → RepO K F' H' y vy Lb → ∃ Ld L', (Lb ++ L).Perm (Ld ++ L') ∧ RepOs K F' H' (xs.set j y) (vs.set j vy) L'
  | [], _, L, j, y, vy, h, k, ry => ⟨Lb ++ L, [], by simp, by rw [h.1]; exact ⟨rfl, rfl⟩⟩
  | x :: xs, _, _, 0, y, vy, ⟨v, r, M1, M2, e, eL, q, t⟩, k, ry => by
    subst e eL
    exact ⟨M1, Lb ++ M2, perm3, vy, r, Lb, M2, rfl, rfl, ry, t.mono s _ fun a ha => k a (List.mem_append_right _ ha)⟩
  | x :: xs, _, _, j + 1, y, vy, ⟨v, r, M1, M2, e, eL, q, t⟩, k, ry => by
    subst e eL
    obtain ⟨Ld, L', p, h⟩ := RepOs.set1 s (j := j) t (fun a ha => k a (List.mem_append_right _ ha)) ry
    refine ⟨Ld, M1 ++ L', ?_, v, _, M1, L', rfl, rfl, q.mono s _ fun a ha => k a (List.mem_append_left _ ha), h⟩
    exact (perm3 (A := Lb) (B := M1) (C := M2)).trans (perm_in (D := M1) p)
theorem RepOs.getLast : ∀ {xs : List O} {vs : List V} {L : List Addr} {n : Nat} {w : W}, RepOs K F H xs vs L → xs[n]? = some (.fz w) → ∃ v, vs[n]? = some v ∧ RepF K F w v := fun {xs vs L n w} h e => by
  obtain ⟨v, La, Lr, h1, _, ⟨_, h2⟩, _⟩ := h.at1 e
  exact ⟨v, h1, h2⟩
/-- the object at a, one's own, is changed in place -/
theorem upd_own {a : Addr} {u : HO} (fr : Fr F H L) (ha : a ∈ L) (p : L.Perm (Lb ++ L')) : Fr F (upd H a u) L' ∧ Stp F H L F (upd H a u) L' := by
  have fr2 := fr.perm p
  refine ⟨⟨fun b o e => ?_, (List.nodup_append.mp fr2.nd).2.1, fun b hb => fr2.out b (List.mem_append_right _ hb)⟩, ⟨fun _ _ e => e, fun b o e n => ?_, fun b o e => .inl e, fun b hb => .inl (p.mem_iff.mpr (List.mem_append_right _ hb))⟩⟩
  · rw [upd_ne fun z => by rw [z, fr.out a ha] at e; cases e]; exact fr.sub b o e
  · rw [upd_ne fun z => n (by rw [z]; exact ha)]; exact e
theorem kept_upd {a : Addr} {u : HO} (n : a ∉ L) : Kept H (upd H a u) L := fun b hb w e => by
  rw [upd_ne fun z => n (by rw [← z]; exact hb)]; exact e
/-- a list of one's own gets new contents -/
theorem own_list {a : Addr} {xs' : List O} {vs' : List V} {Ld : List Addr} (fr : Fr F H (a :: L)) (p : L.Perm (Ld ++ L')) (r : Kept H (upd H a (.lst vs')) L → RepOs K F (upd H a (.lst vs')) xs' vs' L') :
    Fr F (upd H a (.lst vs')) (a :: L') ∧ Stp F H (a :: L) F (upd H a (.lst vs')) (a :: L') ∧ RepO K F (upd H a (.lst vs')) (.lst xs') (.ref a) (a :: L') := by
  have n : a ∉ L := (List.nodup_cons.mp fr.nd).1
  obtain ⟨f, s⟩ := upd_own (u := .lst vs') (a := a) (Lb := Ld) (L' := a :: L') fr List.mem_cons_self (perm_in (D := [a]) p)
  exact ⟨f, s, a, vs', L', rfl, rfl, upd_same, r (kept_upd n)⟩
end
def MutG (K : PySem.W.Frag) (r : V → List V → Hp → VK → Prop) (op : O → List W → Option (W × O)) : Prop := ∀ (F H : Hp) (o o' : O) (ws : List W) (w : W) (v : V) (vs : List V) (La : List Addr) (Q : VK),
  Fr F H La → RepO K F H o v La → RepFs K F ws vs → op o ws = some (w, o') → (∀ v' H' F' La', Fr F' H' La' → Stp F H La F' H' La' → RepO K F' H' o' v La' → RepF K F' w v' → Q v' H') → r v vs H Q
def oTy : O → Option String
  | .lst _ => some "list"
  | .dct _ _ => some "dict"
  | _ => none
theorem oTy_v {K : PySem.W.Frag} {F H : Hp} {o : O} {v : V} {La : List Addr} {T : String} (h : RepO K F H o v La) (e : oTy o = some T) : tyV K T v H := by
  cases o with
  | fz w => cases e
  | ins C fs => cases e
  | lst xs =>
    cases e
    obtain ⟨a, vs, L', ev, _, hi, _⟩ := h
    subst ev
    exact .inl ⟨rfl, vs, SqL.of hi⟩
  | dct d kvs =>
    cases e
    cases d with
    | k =>
      obtain ⟨a, vs, L', ev, _, hi, _⟩ := h
      subst ev
      exact .inr (.inr (.inl ⟨rfl, .inl ⟨vs, hi⟩⟩))
    | t =>
      obtain ⟨a, vs, L', ev, _, hi, _⟩ := h
      subst ev
      exact .inr (.inr (.inl ⟨rfl, .inr ⟨vs, hi⟩⟩))
    | n => exact h.elim
def mOf {α : Type} (f : En → Option (α × En)) : M3 α := fun ε => match f ε with
  | some r => .ok r.1 r.2
  | none => .stuck
def mutE (T : String) (g : En → Option Pl) (h : En → Option (List W)) (op : O → List W → Option (W × O)) : En → Option (W × En) := fun ε => (g ε).bind fun q => (h ε).bind fun ws => (getS ε q).bind fun o => if oTy o = some T then (op o ws).map fun r => (r.1, setS ε q r.2) else none
section
variable {X : Cx} {c : C3} {pos : Pos}
theorem mut_go {T : String} {g : En → Option Pl} {h : En → Option (List W)} {op : O → List W → Option (W × O)} {r : V → List V → Hp → VK → Prop} (hG : MutG c.K r op) {σ : L2.St} {H : Hp} {Q : VK} (q : tG c (rW c) (mOf (mutE T g h op)) σ H Q) :
    tP c g σ H fun x H1 => tyV c.K T x H1 ∧ tR c (RepFs c.K) h σ H1 fun xs H2 => r x xs H2 Q := by
  obtain ⟨F, ε, L, fr, re, run⟩ := q
  have key : ∃ rr, mutE T g h op ε = some rr ∧ Run c (rW c) (.ok rr.1 rr.2) F H L σ Q := by
    unfold mOf at run
    cases e : mutE T g h op ε with
    | none => rw [e] at run; exact run.elim
    | some rr => rw [e] at run; exact ⟨rr, rfl, run⟩
  obtain ⟨rr, e, run⟩ := key
  obtain ⟨q0, e1, e⟩ := bind2 e
  obtain ⟨ws, e2, e⟩ := bind2 e
  obtain ⟨o, e3, e⟩ := bind2 e
  by_cases hT : oTy o = some T
  · rw [if_pos hT] at e
    obtain ⟨⟨w, o'⟩, e4, rfl⟩ := Option.map_eq_some_iff.mp e
    refine ⟨F, ε, L, fr, re, q0, e1, fun v H1 F1 x1 ⟨pv, hp, hat⟩ => ?_⟩
    obtain ⟨pv', v1, La, Lr, h1, h2, h3, h4, _⟩ := (re.ext x1).atS e3
    rw [hp] at h1
    cases h1
    have := hat.det h2
    subst this
    refine ⟨oTy_v h4 hT, F1, ε, L, x1.fr fr re.mine, re.ext x1, ws, e2, fun vs H2 F2 x2 rs => ?_⟩
    have x12 := x1.trans x2
    have re2 := re.ext x12
    obtain ⟨pv', v1, La, Lr, h1, h2, h3, h4, back⟩ := re2.atS e3
    rw [hp] at h1
    cases h1
    have := (hat.mono x2.keep).det h2
    subst this
    have fr2 : Fr F2 H2 (La ++ Lr) := (x12.fr fr re.mine).perm h3
    have mr : Mine H2 Lr := fun a ha => re2.mine a (h3.mem_iff.mpr (List.mem_append_right _ ha))
    refine hG F2 H2 o o' ws w v vs La Q ⟨fr2.sub, (List.nodup_append.mp fr2.nd).1, fun a ha => fr2.out a (List.mem_append_left _ ha)⟩ h4 rs e4 fun v' H' F' La' fr' st' ro' rw' => ?_
    obtain ⟨f3, s3, kept⟩ := fr2.part mr fr' st'
    obtain ⟨L', p, re'⟩ := back st'.fsub kept ro'
    exact run v' H' F' [] L' (f3.perm p.symm) re' ⟨rfl, rw'⟩ (x12.stp.trans ((s3.permL h3.symm).permR p.symm))
  · rw [if_neg hT] at e; cases e
theorem je_mut {T id : String} {o e : Expr} {es : List Expr} {name : Str} {apos : Pos} {g : En → Option Pl} {h : En → Option (List W)} {op : O → List W → Option (W × O)} {r : V → List V → Hp → VK → Prop} (hK : c.K = X.K)
    (pa : PlainAttrs T) (slot : Slot T name id) (hty : typeOf (.builtin id) = pure (.type "method_descriptor")) (hm : MtR X id r) (hG : MutG c.K r op) (ho : JPa X c o g) (ha : JRA X c (e :: es) h)
    (hbase : attributeBase o name X.env (eval o X.env) = eval o X.env)
    (hfew : ((backTo pos (starEach (e :: es) X.env)).all (fun x => !x.1) && (backToKw pos (keywordEach [] X.env)).all (fun x => x.1.isSome)
      && decide ((e :: es).length + ([] : List Keyword).length + (if ([] : List Keyword).isEmpty then 0 else 1) < 30)) = true)
    (hline : (apos.endLine == pos.line) = true) (hs : starEach (e :: es) X.env = (false, eval e X.env) :: starEach es X.env) (hplain : (backTo pos (starEach es X.env)).any (·.1) = false) : JE X c (.Call (.Attribute o name apos) (e :: es) [] pos) (mOf (mutE T g h op)) :=
  PE.wk (pe_bm pa slot hty hm ho ha hbase hfew hline hs hplain) fun σ H Q q => by
    have z := mut_go hG q
    unfold tBM
    rw [← hK]
    exact z
theorem je_mut0 {T id : String} {o : Expr} {name : Str} {apos : Pos} {g : En → Option Pl} {op : O → List W → Option (W × O)} {r : V → List V → Hp → VK → Prop} (hK : c.K = X.K)
    (pa : PlainAttrs T) (slot : Slot T name id) (hty : typeOf (.builtin id) = pure (.type "method_descriptor")) (hm : MtR X id r) (hG : MutG c.K r op) (ho : JPa X c o g)
    (hbase : attributeBase o name X.env (eval o X.env) = eval o X.env) (hline : (apos.endLine == pos.line) = true) : JE X c (.Call (.Attribute o name apos) [] [] pos) (mOf (mutE T g rNil op)) :=
  PE.wk (pe_bm0 pa slot hty hm ho hbase hline) fun σ H Q q => by
    have z := mut_go hG q
    obtain ⟨F, ε, L, fr, re, q0, e1, k⟩ := z
    refine ⟨F, ε, L, fr, re, q0, e1, fun v H1 F1 x1 hat => ?_⟩
    obtain ⟨ty, F2, ε2, L2, fr2, re2, w, e2, k2⟩ := k v H1 F1 x1 hat
    cases e2
    exact ⟨by rw [← hK]; exact ty, k2 [] H1 F2 (Ext.refl fr2.sub) rfl⟩
/-! #### lists -/
variable {K : PySem.W.Frag}
def opAppend : O → List W → Option (W × O)
  | .lst xs, [w] => if xs.length < sizeLine then some (.non, .lst (xs ++ [.fz w])) else none
  | _, _ => none
theorem g_append : MutG K rAppend opAppend := by
  intro F H o o' ws w v vs La Q fr ro rs e k
  unfold opAppend at e
  split at e
  · rename_i xs w1
    obtain ⟨hz, er⟩ := ite_some e
    cases er
    obtain ⟨a, us, L', ev, eL, hi, r⟩ := ro
    subst ev eL
    obtain ⟨y, rfl, ry⟩ := one rs
    refine ⟨a, us, y, rfl, rfl, hi, by rw [r.length]; exact hz, ?_⟩
    obtain ⟨f, s, r'⟩ := own_list (K := K) (xs' := xs ++ [.fz w1]) (vs' := us ++ [y]) (Ld := []) fr (List.Perm.refl L') fun kp => by
      have := RepOs.append (r.mono (fun _ _ z => z) _ kp) (repFs_own (H := upd H a (.lst (us ++ [y]))) (ws := [w1]) (vs := [y]) ⟨y, [], rfl, ry, rfl⟩)
      rw [List.append_nil] at this
      exact this
    exact k .non _ F _ f s r' rfl
  · cases e
def opExtend : O → List W → Option (W × O)
  | .lst xs, [.lst ys] => if xs.length + ys.length ≤ sizeLine then some (.non, .lst (xs ++ ys.map .fz)) else none
  | _, _ => none
theorem g_extend : MutG K rExtend opExtend := by
  intro F H o o' ws w v vs La Q fr ro rs e k
  unfold opExtend at e
  split at e
  · rename_i xs ys
    obtain ⟨hz, er⟩ := ite_some e
    cases er
    obtain ⟨a, us, L', ev, eL, hi, r⟩ := ro
    subst ev eL
    obtain ⟨y, rfl, p, zs, rfl, hp, rz⟩ := one rs
    refine ⟨a, p, us, zs, rfl, rfl, hi, fr.sub _ _ hp, by rw [r.length, rz.length]; exact hz, ?_⟩
    obtain ⟨f, s, r'⟩ := own_list (K := K) (xs' := xs ++ ys.map .fz) (vs' := us ++ zs) (Ld := []) fr (List.Perm.refl L') fun kp => by
      have := RepOs.append (r.mono (fun _ _ z => z) _ kp) (repFs_own (H := upd H a (.lst (us ++ zs))) rz)
      rw [List.append_nil] at this
      exact this
    exact k .non _ F _ f s r' rfl
  · cases e
def opPop : O → List W → Option (W × O)
  | .lst xs, [] => match xs[xs.length - 1]? with
    | some (.fz w) => some (w, .lst xs.dropLast)
    | _ => none
  | _, _ => none
theorem g_pop : MutG K rPop opPop := by
  intro F H o o' ws w v vs La Q fr ro rs e k
  unfold opPop at e
  split at e
  · rename_i xs
    split at e
    · rename_i w1 ew
      cases e
      obtain ⟨a, us, L', ev, eL, hi, r⟩ := ro
      subst ev eL
      obtain ⟨y, hy, ry⟩ := r.getLast ew
      refine ⟨a, us, y, rfl, rs, hi, by rw [r.length]; exact hy, ?_⟩
      obtain ⟨L1, L2, e2, t1, t2⟩ := r.split (xs.length - 1)
      rw [show us.take (xs.length - 1) = us.dropLast by rw [← r.length, ← List.dropLast_eq_take], ← List.dropLast_eq_take] at t1
      obtain ⟨f, s, r'⟩ := own_list (K := K) (xs' := xs.dropLast) (vs' := us.dropLast) (Ld := L2) (L' := L1) fr (by rw [e2]; exact List.perm_append_comm) fun kp =>
        t1.mono (fun _ _ z => z) _ fun b hb => kp b (by rw [e2]; exact List.mem_append_left _ hb)
      exact k y _ F _ f s r' ry
    · cases e
  · cases e
def opPopAt : O → List W → Option (W × O)
  | .lst xs, [.int i] => if -(2 ^ 63) ≤ i ∧ i < 2 ^ 63 then (seqIndex? i xs.length).bind fun k => match xs[k]? with
    | some (.fz w) => some (w, .lst (xs.take k ++ xs.drop (k + 1)))
    | _ => none else none
  | _, _ => none
theorem g_popAt : MutG K rPopAt opPopAt := by
  intro F H o o' ws w v vs La Q fr ro rs e k
  unfold opPopAt at e
  split at e
  · rename_i xs i
    by_cases hb : -(2 ^ 63) ≤ i ∧ i < 2 ^ 63
    · rw [if_pos hb] at e
      obtain ⟨j, ej, e⟩ := bind2 e
      split at e
      · rename_i w1 ew
        cases e
        obtain ⟨a, us, L', ev, eL, hi, r⟩ := ro
        subst ev eL
        obtain ⟨x, rfl, rx⟩ := one rs
        rw [show x = V.int i from rx]
        obtain ⟨y, hy, ry⟩ := r.getLast ew
        refine ⟨a, us, i, j, y, rfl, rfl, hi, hb.1, hb.2, by rw [r.length]; exact ej, hy, ?_⟩
        obtain ⟨L1, L2, e2, t1, t2⟩ := r.split j
        obtain ⟨L3, L4, e3, t3, t4⟩ := t2.split 1
        rw [List.drop_drop, List.drop_drop] at t4
        obtain ⟨f, s, r'⟩ := own_list (K := K) (xs' := xs.take j ++ xs.drop (j + 1)) (vs' := us.eraseIdx j) (Ld := L3) (L' := L1 ++ L4) fr (by rw [e2, e3]; exact perm3) fun kp => by
          have := RepOs.append (t1.mono (fun _ _ z => z) _ fun b hb => kp b (by rw [e2]; exact List.mem_append_left _ hb)) (t4.mono (fun _ _ z => z) _ fun b hb => kp b (by rw [e2, e3]; simp [hb]))
          rw [← List.eraseIdx_eq_take_drop_succ (l := us)] at this
          exact this
        exact k y _ F _ f s r' ry
      · cases e
    · rw [if_neg hb] at e; cases e
  · cases e
def opClear : O → List W → Option (W × O)
  | .lst _, [] => some (.non, .lst [])
  | _, _ => none
theorem g_clear : MutG K rClear opClear := by
  intro F H o o' ws w v vs La Q fr ro rs e k
  unfold opClear at e
  split at e
  · cases e
    obtain ⟨a, us, L', ev, eL, hi, r⟩ := ro
    subst ev eL
    refine ⟨a, us, rfl, rs, hi, ?_⟩
    obtain ⟨f, s, r'⟩ := own_list (K := K) (xs' := []) (vs' := []) (Ld := L') (L' := []) fr (by simp) fun kp => ⟨rfl, rfl⟩
    exact k .non _ F _ f s r' rfl
  · cases e
def opInsert : O → List W → Option (W × O)
  | .lst xs, [.int i, w] => if xs.length < sizeLine ∧ 0 ≤ i ∧ i < 2 ^ 63 then some (.non, .lst (xs.take i.toNat ++ [.fz w] ++ xs.drop i.toNat)) else none
  | _, _ => none
theorem g_insert : MutG K (fun x vs H Q => ∃ (l : Addr) (xs : List V) (i : Int) (y : V), x = .ref l ∧ vs = [.int i, y] ∧ H l = some (.lst xs) ∧ xs.length < sizeLine ∧ 0 ≤ i ∧ i < 2 ^ 63 ∧ Q .non (upd H l (.lst (xs.take i.toNat ++ [y] ++ xs.drop i.toNat)))) opInsert := by
  intro F H o o' ws w v vs La Q fr ro rs e k
  unfold opInsert at e
  split at e
  · rename_i xs i w1
    obtain ⟨hz, er⟩ := ite_some e
    cases er
    obtain ⟨a, us, L', ev, eL, hi, r⟩ := ro
    subst ev eL
    obtain ⟨x, r1, rfl, rx, y, r2, rfl, ry, rfl⟩ := rs
    rw [show x = V.int i from rx]
    refine ⟨a, us, i, y, rfl, rfl, hi, by rw [r.length]; exact hz.1, hz.2.1, hz.2.2, ?_⟩
    obtain ⟨L1, L2, e2, t1, t2⟩ := r.split i.toNat
    obtain ⟨f, s, r'⟩ := own_list (K := K) (xs' := xs.take i.toNat ++ [.fz w1] ++ xs.drop i.toNat) (vs' := us.take i.toNat ++ [y] ++ us.drop i.toNat) (Ld := []) fr (List.Perm.refl L') fun kp => by
      have h1 := t1.mono (fun _ _ z => z) _ fun b hb => kp b (by rw [e2]; exact List.mem_append_left _ hb)
      have h2 := t2.mono (fun _ _ z => z) _ fun b hb => kp b (by rw [e2]; exact List.mem_append_right _ hb)
      have := RepOs.append (RepOs.append h1 (repFs_own (ws := [w1]) (vs := [y]) ⟨y, [], rfl, ry, rfl⟩)) h2
      rw [List.append_nil] at this
      rw [e2]
      exact this
    exact k .non _ F _ f s r' rfl
  · cases e
end
end L3

set_option Elab.async false
set_option linter.all false
set_option maxRecDepth 100000
namespace L3
open PySem PySem.Spec PyProof.Rows L2
section
variable {X : Cx} {c : C3} {pos : Pos}
/-! ### values of one's own -/
def mFz (m : M3 W) : M3 O := m.bind fun w ε => .ok (.fz w) ε
theorem je_jo {e : Expr} {m : M3 W} (h : JE X c e m) : JO X c e (mFz m) := PE.wk h fun σ H Q ⟨F, ε, L, fr, re, run⟩ => by
  refine ⟨F, ε, L, fr, re, ?_⟩
  unfold mFz M3.bind at run
  cases e : m ε with
  | stuck => rw [e] at run; exact run.elim
  | err x ε' => rw [e] at run; exact run
  | ok w ε' =>
    rw [e] at run
    intro b H' F' La L' fr' re' r st
    obtain ⟨eL, r⟩ := r
    subst eL
    exact run b H' F' [] L' fr' re' ⟨rfl, r⟩ st
/-- a new list of frozen things -/
def mLstO (m : M3 (List W)) : M3 O := m.bind fun xs => M3.lift (if xs.length ≤ sizeLine then some (.lst (xs.map .fz)) else none)
theorem own_new {F H : Hp} {L : List Addr} {ε : En} {σ : L2.St} {p : Addr} {u : HO} (fr : Fr F H L) (re : RepE c.K F H c.Pv ε σ L) (np : H p = none) : Fr F (upd H p u) ([p] ++ L) ∧ RepE c.K F (upd H p u) c.Pv ε σ L ∧ Stp F H L F (upd H p u) ([p] ++ L) := by
  have fp : F p = none := by
    cases z : F p with
    | none => rfl
    | some o => rw [fr.sub _ _ z] at np; cases np
  have k : Sub H (upd H p u) := fun a o e => by rw [upd_ne (ne_of_none e np)]; exact e
  refine ⟨⟨fun a o e => k a o (fr.sub a o e), List.nodup_cons.mpr ⟨fun z => ?_, fr.nd⟩, fun a ha => ?_⟩, re.mono (fun _ _ z => z) fun a ha u e => k a u e, ⟨fun _ _ z => z, fun a o e _ => k a o e, fun a o e => .inl e, fun a ha => ?_⟩⟩
  · obtain ⟨u, hu, _⟩ := re.mine p z
    rw [np] at hu; cases hu
  · rcases List.mem_cons.mp ha with rfl | ha
    · exact fp
    · exact fr.out a ha
  · rcases List.mem_cons.mp ha with rfl | ha
    · exact .inr np
    · exact .inl ha
theorem jo_lst {es : List Expr} {m : M3 (List W)} (h : JA X c es m) : JO X c (.List es pos) (mLstO m) := by
  refine PE.wk (pe_lst h) fun σ H Q ⟨F, ε, L, fr, re, run⟩ => ?_
  refine ⟨F, ε, L, fr, re, (Run.seq (rel := rWs c) (fun _ _ _ _ _ _ => rWs0) run).mono ?_⟩
  rintro vs H1 ⟨F1, ε1, L1, ws, fr1, re1, ⟨_, r1⟩, st1, run1⟩
  obtain ⟨w, e, run1⟩ := lift_some run1
  obtain ⟨hz, rfl⟩ := ite_some e
  refine ⟨by rw [r1.length]; exact hz, fun p np => ?_⟩
  obtain ⟨f, r, s⟩ := own_new (u := .lst vs) fr1 re1 np
  exact run1 _ _ F1 [p] L1 f r ⟨p, vs, [], rfl, rfl, upd_same, repFs_own r1⟩ s
/-- a name's value is handed on; the name is void -/
def mMove (i : Nat) : M3 O := fun ε => match ε[i]? with
  | some (.own o) => .ok o (ε.set i .no)
  | some (.fz w) => .ok (.fz w) ε
  | _ => .stuck
theorem jo_move {i : Nat} {x : Str} (hN : X.N[i]? = some x) (hv : Vis X.env.scope x) (hd : (x == ("__debug__" : Str)) = false) (hcd : (x == ("__classdict__" : Str)) = false) : JO X c (.Name x pos) (mMove i) :=
  PE.wk (pe_var hN hv hd hcd) fun σ H Q ⟨F, ε, L, fr, re, run⟩ => by
    unfold mMove at run
    cases e : ε[i]? with
    | none => rw [e] at run; exact run.elim
    | some s =>
      rw [e] at run
      cases s with
      | no => exact run.elim
      | par o => exact run.elim
      | fz w =>
        obtain ⟨v, e1, r⟩ := re.fz_at e
        exact ⟨v, e1, run v H F [] L fr re ⟨rfl, r⟩ Stp.refl⟩
      | own o =>
        obtain ⟨v, La, Lr, e1, p, ro, re0, _⟩ := re.take e rfl
        exact ⟨v, e1, run v H F La Lr (fr.perm p) re0 ro (Stp.refl.permR p)⟩
/-! ### stores -/
theorem PSet.or {t t' : TSet} (h : PSet X t) (h' : PSet X t') : PSet X (fun o i v H Q => t o i v H Q ∨ t' o i v H Q) := by
  intro pins s σ H o i v ov iv u Q I ro ri rv q
  rcases q with q | q
  · exact h pins s σ H o i v ov iv u Q I ro ri rv q
  · exact h' pins s σ H o i v ov iv u Q I ro ri rv q
abbrev rSet : TSet := fun o i v H Q => rSetL o i v H Q ∨ rSetD o i v H Q
theorem set_any (hu : X.A.units + 1 < cLine) : PSet X rSet := PSet.or set_list (set_dict hu)
def putAK {κ : Type} [DecidableEq κ] (ky : W → Option κ) : List (W × O) → κ → W → O → Option (List (W × O))
  | [], _, w, y => some [(w, y)]
  | (w0, x) :: r, k, w, y => if ky w0 = some k then (if (r.any fun p => decide (ky p.1 = some k)) = true then none else some ((w0, y) :: r)) else (putAK ky r k w y).map fun r' => (w0, x) :: r'
theorem putK_eq {κ : Type} [DecidableEq κ] {k : κ} {v y : V} {r : List (κ × V)} (h : (r.any fun p => decide (p.1 = k)) = false) : putK ((k, v) :: r) k y = (k, y) :: r := by
  unfold putK
  have e : ((k, v) :: r).any (fun kv => decide (kv.1 = k)) = true := by simp
  rw [if_pos e, List.map_cons, if_pos rfl]
  congr 1
  have : ∀ p ∈ r, (if p.1 = k then (p.1, y) else p) = p := fun p hp => by
    have := List.any_eq_false.mp h p hp
    rw [if_neg (by simpa using this)]
  exact (List.map_congr_left this).trans (List.map_id _)
theorem putK_ne {κ : Type} [DecidableEq κ] {k k' : κ} {v y : V} {r : List (κ × V)} (h : ¬ k' = k) : putK ((k', v) :: r) k y = (k', v) :: putK r k y := by
  unfold putK
  have e : ((k', v) :: r).any (fun kv => decide (kv.1 = k)) = r.any (fun kv => decide (kv.1 = k)) := by simp [h]
  rw [e]
  by_cases q : (r.any fun kv => decide (kv.1 = k)) = true
  · rw [if_pos q, if_pos q, List.map_cons, if_neg h]
  · rw [if_neg q, if_neg q, List.cons_append]
section
variable {K : PySem.W.Frag} {F F' H H' : Hp} {L L' La Lr Lb : List Addr}
theorem RepOK.any {k : Key} : ∀ {kvs : List (W × O)} {ks : List (Key × V)} {L : List Addr}, RepOK K F H kvs ks L → (kvs.any fun p => decide (kyW p.1 = some k)) = (ks.any fun p => decide (p.1 = k))
  | [], _, _, h => by rw [h.1]; rfl
  | (w, x) :: kvs, _, _, ⟨k', v, r, L1, L2, e, eL, ck, q, t⟩ => by
    subst e
    rw [List.any_cons, List.any_cons, RepOK.any t, ck]
    congr 1
    by_cases h : k' = k
    · rw [h]; simp
    · simp [h]
theorem RepOT.any {k : List Key} : ∀ {kvs : List (W × O)} {ks : List (List Key × V)} {L : List Addr}, RepOT K F H kvs ks L → (kvs.any fun p => decide (ktW p.1 = some k)) = (ks.any fun p => decide (p.1 = k))
  | [], _, _, h => by rw [h.1]; rfl
  | (w, x) :: kvs, _, _, ⟨k', v, r, L1, L2, e, eL, ck, q, t⟩ => by
    subst e
    rw [List.any_cons, List.any_cons, RepOT.any t, ck]
    congr 1
    by_cases h : k' = k
    · rw [h]; simp
    · simp [h]
theorem RepOK.put (s : Sub F F') {k : Key} {w : W} {y : O} {vy : V} (hk : kyW w = some k) : ∀ {kvs kvs' : List (W × O)} {ks : List (Key × V)} {L : List Addr}, RepOK K F H kvs ks L → Kept H H' L → RepO K F' H' y vy Lb → putAK kyW kvs k w y = some kvs' →
    ∃ Ld L', (Lb ++ L).Perm (Ld ++ L') ∧ RepOK K F' H' kvs' (putK ks k vy) L'
  | [], _, _, L, h, kp, ry, e => by
    cases e
    rw [h.1, h.2]
    exact ⟨[], Lb, by simp, k, vy, [], Lb, [], rfl, by simp, hk, ry, rfl, rfl⟩
  | (w0, x) :: kvs, _, _, _, ⟨k', v, r, L1, L2, e1, eL, ck, q, t⟩, kp, ry, e => by
    subst e1 eL
    unfold putAK at e
    by_cases h : k' = k
    · subst h
      rw [if_pos ck] at e
      by_cases ha : (kvs.any fun p => decide (kyW p.1 = some k')) = true
      · rw [if_pos ha] at e; cases e
      · rw [if_neg ha] at e
        cases e
        rw [putK_eq (by rw [← t.any]; simpa using ha)]
        exact ⟨L1, Lb ++ L2, perm3, k', vy, r, Lb, L2, rfl, rfl, ck, ry, t.mono s _ fun a ha => kp a (List.mem_append_right _ ha)⟩
    · rw [if_neg (by rw [ck]; exact fun z => h (Option.some.inj z))] at e
      obtain ⟨r', e2, rfl⟩ := Option.map_eq_some_iff.mp e
      obtain ⟨Ld, L', p, t'⟩ := RepOK.put s hk t (fun a ha => kp a (List.mem_append_right _ ha)) ry e2
      rw [putK_ne h]
      exact ⟨Ld, L1 ++ L', (perm3 (A := Lb) (B := L1) (C := L2)).trans (perm_in (D := L1) p), k', v, _, L1, L', rfl, rfl, ck, q.mono s _ fun a ha => kp a (List.mem_append_left _ ha), t'⟩
theorem RepOT.put (s : Sub F F') {k : List Key} {w : W} {y : O} {vy : V} (hk : ktW w = some k) : ∀ {kvs kvs' : List (W × O)} {ks : List (List Key × V)} {L : List Addr}, RepOT K F H kvs ks L → Kept H H' L → RepO K F' H' y vy Lb → putAK ktW kvs k w y = some kvs' →
    ∃ Ld L', (Lb ++ L).Perm (Ld ++ L') ∧ RepOT K F' H' kvs' (putK ks k vy) L'
  | [], _, _, L, h, kp, ry, e => by
    cases e
    rw [h.1, h.2]
    exact ⟨[], Lb, by simp, k, vy, [], Lb, [], rfl, by simp, hk, ry, rfl, rfl⟩
  | (w0, x) :: kvs, _, _, _, ⟨k', v, r, L1, L2, e1, eL, ck, q, t⟩, kp, ry, e => by
    subst e1 eL
    unfold putAK at e
    by_cases h : k' = k
    · subst h
      rw [if_pos ck] at e
      by_cases ha : (kvs.any fun p => decide (ktW p.1 = some k')) = true
      · rw [if_pos ha] at e; cases e
      · rw [if_neg ha] at e
        cases e
        rw [putK_eq (by rw [← t.any]; simpa using ha)]
        exact ⟨L1, Lb ++ L2, perm3, k', vy, r, Lb, L2, rfl, rfl, ck, ry, t.mono s _ fun a ha => kp a (List.mem_append_right _ ha)⟩
    · rw [if_neg (by rw [ck]; exact fun z => h (Option.some.inj z))] at e
      obtain ⟨r', e2, rfl⟩ := Option.map_eq_some_iff.mp e
      obtain ⟨Ld, L', p, t'⟩ := RepOT.put s hk t (fun a ha => kp a (List.mem_append_right _ ha)) ry e2
      rw [putK_ne h]
      exact ⟨Ld, L1 ++ L', (perm3 (A := Lb) (B := L1) (C := L2)).trans (perm_in (D := L1) p), k', v, _, L1, L', rfl, rfl, ck, q.mono s _ fun a ha => kp a (List.mem_append_left _ ha), t'⟩
def putGA : List (Str × O) → Str → O → List (Str × O)
  | [], f, y => [(f, y)]
  | (g, x) :: r, f, y => if g = f then (g, y) :: r else (g, x) :: putGA r f y
theorem RepOG.put (s : Sub F F') {f : Str} {y : O} {vy : V} : ∀ {fs : List (Str × O)} {gs : List (Str × V)} {L : List Addr}, RepOG K F H fs gs L → Kept H H' L → RepO K F' H' y vy Lb → ∃ Ld L', (Lb ++ L).Perm (Ld ++ L') ∧ RepOG K F' H' (putGA fs f y) (putF f vy gs) L'
  | [], _, L, h, kp, ry => by
    rw [h.1, h.2]
    exact ⟨[], Lb, by simp, vy, [], Lb, [], rfl, by simp, ry, rfl, rfl⟩
  | (g, x) :: fs, _, _, ⟨v, r, L1, L2, e1, eL, q, t⟩, kp, ry => by
    subst e1 eL
    unfold putGA putF
    by_cases h : g = f
    · rw [if_pos h, if_pos h]
      exact ⟨L1, Lb ++ L2, perm3, vy, r, Lb, L2, rfl, rfl, ry, t.mono s _ fun a ha => kp a (List.mem_append_right _ ha)⟩
    · rw [if_neg h, if_neg h]
      obtain ⟨Ld, L', p, t'⟩ := RepOG.put s t (fun a ha => kp a (List.mem_append_right _ ha)) ry
      exact ⟨Ld, L1 ++ L', (perm3 (A := Lb) (B := L1) (C := L2)).trans (perm_in (D := L1) p), v, _, L1, L', rfl, rfl, q.mono s _ fun a ha => kp a (List.mem_append_left _ ha), t'⟩
def opPut : O → W → O → Option O
  | .lst xs, .int i, y => (ixN xs.length i).map fun j => .lst (xs.set j y)
  | .dct .k kvs, w, y => (kyW w).bind fun k => if kvs.length < sizeLine then (putAK kyW kvs k w y).map (.dct .k) else none
  | .dct .t kvs, w, y => (ktW w).bind fun k => if kvs.length < sizeLine then (putAK ktW kvs k w y).map (.dct .t) else none
  | _, _, _ => none
theorem RepOK.length : ∀ {kvs : List (W × O)} {ks : List (Key × V)} {L : List Addr}, RepOK K F H kvs ks L → ks.length = kvs.length
  | [], _, _, h => by rw [h.1]; rfl
  | (w, x) :: kvs, _, _, ⟨k', v, r, L1, L2, e, eL, ck, q, t⟩ => by rw [e, List.length_cons, List.length_cons, RepOK.length t]
theorem RepOT.length : ∀ {kvs : List (W × O)} {ks : List (List Key × V)} {L : List Addr}, RepOT K F H kvs ks L → ks.length = kvs.length
  | [], _, _, h => by rw [h.1]; rfl
  | (w, x) :: kvs, _, _, ⟨k', v, r, L1, L2, e, eL, ck, q, t⟩ => by rw [e, List.length_cons, List.length_cons, RepOT.length t]
/-- a container at a is changed, something of one's own goes in -/
theorem put_own {a : Addr} {u : HO} {L0 Ld : List Addr} (fr : Fr F H (La ++ a :: L0)) (p : (La ++ L0).Perm (Ld ++ L')) : Fr F (upd H a u) (a :: L') ∧ Stp F H (La ++ a :: L0) F (upd H a u) (a :: L') :=
  upd_own (Lb := Ld) fr (by simp) ((perm3 (A := La) (B := [a]) (C := L0)).trans (perm_in (D := [a]) p))
theorem notin_put {a : Addr} {L0 : List Addr} (fr : Fr F H (La ++ a :: L0)) : a ∉ La ∧ a ∉ L0 := by
  have nd := List.nodup_append.mp fr.nd
  exact ⟨fun z => nd.2.2 a z a List.mem_cons_self rfl, (List.nodup_cons.mp nd.2.1).1⟩
theorem put_ok {o o' y : O} {k : W} {v kv vy : V} {Lc : List Addr} {Q : Hp → Prop} (fr : Fr F H (La ++ Lc)) (ro : RepO K F H o v Lc) (rk : RepF K F k kv) (ry : RepO K F H y vy La) (e : opPut o k y = some o')
    (q : ∀ H' L', Fr F H' L' → Stp F H (La ++ Lc) F H' L' → RepO K F H' o' v L' → Q H') : rSet v kv vy H Q := by
  cases o with
  | fz w => cases e
  | ins C fs => cases e
  | lst xs =>
    obtain ⟨i, ek⟩ : ∃ i, k = .int i := by cases k <;> first | exact ⟨_, rfl⟩ | (cases e; done)
    subst ek
    obtain ⟨j, ej, rfl⟩ := Option.map_eq_some_iff.mp (show (ixN xs.length i).map (fun j => O.lst (xs.set j y)) = some o' from e)
    obtain ⟨a, us, L0, ev, eL, hi, r⟩ := ro
    subst ev eL
    obtain ⟨n1, n2⟩ := notin_put fr
    obtain ⟨Ld, L', p, r'⟩ := RepOs.set1 (F := F) (F' := F) (H' := upd H a (.lst (us.set j vy))) (fun _ _ z => z) (j := j) r (kept_upd n2) (ry.mono (fun _ _ z => z) _ (kept_upd n1))
    obtain ⟨f, s⟩ := put_own (u := .lst (us.set j vy)) fr p
    exact .inl ⟨a, us, i, j, rfl, rk, hi, by rw [r.length]; exact ej, q _ _ f s ⟨a, _, L', rfl, rfl, upd_same, r'⟩⟩
  | dct d kvs =>
    cases d with
    | k =>
      obtain ⟨ky, ek, e2⟩ := bind2 (show (kyW k).bind (fun ky => if kvs.length < sizeLine then (putAK kyW kvs ky k y).map (O.dct .k) else none) = some o' from e)
      by_cases hz : kvs.length < sizeLine
      · rw [if_pos hz] at e2
        obtain ⟨kvs', e3, rfl⟩ := Option.map_eq_some_iff.mp e2
        obtain ⟨a, us, L0, ev, eL, hi, r⟩ := ro
        subst ev eL
        obtain ⟨n1, n2⟩ := notin_put fr
        obtain ⟨Ld, L', p, r'⟩ := RepOK.put (F := F) (F' := F) (H' := upd H a (.dK (putK us ky vy))) (fun _ _ z => z) ek r (kept_upd n2) (ry.mono (fun _ _ z => z) _ (kept_upd n1)) e3
        obtain ⟨f, s⟩ := put_own (u := .dK (putK us ky vy)) fr p
        exact .inr ⟨a, _, rfl, .inl ⟨us, ky, hi, kyW_rep ek rk, by rw [r.length]; exact hz, rfl⟩, q _ _ f s ⟨a, _, L', rfl, rfl, upd_same, r'⟩⟩
      · rw [if_neg hz] at e2; cases e2
    | t =>
      obtain ⟨ky, ek, e2⟩ := bind2 (show (ktW k).bind (fun ky => if kvs.length < sizeLine then (putAK ktW kvs ky k y).map (O.dct .t) else none) = some o' from e)
      by_cases hz : kvs.length < sizeLine
      · rw [if_pos hz] at e2
        obtain ⟨kvs', e3, rfl⟩ := Option.map_eq_some_iff.mp e2
        obtain ⟨a, us, L0, ev, eL, hi, r⟩ := ro
        subst ev eL
        obtain ⟨n1, n2⟩ := notin_put fr
        obtain ⟨Ld, L', p, r'⟩ := RepOT.put (F := F) (F' := F) (H' := upd H a (.dT (putK us ky vy))) (fun _ _ z => z) ek r (kept_upd n2) (ry.mono (fun _ _ z => z) _ (kept_upd n1)) e3
        obtain ⟨f, s⟩ := put_own (u := .dT (putK us ky vy)) fr p
        obtain ⟨b, eb, hb⟩ := ktW_rep fr.sub ek rk
        exact .inr ⟨a, _, rfl, .inr ⟨us, ky, b, hi, eb, hb, by rw [r.length]; exact hz, rfl⟩, q _ _ f s ⟨a, _, L', rfl, rfl, upd_same, r'⟩⟩
      · rw [if_neg hz] at e2; cases e2
    | n => exact ro.elim
end
def putE (g : En → Option Pl) (h : En → Option W) (y : O) : En → Option En := fun ε => (g ε).bind fun q => (h ε).bind fun k => (getS ε q).bind fun o => (opPut o k y).map fun o' => setS ε q o'
def sPut (m : M3 O) (g : En → Option Pl) (h : En → Option W) : MS := fun ε => (m ε).out fun y ε1 => .of (putE g h y ε1)
theorem js_put {o i e : Expr} {tpos : Pos} {m : M3 O} {g : En → Option Pl} {h : En → Option W} (hu : X.A.units + 1 < cLine) (he : JO X c e m) (ho : JPa X c o g) (hi : JR X c i h)
    (ha : ∀ v, assign (.Subscript o i tpos) X.env v = (do
      let ov ← holding [v] (eval o X.env)
      let iv ← holding [v, ov] (eval i X.env)
      standAt tpos
      holding [v, ov, iv] (setItem ov iv v)
      release [v, ov, iv] []))
    (hs : swapsWithSole [.Subscript o i tpos] e pos.line X.env = pure false) (hw : swappedStores [.Subscript o i tpos] e X.env = pure none) (h1 : (assignEach [.Subscript o i tpos] X.env).map (·.2) = [assign (.Subscript o i tpos) X.env]) :
    JS X c (.Assign [.Subscript o i tpos] e pos) (sPut m g h) := by
  refine PS.wk (ps_asg he (pg_sub ho hi (set_any hu) ha) hs hw h1) fun D σ H ⟨F, ε, L, fr, re, run⟩ => ?_
  refine ⟨F, ε, L, fr, re, (RunS.exprO run).mono ?_⟩
  rintro vy H1 ⟨F1, ε1, La, L1, y, fr1, re1, ry, st1, run1⟩
  obtain ⟨ε2, e2, run2⟩ := of_some run1
  obtain ⟨q0, e3, e4⟩ := bind2 e2
  obtain ⟨k, e5, e6⟩ := bind2 e4
  obtain ⟨o0, e7, e8⟩ := bind2 e6
  obtain ⟨o', e9, rfl⟩ := Option.map_eq_some_iff.mp e8
  have my : Mine H1 La := RepO.mine _ ry
  refine ⟨F1, ε1, L1, fr1.drop, re1, q0, e3, fun v H2 F2 x2 ⟨pv, hp, hat⟩ => ⟨F2, ε1, L1, x2.fr fr1.drop re1.mine, re1.ext x2, k, e5, fun kv H3 F3 x3 rk => ?_⟩⟩
  have x23 := x2.trans x3
  have re3 := re1.ext x23
  have fr3 : Fr F3 H3 (La ++ L1) := x23.fr fr1 (my.append re1.mine)
  obtain ⟨pv', v1, Lc, Lr, h1', h2, h3, h4, back⟩ := re3.atS e7
  rw [hp] at h1'
  cases h1'
  have := (hat.mono x3.keep).det h2
  subst this
  have pp : (La ++ L1).Perm ((La ++ Lc) ++ Lr) := by rw [List.append_assoc]; exact h3.append_left La
  have fr4 : Fr F3 H3 ((La ++ Lc) ++ Lr) := fr3.perm pp
  have mr : Mine H3 Lr := fun a ha => re3.mine a (h3.mem_iff.mpr (List.mem_append_right _ ha))
  refine put_ok (F := F3) (La := La) (Lc := Lc) ⟨fr4.sub, (List.nodup_append.mp fr4.nd).1, fun a ha => fr4.out a (List.mem_append_left _ ha)⟩ h4 rk (ry.mono x23.fsub _ fun a ha u e => x23.keep a u e) e9 fun H' L' f' s' r' => ?_
  obtain ⟨f5, s5, kept⟩ := fr4.part mr f' s'
  obtain ⟨L6, p6, re6⟩ := back (fun _ _ z => z) kept r'
  exact run2 σ H' F3 L6 (f5.perm p6.symm) re6 ((x23.fr fr1 (my.append re1.mine) |> fun _ => x23.stp).trans ((s5.permL pp.symm).permR p6.symm))
def fldE (ok : Str → Str → Bool) (f : Str) (g : En → Option Pl) (y : O) : En → Option En := fun ε => (g ε).bind fun q => match getS ε q with
  | some (.ins C fs) => if ok C f = true ∧ fs.length < 1000 then some (setS ε q (.ins C (putGA fs f y))) else none
  | _ => none
def sFldO (ok : Str → Str → Bool) (f : Str) (m : M3 O) (g : En → Option Pl) : MS := fun ε => (m ε).out fun y ε1 => .of (fldE ok f g y ε1)
theorem RepOG.length {K : PySem.W.Frag} {F H : Hp} : ∀ {kvs : List (Str × O)} {ks : List (Str × V)} {L : List Addr}, RepOG K F H kvs ks L → ks.length = kvs.length
  | [], _, _, h => by rw [h.1]; rfl
  | (w, x) :: kvs, _, _, ⟨v, r, L1, L2, e, eL, q, t⟩ => by rw [e, List.length_cons, List.length_cons, RepOG.length t]
theorem js_fld {ok : Str → Str → Bool} {o e : Expr} {f : Str} {pos' : Pos} {m : M3 O} {g : En → Option Pl} (hK : c.K = X.K) (hok : FldOk X.K ok) (he : JO X c e m) (ho : JPa X c o g) (hs : swapsWith e (some (.Attribute o f pos')) pos.line X.env = pure false) :
    JS X c (.Assign [.Attribute o f pos'] e pos) (sFldO ok f m g) := by
  refine PS.wk (ps_fld ho he hs) fun D σ H ⟨F, ε, L, fr, re, run⟩ => ?_
  refine ⟨F, ε, L, fr, re, (RunS.exprO run).mono ?_⟩
  rintro vy H1 ⟨F1, ε1, La, L1, y, fr1, re1, ry, st1, run1⟩
  obtain ⟨ε2, e2, run2⟩ := of_some run1
  obtain ⟨q0, e3, e4⟩ := bind2 e2
  have my : Mine H1 La := RepO.mine _ ry
  refine ⟨F1, ε1, L1, fr1.drop, re1, q0, e3, fun v H3 F3 x23 ⟨pv, hp, hat⟩ => ?_⟩
  split at e4
  · rename_i C fs e7
    obtain ⟨⟨hc, hz⟩, rfl⟩ := ite_some e4
    have re3 := re1.ext x23
    have fr3 : Fr F3 H3 (La ++ L1) := x23.fr fr1 (my.append re1.mine)
    obtain ⟨pv', v1, Lc, Lr, h1', h2, h3, h4, back⟩ := re3.atS e7
    rw [hp] at h1'
    cases h1'
    have := hat.det h2
    subst this
    have pp : (La ++ L1).Perm ((La ++ Lc) ++ Lr) := by rw [List.append_assoc]; exact h3.append_left La
    have fr4 : Fr F3 H3 ((La ++ Lc) ++ Lr) := fr3.perm pp
    have mr : Mine H3 Lr := fun a ha => re3.mine a (h3.mem_iff.mpr (List.mem_append_right _ ha))
    obtain ⟨a, dx, gs, L0, ev, eL, hi, hd, rg⟩ := h4
    subst ev eL
    have fr5 : Fr F3 H3 (La ++ a :: (dx :: L0)) := ⟨fr4.sub, (List.nodup_append.mp fr4.nd).1, fun a ha => fr4.out a (List.mem_append_left _ ha)⟩
    obtain ⟨n1, n2⟩ := notin_put fr5
    have ne : dx ≠ a := fun z => n2 (by rw [z]; exact List.mem_cons_self)
    have ry3 : RepO c.K F3 H3 y vy La := ry.mono x23.fsub _ fun a ha u e => x23.keep a u e
    obtain ⟨Ld, L', p, r'⟩ := RepOG.put (F := F3) (F' := F3) (H' := upd H3 a (.ins (He.ga c.K C) dx (putF f vy gs))) (f := f) (fun _ _ z => z) rg (kept_upd fun z => n2 (List.mem_cons_of_mem _ z)) (ry3.mono (fun _ _ z => z) _ (kept_upd n1))
    obtain ⟨f6, s6⟩ := put_own (u := .ins (He.ga c.K C) dx (putF f vy gs)) (L' := dx :: L') fr5 ((perm3 (A := La) (B := [dx]) (C := L0)).trans (perm_in (D := [dx]) p))
    obtain ⟨k1, k2⟩ := hok C f hc
    rw [← hK] at k1 k2 ⊢
    refine ⟨a, _, dx, gs, rfl, hi, k1, k2, by rw [rg.length]; exact hz, ?_⟩
    obtain ⟨f7, s7, kept⟩ := fr4.part mr f6 s6
    obtain ⟨L6, p6, re6⟩ := back (o1' := .ins C (putGA fs f y)) (fun _ _ z => z) kept ⟨a, dx, _, L', rfl, rfl, upd_same, by rw [upd_ne ne]; exact hd, r'⟩
    exact run2 σ _ F3 L6 (f7.perm p6.symm) re6 (x23.stp.trans ((s7.permL pp.symm).permR p6.symm))
  · cases e4
end
end L3

set_option Elab.async false
set_option linter.all false
set_option maxRecDepth 100000
set_option maxHeartbeats 2000000
namespace L3
open PySem PySem.Spec PyProof.Rows L2
/-! ### a def that holds its class: super() -/
structure ScopeS (N P : List Str) (sc : Scope) : Prop where
  kind : sc.kind = .function
  co : sc.isCoroutine = false
  gen : sc.isGenerator = false
  nd : N.Nodup
  pre : N.take P.length = P
  par : ∀ x ∈ P, sc.names.lookup x = some .local
  nocell : ∀ y ∈ sc.names, y.2 ≠ .cell
  free : ∀ y ∈ sc.names, y.2 = .free → y.1 = "__class__"
def cxS (CX : CXT) (P : Program) (w : World) (K : PySem.W.Frag) (mg : Str → Option Value) (base : Heap) (N : List Str) (qual : Str) (scope : Scope) (f : Addr) (cd : Value) (cc : Addr) (A : Around) (outer : List Env) (s : Shared) (H : Hp) (E : XK) : Cx where
  prog := P
  w := w
  K := K
  mg := mg
  base := base
  A := A.deeper (PySem.W.ksEnv qual scope s.heap.objs.size f cd cc)
  N := N
  s_0 := s
  H_0 := H
  env := PySem.W.ksEnv qual scope s.heap.objs.size f cd cc
  outer := outer
  stack := PySem.W.ksEnv qual scope s.heap.objs.size f cd cc :: outer
  ex := []
  calm := true
  fn := fun _ => false
  pn := []
  xe := fun e s' => wpAny (model P w) (A.deeper (PySem.W.ksEnv qual scope s.heap.objs.size f cd cc)) (leaving (PySem.W.ksEnv qual scope s.heap.objs.size f cd cc) e) (fun _ s'' => CX outer H s E e s'') (fun e' s'' => CX outer H s E e' s'') s'
theorem rev_lookup {x : Str} {v : Value} : ∀ {P : List Str} {vs : List Value} {i : Nat}, P.Nodup → P[i]? = some x → vs[i]? = some v → (P.zip vs).reverse.lookup x = some v := by
  intro P vs i nd h1 h2
  have key : ∀ (l : List (Str × Value)) (r : List (Str × Value)), (l ++ r).lookup x = (l.lookup x).or (r.lookup x) := fun l r => by
    induction l with
    | nil => rfl
    | cons p l ih =>
      rw [List.cons_append, List.lookup_cons, List.lookup_cons]
      cases x == p.1 <;> simp [ih]
  induction P generalizing vs i with
  | nil => simp at h1
  | cons p P ih =>
    cases vs with
    | nil => simp at h2
    | cons u vs =>
      rw [List.zip_cons_cons, List.reverse_cons, key]
      cases i with
      | zero =>
        simp at h1 h2
        subst h1 h2
        have : (P.zip vs).reverse.lookup p = none := by
          rw [List.lookup_eq_none_iff]
          rintro ⟨a, b⟩ hp
          have := (List.of_mem_zip (List.mem_reverse.mp hp)).1
          simp only [beq_eq_false_iff_ne, ne_eq, bne_iff_ne]
          rintro rfl
          exact (List.nodup_cons.mp nd).1 this
        rw [this]
        simp
      | succ i =>
        rw [ih (List.nodup_cons.mp nd).2 (by simpa using h1) (by simpa using h2)]
        rfl
theorem inv_startS {CX : CXT} {P : Program} {w : World} {K : PySem.W.Frag} {mg : Str → Option Value} {base : Heap} {N ps : List Str} {qual : Str} {scope : Scope} {f cc : Addr} {cd : Value} {A : Around} {outer : List Env} {s : Shared} {H : Hp} {E : XK} {us : List Value} {vs : List V} {h₁ : Heap} {tk : Nat}
    {ccl : Value} {ccd : Option Addr} {v0 : Option Value} {ccs : Array (Option Value)} (S : ScopeS N ps scope) (lcc : K.lookup cc = some ⟨ccl, ccd, .cell v0, ccs⟩) (hd : A.handled = none) (e0 : Env0 P w K mg base A outer s H) (hl : vs.length = ps.length) (r : Vals vs us)
    (hns : h₁.Ns s.heap.objs.size (fun x => (ps.zip us).reverse.lookup x)) (hk : ∀ b o, s.heap.get? b = some o → h₁.get? b = some o) :
    Inv (cxS CX P w K mg base N qual scope f cd cc A outer s H E) [] (L2.start N vs) H { s with heap := h₁, toks := tk } := by
  have hpl : ps.length ≤ N.length := by have := congrArg List.length S.pre; rw [List.length_take] at this; omega
  have noA : ∀ b : Addr, b ∉ (cxS CX P w K mg base N qual scope f cd cc A outer s H E).ex := fun b z => absurd (show b ∈ ([] : List Addr) from z) (by simp)
  have one : ∀ {y : Str} {c : Addr}, (cxS CX P w K mg base N qual scope f cd cc A outer s H E).env.cells.lookup y = some c → y = "__class__" ∧ c = cc := fun {y c} h => by
    have h : List.lookup y [(("__class__" : Str), cc)] = some c := h
    rw [List.lookup_cons] at h
    cases q : y == ("__class__" : Str) with
    | true => rw [q] at h; cases h; exact ⟨beq_iff_eq.mp q, rfl⟩
    | false => rw [q] at h; cases h
  have hcc := e0.mod.kin _ _ lcc
  refine ⟨⟨e0.mod, S.kind, rfl, rfl, Nat.le_refl _, fun y z c h1 h2 => (one h1).1.trans (one h2).1.symm, fun y hy => ?_, fun y c z h => absurd z Bool.false_ne_true, fun _ => hd, Around.frames_deeper e0.frames, .inr ⟨rfl, rfl⟩, fun b z => absurd z (noA b), e0.bs, e0.bsz, fun b _ _ => noA b, fun b z => absurd z (noA b), e0.funs, e0.frf⟩,
    rfl, e0.bare, Un.kept hk, ⟨_, hns, fun i y v h1 h2 h3 => ?_⟩, fun y c h => ⟨v0, ?_⟩, e0.hok.fresh (Nat.le_refl _), fun y c h => ?_, fun p hp => absurd (show p ∈ ([] : List (Addr × Obj)) from hp) (by simp), e0.hok.kept hk, ?_⟩
  · have hy : scope.names.lookup y = some .cell ∨ scope.names.lookup y = some .free := hy
    rcases hy with hy | hy
    · exact absurd rfl (S.nocell _ (PySem.mem_of_lookup hy))
    · have := S.free _ (PySem.mem_of_lookup hy) rfl
      refine ⟨cc, ?_⟩
      show List.lookup y [(("__class__" : Str), cc)] = some cc
      rw [List.lookup_cons, show (y == ("__class__" : Str)) = true from beq_iff_eq.mpr this]
  · have hi : i < vs.length := by
      unfold L2.start at h2
      by_cases hi : i < vs.length
      · exact hi
      · rw [List.getElem?_append_right (by simpa using hi)] at h2
        rw [List.getElem?_replicate] at h2
        split at h2 <;> cases h2
    have ha : vs[i]? = some v := by
      unfold L2.start at h2
      rw [List.getElem?_append_left (by simpa using hi), List.getElem?_map] at h2
      cases e : vs[i]? with
      | none => rw [e] at h2; cases h2
      | some a => rw [e] at h2; cases h2; rfl
    obtain ⟨u, hu, rv⟩ := r.get ha
    have hp : ps[i]? = some y := by
      rw [← S.pre, List.getElem?_take_of_lt (by omega)]; exact h1
    have ndP : ps.Nodup := by rw [← S.pre]; exact S.nd.sublist (List.take_sublist _ _)
    exact ⟨u, rv, .inl ⟨S.par y (List.mem_of_getElem? hp), rev_lookup ndP hp hu⟩⟩
  · obtain ⟨_, rfl⟩ := one h
    exact ⟨_, hk _ _ (e0.bs _ _ hcc).1, rfl⟩
  · obtain ⟨_, rfl⟩ := one h
    exact (e0.bs _ _ hcc).2
  · unfold L2.start
    show _ = N.length
    rw [List.length_append, List.length_map, List.length_replicate]
    omega
/-- a def of a class that says super(), by its body at its own code -/
theorem fnS_ok {CX : CXT} {P : Program} {w : World} {K : PySem.W.Frag} {mg : Str → Option Value} {base : Heap} {k : Nat} {f cc : Addr} {name qual : Str} {params : Arguments} {body : List Stmt} {scope : Scope} {dV kV doc pm cdv ct oc : Value} {an od : Option Addr}
    {osl : Array (Option Value)} {N ps : List Str} {sp : Sp} {ccl : Value} {ccd : Option Addr} {v0 : Option Value} {ccs : Array (Option Value)} (lk : K.lookup f = some ⟨oc, od, .func (PySem.W.ksFn name qual params body scope dV kV doc pm an cdv ct cc), osl⟩) (hcd : PySem.W.codeIn K cdv qual = true) (S : ScopeS N ps scope)
    (lcc : K.lookup cc = some ⟨ccl, ccd, .cell v0, ccs⟩) (len : ∀ vs H Q E, sp vs H Q E → vs.length = ps.length)
    (hbody : ∀ (A : Around) (outer : List Env) (s : Shared) (H : Hp) (vs : List V) (Q : VK) (E : XK) (s1 : Shared), Room k (A.deeper (PySem.W.ksEnv qual scope s.heap.objs.size f cdv cc)) → sp vs H Q E →
      Inv (cxS CX P w K mg base N qual scope f cdv cc A outer s H E) [] (L2.start N vs) H s1 →
      PyProof.Rows.wpAt (model P w) (A.deeper (PySem.W.ksEnv qual scope s.heap.objs.size f cdv cc)) (.func body (PySem.W.ksEnv qual scope s.heap.objs.size f cdv cc)) (execs body (PySem.W.ksEnv qual scope s.heap.objs.size f cdv cc))
        (SP (cxS CX P w K mg base N qual scope f cdv cc A outer s H E) [] { nx := fun _ H' => Q .non H', rt := Q }) (cxS CX P w K mg base N qual scope f cdv cc A outer s H E).xe s1) :
    FnOk P w K mg base CX (k + 1) f (PySem.W.ksFn name qual params body scope dV kV doc pm an cdv ct cc) ps sp := by
  refine ⟨len, fun A outer s H args us vs Q E hr e0 hb r hsp => ?_⟩
  have hl := len _ _ _ _ hsp
  have KX : K.In s.heap := e0.mod.kin.keeps fun b o e => (e0.bs b o e).1
  have lim : s.heap.NoLimit := e0.mod.nolimit.keeps fun b o e => (e0.bs b o e).1
  refine ks_codeAny_call_defAt (fd := PySem.W.ksFn name qual params body scope dV kV doc pm an cdv ct cc) (body := body) (binds := ps.zip us) hr.depth (KX _ _ lk) rfl lim (PySem.W.codeRec_of KX hcd) rfl hb S.nocell
    (fun ⟨n, v⟩ hy => S.par n (List.of_mem_zip hy).1) (fun h₁ hns hk₁ => ?_) S.co S.gen S.kind
  have I : Inv (cxS CX P w K mg base N qual scope f cdv cc A outer s H E) [] (L2.start N vs) H { s with heap := h₁, toks := s.toks + (ps.zip us).length } := inv_startS S lcc hr.hd e0 hl r hns hk₁
  refine ks_wpAt_mono (hbody A outer s H vs Q E _ (hr.deeper _) hsp I) (fun fl s' hs => ?_) fun e s' hs => hs
  have fin : ∀ {σ' : L2.St} {H' : Hp} {v : V} {u : Value}, Inv (cxS CX P w K mg base N qual scope f cdv cc A outer s H E) [] σ' H' s' → RelV v u → Q v H' → CE outer P w H s Q u s' :=
    fun {σ' H' v u} J rv q => ⟨v, H', J.os, J.bare, J.base, J.hok, rv, q⟩
  cases fl with
  | ret u =>
    obtain ⟨v, σ', H', J, rv, q⟩ := hs
    exact fin J rv q
  | next =>
    obtain ⟨σ', H', J, q⟩ := hs
    exact fin (v := V.non) (u := Value.none) J rfl q
  | brk =>
    obtain ⟨_, _, _, q⟩ := hs
    exact False.elim q
  | cont =>
    obtain ⟨_, _, _, q⟩ := hs
    exact False.elim q
end L3

set_option Elab.async false
set_option linter.all false
set_option maxRecDepth 100000
set_option maxHeartbeats 2000000
namespace L3
open PySem PySem.Spec PyProof.Rows L2
/-- an expression at its own code -/
structure PEat (X : Cx) (body : List Stmt) (e : Expr) (t : TE) : Prop where
  run : ∀ (pins : List (Addr × Obj)) (s : Shared) (σ : L2.St) (H : Hp) (Q : VK), Inv X pins σ H s → t σ H Q → PyProof.Rows.wpAt (model X.prog X.w) X.A (.func body X.env) (eval e X.env) (EP X pins σ Q) X.xe s
/-- what the text says where super() stands: f the def, cc its cell, D the class -/
structure SupAt (X : Cx) (f cda cc D : Addr) (me : Str) : Prop where
  env : ∃ q sc L, X.env = PySem.W.ksEnv q sc L f (.ref cda) cc ∧ sc.names.lookup ("super" : Str) = some .globalImplicit ∧ sc.names.lookup ("__class__" : Str) = some .free ∧ sc.names.lookup me = some .local ∧ sc.kind = .function
  fn : ∃ oc od fd osl ar, X.K.lookup f = some ⟨oc, od, .func fd, osl⟩ ∧ (fd.params.posonlyargs ++ fd.params.args).head? = some ar ∧ ar.arg = me
  slot : X.N[0]? = some me
  code : ∃ ccl cdd vs ccs file tf, X.K.lookup cda = some ⟨ccl, cdd, .fields vs, ccs⟩ ∧ vs[2]? = some (.str file tf) ∧ ((X.prog.main.file : Str) == file) = true
  cell : ∃ cl cld csl, X.K.lookup cc = some ⟨cl, cld, .cell (some (.ref D)), csl⟩
  cls : ∃ cdD, PySem.W.clsIn X.K D = some cdD
  mg : X.mg "super" = none
  top : (X.prog.main.scope.names.lookup ("super" : Str)).isSome = false
  any : PySem.W.nsIn X.K cStatics "thirdparty.any" = some none
section
variable {X : Cx} {f cda cc D : Addr} {me : Str} {body : List Stmt} {pos : Pos}
theorem sup_node (T : SupAt X f cda cc D me) {pins : List (Addr × Obj)} {σ : L2.St} {H : Hp} {s : Shared} {x C : Addr} {ox : Obj} {p0 p1 : Pos} {whole : Sem Value} {Q : Value → Shared → Prop} (I : Inv X pins σ H s)
    (h0 : σ[0]? = some (some (.ref x))) (hx : s.heap.get? x = some ox) (hxc : ox.cls = .ref C) (hnc : ∀ c, ox.data ≠ .cls c) (hsub : PySem.W.mroIn X.K C (.ref D) = some true)
    (h : ∀ so h', Inv X pins σ H { s with heap := h' } → h'.get? so = some (PySem.W.ks_superObj D x C) → Q (.ref so) { s with heap := h' }) :
    PyProof.Rows.wpAt (model X.prog X.w) X.A (.func body X.env) (attributeBase (.Call (.Name "super" p0) [] [] p1) "__init__" X.env whole) Q X.xe s := by
  obtain ⟨q, sc, L, he, hks, hkc, hka, hk⟩ := T.env
  obtain ⟨oc, od, fd, osl, ar, lf, hp, har⟩ := T.fn
  obtain ⟨ccl, cdd, vs, ccs, file, tf, lc, hvs, hfile⟩ := T.code
  obtain ⟨cl, cld, csl, lcell⟩ := T.cell
  obtain ⟨cdD, hD⟩ := T.cls
  subst har
  obtain ⟨m, hns, hl⟩ := I.loc
  have KX := I.kIn
  have hv : m ar.arg = some (.ref x) := by
    obtain ⟨u, ru, lk⟩ := hl 0 ar.arg (.ref x) T.slot h0 (by left; rw [he]; exact hka)
    obtain rfl : u = Value.ref x := ru
    rcases lk with ⟨_, z⟩ | ⟨z, _⟩
    · exact z
    · rw [he] at z
      have z : sc.names.lookup ar.arg = some .cell ∨ sc.names.lookup ar.arg = some .free := z
      rw [hka] at z
      rcases z with z | z <;> cases z
  obtain ⟨oD, hD1, hD2⟩ : ∃ oD, s.heap.get? D = some oD ∧ oD.data = .cls cdD := by
    unfold PySem.W.clsIn at hD
    split at hD
    · rename_i c d cd' sl ho
      cases hD
      exact ⟨_, KX _ _ ho, rfl⟩
    · cases hD
  obtain ⟨mb, b1, b2⟩ := I.mod.blt
  have hg := I.mod.glob.keeps I.bk
  have hb := b1.keeps I.bk
  rw [he] at hns ⊢
  obtain ⟨hh, g, d, t, os⟩ := s
  refine ks_wpAt_super_base (env := PySem.W.ksEnv q sc L f (.ref cda) cc) hks hkc (by decide) rfl (KX _ _ lf) rfl hp rfl (KX _ _ lc) rfl hvs hfile T.top ?_
  refine PySem.W.ks_loadName_global hk hks (PySem.Calls.loadGlobal_builtin (env := PySem.W.ksEnv q sc L f (.ref cda) cc) hg T.mg hb ((b2 "super" (by decide)).trans (by first | rfl | kernel_rfl)) ⟨rfl, ?_⟩)
  refine wpAny_loadName_free hk hkc rfl ⟨_, KX _ _ lcell, rfl⟩ ?_
  refine wpAny_loadName_local hk hka hns hv ?_
  refine ks_wpAny_isType_cls hD1 hD2 ⟨rfl, ?_⟩
  refine ks_wpAny_call_super hD1 hD2 hx hxc hnc (PySem.W.looks_mroIn KX hsub) (fun h' e k => ?_)
  exact h _ _ (I.kept (t' := t) fun b u e => k b u e) e
/-- what the written part says of an own exception class at C over the built-in B -/
structure XcC (K : PySem.W.Frag) (C : Addr) (B newId initId : String) (bmB : List Value) : Prop where
  base : ExcBaseFacts B newId initId bmB
  store : StoreFacts B bmB "object.__setattr__" "object"
  sup : PySem.W.KxsFacts B initId
  cls : ∃ nm q N bs bm sn sub ab col dd k0 k1 k2 k3 k5, K.lookup C = some (excClassObj nm q C N bs bm true sn sub ab col dd k0 k1 k2 k3 k5 newId) ∧ PySem.W.excTail bmB bm = true
  sa : PySem.W.findIn K (.ref C) "__setattr__" = some (some (.builtin "object.__setattr__"))
  exC : PySem.W.subIn K (.ref C) (.type "BaseException") = some true
  exB : PySem.W.subIn K (.ref C) (.type B) = some true
  tyC : PySem.W.typeIn K (.ref C) = some (.type "type")
  kC : PySem.W.keepIn K (.ref C) = true
variable {C : Addr} {B newId initId : String} {bmB : List Value}
/-- super().__init__(..) of an exception -/
def tSupX (K : PySem.W.Frag) (D : Addr) (ta : TA) : TE := fun σ H Q => ∃ (x C : Addr) (B newId initId : String) (bmB : List Value), σ[0]? = some (some (.ref x)) ∧ H x = some (exo x C none) ∧ XcC K C B newId initId bmB ∧ PySem.W.mroIn K C (.ref D) = some true ∧
  PySem.W.ks_superIn K C D "__init__" = some (some (.builtin initId)) ∧ ta σ H fun vs H1 => H1 x = some (exo x C none) ∧ vs.length ≤ 1000 ∧ Q .non H1
theorem pat_supX {e : Expr} {es : List Expr} {ta : TA} {p0 p1 apos : Pos} {pl : Sem Bool} (T : SupAt X f cda cc D me) (ha : PA X (e :: es) ta)
    (ht : eval (.Call (.Attribute (.Call (.Name "super" p0) [] [] p1) "__init__" apos) (e :: es) [] pos) X.env = (do
      let ov ← attributeBase (.Call (.Name "super" p0) [] [] p1) "__init__" X.env (eval (.Call (.Name "super" p0) [] [] p1) X.env)
      standAt apos.atName
      let (f, first) ← holding [ov] (getMethod ov "__init__" pl)
      callWith pos f first (backTo pos (starEach (e :: es) X.env)) []))
    (he : starEach (e :: es) X.env = (false, eval e X.env) :: starEach es X.env) (hpl : (backTo pos (starEach es X.env)).any (·.1) = false) :
    PEat X body (.Call (.Attribute (.Call (.Name "super" p0) [] [] p1) "__init__" apos) (e :: es) [] pos) (tSupX X.K D ta) := by
  refine ⟨fun pins s σ H Q I h => ?_⟩
  obtain ⟨x, C, B, newId, initId, bmB, h0, hx, XC, hsub, hm, h⟩ := h
  obtain ⟨t1, hox⟩ := exo_at I.hok hx
  refine ks_wpAt_MethodCall (pl := pl) ?_ ht
  refine sup_node T I h0 hox rfl (fun c z => by cases z) hsub fun so h' I1 hso => ?_
  obtain ⟨nm, q, N, bs, bm, sn, sub, ab, col, dd, k0, k1, k2, k3, k5, hC, hbm⟩ := XC.cls
  obtain ⟨t2, hox1⟩ := exo_at I1.hok hx
  have KX1 := I1.kIn
  have hcl : PySem.W.clsIn X.K C = some { name := nm, bases := bs, mro := .ref C :: bm, ns := N, qualname := q, hasDict := true, slotNames := sn, subclasses := sub, abstract := ab, collection := col, hasDel := false } := by unfold PySem.W.clsIn; rw [hC] <;> rfl
  have IA : PySem.W.InstAt h' x ({ cls := .ref C, dict := none, data := .fields #[.ref t2, .none, .none, .none, .bool false, .none] } : Obj) C none := ⟨hox1, rfl, rfl, trivial⟩
  obtain ⟨hh, g, d, t, os⟩ := s
  unfold PySem.W.ks_superIn at hm
  rw [hcl] at hm
  refine PySem.W.kxs_getMethod (l₀ := .ref C :: bm) XC.sup hso (PySem.W.looks_opaque KX1 T.any) ?_ rfl KX1 hm (IA.type.andThen (PySem.W.looks_subIn KX1 XC.exB)) (PySem.W.ks_ne KX1 IA hcl) (by decide) ?_
  · exact fun A Q E s k q => wpAny_bind ((PySem.W.looks_clsIn KX1 hcl) A _ E s k (wpAny_pure q))
  -- the bound __init__ stands
  have I2 : Inv X pins σ H ⟨h'.push (PySem.W.kxs_mw initId x), g, d, t + 1, os⟩ := I1.kept (h' := h'.push (PySem.W.kxs_mw initId x)) (t' := t + 1) fun b u e => Heap.get?_push_of_some _ e
  have hu : (h'.push (PySem.W.kxs_mw initId x)).get? h'.objs.size = some (PySem.W.kxs_mw initId x) := Heap.get?_push_size _ rfl
  have I3 : Inv X ((h'.objs.size, PySem.W.kxs_mw initId x) :: pins) σ H ⟨h'.push (PySem.W.kxs_mw initId x), g, d, t + 1, os⟩ := I2.pins_of fun p hp => by
    rcases List.mem_cons.mp hp with rfl | hp
    · exact ⟨hu, I1.hok.fresh (Nat.le_refl _), Nat.ne_of_gt I1.lt, I1.nofs (Nat.le_refl _), fun v z => by cases z⟩
    · exact I2.pin p (List.mem_append_right _ hp)
  show wpAny _ _ (callWith pos (.ref h'.objs.size) [] (backTo pos (starEach (e :: es) X.env)) []) _ _ _
  have hargs := ha.run pos _ _ σ H _ I3 h
  rw [he] at hargs ⊢
  refine PySem.W.kxs_callWith (i := initId) (x := x) (by show (false || (backTo pos (starEach es X.env)).any (·.1)) = false; rw [hpl]; rfl) ?_
  refine PySem.Calls.evalArgs_plain (thn hargs fun us s4 ⟨vs, H4, I4, r4, hx4, hz, hq⟩ => ?_)
  have hu4 := (I4.pin _ (List.mem_append_right _ List.mem_cons_self)).1
  refine ⟨hu4, ?_⟩
  obtain ⟨t3, hox4⟩ := exo_at I4.hok hx4
  have hC4 := I4.kIn _ _ hC
  have hlen : us.length ≤ sizeLine := by
    rw [← Paired.length r4, sizeLine_eq]
    omega
  obtain ⟨hh4, g4, d4, tk4, os4⟩ := s4
  refine wpAny_call (codeAny_of_tree ?_)
  show wpAny _ X.A.in1 (callAny (.ref h'.objs.size) ⟨us, []⟩) _ _ _
  simp only [callAny]
  refine wpAny_bind (wpAny_load hu4 ?_)
  simp only [PySem.W.kxs_mw, show (Value.type "method-wrapper" == Value.type "method" || Value.type "method-wrapper" == Value.type "builtin_function_or_method" || Value.type "method-wrapper" == Value.type "method-wrapper") = true by decide, if_true]
  refine PySem.W.KFB.if_so (by decide) ?_
  refine wpAny_bind (PySem.W.check_bound_init XC.base.toExcCallFacts hC4 hox4 rfl ?_)
  refine wpAny_bind (wpAny_pure (wpAny_pure ?_))
  refine ⟨plainId_quiet XC.base.init.plain _, codeAny_builtin XC.base.initEntry ?_⟩
  refine PySem.W.exc_init_tree (cls := .ref C) (t0 := t3) (dv := none) (c2 := .none) (c3 := .none) (b4 := .bool false) hox4 hlen fun h5 k5' e5 _ => ?_
  have J := I4.write (t' := tk4) (x := x) (e := x) (o := exo x C none) (by rw [hx4]; exact True.intro) (.inl rfl) k5' ⟨_, e5⟩ (exo_ok e5)
  have eu : upd H4 x (exo x C none) = H4 := by
    funext b
    by_cases hb : b = x
    · rw [hb, upd_same, hx4]
    · rw [upd_ne hb]
  rw [eu] at J
  exact ⟨.non, H4, J.pins_of fun p hp => J.pin p (List.mem_append_right _ (List.mem_cons_of_mem _ hp)), rfl, hq⟩
end
end L3

set_option Elab.async false
set_option linter.all false
set_option maxRecDepth 100000
set_option maxHeartbeats 2000000
namespace L3
open PySem PySem.Spec PyProof.Rows L2
section
open Builtin Builtin.ObjectAttr PySem.W PySem.HandSPX
variable {prog : Program} {w : World} {A : Around} {E : Value → Shared → Prop} {R : Result → Shared → Prop} {hp : Heap} {g : Array GenState} {d : Drawn} {t : Nat} {os : OsState}
theorem exc_osaG {K : PySem.W.Frag} {name : Str} {tk : Tok} {v : Value} {x C : Addr} {fv : Array Value} {cd : ClassData} {B : String} {bmB : List Value} (SB : StoreFacts B bmB "object.__setattr__" "object")
    (X : K.In hp) (hx : hp.get? x = some { cls := .ref C, data := .fields fv }) (hcd : PySem.W.clsIn K C = some cd) (hm : PySem.W.excTail bmB cd.mro = true) (hne : cd.mro.isEmpty = false) (hh : cd.hasDict = true) (ha : PySem.W.findIn K (.ref C) name = some none)
    (hq : ∀ h' tk' dx, (∀ b o, b ≠ x → hp.get? b = some o → h'.get? b = some o) → hp.objs.size ≤ dx → dx ≠ x → h'.get? x = some { cls := .ref C, dict := some dx, data := .fields fv } →
      h'.Ns1 dx (fun y => if y = name then some v else none) → R (.ok (.ret .none)) ⟨h', g, d, tk', os⟩) :
    codeAny (model prog w) A (.call (.builtin "object.__setattr__") ⟨[.ref x, .str name tk, v], []⟩) R ⟨hp, g, d, t, os⟩ := by
  have I : PySem.W.InstAt hp x { cls := .ref C, data := .fields fv } C none := ⟨hx, rfl, rfl, trivial⟩
  have SF := PySem.F.store_object
  have hob : cd.mro.contains (.type "object") = true := (PySem.W.excTail_contains "object" _ hm).trans SB.hasOwner
  have hxs : x ≠ hp.objs.size := Nat.ne_of_lt (Heap.lt_size hx)
  have sub : PySem.W.Looks (model prog w) hp (isInstance (.ref x) (.type "object")) true := I.type.andThen (PySem.W.looks_mroIn X (by unfold PySem.W.mroIn; rw [hcd, Option.bind_some, if_neg (by rw [hne]; decide), hob]))
  refine codeAny_call_builtin SF.slot.plain SF.entry (@PySem.W.check_slot (model prog w) _ _ ⟨hp, g, d, t, os⟩ "object.__setattr__" "object" "__setattr__" (.ref x) [.str name tk, v] [] _ SF.kind SF.split sub (SF.args (.ref x) (.str name tk) v) ?_)
  have hmr : PySem.W.Looks (model prog w) hp (mroOf (.ref C)) cd.mro := (PySem.W.looks_clsIn X hcd).andThen .now
  have L3 : PySem.W.Looks (model prog w) hp (storeTaker? none) none := .now
  have hcls : PySem.W.Looks (model prog w) hp (classData C) cd := PySem.W.looks_clsIn X hcd
  rw [PySem.W.osa_eq, refuse_eq]
  refine wpAny_bind (wpAny_bind (I.type.at (wpAny_bind (hmr.at ?_))))
  rw [PySem.W.excTail_pass _ (SB.passes _) _ hm]
  refine wpAny_pure (wpAny_bind (I.type.at (wpAny_bind ((PySem.W.looks_findIn X ha).at (wpAny_bind (L3.at ?_))))))
  show wpAny _ _ (storeInOwnDict (.ref x) (.ref C) (.str name tk) name v false) _ _ _
  obtain ⟨nm, bs, mro, ns, qn, hd, sn, sb, ab, col, del⟩ := cd
  dsimp only at hh
  subst hh
  unfold storeInOwnDict ownDictForStores
  repeat (first | with_reducible refine PySem.HandSPX.store_in_new ?_ ?_ | with_reducible refine wpAny_loadPart_at hx ?_ | with_reducible refine hcls.at ?_ | wp_step)
  · exact ⟨_, #[], _, (Heap.get?_update_ne _ _ _ _ hxs.symm).trans (Heap.get?_push_at rfl rfl), rfl, fun e he => absurd he (by simp), fun _ => rfl⟩
  · intro h' tk' hn' hs
    have hx₁ : (hp.push { cls := .type "dict", data := .dict #[] }).get? x = some { cls := .ref C, data := .fields fv } := Heap.get?_push_of_some _ hx
    refine hq h' tk' hp.objs.size (fun b o hb ho => ?_) (Nat.le_refl _) hxs.symm ?_ hn'
    · exact (hs.2 b (Nat.ne_of_lt (Heap.lt_size ho))).trans ((Heap.get?_update_ne _ _ _ _ hb).trans (Heap.get?_push_of_some _ ho))
    · exact (hs.2 x hxs).trans (Heap.get?_update_self _ hx₁ rfl)
end
section
variable {X : Cx} {pins : List (Addr × Obj)} {σ : L2.St} {H : Hp} {s : Shared} {a C dx : Addr} {f : Str} {y : V} {u : Value} {Q : Unit → Shared → Prop} {E : Value → Shared → Prop} {A : Around} {B newId initId : String} {bmB : List Value}
/-- self.f = y, the first one -/
theorem ost_newX (T : XcC X.K C B newId initId bmB) (I : Inv X pins σ H s) (e : H a = some (exo a C none)) (hno : PySem.W.findIn X.K (.ref C) f = some none) (ry : RelV y u)
    (h : ∀ dx s', H dx = none → dx ≠ a → Inv X pins σ (upd (upd H dx (exd dx [(f, y)])) a (exo a C (some dx))) s' → Q () s') : wpAny (model X.prog X.w) A (setAttr (.ref a) f u) Q E s := by
  obtain ⟨nm, q, N, bs, bm, sn, sub, ab, col, dd, k0, k1, k2, k3, k5, hC, hbm⟩ := T.cls
  have hcl : PySem.W.clsIn X.K C = some { name := nm, bases := bs, mro := .ref C :: bm, ns := N, qualname := q, hasDict := true, slotNames := sn, subclasses := sub, abstract := ab, collection := col, hasDel := false } := by unfold PySem.W.clsIn; rw [hC] <;> rfl
  obtain ⟨t1, ho⟩ := exo_at I.hok e
  obtain ⟨hp, g, d, t, os⟩ := s
  refine PySem.W.set_plain I.kIn (ox := { cls := .ref C, dict := none, data := .fields #[.ref t1, .none, .none, .none, .bool false, .none] }) (od := none) ⟨ho, rfl, rfl, trivial⟩ T.sa ?_
  refine exc_osaG T.store I.kIn ho hcl (show PySem.W.excTail bmB (.ref C :: bm) = true from hbm) rfl rfl hno (fun h' tk' dx k dn dne hx hn => ?_)
  have hnd : H dx = none := I.hok.fresh dn
  have nd : ∀ {b : Addr} {o : Obj}, hp.get? b = some o → b ≠ dx := fun {b o} q => Nat.ne_of_lt (Nat.lt_of_lt_of_le (Heap.lt_size q) dn)
  have na : ∀ {b : Addr}, H b = none → b ≠ a := fun {b} n z => by
    rw [z, e] at n
    cases n
  have Un1 : Un X.fs [] H (upd (upd H dx (exd dx [(f, y)])) a (exo a C (some dx))) hp h' := {
    keep := fun b o q n _ _ => k b o (na n) q
    slot := fun b o q n _ _ => ⟨o.slots, k b o (na n) q⟩
    free := fun b o q n _ => by rw [upd_ne (na n), upd_ne (nd q)]; exact n
    there := fun b o q _ => by
      by_cases hb : b = a
      · exact ⟨_, by rw [hb]; exact hx⟩
      · exact ⟨o, k b o hb q⟩
    tups := fun b xs q => by rw [upd_ne (at_ne e q exo_tup), upd_ne (ne_of_none q hnd)]; exact q
    frzs := fun b o v q => by rw [upd_ne (at_ne e q exo_frz), upd_ne (ne_of_none q hnd)]; exact q
    tbls := fun b ps q => ⟨#[], by rw [upd_ne (at_ne e q exo_tbl), upd_ne (ne_of_none q hnd), q]; simp⟩ }
  refine h dx _ hnd dne (I.un (t' := tk') Un1 fun b o q => ?_)
  by_cases hb : b = a
  · subst hb
    rw [upd_same] at q
    cases q
    exact exo_ok hx
  · rw [upd_ne hb] at q
    by_cases hd : b = dx
    · subst hd
      rw [upd_same] at q
      cases q
      exact exd_ok hn (relO_put (fs := []) ry fun g => True.intro)
    · rw [upd_ne hd] at q
      exact (I.hok b o q).stay (fun c v hc z => k c v (by
          rcases hc with hc | hc
          · rw [hc]
            exact hb
          · exact at_ne e hc exo_own) z)
        (fun c hc => by rw [upd_ne (at_ne e hc exo_own), upd_ne (ne_of_none hc hnd)]; exact hc) (fun c xs hc => by rw [upd_ne (at_ne e hc exo_tup), upd_ne (ne_of_none hc hnd)]; exact hc)
def tOstX (K : PySem.W.Frag) (f : Str) (to te : TE) : TS := fun D σ H => te σ H fun y H1 => to σ H1 fun x H2 => ∃ (a C : Addr) (B newId initId : String) (bmB : List Value), x = .ref a ∧ XcC K C B newId initId bmB ∧ PySem.W.findIn K (.ref C) f = some none ∧
  H2 a = some (exo a C none) ∧ ∀ dx, H2 dx = none → dx ≠ a → D.nx σ (upd (upd H2 dx (exd dx [(f, y)])) a (exo a C (some dx)))
theorem ps_ostX {o e : Expr} {to te : TE} {f : Str} {p' pos : Pos} (ho : PE X o to) (he : PE X e te) (hs : swapsWith e (some (.Attribute o f p')) pos.line X.env = pure false) : PS X (.Assign [.Attribute o f p'] e pos) (tOstX X.K f to te) := by
  refine ⟨fun pins s σ H D I h => ?_⟩
  refine plainObj_wpAny_Assign_Attribute (thn (he.run pins s σ H _ I h) fun v s1 ⟨y, H1, I1, r1, q1⟩ => thn (ho.run pins s1 σ H1 _ I1 q1) fun u s2 ⟨x, H2, I2, r2, a, C, B, newId, initId, bmB, ex, T, hno, ea, q⟩ => ?_) hs
  subst ex
  obtain rfl : u = Value.ref a := r2
  exact ost_newX T I2 ea hno r1 fun dx s' n ne J => ⟨σ, _, J, q dx n ne⟩
end
theorem meth_eval {env : Env} {o : Expr} {name : Str} {apos pos : Pos} {es : List Expr} (hl : (apos.endLine == pos.line) = true) (hf : methodCallForm (es.length + ([] : List Keyword).length) (backTo pos (starEach es env)) (backToKw pos (keywordEach [] env)) = true) : eval (.Call (.Attribute o name apos) es [] pos) env = (do
      let ov ← attributeBase o name env (eval o env)
      standAt apos.atName
      let (f, first) ← holding [ov] (getMethod ov name (do return (← importBound o env).getD true))
      callWith pos f first (backTo pos (starEach es env)) []) := by
  have hpos : methodCallPos true o env apos pos = pure pos := by unfold methodCallPos; simp [hl]
  rw [arm_eval_Call]
  unfold methodCall
  rw [hf, hpos]
  simp only [pure_bind]
  rfl
/-- an own exception's __init__: super().__init__(m); self.f = p -/
structure Xi (K : PySem.W.Frag) (C : Addr) (f : Str) (fI : Addr) : Prop where
  ex : ∃ (B newId initId : String) (bmB : List Value) (D : Addr), XcC K C B newId initId bmB ∧ PySem.W.mroIn K C (.ref D) = some true ∧ PySem.W.ks_superIn K C D "__init__" = some (some (.builtin initId)) ∧ PySem.W.findIn K (.ref C) f = some none ∧ D = C
  ini : PySem.W.findIn K (.ref C) "__init__" = some (some (.ref fI))
  ty : PySem.W.typeIn K (.ref fI) = some (.type "function")
def spXi (K : PySem.W.Frag) (C : Addr) (f : Str) (fI : Addr) : Sp := fun vs H Q _ => ∃ a y, vs = [.ref a, y] ∧ Xi K C f fI ∧ H a = some (exo a C none) ∧ ∀ dx, H dx = none → dx ≠ a → Q .non (upd (upd H dx (exd dx [(f, y)])) a (exo a C (some dx)))
/-- what the text says of such an __init__ -/
structure XiD (P : Program) (K : PySem.W.Frag) (mg : Str → Option Value) (C : Addr) (f : Str) (fI : Addr) (fd : FuncData) : Prop where
  ex : ∃ (name qual : Str) (params : Arguments) (body : List Stmt) (scope : Scope) (dV kV doc pm ct oc : Value) (an od : Option Addr) (osl : Array (Option Value)) (cc cda : Addr) (ar : Arg) (p m : Str) (j : Nat) (p0 p1 apos p2 pos p3 p4 p5 p6 p7 : Pos),
    fd = PySem.W.ksFn name qual params body scope dV kV doc pm an (.ref cda) ct cc ∧ K.lookup fI = some ⟨oc, od, .func fd, osl⟩ ∧ PySem.W.codeIn K (.ref cda) qual = true ∧ ScopeS ["self", p] ["self", p] scope ∧
    body = [.Expr (.Call (.Attribute (.Call (.Name "super" p0) [] [] p1) "__init__" apos) [.Constant (.str m) j p2] [] pos) p3, .Assign [.Attribute (.Name "self" p4) f p5] (.Name p p6) p7] ∧
    scope.names.lookup ("super" : Str) = some .globalImplicit ∧ scope.names.lookup ("__class__" : Str) = some .free ∧
    (params.posonlyargs ++ params.args).head? = some ar ∧ ar.arg = "self" ∧
    (∃ ccl cdd vs ccs file tf, K.lookup cda = some ⟨ccl, cdd, .fields vs, ccs⟩ ∧ vs[2]? = some (.str file tf) ∧ ((P.main.file : Str) == file) = true) ∧
    (∃ cl cld csl, K.lookup cc = some ⟨cl, cld, .cell (some (.ref C)), csl⟩) ∧ (∃ cdD, PySem.W.clsIn K C = some cdD) ∧ mg "super" = none ∧ (P.main.scope.names.lookup ("super" : Str)).isSome = false ∧ PySem.W.nsIn K cStatics "thirdparty.any" = some none ∧
    p7.line = p7.line ∧ (p == ("__debug__" : Str)) = false ∧ (p == ("__classdict__" : Str)) = false ∧ (apos.endLine == pos.line) = true
  bind : Binds K fd ["self", (fd.params.posonlyargs ++ fd.params.args)[1]?.elim "" (·.arg)] []
theorem xi_ok {CX : CXT} {P : Program} {w : World} {K : PySem.W.Frag} {mg : Str → Option Value} {base : Heap} {k : Nat} {C fI : Addr} {f : Str} {fd : FuncData} (T : XiD P K mg C f fI fd) : ∃ p, FnOk P w K mg base CX (k + 1) fI fd ["self", p] (spXi K C f fI) := by
  obtain ⟨name, qual, params, body, scope, dV, kV, doc, pm, ct, oc, an, od, osl, cc, cda, ar, p, m, j, p0, p1, apos, p2, pos, p3, p4, p5, p6, p7, rfl, lk, hcd, S, rfl, hks, hkc, hp, har, hcode, ⟨cl, cld, csl, hcell⟩, hcls, hmg, htop, hany, _, hd1, hd2, hl1⟩ := T.ex
  refine ⟨p, fnS_ok lk hcd S hcell (fun vs H Q E ⟨a, y, e, _⟩ => by rw [e]; rfl) fun A outer s H vs Q E s1 hr ⟨a, y, ev, xi, ha, hq⟩ I => ?_⟩
  subst ev
  obtain ⟨B, newId, initId, bmB, D, XC, hsub, hm, hno, rfl⟩ := xi.ex
  have SA : SupAt (cxS CX P w K mg base ["self", p] qual scope fI (.ref cda) cc A outer s H E) fI cda cc D "self" := ⟨⟨qual, scope, s.heap.objs.size, rfl, hks, hkc, S.par _ List.mem_cons_self, S.kind⟩, ⟨oc, od, _, osl, ar, lk, hp, har⟩, rfl, hcode, ⟨cl, cld, csl, hcell⟩, hcls, hmg, htop, hany⟩
  refine ks_wpAt_execs_cons (ks_wpAt_Expr_any ?_ ?_ ?_)
  · refine PyProof.Rows.wpAt_mono ((pat_supX SA (pa_cons pe_str pa_nil rfl) (meth_eval hl1 rfl) rfl rfl).run [] s1 _ H (fun v H' => v = .non ∧ H' = H) I ⟨a, D, B, newId, initId, bmB, rfl, ha, XC, hsub, hm, ha, by simp, rfl, rfl⟩) (fun v s2 hs => ?_) fun e s' he => he
    obtain ⟨v', H', J, _, _, rfl⟩ := hs
    refine PyProof.Rows.wpAt_of_any ?_
    have st : PSs (cxS CX P w K mg base ["self", p] qual scope fI (.ref cda) cc A outer s H' E) [.Assign [.Attribute (.Name "self" p4) f p5] (.Name p p6) p7] _ :=
      pss_one (ps_ostX (pe_var (i := 0) rfl (.inl (S.par _ List.mem_cons_self)) (by decide) (by decide)) (pe_var (i := 1) rfl (.inl (S.par _ (by simp))) hd1 hd2) rfl)
    exact st.run [] s2 _ H' _ J ⟨y, rfl, .ref a, rfl, a, D, B, newId, initId, bmB, rfl, XC, hno, ha, fun dx n ne => hq dx n ne⟩
  · show interactive _ = false
    unfold interactive
    rw [show (PySem.W.ksEnv qual scope s.heap.objs.size fI (.ref cda) cc).scope.kind = .function from S.kind]
    rfl
  · rfl
end L3

set_option Elab.async false
set_option linter.all false
set_option maxRecDepth 100000
set_option maxHeartbeats 2000000
namespace L3
open PySem PySem.Spec PyProof.Rows L2
/-- an own exception class with such an __init__, ready to be called -/
structure MkX (X : Cx) (C : Str) (f : Str) : Prop where
  ex : ∃ fI fd p, Xi X.K (He.ga X.K C) f fI ∧ (∀ k, FnOk X.prog X.w X.K X.mg X.base (L2.CX X.prog X.w) (k + 1) fI fd ["self", p] (spXi X.K (He.ga X.K C) f fI)) ∧ Binds X.K fd ["self", p] []
  gl : X.mg C = some (.ref (He.ga X.K C))
section
variable {X : Cx} {c : C3} {pos : Pos} {k : Nat} {C f : Str}
theorem run_mkX {pins : List (Addr × Obj)} {σ : L2.St} {H : Hp} {s : Shared} {Q : VK} {u : Value} {y : V} (M : MkX X C f) (hr : Room (k + 2) X.A) (I : Inv X pins σ H s) (r : RelV y u)
    (h : ∀ a dx, H a = none → H dx = none → dx ≠ a → Q (.ref a) (upd (upd H dx (exd dx [(f, y)])) a (exo a (He.ga X.K C) (some dx)))) : wpAny (model X.prog X.w) X.A (call (.ref (He.ga X.K C)) [u]) (EP X pins σ Q) X.xe s := by
  obtain ⟨fI, fd, p, xi, F1, hb⟩ := M.ex
  obtain ⟨B, newId, initId, bmB, D, T, hsub, hm, hno, rfl⟩ := xi.ex
  have F1 := F1 k
  obtain ⟨nm, q, N, bs, bm, sn, sub, ab, col, dd, k0, k1, k2, k3, k5, hC, hbm⟩ := T.cls
  obtain ⟨hp, g, dr, tk, os⟩ := s
  have hsz : hp.objs.size ≤ hp.objs.size + 1 := Nat.le_succ _
  have hn : H (hp.objs.size + 1) = none := I.hok.fresh hsz
  have kk : ∀ b o, hp.get? b = some o → ((hp.push (PySem.W.kdv_tup [u])).push (PySem.HandSPX.excO (He.ga X.K C) hp.objs.size)).get? b = some o := fun b o e => Heap.get?_push_of_some _ (Heap.get?_push_of_some _ e)
  have hget : ((hp.push (PySem.W.kdv_tup [u])).push (PySem.HandSPX.excO (He.ga X.K C) hp.objs.size)).get? (hp.objs.size + 1) = some (PySem.HandSPX.excO (He.ga X.K C) hp.objs.size) := by heap_get
  have I2 : Inv X pins σ (upd H (hp.objs.size + 1) (exo (hp.objs.size + 1) (He.ga X.K C) none)) ⟨(hp.push (PySem.W.kdv_tup [u])).push (PySem.HandSPX.excO (He.ga X.K C) hp.objs.size), g, dr, tk, os⟩ :=
    I.laid (t' := tk) (a := hp.objs.size + 1) (o := exo (hp.objs.size + 1) (He.ga X.K C) none) (h' := (hp.push (PySem.W.kdv_tup [u])).push (PySem.HandSPX.excO (He.ga X.K C) hp.objs.size)) kk hsz (exo_ok hget)
  have r2 : Vals [V.ref (hp.objs.size + 1), y] [Value.ref (hp.objs.size + 1), u] := .cons rfl (.cons r .nil)
  refine wpAny_call (PySem.HandSPX.call_own T.base (fun Y => PySem.W.excTail_contains Y bm hbm) (I.kIn _ _ hC) (PySem.W.looks_findIn I.kIn xi.ini) (fun self => PySem.W.bind_fn I.kIn self xi.ty) (by show 1 ≤ sizeLine; rw [sizeLine_eq]; omega)
    (codeAny_mono (F1.run _ X.stack _ _ ⟨[Value.ref (hp.objs.size + 1), u], []⟩ [Value.ref (hp.objs.size + 1), u] [V.ref (hp.objs.size + 1), y] (fun v H2 => v = .non ∧ Q (.ref (hp.objs.size + 1)) H2) (fun _ _ _ => False) (hr.make (He.ga X.K C) [u] []) (I2.env0.make (He.ga X.K C) [u] []) (by have := hb _ [Value.ref (hp.objs.size + 1), u] I2.kIn rfl; rwa [List.append_nil] at this) r2
      ⟨_, y, rfl, xi, upd_same, fun dx n ne => ⟨rfl, ?_⟩⟩) fun r s' hq' => ?_))
  · have n' : H dx = none := by rw [upd_ne ne] at n; exact n
    have := h _ dx hn n' ne
    have e : upd (upd (upd H (hp.objs.size + 1) (exo (hp.objs.size + 1) (He.ga X.K C) none)) dx (exd dx [(f, y)])) (hp.objs.size + 1) (exo (hp.objs.size + 1) (He.ga X.K C) (some dx)) = upd (upd H dx (exd dx [(f, y)])) (hp.objs.size + 1) (exo (hp.objs.size + 1) (He.ga X.K C) (some dx)) := by
      funext b
      by_cases q1 : b = hp.objs.size + 1
      · rw [q1, upd_same, upd_same]
      · rw [upd_ne q1, upd_ne q1]
        by_cases q2 : b = dx
        · rw [q2, upd_same, upd_same]
        · rw [upd_ne q2, upd_ne q2, upd_ne q1]
    rw [e]
    exact this
  · cases r with
    | error er =>
      obtain ⟨a, A', b, c', d', _, _, _, _, _, _, _, _, _, _, z⟩ := hq'
    | ok fl =>
      cases fl with
      | ret v =>
        obtain ⟨v', H', I3, rv, ev, q3⟩ := I2.after hq'
        subst ev
        exact ⟨rv, ⟨V.ref (hp.objs.size + 1), H', I3, rfl, q3⟩⟩
      | next => exact False.elim hq'
      | brk => exact False.elim hq'
      | cont => exact False.elim hq'
theorem exc_ext {K : PySem.W.Frag} {F H : Hp} {w : W} {y : V} {a dx : Addr} (s : Sub F H) (ry : RepF K F w y) (na : H a = none) (nd : H dx = none) (ne : dx ≠ a) :
    Ext F H (upd (upd F dx (exd dx [(f, y)])) a (exo a (He.ga K C) (some dx))) (upd (upd H dx (exd dx [(f, y)])) a (exo a (He.ga K C) (some dx))) ∧ RepF K (upd (upd F dx (exd dx [(f, y)])) a (exo a (He.ga K C) (some dx))) (.exc C [(f, w)]) (.ref a) := by
  have x1 := Ext.new (o := exd dx [(f, y)]) s nd
  have x2 := Ext.new (p := a) (o := exo a (He.ga K C) (some dx)) x1.sub (by rw [upd_ne (Ne.symm ne)]; exact na)
  have x := x1.trans x2
  exact ⟨x, a, some dx, rfl, upd_same, .inr ⟨dx, [(f, y)], rfl, by rw [upd_ne ne, upd_same], y, [], rfl, ry.mono x.fsub, rfl⟩⟩
def W.mkX (C f : Str) : List W → Option W
  | [w] => some (.exc C [(f, w)])
  | _ => none
/-- C(e), an exception as a value -/
theorem jr_mkX {p : Pos} {e : Expr} {m : En → Option (List W)} (hK : c.K = X.K) (M : MkX X C f) (hr : Room (k + 2) X.A) (hg : Gl X C) (ha : JRA X c [e] m) (hdb : (C == ("__debug__" : Str)) = false) (he : starEach [e] X.env = [(false, eval e X.env)]) :
    JR X c (.Call (.Name C p) [e] [] pos) (rBi (W.mkX C f) m) := by
  refine ⟨fun pins s σ H Q I ⟨F, ε, L, fr, re, w, e', k'⟩ => ?_⟩
  obtain ⟨ws, e1, e2⟩ := bind2 e'
  obtain ⟨fI, fd, p', xi, F1, hb⟩ := M.ex
  obtain ⟨B, newId, initId, bmB, D, T, hsub, hm, hno, rfl⟩ := xi.ex
  refine wpAny_Call_Name_kw (ld_glob I hg M.gl ?_ hdb)
  refine PySem.W.callWith_K (h₀ := X.base) I.ok.mod.kin T.kC (thn (ha.run pos pins s σ H (fun vs H1 => ∃ F1, Ext F H F1 H1 ∧ RepFs c.K F1 ws vs) I ⟨F, ε, L, fr, re, ws, e1, fun v H1 F1 x r => ⟨F1, x, r⟩⟩) fun us s1 ⟨vs, H1, I1, r1, F1, x1, rs⟩ => ⟨I1.kIn, ?_⟩) (by rw [he]; rfl) (by rfl)
  unfold W.mkX at e2
  split at e2
  · rename_i w1
    cases e2
    obtain ⟨y, rfl, ry⟩ := one rs
    obtain ⟨u, rfl, ru⟩ := vals1 r1
    refine run_mkX (k := k) M hr I1 ru fun a dx na nd ne => ?_
    obtain ⟨x2, r2⟩ := exc_ext (C := C) (f := f) x1.sub ry na nd ne
    rw [← hK]
    exact k' _ _ _ (x1.trans x2) r2
  · cases e2
/-- an own exception class without own __init__ -/
structure Mk0 (X : Cx) (C : Str) : Prop where
  ex : ∃ B newId initId bmB, ExcBaseFacts B newId initId bmB ∧ PySem.W.excIn X.K (He.ga X.K C) bmB newId = true ∧ PySem.W.keepIn X.K (.ref (He.ga X.K C)) = true ∧ Raises X (.ref (He.ga X.K C))
  gl : X.mg C = some (.ref (He.ga X.K C))
theorem run_mk0 {pins : List (Addr × Obj)} {σ : L2.St} {H : Hp} {s : Shared} {Q : VK} {us : List Value} (M : Mk0 X C) (I : Inv X pins σ H s) (hl : us.length ≤ 1000)
    (h : ∀ a, H a = none → Q (.ref a) (upd H a (exo a (He.ga X.K C) none))) : wpAny (model X.prog X.w) X.A (call (.ref (He.ga X.K C)) us) (EP X pins σ Q) X.xe s := by
  obtain ⟨B, newId, initId, bmB, F, q, kC, rs⟩ := M.ex
  obtain ⟨bm, N, nm, qn, bs, hdct, sn, sub, ab, col, dd, k0, k1, k2, k3, k5, mN, hC, hN, hni, T⟩ := exc_obj I.kIn q
  refine wpAny_call_exc_subT F T hC hN hni (fun h' a hm => ?_) (by rw [sizeLine_eq]; omega)
  have hn : H a = none := I.hok.gone hm.new
  obtain ⟨t, ht, _, _⟩ := hm.there
  exact ⟨.ref a, upd H a (exo a (He.ga X.K C) none), I.laidN hm.keeps hm.new hn (exo_ok ht), rfl, h a hn⟩
theorem jr_mk0 {p : Pos} (hK : c.K = X.K) (M : Mk0 X C) (hg : Gl X C) (hdb : (C == ("__debug__" : Str)) = false) : JR X c (.Call (.Name C p) [] [] pos) (fun _ => some (.exc C [])) := by
  refine ⟨fun pins s σ H Q I ⟨F, ε, L, fr, re, w, e', k'⟩ => ?_⟩
  cases e'
  refine wpAny_Call_Name_kw (ld_glob I hg M.gl ?_ hdb)
  refine PySem.W.callWith_K0 I.kIn (let ⟨_, _, _, _, _, _, kC, _⟩ := M.ex; kC) (run_mk0 M I (by simp) fun a na => ?_)
  have x := Ext.new (o := exo a (He.ga X.K C) none) fr.sub na
  exact k' _ _ _ x ⟨a, none, rfl, by rw [hK]; exact upd_same, .inl ⟨rfl, rfl⟩⟩
end
end L3

set_option Elab.async false
set_option linter.all false
set_option maxRecDepth 100000
set_option maxHeartbeats 1000000
namespace L3
open PySem PySem.Spec PyProof.Rows L2
section
variable {X : Cx} {c : C3} {pos : Pos} {K : PySem.W.Frag}
/-! ### a text so often -/
instance {x : Str} {n : Int} : Decidable (MulOk x n) := by unfold MulOk; infer_instance
abbrev rMulS : R2 := fun x y H Q => ∃ a i, x = .str a ∧ y = .int i ∧ MulOk a i ∧ Q (.str (Txt.mul a i)) H
theorem op_mulS : OpR X (binaryOp .Mult) rMulS := by
  intro pins s σ H x y v u Q I rx ry h
  obtain ⟨a, i, rfl, rfl, ok, q⟩ := h
  obtain ⟨t, rfl⟩ := rx
  obtain ⟨t2, rfl⟩ := ry
  exact PySem.SB.mul ok fun t' k => ⟨.str _, H, I.tok _, ⟨t', rfl⟩, q⟩
def W.mulS : W → W → Option W
  | .str x, .int n => if MulOk x n then some (.str (Txt.mul x n)) else none
  | _, _ => none
theorem g_mulS : OpG K rMulS W.mulS := by
  intro F H w1 w2 w v1 v2 Q s r1 r2 e k
  unfold W.mulS at e
  split at e
  · obtain ⟨hz, rfl⟩ := ite_some e
    exact ⟨_, _, r1, r2, hz, k _ F H (Ext.refl s) rfl⟩
  · cases e
/-! ### a new list of one's own: a + b -/
def mCat (a b : M3 W) : M3 O := a.bind fun x => b.bind fun y => M3.lift (match x, y with
  | .lst xs, .lst ys => if xs.length + ys.length ≤ sizeLine then some (.lst ((xs ++ ys).map .fz)) else none
  | _, _ => none)
theorem jo_cat {a b : Expr} {ma mb : M3 W} (ha : JE X c a ma) (hb : JE X c b mb) : JO X c (.BinOp a .Add b pos) (mCat ma mb) := by
  refine PE.wk (pe_op op_cat ha hb) fun σ H Q ⟨F, ε, L, fr, re, run⟩ => ?_
  refine ⟨F, ε, L, fr, re, (Run.seq (rel := rW c) (fun _ _ _ _ _ _ => rW0) run).mono ?_⟩
  rintro v1 H1 ⟨F1, ε1, L1, w1, fr1, re1, ⟨_, r1⟩, st1, run1⟩
  refine ⟨F1, ε1, L1, fr1, re1, (Run.seq (rel := rW c) (fun _ _ _ _ _ _ => rW0) run1).mono ?_⟩
  rintro v2 H2 ⟨F2, ε2, L2, w2, fr2, re2, ⟨_, r2⟩, st2, run2⟩
  obtain ⟨o, e, run3⟩ := lift_some run2
  split at e
  · rename_i xs ys
    obtain ⟨hz, rfl⟩ := ite_some e
    obtain ⟨p, vs, rfl, hp, rs⟩ := (r1.mono st2.fsub).lst_of fr2.sub
    obtain ⟨q, us, rfl, hq, rt⟩ := r2.lst_of fr2.sub
    refine ⟨p, q, vs, us, rfl, rfl, hp, hq, by rw [rs.length, rt.length]; exact hz, fun l nl => ?_⟩
    obtain ⟨f, r, s⟩ := own_new (u := .lst (vs ++ us)) fr2 re2 nl
    exact run3 _ _ F2 [l] L2 f r ⟨l, vs ++ us, [], rfl, rfl, upd_same, repFs_own (rs.append rt)⟩ s
  · cases e
/-! ### an exception's field -/
structure XfOk (K : PySem.W.Frag) (C f : Str) : Prop where
  x : XfC K (He.ga K C)
  no : PySem.W.findIn K (.ref (He.ga K C)) f = some none
def W.xfld (ok : Str → Str → Bool) (f : Str) : W → Option W
  | .exc C fs => if ok C f then fs.lookup f else none
  | _ => none
theorem jr_xfld {ok : Str → Str → Bool} {e : Expr} {f : Str} {m : En → Option W} (hK : c.K = X.K) (ho : ∀ C f, ok C f = true → XfOk X.K C f) (hb : attributeBase e f X.env (eval e X.env) = eval e X.env) (h : JR X c e m) : JR X c (.Attribute e f pos) (rUn (W.xfld ok f) m) := by
  refine ⟨fun pins s σ H Q I ⟨F, ε, L, fr, re, w, e', k⟩ => ?_⟩
  obtain ⟨w1, e1, e2⟩ := bind2 e'
  refine attr_of hb (thn (h.run pins s σ H (fun v H1 => ∃ F1, Ext F H F1 H1 ∧ RepF c.K F1 w1 v) I ⟨F, ε, L, fr, re, w1, e1, fun v H1 F1 x r => ⟨F1, x, r⟩⟩) fun u s1 ⟨v, H1, I1, rv, F1, x1, r1⟩ => ?_)
  obtain ⟨C, fs, rfl⟩ : ∃ C fs, w1 = .exc C fs := by cases w1 <;> first | exact ⟨_, _, rfl⟩ | (cases e2; done)
  · have e2 : (if ok C f then fs.lookup f else none) = some w := e2
    by_cases hc : ok C f = true
    · rw [if_pos hc] at e2
      obtain ⟨T, hno⟩ := ho C f hc
      obtain ⟨p, d, rfl, hp, hd⟩ := r1
      obtain rfl : u = Value.ref p := rv
      rcases hd with ⟨rfl, _⟩ | ⟨dd, gs, rfl, hdd, rg⟩
      · cases e2
      · obtain ⟨t1, hox⟩ := exo_at I1.hok (x1.sub _ _ hp)
        obtain ⟨mA, hns, hr⟩ := exd_at I1.hok (x1.sub _ _ hdd)
        obtain ⟨y, hy, ry⟩ := rg.lookup e2
        obtain ⟨od, ho', hl⟩ := lookIn_ns hns
        obtain ⟨u, hu, ru⟩ := RelO.some_of (v := y) (o := mA f) (by rw [← hy]; exact hr f)
        rw [hK] at hox
        have J : PySem.W.InstAt s1.heap p _ (He.ga X.K C) (some od) := ⟨hox, rfl, rfl, ho'⟩
        exact PySem.HandSPX.exc_get I1.kIn J T.ga T.gg T.exC (PySem.W.findObj_own T.hdC hno rfl (by rw [hl, hu])) (handed_of ru) ⟨y, H1, I1.tok _, ru, k y H1 F1 x1 ry⟩
    · rw [if_neg hc] at e2; cases e2
/-! ### isinstance -/
def XC.key : W → Option XC
  | .exc C _ => some (.own C)
  | .ins C _ => some (.own C)
  | .int _ => some (.blt "int")
  | .str _ => some (.blt "str")
  | .bl _ => some (.blt "bool")
  | .non => some (.blt "NoneType")
  | .lst _ => some (.blt "list")
  | .tup _ => some (.blt "tuple")
  | _ => none
def XC.of : W → Option XC
  | .gl C => some (.own C)
  | .ty n => some (.blt n)
  | _ => none
/-- what isinstance asks an own class's instance -/
structure InstOk (K : PySem.W.Frag) (D : Addr) : Prop where
  ha : PySem.W.findIn K (.ref D) "__class__" = some (some (.builtin "object.__class__"))
  hn : PySem.W.specialIn K (.builtin "object.__class__") "__get__" = some (some (.builtin "getset_descriptor.__get__"))
  ht : PySem.W.takesIn K (.builtin "object.__class__") = some true
  hm : PySem.W.mroIn K D (.type "object") = some true
  kind : Cls K D ∨ ((PySem.W.clsIn K D).isSome = true ∧ PySem.W.findIn K (.ref D) "__getattribute__" = some (some (.builtin "BaseException.__getattribute__")) ∧ PySem.W.findIn K (.ref D) "__getattr__" = some none ∧ PySem.W.subIn K (.ref D) (.type "BaseException") = some true)
  isx : (PySem.W.subIn K (.ref D) (.type "BaseException") = some true) → (PySem.W.clsIn K D).isSome = true ∧ PySem.W.findIn K (.ref D) "__getattribute__" = some (some (.builtin "BaseException.__getattribute__")) ∧ PySem.W.findIn K (.ref D) "__getattr__" = some none
def excKind (xs : List Str) : W → Bool
  | .exc C _ => decide (C ∈ xs)
  | .ins C _ => !decide (C ∈ xs)
  | _ => true
def isInst (xs : List Str) (tab : XC → XC → Option Bool) : List W → Option W
  | [x, c] => if excKind xs x = true then (XC.key x).bind fun t => (XC.of c).bind fun u => (tab t u).map W.bl else none
  | _ => none
/-- xs: the own exception classes -/
def IsOk (K : PySem.W.Frag) (xs : List Str) (tab : XC → XC → Option Bool) : Prop := ∀ t u b, tab t u = some b → PySem.W.kitOne K (t.v K) (u.v K) = some b ∧ ∀ C, t = .own C → InstOk K (He.ga K C) ∧ (C ∈ xs → PySem.W.subIn K (.ref (He.ga K C)) (.type "BaseException") = some true) ∧ (C ∉ xs → Cls K (He.ga K C))
theorem key_v {F H : Hp} {w : W} {c : V} {u : XC} (h : XC.of w = some u) (r : RepF K F w c) : ClsV c (u.v K) := by
  cases w <;> first | (cases h; done) | skip
  · cases h
    rw [show c = .ty _ from r]
    exact .ty _
  · cases h
    rw [show c = .ref _ from r]
    exact .own _
theorem call_isG {xs : List Str} {tab : XC → XC → Option Bool} (T : IsOk X.K xs tab) {pins : List (Addr × Obj)} {σ : L2.St} {F H : Hp} {s : Shared} {ws : List W} {w : W} {vs : List V} {us : List Value} {Q : VK} (I : Inv X pins σ H s) (sub : Sub F H) (rs : RepFs X.K F ws vs) (rv : Vals vs us) (e : isInst xs tab ws = some w)
    (q : ∀ v, RepF X.K F w v → Q v H) : wpAny (model X.prog X.w) X.A (call (.builtin "isinstance") us) (EP X pins σ Q) X.xe s := by
  unfold isInst at e
  split at e
  · rename_i x cw
    by_cases hk : excKind xs x = true
    · rw [if_pos hk] at e
      obtain ⟨t, e1, e⟩ := bind2 e
      obtain ⟨u, e2, e⟩ := bind2 e
      obtain ⟨b, e3, rfl⟩ := Option.map_eq_some_iff.mp e
      obtain ⟨hkit, hown⟩ := T t u b e3
      obtain ⟨v1, r1, rfl, rx, v2, r2, rfl, rc, rfl⟩ := rs
      obtain ⟨u1, u2, rfl, ru1, ru2⟩ := vals2 rv
      have cv := key_v (F := F) (H := H) e2 rc
      have ec := cv.eq ru2
      subst ec
      have fin : ∀ tk, EP X pins σ Q (.bool b) { s with toks := tk } := fun tk => ⟨.bl b, H, I.tok tk, rfl, q _ rfl⟩
      have base : ∀ ty : Value, TyX X.K H v1 ty → ty = t.v X.K → wpAny (model X.prog X.w) X.A (call (.builtin "isinstance") [u1, u.v X.K]) (EP X pins σ Q) X.xe s := fun ty hty et => by
        obtain ⟨P, Z, p, hx⟩ := kit_of I ru1 hty
        subst et
        exact PySem.W.kia_one Z I.kIn p hkit hx fin
      cases x <;> first | (cases e1; done) | skip
      · cases e1; rw [show v1 = .non from rx] at base; exact base _ (.base .non) rfl
      · cases e1; rw [show v1 = .bl _ from rx] at base; exact base _ (.base (.bl _)) rfl
      · cases e1; rw [show v1 = .int _ from rx] at base; exact base _ (.base (.int _)) rfl
      · cases e1; rw [show v1 = .str _ from rx] at base; exact base _ (.base (.str _)) rfl
      · cases e1
        obtain ⟨p, zs, rfl, hp, _⟩ := rx
        exact base _ (.base (.tup (sub _ _ hp))) rfl
      · cases e1
        obtain ⟨p, zs, rfl, hp, _⟩ := rx
        exact base _ (.base (.lst (sub _ _ hp))) rfl
      · cases e1
        obtain ⟨p, dx, gs, rfl, hp, _⟩ := rx
        obtain ⟨J, _, jc⟩ := hown _ rfl
        exact base _ (.base (.ins (sub _ _ hp) (jc (by simpa [excKind] using hk)) J.ha J.hn J.ht J.hm)) rfl
      · cases e1
        obtain ⟨p, d, rfl, hp, hd⟩ := rx
        obtain ⟨J, jx, _⟩ := hown _ rfl
        have hs := jx (by simpa [excKind] using hk)
        obtain ⟨c1, c2, c3⟩ := J.isx hs
        obtain ⟨t1, hox⟩ := exo_at I.hok (sub _ _ hp)
        obtain rfl : u1 = Value.ref p := ru1
        rcases hd with ⟨_, rfl⟩ | ⟨dd, gs, rfl, hdd, _⟩
        · exact PySem.W.kia_one (PySem.W.kitx_exc (od := none) c1 c2 c3 hs J.ha J.hn J.ht J.hm) I.kIn ⟨hox, rfl, rfl, trivial⟩ hkit (fun z => nomatch z) fin
        · obtain ⟨mA, hns, _⟩ := exd_at I.hok (sub _ _ hdd)
          obtain ⟨od, ho', _⟩ := lookIn_ns hns
          exact PySem.W.kia_one (PySem.W.kitx_exc (od := some od) c1 c2 c3 hs J.ha J.hn J.ht J.hm) I.kIn ⟨hox, rfl, rfl, ho'⟩ hkit (fun z => nomatch z) fin
    · rw [if_neg hk] at e; cases e
  · cases e
theorem jr_is {xs : List Str} {tab : XC → XC → Option Bool} {p : Pos} {e1 e2 : Expr} {m : En → Option (List W)} (hK : c.K = X.K) (T : IsOk X.K xs tab) (hg : Gl X "isinstance") (hm : X.mg "isinstance" = none) (ha : JRA X c [e1, e2] m)
    (he : starEach [e1, e2] X.env = (false, eval e1 X.env) :: starEach [e2] X.env) (hpl : (backTo pos (starEach [e2] X.env)).any (·.1) = false) : JR X c (.Call (.Name "isinstance" p) [e1, e2] [] pos) (rBi (isInst xs tab) m) := by
  refine ⟨fun pins s σ H Q I ⟨F, ε, L, fr, re, w, e', k⟩ => ?_⟩
  obtain ⟨ws, e1', e2'⟩ := bind2 e'
  refine wpAny_Call_Name_kw (ld_blt I hg hm PyProof.Rows.boot_isinstance ?_ (by decide) (by decide))
  refine PyProof.Rows.callWith_method1 (thn (ha.run pos pins s σ H (fun vs H1 => ∃ F1, Ext F H F1 H1 ∧ RepFs c.K F1 ws vs) I ⟨F, ε, L, fr, re, ws, e1', fun v H1 F1 x r => ⟨F1, x, r⟩⟩) fun us s1 ⟨vs, H1, I1, r1, F1, x1, rs⟩ => ?_) he hpl
  rw [hK] at rs
  exact call_isG T I1 x1.sub rs r1 e2' fun v rv => k v H1 F1 x1 (by rw [hK]; exact rv)
/-- a class, a built-in type as a value -/
theorem jr_glo {x : Str} (hK : c.K = X.K) (hg : Gl X x) (hm : X.mg x = some (.ref (He.ga X.K x))) (hd : (x == ("__debug__" : Str)) = false) : JR X c (.Name x pos) (fun _ => some (.gl x)) :=
  jr_cst (v := .ref (He.ga c.K x)) (pe_glob hg hm (by rw [hK]; rfl) hd) fun F => rfl
theorem jr_blt {x : Str} {n : String} (hg : Gl X x) (hm : X.mg x = none) (hv : bootBuiltins x = some (.type n)) (hn : x ≠ "__name__") (hd : (x == ("__debug__" : Str)) = false) : JR X c (.Name x pos) (fun _ => some (.ty n)) :=
  jr_cst (v := .ty n) (pe_bltn hg hm hv rfl hn hd) fun F => rfl
end
end L3

set_option Elab.async false
set_option linter.all false
set_option maxRecDepth 100000
namespace L3
open PySem PySem.Spec PyProof.Rows L2
theorem fnd_ok {P : Program} {w : World} {K : PySem.W.Frag} {mg : Str → Option Value} {base : Heap} {x qual : Str} {params : Arguments} {body : List Stmt} {scope : Scope} {f : Addr} {fd : FuncData} {N ps : List Str} {io : List Bool} {n k : Nat} {m : MS}
    (F : FunD K x qual params body scope [] [] f fd) (S : FnScope N ps scope) (hio : io.length = ps.length) (hN : N.length = ps.length + n)
    (hb : ∀ (cdv : Value) (A : Around) (outer : List Env) (s : Shared) (H : Hp) (vs : List V) (E : XK), Room k (A.deeper (envOfC qual scope s.heap.objs.size f cdv)) → JSs (cxOf (L2.CX P w) P w K mg base N qual scope f cdv A outer s H E) ⟨K, vs, fun cls d _ H' => E cls d H'⟩ body m) :
    FnOk P w K mg base (L2.CX P w) (k + 1) f fd ps (spF K (fnM io n m)) := by
  refine F.ok S (fun vs H Q E h => (spF_len h).trans hio) (fun cdv A outer s H vs Q E hr h => ⟨_, hb cdv A outer s H vs E hr, ?_⟩)
  have hl : vs.length = ps.length := (spF_len h).trans hio
  have e : L2.start N vs = vs.map some ++ List.replicate n none := by
    unfold L2.start
    rw [hN, hl, Nat.add_sub_cancel_left]
  rw [e]
  exact fn_sp h
section
variable {X : Cx} {c : C3} {pos : Pos}
theorem rv (i : Nat) {x : Str} (hN : X.N[i]? = some x := by rfl) (hv : Vis X.env.scope x := by first | exact Or.inl rfl | exact Or.inr (Or.inl rfl) | exact Or.inr (Or.inr rfl)) (hd : (x == ("__debug__" : Str)) = false := by decide) (hcd : (x == ("__classdict__" : Str)) = false := by decide) : JR X c (.Name x pos) (rSlot i) := jr_slot hN hv hd hcd
theorem ri {i : Int} {j : Nat} : JR X c (.Constant (.int i) j pos) (fun _ => some (.int i)) := jr_cst pe_int fun _ => rfl
theorem rs {x : Str} {j : Nat} : JR X c (.Constant (.str x) j pos) (fun _ => some (.str x)) := jr_cst pe_str fun _ => rfl
theorem rbl {b : Bool} {j : Nat} : JR X c (.Constant (.bool b) j pos) (fun _ => some (.bl b)) := jr_cst pe_bl fun _ => rfl
theorem rnn {j : Nat} : JR X c (.Constant .none j pos) (fun _ => some .non) := jr_cst pe_non fun _ => rfl
theorem pvs (i : Nat) {x : Str} (hN : X.N[i]? = some x := by rfl) (hv : Vis X.env.scope x := by first | exact Or.inl rfl | exact Or.inr (Or.inl rfl) | exact Or.inr (Or.inr rfl)) (hd : (x == ("__debug__" : Str)) = false := by decide) (hcd : (x == ("__classdict__" : Str)) = false := by decide) : JPa X c (.Name x pos) (pSlot i) := jp_slot hN hv hd hcd
theorem mvv (i : Nat) {x : Str} (hN : X.N[i]? = some x := by rfl) (hv : Vis X.env.scope x := by first | exact Or.inl rfl | exact Or.inr (Or.inl rfl) | exact Or.inr (Or.inr rfl)) (hd : (x == ("__debug__" : Str)) = false := by decide) (hcd : (x == ("__classdict__" : Str)) = false := by decide) : JO X c (.Name x pos) (mMove i) := jo_move hN hv hd hcd
theorem iov {i : Nat} {p : Bool} {x : Str} {px : Pos} {es : List Expr} {r : M3 (List AV)} (t : JV X c es r) (hN : X.N[i]? = some x := by rfl) (hv : Vis X.env.scope x := by first | exact Or.inl rfl | exact Or.inr (Or.inl rfl) | exact Or.inr (Or.inr rfl)) (hd : (x == ("__debug__" : Str)) = false := by decide) (hcd : (x == ("__classdict__" : Str)) = false := by decide) :
    JV X c (.Name x px :: es) (mCons (avIo i p) r) := jv_io hN hv hd hcd t
/-- behind a slot that was one's own, frozen -/
theorem huL {k : Nat} {A : Around} (hr : Room k A) : A.units + 1 < cLine := by have := hr.units; omega
theorem cmp_in {op : CmpOp} {b : Expr} (h : op ≠ .In := by decide) (h2 : op ≠ .NotIn := by decide) : behindInMarks op b = false := nobehind b h h2
end
end L3
namespace L3
open PySem PySem.Spec PyProof.Rows L2
section
variable {X : Cx} {c : C3} {pos : Pos}
theorem jts_nil : JTs X c [] (fun ε => .ok true ε) := ⟨fun pins s σ H Q I ⟨F, ε, L, fr, re, run⟩ => wpAny_tests_nil ⟨H, I, run.now fr re ⟨rfl, rfl⟩⟩⟩
theorem jts_one {e : Expr} {m : M3 Bool} (h : JT X c e m) : JTs X c [e] m := pts_one h
theorem loc_of {sc : Scope} {x : Str} (h : Loc sc x := by first | exact Or.inl rfl | exact Or.inr rfl) : Loc sc x := h
theorem ss (i : Nat) {x : Str} {e : Expr} {m : M3 W} {pos' : Pos} (hN : X.N.Nodup) (h : JE X c e m) (hi : X.N[i]? = some x := by rfl) (hx : Loc X.env.scope x := by first | exact Or.inl rfl | exact Or.inr rfl) (hs : swapsWith e (some (.Name x pos')) pos.line X.env = pure false := by rfl)
    (hf : X.fn x = true ∨ X.env.scope.names.lookup x = some .local := by first | exact Or.inl rfl | exact Or.inr rfl) : JS X c (.Assign [.Name x pos'] e pos) (sSet i m) := js_set hN hi hx h hs hf
theorem sso (i : Nat) {x : Str} {e : Expr} {m : M3 O} {pos' : Pos} (hN : X.N.Nodup) (h : JO X c e m) (hi : X.N[i]? = some x := by rfl) (hx : Loc X.env.scope x := by first | exact Or.inl rfl | exact Or.inr rfl) (hs : swapsWith e (some (.Name x pos')) pos.line X.env = pure false := by rfl)
    (hf : X.fn x = true ∨ X.env.scope.names.lookup x = some .local := by first | exact Or.inl rfl | exact Or.inr rfl) : JS X c (.Assign [.Name x pos'] e pos) (sSetO i m) := js_setO hN hi hx h hs hf
theorem tgn (i : Nat) {x : Str} (hN : X.N.Nodup) (hi : X.N[i]? = some x := by rfl) (hx : Loc X.env.scope x := by first | exact Or.inl rfl | exact Or.inr rfl) (hf : X.fn x = true ∨ X.env.scope.names.lookup x = some .local := by first | exact Or.inl rfl | exact Or.inr rfl) : JG X c (.Name x pos) [i] (tgName i) := jg_name hN hi hx hf
end
end L3

set_option Elab.async false
set_option linter.all false
set_option maxRecDepth 100000
set_option maxHeartbeats 1000000
namespace L3
open PySem PySem.Spec PyProof.Rows L2 He
/-! ### the head's facts, wider: defs that hold their class, any Bool -/
abbrev FnC : Type := Option (Str × Str × Arguments × FuncBody × Scope × Addr × List Str × Addr)
def fnC (K : PySem.W.Frag) (p : Str × Option Str) : FnC := match K.lookup (fAd K p) with
  | some ⟨_, _, .func fd, _⟩ => some (fd.name, fd.qualname, fd.params, fd.body, fd.scope, fd.globals, fd.closure.map (·.1), fd.builtins)
  | _ => none
/-- a method that says super(): its class and name, its words -/
structure SupD where
  cls : Str
  mth : Str
  qual : Str
  params : Arguments
  body : List Stmt
  scope : Scope
def SupD.val (d : SupD) : FnC := some (d.mth, d.qual, d.params, .stmts d.body, d.scope, mainGlobals, ["__class__"], builtinsNs)
def SupD.ok (file : Str) (K : PySem.W.Frag) (d : SupD) : Bool := PySem.W.keepIn K (.ref (ma K (ga K d.cls) d.mth)) && (match K.lookup (ma K (ga K d.cls) d.mth) with
  | some ⟨_, _, .func fd, _⟩ => (match fd.defaults with
    | .none => true
    | _ => false) && PySem.W.codeIn K fd.code d.qual && (match fd.code with
    | .ref cda => (match K.lookup cda with
      | some ⟨_, _, .fields vs, _⟩ => (match vs[2]? with
        | some (Value.str fl _) => decide (file = fl)
        | _ => false)
      | _ => false)
    | _ => false) && (match fd.closure with
    | [(_, cc)] => (match K.lookup cc with
      | some ⟨_, _, .cell (some (.ref D)), _⟩ => decide (D = ga K d.cls)
      | _ => false)
    | _ => false)
  | _ => false)
/-- what is then known -/
structure SupF (K : PySem.W.Frag) (file : Str) (d : SupD) (f : Addr) (fd : FuncData) : Prop where
  ex : ∃ (oc : Value) (od : Option Addr) (kV doc pm : Value) (an : Option Addr) (cda cc : Addr) (ct : Value) (osl : Array (Option Value)), fd = PySem.W.ksFn d.mth d.qual d.params d.body d.scope .none kV doc pm an (.ref cda) ct cc ∧ K.lookup f = some ⟨oc, od, .func fd, osl⟩ ∧ PySem.W.codeIn K (.ref cda) d.qual = true ∧
    (∃ ccl cdd vs ccs tf, K.lookup cda = some ⟨ccl, cdd, .fields vs, ccs⟩ ∧ vs[2]? = some (.str file tf)) ∧ ∃ cl cld csl, K.lookup cc = some ⟨cl, cld, .cell (some (.ref (ga K d.cls))), csl⟩
  kp : PySem.W.keepIn K (.ref f) = true
theorem SupD.fact {K : PySem.W.Frag} {file : Str} {d : SupD} (e : fnC K (d.cls, some d.mth) = d.val) (c : d.ok file K = true) : ∃ fd, SupF K file d (ma K (ga K d.cls) d.mth) fd := by
  obtain ⟨kp, c2⟩ := ba c
  have e : (match K.lookup (ma K (ga K d.cls) d.mth) with
    | some ⟨_, _, .func fd, _⟩ => some (fd.name, fd.qualname, fd.params, fd.body, fd.scope, fd.globals, fd.closure.map (·.1), fd.builtins)
    | _ => none) = d.val := e
  cases q : K.lookup (ma K (ga K d.cls) d.mth) with
  | none => rw [q] at c2; cases c2
  | some o =>
    obtain ⟨oc, od, dt, osl⟩ := o
    rw [q] at c2 e
    cases dt with
    | func fd =>
      obtain ⟨n1, n2, n3, n4, n5, n6, n7, n8, n9, n10, n11, n12, n13, n14, n15⟩ := fd
      have e2 : (some (n1, n2, n3, n4, n5, n6, n7.map (·.1), n15) : FnC) = some (d.mth, d.qual, d.params, FuncBody.stmts d.body, d.scope, mainGlobals, [("__class__" : Str)], builtinsNs) := e
      simp only [Option.some.injEq, Prod.mk.injEq] at e2
      obtain ⟨h1, h2, h3, h4, h5, h6, h7, h8⟩ := e2
      subst h1 h2 h3 h4 h5 h6 h8
      obtain ⟨c3, c5⟩ := ba c2
      obtain ⟨c6, c4⟩ := ba c3
      obtain ⟨k0, k1⟩ := ba c6
      dsimp only at k0 k1 c4 c5
      cases n8 <;> first | (cases k0; done) | skip
      cases n13 <;> first | (cases c4; done) | skip
      rename_i cda
      dsimp only at c4
      cases n7 with
      | nil => exact absurd (congrArg List.length h7) (by simp)
      | cons p r =>
        cases r with
        | cons _ _ =>
          have := congrArg List.length h7
          simp at this
        | nil =>
          obtain ⟨x, cc⟩ := p
          have hx : x = "__class__" := by simpa using h7
          subst hx
          dsimp only at c5
          cases q2 : K.lookup cda with
          | none => rw [q2] at c4; cases c4
          | some o2 =>
            obtain ⟨oc2, od2, dt2, osl2⟩ := o2
            rw [q2] at c4
            cases dt2 <;> first | (cases c4; done) | skip
            rename_i vs
            dsimp only at c4
            cases q3 : vs[2]? with
            | none => rw [q3] at c4; cases c4
            | some v3 =>
              rw [q3] at c4
              cases v3 <;> first | (cases c4; done) | skip
              rename_i fl tf
              have hf : file = fl := of_decide_eq_true c4
              subst hf
              cases q4 : K.lookup cc with
              | none => rw [q4] at c5; cases c5
              | some o4 =>
                obtain ⟨oc4, od4, dt4, osl4⟩ := o4
                rw [q4] at c5
                cases dt4 <;> first | (cases c5; done) | skip
                rename_i cv
                cases cv with
                | none => cases c5
                | some cv =>
                  cases cv <;> first | (cases c5; done) | skip
                  rename_i D
                  have hD : D = ga K d.cls := of_decide_eq_true c5
                  subst hD
                  exact ⟨_, ⟨oc, od, n9, n10, n11, n12, cda, cc, n14, osl, rfl, q, k1, ⟨_, _, vs, _, tf, q2, q3⟩, _, _, _, q4⟩, kp⟩
    | _ => cases c2
/-! ### the hook -/
abbrev AlZ : Type := AlD × (List FnC × Bool)
def obsZ (fa : List Fa) (fn : List DefD) (sn : List SupD) (file : Str) (ex : PySem.W.Frag → Bool) (K : PySem.W.Frag) : AlZ := (obsD fa fn K, (sn.map fun d => fnC K (d.cls, some d.mth), (sn.all fun d => d.ok file K) && ex K))
def valZ (fn : List DefD) (sn : List SupD) : AlZ := (valD fn, (sn.map SupD.val, true))
structure SaysZ (fa : List Fa) (fn : List DefD) (sn : List SupD) (file : Str) (ex : PySem.W.Frag → Bool) (K : PySem.W.Frag) : Prop where
  d : SaysD fa fn K
  s : (sn.map fun d => fnC K (d.cls, some d.mth)) = sn.map SupD.val
  so : (sn.all fun d => d.ok file K) = true
  more : ex K = true
def obsZG (n : Nat) (fa : List Fa) (fn : List DefD) (sn : List SupD) (file : Str) (ex : PySem.W.Frag → Bool) (g : Addr → Option Obj) : AlZ := obsZ fa fn sn file ex (frG g (cStatics :: asD g n))
theorem saysZ_of {fa : List Fa} {fn : List DefD} {sn : List SupD} {file : Str} {ex : PySem.W.Frag → Bool} {K : PySem.W.Frag} (e : obsZ fa fn sn file ex K = valZ fn sn) : SaysZ fa fn sn file ex K := by
  have e1 : obsD fa fn K = valD fn := congrArg (fun z : AlZ => z.1) e
  have e2 : (sn.map fun d => fnC K (d.cls, some d.mth)) = sn.map SupD.val := congrArg (fun z : AlZ => z.2.1) e
  have e3 : ((sn.all fun d => d.ok file K) && ex K) = true := congrArg (fun z : AlZ => z.2.2) e
  obtain ⟨e4, e5⟩ := ba e3
  exact ⟨e1, e2, e4, e5⟩
def hookZ (n : Nat) (fa : List Fa) (fn : List DefD) (sn : List SupD) (file : Str) (ex : PySem.W.Frag → Bool) : PySem.W.Hook where
  α := AlZ
  obs := fun s => obsZG n fa fn sn file ex s.heap.get?
  val := fun _ => valZ fn sn
  says := fun _ h => ∃ K : PySem.W.Frag, K.In h ∧ SaysZ fa fn sn file ex K
  of := fun _ _ e => ⟨_, frG_in, saysZ_of e⟩
  keeps := fun _ _ _ ⟨K, hK, c⟩ k => ⟨K, PySem.W.Frag.In.keeps hK k, c⟩
theorem obsZG_eq {n : Nat} {fa : List Fa} {fn : List DefD} {sn : List SupD} {file : Str} {ex : PySem.W.Frag → Bool} {g : Addr → Option Obj} {s : Shared} (h : ∀ a, g a = s.heap.get? a) : obsZG n fa fn sn file ex g = (hookZ n fa fn sn file ex).obs s := by
  have e : g = s.heap.get? := funext h
  rw [e] <;> rfl
theorem SaysZ.sup {fa : List Fa} {fn : List DefD} {sn : List SupD} {file : Str} {ex : PySem.W.Frag → Bool} {K : PySem.W.Frag} (c : SaysZ fa fn sn file ex K) (i : Nat) {d : SupD} (h : sn[i]? = some d) : ∃ fd, SupF K file d (ma K (ga K d.cls) d.mth) fd := by
  have e2 : (sn.map fun d => fnC K (d.cls, some d.mth))[i]? = (sn.map SupD.val)[i]? := by rw [c.s]
  rw [List.getElem?_map, List.getElem?_map, h] at e2
  exact SupD.fact (Option.some.inj e2) (List.all_eq_true.mp c.so d (List.mem_of_getElem? h))
/-! ### exception classes by Bools -/
def xcB (K : PySem.W.Frag) (C : Addr) (B newId : String) (bmB : List Value) : Bool := (match K.lookup C with
  | some ⟨.type t, _, .cls cd, sl⟩ => (match cd.mro, sl.toList with
    | .ref C' :: bm, [_, _, _, _, some (.builtin n), _] => decide (t = "type") && (decide (C' = C) && (decide (n = newId) && (!cd.hasDel && (cd.hasDict && PySem.W.excTail bmB bm))))
    | _, _ => false)
  | _ => false) && (eqO (PySem.W.findIn K (.ref C) "__setattr__") (some (some (.builtin "object.__setattr__"))) && (decide (PySem.W.subIn K (.ref C) (.type "BaseException") = some true) && (decide (PySem.W.subIn K (.ref C) (.type B) = some true) &&
    (decide (PySem.W.typeIn K (.ref C) = some (.type "type")) && PySem.W.keepIn K (.ref C)))))
theorem xcB_ok {K : PySem.W.Frag} {C : Addr} {B newId initId : String} {bmB : List Value} (base : ExcBaseFacts B newId initId bmB) (store : StoreFacts B bmB "object.__setattr__" "object") (sup : PySem.W.KxsFacts B initId) (h : xcB K C B newId bmB = true) : XcC K C B newId initId bmB := by
  obtain ⟨h1, h⟩ := ba h
  obtain ⟨h2, h⟩ := ba h
  obtain ⟨h3, h⟩ := ba h
  obtain ⟨h4, h⟩ := ba h
  obtain ⟨h5, h6⟩ := ba h
  refine ⟨base, store, sup, ?_, eqO_ok h2, of_decide_eq_true h3, of_decide_eq_true h4, of_decide_eq_true h5, h6⟩
  cases q : K.lookup C with
  | none => rw [q] at h1; cases h1
  | some o =>
    obtain ⟨oc, od, dt, sl⟩ := o
    rw [q] at h1
    cases oc <;> first | (cases h1; done) | skip
    rename_i t
    cases dt <;> first | (cases h1; done) | skip
    rename_i cd
    obtain ⟨nm, bs, mro, ns, qn, hd, sn, sub, ab, col, del⟩ := cd
    dsimp only at h1
    split at h1
    · rename_i C' bm k0 k1 k2 k3 n k5 hs
      obtain ⟨a1, h1⟩ := ba h1
      obtain ⟨a2, h1⟩ := ba h1
      obtain ⟨a3, h1⟩ := ba h1
      obtain ⟨a4, h1⟩ := ba h1
      obtain ⟨a5, a6⟩ := ba h1
      have e1 : t = "type" := of_decide_eq_true a1
      have e2 : C' = C := of_decide_eq_true a2
      have e3 : n = newId := of_decide_eq_true a3
      subst e1 e2 e3
      have a4 : del = false := by simpa using a4
      subst a4 a5
      have hsl : sl = #[k0, k1, k2, k3, some (.builtin n), k5] := by
        obtain ⟨l⟩ := sl
        simp only at hs
        rw [hs]
      subst hsl
      exact ⟨nm, qn, ns, bs, bm, sn, sub, ab, col, od, k0, k1, k2, k3, k5, rfl, a6⟩
    · cases h1
/-- an own exception with such an __init__ -/
def xiB (K : PySem.W.Frag) (C : Addr) (f : Str) (B newId initId : String) (bmB : List Value) : Bool := xcB K C B newId bmB && (decide (PySem.W.mroIn K C (.ref C) = some true) && (eqO (PySem.W.ks_superIn K C C "__init__") (some (some (.builtin initId))) &&
  (eqO (PySem.W.findIn K (.ref C) f) (some none) && (eqO (PySem.W.findIn K (.ref C) "__init__") (some (some (.ref (ma K C "__init__")))) && decide (PySem.W.typeIn K (.ref (ma K C "__init__")) = some (.type "function"))))))
theorem xiB_ok {K : PySem.W.Frag} {C : Addr} {f : Str} {B newId initId : String} {bmB : List Value} (base : ExcBaseFacts B newId initId bmB) (store : StoreFacts B bmB "object.__setattr__" "object") (sup : PySem.W.KxsFacts B initId) (h : xiB K C f B newId initId bmB = true) : Xi K C f (ma K C "__init__") := by
  obtain ⟨h1, h⟩ := ba h
  obtain ⟨h2, h⟩ := ba h
  obtain ⟨h3, h⟩ := ba h
  obtain ⟨h4, h⟩ := ba h
  obtain ⟨h5, h6⟩ := ba h
  exact ⟨⟨B, newId, initId, bmB, C, xcB_ok base store sup h1, of_decide_eq_true h2, eqO_ok h3, eqO_ok h4, rfl⟩, eqO_ok h5, of_decide_eq_true h6⟩
/-- isinstance's asking of an own class -/
def instB (K : PySem.W.Frag) (D : Addr) : Bool := eqO (PySem.W.findIn K (.ref D) "__class__") (some (some (.builtin "object.__class__"))) && (eqO (PySem.W.specialIn K (.builtin "object.__class__") "__get__") (some (some (.builtin "getset_descriptor.__get__"))) &&
  (decide (PySem.W.takesIn K (.builtin "object.__class__") = some true) && decide (PySem.W.mroIn K D (.type "object") = some true)))
def instXB (K : PySem.W.Frag) (D : Addr) : Bool := instB K D && ((PySem.W.clsIn K D).isSome && (eqO (PySem.W.findIn K (.ref D) "__getattribute__") (some (some (.builtin "BaseException.__getattribute__"))) && (eqO (PySem.W.findIn K (.ref D) "__getattr__") (some none) && decide (PySem.W.subIn K (.ref D) (.type "BaseException") = some true))))
theorem instXB_ok {K : PySem.W.Frag} {D : Addr} (h : instXB K D = true) : InstOk K D ∧ PySem.W.subIn K (.ref D) (.type "BaseException") = some true := by
  obtain ⟨h1, h⟩ := ba h
  obtain ⟨h2, h⟩ := ba h
  obtain ⟨h3, h⟩ := ba h
  obtain ⟨h4, h5⟩ := ba h
  obtain ⟨k1, h1⟩ := ba h1
  obtain ⟨k2, h1⟩ := ba h1
  obtain ⟨k3, k4⟩ := ba h1
  exact ⟨⟨eqO_ok k1, eqO_ok k2, of_decide_eq_true k3, of_decide_eq_true k4, .inr ⟨h2, eqO_ok h3, eqO_ok h4, of_decide_eq_true h5⟩, fun _ => ⟨h2, eqO_ok h3, eqO_ok h4⟩⟩, of_decide_eq_true h5⟩
/-- from a method that says super() and the class's facts -/
theorem mkX_of {X : Cx} {C f : Str} {file : Str} {d : SupD} {fd : FuncData} {p m : Str} {j : Nat} {p0 p1 apos p2 pos p3 p4 p5 p6 p7 : Pos} {ar : Arg} (xi : Xi X.K (ga X.K C) f (ma X.K (ga X.K C) "__init__")) (S : SupF X.K file d (ma X.K (ga X.K d.cls) d.mth) fd) (hc : d.cls = C) (hm : d.mth = "__init__") (gl : X.mg C = some (.ref (ga X.K C)))
    (hsc : ScopeS ["self", p] ["self", p] d.scope) (hbody : d.body = [.Expr (.Call (.Attribute (.Call (.Name "super" p0) [] [] p1) "__init__" apos) [.Constant (.str m) j p2] [] pos) p3, .Assign [.Attribute (.Name "self" p4) f p5] (.Name p p6) p7])
    (hks : d.scope.names.lookup ("super" : Str) = some .globalImplicit) (hkc : d.scope.names.lookup ("__class__" : Str) = some .free) (hp : (d.params.posonlyargs ++ d.params.args).head? = some ar) (har : ar.arg = "self") (hfile : ((X.prog.main.file : Str) == file) = true)
    (hcls : ∃ cdD, PySem.W.clsIn X.K (ga X.K C) = some cdD) (hmg : X.mg "super" = none) (htop : (X.prog.main.scope.names.lookup ("super" : Str)).isSome = false) (hany : PySem.W.nsIn X.K cStatics "thirdparty.any" = some none)
    (hd1 : (p == ("__debug__" : Str)) = false) (hd2 : (p == ("__classdict__" : Str)) = false) (hl : (apos.endLine == pos.line) = true)
    (hb : ∀ (kV doc pm : Value) (an : Option Addr) (cdv ct : Value) (cc : Addr) (us : List Value), us.length = 2 → bindArgs (PySem.W.ksFn d.mth d.qual d.params d.body d.scope .none kV doc pm an cdv ct cc) ⟨us, []⟩ = pure (([("self" : Str), p] : List Str).zip us)) : MkX X C f := by
  subst hc
  rw [hm] at S
  obtain ⟨oc, od, kV, doc, pm, an, cda, cc, ct, osl, rfl, lk, hcd, ⟨ccl, cdd, vs, ccs, tf, l1, l2⟩, cl, cld, csl, l3⟩ := S.ex
  have hb' : Binds X.K (PySem.W.ksFn d.mth d.qual d.params d.body d.scope .none kV doc pm an (.ref cda) ct cc) ["self", p] [] := Binds.all fun us hl => hb _ _ _ _ _ _ _ us hl
  refine ⟨⟨_, _, p, xi, fun k => ?_, hb'⟩, gl⟩
  refine fnS_ok lk hcd hsc l3 (fun vs H Q E ⟨a, y, e, _⟩ => by rw [e]; rfl) fun A outer s H vs Q E s1 hr ⟨a, y, ev, xi, ha, hq⟩ I => ?_
  subst ev
  obtain ⟨B, newId, initId, bmB, D, XC, hsub, hm', hno, rfl⟩ := xi.ex
  have SA : SupAt (cxS (L2.CX X.prog X.w) X.prog X.w X.K X.mg X.base ["self", p] d.qual d.scope (ma X.K (ga X.K d.cls) "__init__") (.ref cda) cc A outer s H E) (ma X.K (ga X.K d.cls) "__init__") cda cc (ga X.K d.cls) "self" :=
    ⟨⟨d.qual, d.scope, s.heap.objs.size, rfl, hks, hkc, hsc.par _ List.mem_cons_self, hsc.kind⟩, ⟨oc, od, _, osl, ar, lk, hp, har⟩, rfl, ⟨_, _, vs, _, file, tf, l1, l2, hfile⟩, ⟨cl, cld, csl, l3⟩, hcls, hmg, htop, hany⟩
  rw [hbody] at *
  refine ks_wpAt_execs_cons (ks_wpAt_Expr_any ?_ ?_ ?_)
  · refine PyProof.Rows.wpAt_mono ((pat_supX SA (pa_cons pe_str pa_nil rfl) (meth_eval hl rfl) rfl rfl).run [] s1 _ H (fun v H' => v = .non ∧ H' = H) I ⟨a, ga X.K d.cls, B, newId, initId, bmB, rfl, ha, XC, hsub, hm', ha, by simp, rfl, rfl⟩) (fun v s2 hs => ?_) fun e s' he => he
    obtain ⟨v', H', J, _, _, rfl⟩ := hs
    refine PyProof.Rows.wpAt_of_any ?_
    have st : PSs (cxS (L2.CX X.prog X.w) X.prog X.w X.K X.mg X.base ["self", p] d.qual d.scope (ma X.K (ga X.K d.cls) "__init__") (.ref cda) cc A outer s H' E) [.Assign [.Attribute (.Name "self" p4) f p5] (.Name p p6) p7] _ :=
      pss_one (ps_ostX (pe_var (i := 0) rfl (.inl (hsc.par _ List.mem_cons_self)) (by decide) (by decide)) (pe_var (i := 1) rfl (.inl (hsc.par _ (by simp))) hd1 hd2) rfl)
    exact st.run [] s2 _ H' _ J ⟨y, rfl, .ref a, rfl, a, ga X.K d.cls, B, newId, initId, bmB, rfl, XC, hno, ha, fun dx n ne => hq dx n ne⟩
  · show interactive _ = false
    unfold interactive
    rw [show (PySem.W.ksEnv d.qual d.scope s.heap.objs.size (ma X.K (ga X.K d.cls) "__init__") (.ref cda) cc).scope.kind = .function from hsc.kind]
    rfl
  · rfl
/-- isinstance's answers as a table -/
def tabOf (l : List (XC × XC × Bool)) (t u : XC) : Option Bool := (l.find? fun e => decide (e.1 = t) && decide (e.2.1 = u)).map (·.2.2)
def clsOkB (K : PySem.W.Frag) (D : Addr) : Bool := PySem.W.plainGet K D Str.empty && (PySem.W.hasDictIn K D && (PySem.W.plainOver K D && eqO (PySem.W.findIn K (.ref D) "__setattr__") (some (some (.builtin "object.__setattr__")))))
def tabB (K : PySem.W.Frag) (xs cs : List Str) (l : List (XC × XC × Bool)) : Bool := (l.all fun e => decide (PySem.W.kitOne K (e.1.v K) (e.2.1.v K) = some e.2.2) && (match e.1 with
  | .own C => decide (C ∈ xs) || decide (C ∈ cs)
  | _ => true)) && ((xs.all fun C => instXB K (ga K C)) && (cs.all fun C => !decide (C ∈ xs) && (instB K (ga K C) && (clsOkB K (ga K C) && decide (PySem.W.subIn K (.ref (ga K C)) (.type "BaseException") = some false)))))
theorem tab_ok {K : PySem.W.Frag} {xs cs : List Str} {l : List (XC × XC × Bool)} (h : tabB K xs cs l = true) : IsOk K xs (tabOf l) := by
  obtain ⟨h1, h⟩ := ba h
  obtain ⟨h2, h3⟩ := ba h
  intro t u b e
  obtain ⟨p, e1, e2⟩ := Option.map_eq_some_iff.mp e
  have hp := List.find?_some e1
  obtain ⟨q1, q2⟩ := ba hp
  have q1 : p.1 = t := of_decide_eq_true q1
  have q2 : p.2.1 = u := of_decide_eq_true q2
  obtain ⟨k1, k2⟩ := ba (List.all_eq_true.mp h1 p (List.mem_of_find?_eq_some e1))
  have k1 := of_decide_eq_true k1
  rw [q1, q2, e2] at k1
  refine ⟨k1, fun C hC => ?_⟩
  rw [q1, hC] at k2
  have k2 : (decide (C ∈ xs) || decide (C ∈ cs)) = true := k2
  by_cases hx : C ∈ xs
  · obtain ⟨a, b⟩ := instXB_ok (List.all_eq_true.mp h2 C hx)
    exact ⟨a, fun _ => b, fun z => absurd hx z⟩
  · have hc : C ∈ cs := by simpa [hx] using k2
    obtain ⟨_, z⟩ := ba (List.all_eq_true.mp h3 C hc)
    obtain ⟨z1, z⟩ := ba z
    obtain ⟨z2, z3⟩ := ba z
    obtain ⟨a1, z1⟩ := ba z1
    obtain ⟨a2, z1⟩ := ba z1
    obtain ⟨a3, a4⟩ := ba z1
    obtain ⟨b1, z2⟩ := ba z2
    obtain ⟨b2, z2⟩ := ba z2
    obtain ⟨b3, b4⟩ := ba z2
    have cl : Cls K (ga K C) := ⟨b1, b2, b3, eqO_ok b4⟩
    exact ⟨⟨eqO_ok a1, eqO_ok a2, of_decide_eq_true a3, of_decide_eq_true a4, .inl cl, fun z => by rw [of_decide_eq_true z3] at z; cases z⟩, fun z => absurd z hx, fun _ => cl⟩
def xfB1 (K : PySem.W.Frag) (C f : Str) : Bool := xfB K (ga K C) && eqO (PySem.W.findIn K (.ref (ga K C)) f) (some none)
theorem xf_ok {K : PySem.W.Frag} {l : List (Str × Str)} (h : (l.all fun p => xfB1 K p.1 p.2) = true) : ∀ C f, decide ((C, f) ∈ l) = true → XfOk K C f := fun C f e => by
  obtain ⟨h1, h2⟩ := ba (List.all_eq_true.mp h (C, f) (of_decide_eq_true e))
  exact ⟨xfB_ok h1, eqO_ok h2⟩
theorem mk0_of {K : PySem.W.Frag} {C : Str} {X : Cx} (hK : X.K = K) (c : (Fa.exc C).ok K = true) (gl : X.mg C = some (.ref (ga K C))) : Mk0 X C := by
  subst hK
  obtain ⟨a, b, d, e⟩ := exc_ok c
  exact ⟨⟨"ValueError", "ValueError.__new__", "ValueError.__init__", veBase, PySem.F.excBase_ValueError, a, b, raises_own d e⟩, gl⟩
def clsBd : Stmt → List Stmt
  | .ClassDef _ _ _ b _ _ _ _ _ _ _ => b
  | _ => []
end L3

set_option Elab.async false
set_option linter.all false
set_option maxRecDepth 100000
namespace L3
open PySem PySem.Spec PyProof.Rows L2
/-! ### the draws of the laws: _law_cells, _law_pick -/
def m__law_cells : MS :=
  (sSeq (sSet 1 (rd (fun _ => some (.int 3))))
  (sSeq (sFor (mIter W.lstOf (rd (rSlot 0))) (tgName 2) (sSet 1 (rd (rBin W.mod (rBi W.toInt (rCons (rBin W.add (rBin W.add (rBin W.mul (rSlot 1) (fun _ => some (.int 16807))) (rBin W.mul (rSlot 2) (fun _ => some (.int 101)))) (fun _ => some (.int 11))) rNil)) (fun _ => some (.int 2147483563))))))
  (sRetO (mLstO (mCons (mComp (mIter W.lstOf (rd (rSlot 0))) (tgName 2) (fun ε => .ok true ε) (rd (rBi W.absI (rCons (rSlot 2) rNil))) [2]) (mCons (rd (fun _ => some (.int 0))) (mCons (rd (fun _ => some (.int 1))) (mCons (rd (rSlot 1)) mNil))))))))
def F__law_cells : Fn := fnM [false] 2 m__law_cells
def m__law_pick : MS :=
  (sSeq (sIf (rd (rVal (rBin W.lt (rSlot 1) (fun _ => some (.int 2))))) (sRet (rd (fun _ => some (.int 0)))) .next)
  (sSeq (sWhile 100 (rd (rAnd (rVal (rBin W.lt (rPl (pIx (pSlot 0) (fun _ => some (.int 2)))) (fun _ => some (.int 2)))) (rVal (rBin W.lt (rPl (pIx (pSlot 0) (fun _ => some (.int 1)))) (bor (rBi W.len (rCons (rBin W.item (rSlot 0) (fun _ => some (.int 0))) rNil))))))) (sSeq (sPut (mFz (rd (rBin W.item (rPl (pIx (pSlot 0) (fun _ => some (.int 0)))) (rPl (pIx (pSlot 0) (fun _ => some (.int 1))))))) (pSlot 0) (fun _ => some (.int 2)))
  (sPut (mFz (rd (bor (rBin W.add (rBin W.item (rSlot 0) (fun _ => some (.int 1))) (fun _ => some (.int 1)))))) (pSlot 0) (fun _ => some (.int 1)))))
  (sSeq (sIf (rd (rVal (rBin W.gt (rPl (pIx (pSlot 0) (fun _ => some (.int 2)))) (fun _ => some (.int 1))))) (sSeq (sSet 2 (rd (bor (rBin W.mod (rBi W.toInt (rCons (rBin W.item (rSlot 0) (fun _ => some (.int 2))) rNil)) (rSlot 1)))))
  (sSeq (sPut (mFz (rd (bor (rBin W.fdiv (rBin W.item (rSlot 0) (fun _ => some (.int 2))) (rSlot 1))))) (pSlot 0) (fun _ => some (.int 2)))
  (sRet (rd (rSlot 2))))) .next)
  (sSeq (sPut (mFz (rd (bor (rBin W.mod (rBi W.toInt (rCons (rBin W.add (rBin W.mul (rBin W.item (rSlot 0) (fun _ => some (.int 3))) (fun _ => some (.int 40014))) (fun _ => some (.int 12345))) rNil)) (fun _ => some (.int 2147483563)))))) (pSlot 0) (fun _ => some (.int 3)))
  (sSeq (sSet 3 (rd (bor (rBin W.fdiv (rBin W.item (rSlot 0) (fun _ => some (.int 3))) (fun _ => some (.int 7))))))
  (sSeq (sIf (rd (rVal (rBin W.gt (rSlot 1) (rBin W.pow (fun _ => some (.int 10)) (fun _ => some (.int 7)))))) (sSet 3 (rd (rBin W.pow (rSlot 3) (fun _ => some (.int 9))))) .next)
  (sRet (rd (rBin W.mod (rBi W.toInt (rCons (rSlot 3) rNil)) (rSlot 1))))))))))
def F__law_pick : Fn := fnM [true, false] 2 m__law_pick
/-- the draws' state: the cells, the next one's number, what is left of the present one, the mixed number -/
def drawO (cells : List Int) (at_ : Nat) (cur mix : Int) : O := .lst [.fz (.lst (cells.map .int)), .fz (.int at_), .fz (.int cur), .fz (.int mix)]
structure Draw (cells : List Int) (at_ : Nat) (cur mix : Int) : Prop where
  le : at_ ≤ cells.length
  few : cells.length ≤ 63
  cur0 : 0 ≤ cur
  pos : ∀ i ∈ cells, 0 ≤ i
  mix0 : 0 ≤ mix
  mix1 : mix < 2147483563
def Drawn (o : O) : Prop := ∃ cells at_ cur mix, o = drawO cells at_ cur mix ∧ Draw cells at_ cur mix

theorem rBin_eq {g : W → W → Option W} {a b : En → Option W} {ε : En} {x y z : W} (ha : a ε = some x) (hb : b ε = some y) (hg : g x y = some z) : rBin g a b ε = some z := by
  show (a ε).bind (fun x => (b ε).bind fun y => g x y) = _
  rw [ha, hb]
  exact hg
theorem rUn_eq {g : W → Option W} {a : En → Option W} {ε : En} {x z : W} (ha : a ε = some x) (hg : g x = some z) : rUn g a ε = some z := by
  show (a ε).bind g = _
  rw [ha]
  exact hg
theorem rCons_eq {a : En → Option W} {r : En → Option (List W)} {ε : En} {x : W} {xs : List W} (ha : a ε = some x) (hr : r ε = some xs) : rCons a r ε = some (x :: xs) := by
  show (a ε).bind (fun x => (r ε).bind fun xs => some (x :: xs)) = _
  rw [ha, hr]
  rfl
theorem rBi_eq {g : List W → Option W} {m : En → Option (List W)} {ε : En} {xs : List W} {z : W} (hm : m ε = some xs) (hg : g xs = some z) : rBi g m ε = some z := by
  show (m ε).bind g = _
  rw [hm]
  exact hg
theorem rVal_eq {a : En → Option W} {ε : En} {b : Bool} (ha : a ε = some (.bl b)) : rVal a ε = some b := by
  show (a ε).bind asB = _
  rw [ha]
  rfl
theorem rAnd_eq {a b : En → Option Bool} {ε : En} {x y : Bool} (ha : a ε = some x) (hb : b ε = some y) : rAnd a b ε = some (x && y) := by
  show (a ε).bind (fun x => if x = true then b ε else some false) = _
  rw [ha]
  cases x with
  | true => exact hb
  | false => rfl
theorem bor_eq {g : En → Option W} {ε : En} {w : W} (h : g (ε.map frS) = some w) (f : flatW w = true) : bor g ε = some w := by
  show (g (ε.map frS)).filter flatW = _
  rw [h]
  exact Option.filter_eq_some_iff.mpr ⟨rfl, f⟩
theorem mul_ii {i j : Int} (h : (Builtin.Int.intBits i : Int) + (Builtin.Int.intBits j : Int) ≤ 134217728) : W.mul (.int i) (.int j) = some (.int (i * j)) := if_pos h
theorem forL_next {g : W → En → Option En} {body : MS} {ε0 ε ε1 ε2 : En} {w : W} {ws : List W} (hg : g w ε = some ε1) (hb : body ε1 = .next ε2) : forL g body ε0 (w :: ws) ε = forL g body ε0 ws (mask ε0 ε2) := by
  rw [forL, hg]
  dsimp only
  rw [hb]
theorem compL_true {g : W → En → Option En} {t : M3 Bool} {e : M3 W} {vs : List Nat} {ε ε1 ε2 ε3 : En} {w y : W} {ws acc : List W} (hg : g w ε = some ε1) (ht : t ε1 = .ok true ε2) (he : e ε2 = .ok y ε3) (hz : acc.length < sizeLine) : compL g t e vs (w :: ws) acc ε = compL g t e vs ws (acc ++ [y]) (wipeE ε3 vs) := by
  rw [compL, hg]
  dsimp only
  rw [ht]
  show ((e ε2).quiet.bind fun y ε3 => if acc.length < sizeLine then compL g t e vs ws (acc ++ [y]) (wipeE ε3 vs) else .stuck) = _
  rw [he]
  show (if acc.length < sizeLine then compL g t e vs ws (acc ++ [y]) (wipeE ε3 vs) else .stuck) = _
  rw [if_pos hz]
theorem mod_ii {i j : Int} (h : 0 < j) : W.mod (.int i) (.int j) = some (.int (i % j)) := if_pos h
theorem pow_ii {i j : Int} (h : 0 ≤ j ∧ j ≤ 1000000 ∧ i.natAbs < 2 ^ 64) : W.pow (.int i) (.int j) = some (.int (i ^ j.toNat)) := if_pos h
theorem fdiv_ii {i j : Int} (h : 0 < j ∧ j.natAbs.log2 < 9000) : W.fdiv (.int i) (.int j) = some (.int (i / j)) := if_pos h
theorem rd_eq {α : Type} {g : En → Option α} {ε : En} {a : α} (h : g ε = some a) : rd g ε = .ok a ε := by
  unfold rd
  rw [h]
theorem sSet_eq {i : Nat} {m : M3 W} {ε ε1 ε2 : En} {w : W} (h : m ε = .ok w ε1) (e : setSl i (.fz w) ε1 = some ε2) : sSet i m ε = .next ε2 := by
  show (m ε).out _ = _
  rw [h]
  show Out.of (setSl i (.fz w) ε1) = _
  rw [e]
  rfl
theorem sPut_eq {m : M3 O} {g : En → Option Pl} {h : En → Option W} {ε ε1 ε2 : En} {o : O} (hm : m ε = .ok o ε1) (e : putE g h o ε1 = some ε2) : sPut m g h ε = .next ε2 := by
  show (m ε).out _ = _
  rw [hm]
  show Out.of (putE g h o ε1) = _
  rw [e]
  rfl
theorem mFz_eq {m : M3 W} {ε ε1 : En} {w : W} (h : m ε = .ok w ε1) : mFz m ε = .ok (.fz w) ε1 := by
  show (m ε).bind _ = _
  rw [h]
  rfl
theorem sRet_eq {m : M3 W} {ε ε1 : En} {w : W} (h : m ε = .ok w ε1) : sRet m ε = .ret (.fz w) ε1 := by
  show (m ε).out _ = _
  rw [h]
  rfl
theorem sIf_t {t : M3 Bool} {a b : MS} {ε ε1 : En} (h : t ε = .ok true ε1) : sIf t a b ε = a ε1 := by
  show (t ε).out _ = _
  rw [h]
  rfl
theorem sIf_f {t : M3 Bool} {a b : MS} {ε ε1 : En} (h : t ε = .ok false ε1) : sIf t a b ε = b ε1 := by
  show (t ε).out _ = _
  rw [h]
  rfl
theorem seq_next {a b : MS} {ε ε1 : En} (h : a ε = .next ε1) : sSeq a b ε = b ε1 := by
  show (a ε).bind b = _
  rw [h]
  rfl
theorem seq_ret {a b : MS} {ε ε1 : En} {o : O} (h : a ε = .ret o ε1) : sSeq a b ε = .ret o ε1 := by
  show (a ε).bind b = _
  rw [h]
  rfl
section
variable {cells : List Int} {at_ : Nat} {cur mix many : Int} {s2 s3 : Sl}
abbrev pe (cells : List Int) (at_ : Nat) (cur mix many : Int) (s2 s3 : Sl) : En := [.par (drawO cells at_ cur mix), .fz (.int many), s2, s3]
def cF (s : Sl) : Prop := s = .no ∨ ∃ w, s = .fz w
theorem r_cur : rPl (pIx (pSlot 0) (fun _ => some (.int 2))) (pe cells at_ cur mix many s2 s3) = some (.int cur) := rfl
theorem r_at : rPl (pIx (pSlot 0) (fun _ => some (.int 1))) (pe cells at_ cur mix many s2 s3) = some (.int at_) := rfl
theorem r_len : bor (rBi W.len (rCons (rBin W.item (rSlot 0) (fun _ => some (.int 0))) rNil)) (pe cells at_ cur mix many s2 s3) = some (.int cells.length) := by
  show some (W.int ((cells.map W.int).length : Nat)) = _
  rw [List.length_map]
theorem r_cell {i : Int} (h : cells[at_]? = some i) : (rBin W.item (rPl (pIx (pSlot 0) (fun _ => some (.int 0)))) (rPl (pIx (pSlot 0) (fun _ => some (.int 1))))) (pe cells at_ cur mix many s2 s3) = some (.int i) := by
  show L2.atI (cells.map W.int) (at_ : Int) = _
  have hl : at_ < cells.length := (List.getElem?_eq_some_iff.mp h).1
  unfold L2.atI L2.ixN
  rw [if_pos (by omega), if_pos (by rw [List.length_map]; omega)]
  show (cells.map W.int)[(at_ : Int).toNat]? = _
  rw [Int.toNat_natCast, List.getElem?_map, h]
  rfl
theorem p_cur {y : Int} : putE (pSlot 0) (fun _ => some (.int 2)) (.fz (.int y)) (pe cells at_ cur mix many s2 s3) = some (pe cells at_ y mix many s2 s3) := rfl
theorem p_at {y : Nat} : putE (pSlot 0) (fun _ => some (.int 1)) (.fz (.int y)) (pe cells at_ cur mix many s2 s3) = some (pe cells y cur mix many s2 s3) := rfl
theorem p_mix {y : Int} : putE (pSlot 0) (fun _ => some (.int 3)) (.fz (.int y)) (pe cells at_ cur mix many s2 s3) = some (pe cells at_ cur y many s2 s3) := rfl
theorem r_at1 : bor (rBin W.add (rBin W.item (rSlot 0) (fun _ => some (.int 1))) (fun _ => some (.int 1))) (pe cells at_ cur mix many s2 s3) = some (.int ((at_ + 1 : Nat) : Int)) := rfl
theorem r_mod (h : 0 < many) : bor (rBin W.mod (rBi W.toInt (rCons (rBin W.item (rSlot 0) (fun _ => some (.int 2))) rNil)) (rSlot 1)) (pe cells at_ cur mix many s2 s3) = some (.int (cur % many)) := by
  show Option.filter flatW (if 0 < many then some (W.int (cur % many)) else none) = _
  rw [if_pos h]
  rfl
theorem r_div (h : 0 < many) (h2 : many.natAbs.log2 < 9000) : bor (rBin W.fdiv (rBin W.item (rSlot 0) (fun _ => some (.int 2))) (rSlot 1)) (pe cells at_ cur mix many s2 s3) = some (.int (cur / many)) := by
  show Option.filter flatW (if 0 < many ∧ many.natAbs.log2 < 9000 then some (W.int (cur / many)) else none) = _
  rw [if_pos ⟨h, h2⟩]
  rfl
abbrev pT : M3 Bool := (rd (rAnd (rVal (rBin W.lt (rPl (pIx (pSlot 0) (fun _ => some (.int 2)))) (fun _ => some (.int 2)))) (rVal (rBin W.lt (rPl (pIx (pSlot 0) (fun _ => some (.int 1)))) (bor (rBi W.len (rCons (rBin W.item (rSlot 0) (fun _ => some (.int 0))) rNil)))))))
abbrev pB : MS := (sSeq (sPut (mFz (rd (rBin W.item (rPl (pIx (pSlot 0) (fun _ => some (.int 0)))) (rPl (pIx (pSlot 0) (fun _ => some (.int 1))))))) (pSlot 0) (fun _ => some (.int 2)))
  (sPut (mFz (rd (bor (rBin W.add (rBin W.item (rSlot 0) (fun _ => some (.int 1))) (fun _ => some (.int 1)))))) (pSlot 0) (fun _ => some (.int 1))))
theorem pT_eq : pT (pe cells at_ cur mix many s2 s3) = .ok (decide (cur < 2) && decide ((at_ : Int) < cells.length)) (pe cells at_ cur mix many s2 s3) :=
  rd_eq (rAnd_eq (rVal_eq (rBin_eq r_cur rfl rfl)) (rVal_eq (rBin_eq r_at r_len rfl)))
theorem pB_eq {i : Int} (h : cells[at_]? = some i) : pB (pe cells at_ cur mix many s2 s3) = .next (pe cells (at_ + 1) i mix many s2 s3) :=
  (seq_next (sPut_eq (mFz_eq (rd_eq (r_cell h))) p_cur)).trans (sPut_eq (mFz_eq (rd_eq r_at1)) p_at)
theorem pick_loop {ε0 : En} (h0 : ∀ at_ cur, mask ε0 (pe cells at_ cur mix many .no .no) = pe cells at_ cur mix many .no .no) : ∀ (n at_ : Nat) (cur : Int), Draw cells at_ cur mix → cells.length - at_ < n →
    ∃ at' cur', Draw cells at' cur' mix ∧ whL pT pB ε0 n (pe cells at_ cur mix many .no .no) = .next (pe cells at' cur' mix many .no .no)
  | 0, _, _, _, h => by omega
  | n + 1, at_, cur, D, h => by
    unfold whL
    rw [pT_eq]
    by_cases h1 : cur < 2
    · by_cases h2 : (at_ : Int) < cells.length
      · have hl : at_ < cells.length := by omega
        have D' : Draw cells (at_ + 1) cells[at_] mix := ⟨hl, D.few, D.pos _ (List.getElem_mem hl), D.pos, D.mix0, D.mix1⟩
        obtain ⟨a', c', D2, e⟩ := pick_loop h0 n (at_ + 1) cells[at_] D' (by omega)
        refine ⟨a', c', D2, ?_⟩
        rw [decide_eq_true h1, decide_eq_true h2]
        show (match pB (pe cells at_ cur mix many .no .no) with
          | .next ε2 => whL pT pB ε0 n (mask ε0 ε2)
          | .cnt ε2 => whL pT pB ε0 n (mask ε0 ε2)
          | .brk ε2 => .next (mask ε0 ε2)
          | o => o) = _
        rw [pB_eq (List.getElem?_eq_getElem hl)]
        show whL pT pB ε0 n (mask ε0 _) = _
        rw [h0]
        exact e
      · refine ⟨at_, cur, D, ?_⟩
        rw [decide_eq_false h2, Bool.and_false]
        show Out.next (mask ε0 _) = _
        rw [h0]
    · refine ⟨at_, cur, D, ?_⟩
      rw [decide_eq_false h1, Bool.false_and]
      show Out.next (mask ε0 _) = _
      rw [h0]
theorem bits_small {i : Int} (h0 : 0 ≤ i) (h : i < 2147483563) : (Builtin.Int.intBits i : Int) ≤ 31 := by
  have : i.natAbs < 2 ^ 31 := by omega
  have := PyProof.Rows.intBits_le this
  omega
theorem r_mix (h0 : 0 ≤ mix) (h : mix < 2147483563) : bor (rBin W.mod (rBi W.toInt (rCons (rBin W.add (rBin W.mul (rBin W.item (rSlot 0) (fun _ => some (.int 3))) (fun _ => some (.int 40014))) (fun _ => some (.int 12345))) rNil)) (fun _ => some (.int 2147483563))) (pe cells at_ cur mix many s2 s3) = some (.int ((mix * 40014 + 12345) % 2147483563)) := by
  have c : (Builtin.Int.intBits mix : Int) + (Builtin.Int.intBits 40014 : Int) ≤ 134217728 := by
    have := bits_small h0 h
    have e : (Builtin.Int.intBits 40014 : Int) = 16 := by decide +kernel
    omega
  exact bor_eq (rBin_eq (rBi_eq (rCons_eq (rBin_eq (rBin_eq (x := .int mix) rfl rfl (mul_ii c)) rfl rfl) rfl) rfl) rfl (mod_ii (by decide))) rfl
theorem r_num : bor (rBin W.fdiv (rBin W.item (rSlot 0) (fun _ => some (.int 3))) (fun _ => some (.int 7))) (pe cells at_ cur mix many s2 s3) = some (.int (mix / 7)) := rfl
/-- what a draw gives -/
theorem pick_ms (D : Draw cells at_ cur mix) (hm : 1 ≤ many) (hm2 : many.natAbs.log2 < 9000) : ∃ at' cur' mix' r s2 s3, Draw cells at' cur' mix' ∧ 0 ≤ r ∧ r < many ∧ m__law_pick (pe cells at_ cur mix many .no .no) = .ret (.fz (.int r)) (pe cells at' cur' mix' many s2 s3) := by
  have t1 : rd (rVal (rBin W.lt (rSlot 1) (fun _ => some (.int 2)))) (pe cells at_ cur mix many .no .no) = .ok (decide (many < 2)) (pe cells at_ cur mix many .no .no) := rd_eq (rVal_eq (rBin_eq (x := .int many) rfl rfl rfl))
  by_cases h2 : many < 2
  · rw [decide_eq_true h2] at t1
    exact ⟨at_, cur, mix, 0, .no, .no, D, by omega, by omega, seq_ret ((sIf_t t1).trans (sRet_eq rfl))⟩
  · rw [decide_eq_false h2] at t1
    obtain ⟨a1, c1, D1, eL⟩ := pick_loop (many := many) (ε0 := pe cells at_ cur mix many .no .no) (fun _ _ => rfl) 100 at_ cur D (by have := D.few; omega)
    have s1 : sWhile 100 pT pB (pe cells at_ cur mix many .no .no) = .next (pe cells a1 c1 mix many .no .no) := eL
    have t3 : rd (rVal (rBin W.gt (rPl (pIx (pSlot 0) (fun _ => some (.int 2)))) (fun _ => some (.int 1)))) (pe cells a1 c1 mix many .no .no) = .ok (decide (1 < c1)) (pe cells a1 c1 mix many .no .no) := rd_eq (rVal_eq (rBin_eq r_cur rfl rfl))
    by_cases h3 : 1 < c1
    · rw [decide_eq_true h3] at t3
      refine ⟨a1, c1 / many, mix, c1 % many, .fz (.int (c1 % many)), .no, ⟨D1.le, D1.few, Int.ediv_nonneg D1.cur0 (by omega), D1.pos, D1.mix0, D1.mix1⟩, Int.emod_nonneg _ (by omega), Int.emod_lt_of_pos _ (by omega), ?_⟩
      refine (seq_next (sIf_f t1)).trans ((seq_next s1).trans (seq_ret ((sIf_t t3).trans ?_)))
      refine (seq_next (sSet_eq (ε2 := pe cells a1 c1 mix many (.fz (.int (c1 % many))) .no) (rd_eq (r_mod (by omega))) rfl)).trans ?_
      exact (seq_next (sPut_eq (mFz_eq (rd_eq (r_div (by omega) hm2))) p_cur)).trans (sRet_eq rfl)
    · rw [decide_eq_false h3] at t3
      have m0 : 0 ≤ (mix * 40014 + 12345) % 2147483563 := Int.emod_nonneg _ (by decide)
      have m1 : (mix * 40014 + 12345) % 2147483563 < 2147483563 := Int.emod_lt_of_pos _ (by decide)
      generalize hx : (mix * 40014 + 12345) % 2147483563 = mx at m0 m1
      have s4 : sPut (mFz (rd (bor (rBin W.mod (rBi W.toInt (rCons (rBin W.add (rBin W.mul (rBin W.item (rSlot 0) (fun _ => some (.int 3))) (fun _ => some (.int 40014))) (fun _ => some (.int 12345))) rNil)) (fun _ => some (.int 2147483563)))))) (pSlot 0) (fun _ => some (.int 3)) (pe cells a1 c1 mix many .no .no) = .next (pe cells a1 c1 mx many .no .no) := by
        have := r_mix (cells := cells) (at_ := a1) (cur := c1) (many := many) (s2 := .no) (s3 := .no) D.mix0 D.mix1
        rw [hx] at this
        exact sPut_eq (mFz_eq (rd_eq this)) p_mix
      have s5 : sSet 3 (rd (bor (rBin W.fdiv (rBin W.item (rSlot 0) (fun _ => some (.int 3))) (fun _ => some (.int 7))))) (pe cells a1 c1 mx many .no .no) = .next (pe cells a1 c1 mx many .no (.fz (.int (mx / 7)))) := sSet_eq (rd_eq r_num) rfl
      have hp : (fun (_ : En) => some (W.int 10)) = fun _ => some (W.int 10) := rfl
      have t6 : rd (rVal (rBin W.gt (rSlot 1) (rBin W.pow (fun _ => some (.int 10)) (fun _ => some (.int 7))))) (pe cells a1 c1 mx many .no (.fz (.int (mx / 7)))) = .ok (decide ((10000000 : Int) < many)) (pe cells a1 c1 mx many .no (.fz (.int (mx / 7)))) := rd_eq (rVal_eq (rBin_eq (x := .int many) (y := .int 10000000) rfl (rBin_eq (x := .int 10) (y := .int 7) rfl rfl ((pow_ii ⟨by decide, by decide, by decide⟩).trans (congrArg (fun z => some (W.int z)) (show (10 : Int) ^ (7 : Int).toNat = 10000000 by decide +kernel)))) rfl))
      have last : ∀ z : Int, ∃ r, 0 ≤ r ∧ r < many ∧ sRet (rd (rBin W.mod (rBi W.toInt (rCons (rSlot 3) rNil)) (rSlot 1))) (pe cells a1 c1 mx many .no (.fz (.int z))) = .ret (.fz (.int r)) (pe cells a1 c1 mx many .no (.fz (.int z))) := fun z =>
        ⟨z % many, Int.emod_nonneg _ (by omega), Int.emod_lt_of_pos _ (by omega), sRet_eq (rd_eq (rBin_eq (x := .int z) (y := .int many) (rBi_eq (rCons_eq (x := .int z) rfl rfl) rfl) rfl (mod_ii (by omega))))⟩
      have D2 : Draw cells a1 c1 mx := ⟨D1.le, D1.few, D1.cur0, D1.pos, m0, m1⟩
      have pre : ∀ {X : Out}, sSeq (sIf (rd (rVal (rBin W.gt (rSlot 1) (rBin W.pow (fun _ => some (.int 10)) (fun _ => some (.int 7)))))) (sSet 3 (rd (rBin W.pow (rSlot 3) (fun _ => some (.int 9))))) .next) (sRet (rd (rBin W.mod (rBi W.toInt (rCons (rSlot 3) rNil)) (rSlot 1)))) (pe cells a1 c1 mx many .no (.fz (.int (mx / 7)))) = X → m__law_pick (pe cells at_ cur mix many .no .no) = X := fun {X} e =>
        (seq_next (sIf_f t1)).trans ((seq_next s1).trans ((seq_next (sIf_f t3)).trans ((seq_next s4).trans ((seq_next s5).trans e))))
      by_cases h7 : (10000000 : Int) < many
      · rw [decide_eq_true h7] at t6
        have nb : (mx / 7).natAbs < 2 ^ 64 := by omega
        have s7 : sSet 3 (rd (rBin W.pow (rSlot 3) (fun _ => some (.int 9)))) (pe cells a1 c1 mx many .no (.fz (.int (mx / 7)))) = .next (pe cells a1 c1 mx many .no (.fz (.int ((mx / 7) ^ (9 : Int).toNat)))) :=
          sSet_eq (rd_eq (rBin_eq (x := .int (mx / 7)) (y := .int 9) rfl rfl (pow_ii ⟨by decide, by decide, nb⟩))) rfl
        obtain ⟨r, r0, r1, e⟩ := last ((mx / 7) ^ (9 : Int).toNat)
        exact ⟨a1, c1, mx, r, .no, _, D2, r0, r1, pre ((seq_next ((sIf_t t6).trans s7)).trans e)⟩
      · rw [decide_eq_false h7] at t6
        obtain ⟨r, r0, r1, e⟩ := last (mx / 7)
        exact ⟨a1, c1, mx, r, .no, _, D2, r0, r1, pre ((seq_next (sIf_f t6)).trans e)⟩
theorem pick_spec (D : Draw cells at_ cur mix) (hm : 1 ≤ many) (hm2 : many.natAbs.log2 < 9000) : ∃ at' cur' mix' r, Draw cells at' cur' mix' ∧ 0 ≤ r ∧ r < many ∧ F__law_pick [drawO cells at_ cur mix, .fz (.int many)] = .ok (.fz (.int r)) [drawO cells at' cur' mix', .fz (.int many)] := by
  obtain ⟨a, c, m, r, s2, s3, D', r0, r1, e⟩ := pick_ms D hm hm2
  refine ⟨a, c, m, r, D', r0, r1, ?_⟩
  have start : F__law_pick [drawO cells at_ cur mix, .fz (.int many)] = match m__law_pick (pe cells at_ cur mix many .no .no) with
    | .ret o ε' => (match finSl [true, false] [drawO cells at_ cur mix, .fz (.int many)] ε' with
      | some os' => .ok o os'
      | none => .stuck)
    | .next ε' => (match finSl [true, false] [drawO cells at_ cur mix, .fz (.int many)] ε' with
      | some os' => .ok (.fz .non) os'
      | none => .stuck)
    | .err x ε' => (match finSl [true, false] [drawO cells at_ cur mix, .fz (.int many)] ε' with
      | some os' => .err x os'
      | none => .stuck)
    | _ => .stuck := rfl
  rw [start, e]
  rfl
end
section
variable {ws : W} {m : Int} {s : Sl}
abbrev ce (ws : W) (m : Int) (s : Sl) : En := [.fz ws, .fz (.int m), s]
abbrev ce' (ws : W) : En := [.fz ws, .no, .no]
abbrev cG : W → En → Option En := tgName 2
abbrev cB : MS := (sSet 1 (rd (rBin W.mod (rBi W.toInt (rCons (rBin W.add (rBin W.add (rBin W.mul (rSlot 1) (fun _ => some (.int 16807))) (rBin W.mul (rSlot 2) (fun _ => some (.int 101)))) (fun _ => some (.int 11))) rNil)) (fun _ => some (.int 2147483563)))))
theorem cB_eq {i : Int} (h0 : 0 ≤ m) (h1 : m < 2147483563) (hb : (Builtin.Int.intBits i : Int) ≤ 1048577) : cB (ce ws m (.fz (.int i))) = .next (ce ws ((m * 16807 + i * 101 + 11) % 2147483563) (.fz (.int i))) := by
  have c1 : (Builtin.Int.intBits m : Int) + (Builtin.Int.intBits 16807 : Int) ≤ 134217728 := by
    have := bits_small h0 h1
    have e : (Builtin.Int.intBits 16807 : Int) = 15 := by decide +kernel
    omega
  have c2 : (Builtin.Int.intBits i : Int) + (Builtin.Int.intBits 101 : Int) ≤ 134217728 := by
    have e : (Builtin.Int.intBits 101 : Int) = 7 := by decide +kernel
    omega
  exact sSet_eq (rd_eq (rBin_eq (rBi_eq (rCons_eq (rBin_eq (rBin_eq (rBin_eq (x := .int m) rfl rfl (mul_ii c1)) (rBin_eq (x := .int i) rfl rfl (mul_ii c2)) rfl) rfl rfl) rfl) rfl) rfl (mod_ii (by decide)))) rfl
theorem c_loop : ∀ (l : List Int) (m : Int), 0 ≤ m → m < 2147483563 → (∀ i ∈ l, (Builtin.Int.intBits i : Int) ≤ 1048577) → ∃ m', 0 ≤ m' ∧ m' < 2147483563 ∧ ∀ ε0, (∀ m s, mask ε0 (ce ws m s) = ce ws m .no) → forL cG cB ε0 (l.map .int) (ce ws m .no) = .next (ce ws m' .no)
  | [], m, h0, h1, _ => ⟨m, h0, h1, fun _ _ => rfl⟩
  | i :: l, m, h0, h1, hb => by
    obtain ⟨m', a, b, e⟩ := c_loop l ((m * 16807 + i * 101 + 11) % 2147483563) (Int.emod_nonneg _ (by decide)) (Int.emod_lt_of_pos _ (by decide)) fun j hj => hb j (List.mem_cons_of_mem _ hj)
    refine ⟨m', a, b, fun ε0 hm => ?_⟩
    rw [List.map_cons, forL_next (ε1 := ce ws m (.fz (.int i))) rfl (cB_eq h0 h1 (hb i List.mem_cons_self)), hm]
    exact e ε0 hm
def absI (i : Int) : Int := if i < 0 then -i else i
theorem c_comp : ∀ (l : List Int) (acc : List W), acc.length + l.length ≤ sizeLine → compL cG (fun ε => .ok true ε) (rd (rBi W.absI (rCons (rSlot 2) rNil))) [2] (l.map .int) acc (ce ws m .no) = .ok (acc ++ l.map fun i => W.int (absI i)) (ce ws m .no)
  | [], acc, _ => by simp [compL]
  | i :: l, acc, h => by
    rw [List.length_cons] at h
    rw [List.map_cons, compL_true (ε1 := ce ws m (.fz (.int i))) (ε2 := ce ws m (.fz (.int i))) (y := .int (absI i)) (ε3 := ce ws m (.fz (.int i))) rfl rfl (rd_eq (rBi_eq (rCons_eq (x := .int i) rfl rfl) (show W.absI [.int i] = some (.int (absI i)) from rfl))) (by omega)]
    show compL cG _ _ [2] (l.map .int) (acc ++ [W.int (absI i)]) (ce ws m .no) = _
    rw [c_comp l (acc ++ [W.int (absI i)]) (by rw [List.length_append]; simp; omega)]
    simp
theorem cells_spec {ns : List Int} (hl : ns.length ≤ 63) (hb : ∀ i ∈ ns, (Builtin.Int.intBits i : Int) ≤ 1048577) : ∃ mix, Draw (ns.map absI) 0 1 mix ∧ F__law_cells [.fz (.klst (ns.map .int))] = .ok (drawO (ns.map absI) 0 1 mix) [.fz (.klst (ns.map .int))] := by
  obtain ⟨m', a, b, e⟩ := c_loop (ws := .klst (ns.map .int)) ns 3 (by decide) (by decide) hb
  refine ⟨m', ⟨Nat.zero_le _, by rw [List.length_map]; exact hl, by decide, fun i hi => ?_, a, b⟩, ?_⟩
  · obtain ⟨j, _, rfl⟩ := List.mem_map.mp hi
    unfold absI
    split <;> omega
  · have body : m__law_cells (ce' (.klst (ns.map .int))) = .ret (drawO (ns.map absI) 0 1 m') (ce (.klst (ns.map .int)) m' .no) := by
      refine (seq_next (sSet_eq (ε2 := ce (.klst (ns.map .int)) 3 .no) rfl rfl)).trans ?_
      refine (seq_next (ε1 := ce (.klst (ns.map .int)) m' .no) ?_).trans ?_
      · exact e (ce (.klst (ns.map .int)) 3 .no) fun _ _ => rfl
      · have hc : mComp (mIter W.lstOf (rd (rSlot 0))) cG (fun ε => .ok true ε) (rd (rBi W.absI (rCons (rSlot 2) rNil))) [2] (ce (.klst (ns.map .int)) m' .no) = .ok (.lst (ns.map fun i => W.int (absI i))) (ce (.klst (ns.map .int)) m' .no) := by
          show ((compL cG (fun ε => .ok true ε) (rd (rBi W.absI (rCons (rSlot 2) rNil))) [2] (ns.map .int) [] (ce (.klst (ns.map .int)) m' .no)).bind fun acc ε => Res.ok (W.lst acc) ε) = _
          rw [c_comp ns [] (by rw [sizeLine_eq]; simp; omega)]
          rfl
        show (Res.bind _ _ : Res O).out _ = _
        show (Res.bind (Res.bind (mComp (mIter W.lstOf (rd (rSlot 0))) cG (fun ε => .ok true ε) (rd (rBi W.absI (rCons (rSlot 2) rNil))) [2] (ce (.klst (ns.map .int)) m' .no)) _) _ : Res O).out _ = _
        rw [hc]
        show Out.ret (.lst [.fz (.lst (ns.map fun i => W.int (absI i))), .fz (.int 0), .fz (.int 1), .fz (.int m')]) _ = _
        unfold drawO
        rw [List.map_map]
        rfl
    show (match m__law_cells (ce' (.klst (ns.map .int))) with
    | .ret o ε' => (match finSl [false] [.fz (.klst (ns.map .int))] ε' with
      | some os' => FRes.ok o os'
      | none => FRes.stuck)
    | .next ε' => (match finSl [false] [.fz (.klst (ns.map .int))] ε' with
      | some os' => .ok (.fz .non) os'
      | none => .stuck)
    | .err x ε' => (match finSl [false] [.fz (.klst (ns.map .int))] ε' with
      | some os' => .err x os'
      | none => .stuck)
    | _ => .stuck) = _
    rw [body]
    rfl
end
end L3

set_option Elab.async false
set_option linter.all false
set_option maxRecDepth 100000
set_option maxHeartbeats 1000000
namespace L3
open PySem PySem.Spec PyProof.Rows L2 He
/-! ### the law's end: the script's numbers have bounded sizes -/
abbrev scrO (ns : List Int) : O := .fz (.klst (ns.map .int))
theorem weight_bits : ∀ (ns : List Int) (m : Nat), PySem.W.WData.weightAll (ns.map PySem.W.WData.int) ≤ m → ∀ i ∈ ns, Builtin.Int.intBits i ≤ m
  | [], _, _, _, h => absurd h (by simp)
  | n :: ns, m, hm, i, hi => by
    have e : PySem.W.WData.weightAll ((n :: ns).map PySem.W.WData.int) = Builtin.Int.intBits n + 1 + PySem.W.WData.weightAll (ns.map PySem.W.WData.int) := rfl
    rw [e] at hm
    rcases List.mem_cons.mp hi with rfl | h
    · omega
    · exact weight_bits ns m (by omega) i h
theorem lay_bits {ns : List Int} (h : PySem.W.WData.layableAll [.list (ns.map .int)] = true) : ∀ i ∈ ns, (Builtin.Int.intBits i : Int) ≤ 1048577 := by
  have h1 := (PySem.W.layW_cons h).1
  have h2 := of_decide_eq_true (Bool.and_eq_true_iff.mp h1).2
  intro i hi
  have h3 := weight_bits ns (2 ^ 20) h2 i hi
  have h4 : (2 ^ 20 : Nat) = 1048576 := by decide
  omega
theorem rep_ints {K : PySem.W.Frag} {F : Hp} : ∀ ns : List Int, RepFs K F (ns.map .int) (ns.map V.int)
  | [] => rfl
  | n :: ns => ⟨_, _, rfl, rfl, rep_ints ns⟩
theorem spF_law {K : PySem.W.Frag} {H : Hp} {a : Addr} {ns : List Int} {f : Fn} {os : List O} (hS : SqL K H a (ns.map V.int)) (e : f [scrO ns] = .ok (.fz (.bl true)) os) :
    spF K f [.ref a] H (fun v _ => v = .bl true) fun _ _ _ => False := by
  refine ⟨H, [scrO ns], [], ⟨fun _ _ h => h, List.nodup_nil, fun _ h => absurd h (by simp)⟩, ⟨.ref a, [], [], [], rfl, rfl, ⟨rfl, a, ns.map V.int, rfl, hS, rep_ints ns⟩, rfl, rfl⟩, ?_⟩
  rw [e]
  intro v H' F' Lr L' _ hr _ _
  exact hr.2
theorem walk_ofZ {l : PySem.W.OpenLaw} {n k : Nat} {q : Program} {loose : List Str} {XP : (Str → Option Value) → Heap → Prop} {YP : World → Heap → Prop} {d : DefRec} {x : Str} {f : Fn}
    (hn : l.most = some n) (hn2 : n ≤ sizeLine) (hdf : d.params.defaults = []) (hr : Room k callerA)
    (F : ∀ (w : World) (mg : Str → Option Value) (fa : Addr) (h : Heap), YP w h → h.Ns mainGlobals mg → mg d.name = some (.ref fa) →
      ∃ (K : PySem.W.Frag) (fd : FuncData), K.In h ∧ (∀ (s : Shared) (u : Value), BindsTo s fd ⟨[u], []⟩ [(x, u)]) ∧
        ∀ base : Heap, K.In base → base.Ns mainGlobals mg → FnOk l.prog w K mg base (L2.CX l.prog w) k fa fd [x] (spF K f))
    (hf : ∀ ns : List Int, ns.length ≤ n → (∀ i ∈ ns, (Builtin.Int.intBits i : Int) ≤ 1048577) → ∃ os, f [scrO ns] = .ok (.fz (.bl true)) os) :
    PySem.W.WalkO q loose XP YP l.row.toRowW d [] (fun f vs => PySem.call f vs) := by
  intro w s₀ s₁ mg mb G Y fa o pm cd doc dV kV ho hd hcd hD hmg hg args vals as hpre hlay hrd hwl hlo
  obtain rfl : dV = .none := PySem.W.Dflts.none hD hdf
  obtain rfl : kV = .none := PySem.W.Dflts.noKw hD
  obtain ⟨a, vs, ns, rfl, rfl, hobj, hints, hlen⟩ := Att.script_of hn hpre hwl
  obtain ⟨K, fd, KX, hb, hF⟩ := F w mg fa _ Y G.T.g hmg
  obtain ⟨os, e⟩ := hf ns hlen (lay_bits hlay)
  have call := law_call (sp := spF K f) (CX := L2.CX l.prog w) KX G.T.g G.T.b G.T.builtins G.T.nolimit hg hobj hints (Nat.le_trans hlen hn2) hr hF hb (fun H _ hS => spF_law hS e) fun H e s' h => by
    obtain ⟨_, _, _, _, _, _, _, _, _, _, _, _, z⟩ := h
    exact z
  refine PySem.W.enter_call (codeAny_mono call fun r s' hq => ?_)
  obtain ⟨rfl, h2, h3, h4⟩ := hq
  exact ⟨.inl ⟨.bool true, .bool true, [], rfl, fun _ => rfl, .bool true, Att.post_true l _, fun _ => ⟨List.Pairwise.nil, fun _ hm => (nomatch hm)⟩⟩, h2, h3, h4⟩
end L3

set_option Elab.async false
set_option linter.all false
set_option maxRecDepth 100000
set_option maxHeartbeats 4000000
namespace K91
open PySem PySem.Spec PyProof.Rows L2 L3 He
abbrev P : Program := PySem.Challenge.pw_latticewish_k91_errors
def top (i : Nat) : Stmt := PySem.Challenge.pw_latticewish_k91_errors.main.body.getD i (.Pass ⟨0, 0, 0, 0⟩)
def mth (i j : Nat) : Stmt := (clsBd (top i)).getD j (.Pass ⟨0, 0, 0, 0⟩)
def file : Str := PySem.Challenge.pw_latticewish_k91_errors.main.file
abbrev s__law_cells : Stmt := top 16
def d__law_cells : DefD := ⟨("_law_cells", none), "_law_cells", "_law_cells", defArgs s__law_cells, defBody s__law_cells, defScope s__law_cells, [], []⟩
abbrev s__law_pick : Stmt := top 17
def d__law_pick : DefD := ⟨("_law_pick", none), "_law_pick", "_law_pick", defArgs s__law_pick, defBody s__law_pick, defScope s__law_pick, [], []⟩
abbrev s__law_classes : Stmt := top 18
def d__law_classes : DefD := ⟨("_law_classes", none), "_law_classes", "_law_classes", defArgs s__law_classes, defBody s__law_classes, defScope s__law_classes, [], []⟩
abbrev s_law : Stmt := top 19
def d_law : DefD := ⟨("law", none), "law", "law", defArgs s_law, defBody s_law, defScope s_law, [], []⟩
def fn : List DefD := [d__law_cells, d__law_pick, d__law_classes, d_law]
abbrev s_BadText : Stmt := mth 4 0
def u_BadText : SupD := ⟨"BadText", "__init__", "BadText.__init__", defArgs s_BadText, defBody s_BadText, defScope s_BadText⟩
abbrev s_BadName : Stmt := mth 5 0
def u_BadName : SupD := ⟨"BadName", "__init__", "BadName.__init__", defArgs s_BadName, defBody s_BadName, defScope s_BadName⟩
abbrev s_TwiceTold : Stmt := mth 6 0
def u_TwiceTold : SupD := ⟨"TwiceTold", "__init__", "TwiceTold.__init__", defArgs s_TwiceTold, defBody s_TwiceTold, defScope s_TwiceTold⟩
abbrev s_NotIrreducible : Stmt := mth 7 0
def u_NotIrreducible : SupD := ⟨"NotIrreducible", "__init__", "NotIrreducible.__init__", defArgs s_NotIrreducible, defBody s_NotIrreducible, defScope s_NotIrreducible⟩
abbrev s_InUse : Stmt := mth 9 0
def u_InUse : SupD := ⟨"InUse", "__init__", "InUse.__init__", defArgs s_InUse, defBody s_InUse, defScope s_InUse⟩
abbrev s_UnknownValue : Stmt := mth 11 0
def u_UnknownValue : SupD := ⟨"UnknownValue", "__init__", "UnknownValue.__init__", defArgs s_UnknownValue, defBody s_UnknownValue, defScope s_UnknownValue⟩
abbrev s_UnknownState : Stmt := mth 12 0
def u_UnknownState : SupD := ⟨"UnknownState", "__init__", "UnknownState.__init__", defArgs s_UnknownState, defBody s_UnknownState, defScope s_UnknownState⟩
abbrev s_UnboundName : Stmt := mth 13 0
def u_UnboundName : SupD := ⟨"UnboundName", "__init__", "UnboundName.__init__", defArgs s_UnboundName, defBody s_UnboundName, defScope s_UnboundName⟩
abbrev s_UnknownFormula : Stmt := mth 14 0
def u_UnknownFormula : SupD := ⟨"UnknownFormula", "__init__", "UnknownFormula.__init__", defArgs s_UnknownFormula, defBody s_UnknownFormula, defScope s_UnknownFormula⟩
def sn : List SupD := [u_BadText, u_BadName, u_TwiceTold, u_NotIrreducible, u_InUse, u_UnknownValue, u_UnknownState, u_UnboundName, u_UnknownFormula]
def fa : List Fa := [.free "int", .free "abs", .glo "_law_cells", .free "len", .glo "_law_pick", .glo "BadLattice", .free "isinstance", .glo "MixedLattices", .glo "BadMap", .glo "BadText", .glo "BadName", .glo "TwiceTold", .glo "NotIrreducible", .glo "InUse", .glo "UnknownValue", .glo "UnknownState", .glo "UnboundName", .glo "UnknownFormula", .glo "_law_classes", .free "range", .glo "LatticeError", .free "ValueError", .glo "NameMissing", .free "LookupError", .free "KeyError", .free "IndexError", .glo "law", .exc "BadLattice", .exc "MixedLattices", .exc "BadMap", .free "super"]
def excB : List Str := ["BadLattice", "MixedLattices", "BadMap", "BadText", "BadName", "TwiceTold", "NotIrreducible", "InUse", "UnknownValue", "UnknownState", "UnboundName", "UnknownFormula"]
def isTab0 : List (XC × XC × Bool) := [(.own "BadLattice", .own "BadLattice", true),
  (.own "BadLattice", .own "MixedLattices", false),
  (.own "BadLattice", .own "BadMap", false),
  (.own "BadLattice", .own "BadText", false),
  (.own "BadLattice", .own "BadName", false),
  (.own "BadLattice", .own "TwiceTold", false),
  (.own "BadLattice", .own "NotIrreducible", false),
  (.own "BadLattice", .own "InUse", false),
  (.own "BadLattice", .own "UnknownValue", false),
  (.own "BadLattice", .own "UnknownState", false),
  (.own "BadLattice", .own "UnboundName", false),
  (.own "BadLattice", .own "UnknownFormula", false),
  (.own "BadLattice", .own "LatticeError", true),
  (.own "BadLattice", .own "NameMissing", false),
  (.own "BadLattice", .blt "ValueError", true),
  (.own "BadLattice", .blt "LookupError", false),
  (.own "BadLattice", .blt "KeyError", false),
  (.own "BadLattice", .blt "IndexError", false),
  (.own "MixedLattices", .own "BadLattice", false),
  (.own "MixedLattices", .own "MixedLattices", true),
  (.own "MixedLattices", .own "BadMap", false),
  (.own "MixedLattices", .own "BadText", false),
  (.own "MixedLattices", .own "BadName", false),
  (.own "MixedLattices", .own "TwiceTold", false),
  (.own "MixedLattices", .own "NotIrreducible", false),
  (.own "MixedLattices", .own "InUse", false),
  (.own "MixedLattices", .own "UnknownValue", false),
  (.own "MixedLattices", .own "UnknownState", false),
  (.own "MixedLattices", .own "UnboundName", false),
  (.own "MixedLattices", .own "UnknownFormula", false),
  (.own "MixedLattices", .own "LatticeError", true),
  (.own "MixedLattices", .own "NameMissing", false),
  (.own "MixedLattices", .blt "ValueError", true),
  (.own "MixedLattices", .blt "LookupError", false),
  (.own "MixedLattices", .blt "KeyError", false),
  (.own "MixedLattices", .blt "IndexError", false),
  (.own "BadMap", .own "BadLattice", false),
  (.own "BadMap", .own "MixedLattices", false),
  (.own "BadMap", .own "BadMap", true),
  (.own "BadMap", .own "BadText", false),
  (.own "BadMap", .own "BadName", false),
  (.own "BadMap", .own "TwiceTold", false),
  (.own "BadMap", .own "NotIrreducible", false),
  (.own "BadMap", .own "InUse", false),
  (.own "BadMap", .own "UnknownValue", false),
  (.own "BadMap", .own "UnknownState", false),
  (.own "BadMap", .own "UnboundName", false),
  (.own "BadMap", .own "UnknownFormula", false),
  (.own "BadMap", .own "LatticeError", true),
  (.own "BadMap", .own "NameMissing", false),
  (.own "BadMap", .blt "ValueError", true),
  (.own "BadMap", .blt "LookupError", false),
  (.own "BadMap", .blt "KeyError", false),
  (.own "BadMap", .blt "IndexError", false),
  (.own "BadText", .own "BadLattice", false),
  (.own "BadText", .own "MixedLattices", false),
  (.own "BadText", .own "BadMap", false),
  (.own "BadText", .own "BadText", true),
  (.own "BadText", .own "BadName", false),
  (.own "BadText", .own "TwiceTold", false),
  (.own "BadText", .own "NotIrreducible", false),
  (.own "BadText", .own "InUse", false),
  (.own "BadText", .own "UnknownValue", false),
  (.own "BadText", .own "UnknownState", false),
  (.own "BadText", .own "UnboundName", false),
  (.own "BadText", .own "UnknownFormula", false),
  (.own "BadText", .own "LatticeError", true),
  (.own "BadText", .own "NameMissing", false),
  (.own "BadText", .blt "ValueError", true),
  (.own "BadText", .blt "LookupError", false),
  (.own "BadText", .blt "KeyError", false),
  (.own "BadText", .blt "IndexError", false),
  (.own "BadName", .own "BadLattice", false),
  (.own "BadName", .own "MixedLattices", false),
  (.own "BadName", .own "BadMap", false),
  (.own "BadName", .own "BadText", false),
  (.own "BadName", .own "BadName", true),
  (.own "BadName", .own "TwiceTold", false),
  (.own "BadName", .own "NotIrreducible", false),
  (.own "BadName", .own "InUse", false),
  (.own "BadName", .own "UnknownValue", false),
  (.own "BadName", .own "UnknownState", false),
  (.own "BadName", .own "UnboundName", false),
  (.own "BadName", .own "UnknownFormula", false),
  (.own "BadName", .own "LatticeError", true),
  (.own "BadName", .own "NameMissing", false),
  (.own "BadName", .blt "ValueError", true),
  (.own "BadName", .blt "LookupError", false),
  (.own "BadName", .blt "KeyError", false),
  (.own "BadName", .blt "IndexError", false),
  (.own "TwiceTold", .own "BadLattice", false),
  (.own "TwiceTold", .own "MixedLattices", false),
  (.own "TwiceTold", .own "BadMap", false),
  (.own "TwiceTold", .own "BadText", false),
  (.own "TwiceTold", .own "BadName", false),
  (.own "TwiceTold", .own "TwiceTold", true),
  (.own "TwiceTold", .own "NotIrreducible", false),
  (.own "TwiceTold", .own "InUse", false),
  (.own "TwiceTold", .own "UnknownValue", false),
  (.own "TwiceTold", .own "UnknownState", false),
  (.own "TwiceTold", .own "UnboundName", false),
  (.own "TwiceTold", .own "UnknownFormula", false),
  (.own "TwiceTold", .own "LatticeError", true),
  (.own "TwiceTold", .own "NameMissing", false),
  (.own "TwiceTold", .blt "ValueError", true),
  (.own "TwiceTold", .blt "LookupError", false),
  (.own "TwiceTold", .blt "KeyError", false),
  (.own "TwiceTold", .blt "IndexError", false),
  (.own "NotIrreducible", .own "BadLattice", false),
  (.own "NotIrreducible", .own "MixedLattices", false),
  (.own "NotIrreducible", .own "BadMap", false),
  (.own "NotIrreducible", .own "BadText", false),
  (.own "NotIrreducible", .own "BadName", false),
  (.own "NotIrreducible", .own "TwiceTold", false),
  (.own "NotIrreducible", .own "NotIrreducible", true),
  (.own "NotIrreducible", .own "InUse", false),
  (.own "NotIrreducible", .own "UnknownValue", false),
  (.own "NotIrreducible", .own "UnknownState", false),
  (.own "NotIrreducible", .own "UnboundName", false),
  (.own "NotIrreducible", .own "UnknownFormula", false),
  (.own "NotIrreducible", .own "LatticeError", true),
  (.own "NotIrreducible", .own "NameMissing", false),
  (.own "NotIrreducible", .blt "ValueError", true),
  (.own "NotIrreducible", .blt "LookupError", false),
  (.own "NotIrreducible", .blt "KeyError", false),
  (.own "NotIrreducible", .blt "IndexError", false),
  (.own "InUse", .own "BadLattice", false),
  (.own "InUse", .own "MixedLattices", false),
  (.own "InUse", .own "BadMap", false),
  (.own "InUse", .own "BadText", false),
  (.own "InUse", .own "BadName", false),
  (.own "InUse", .own "TwiceTold", false),
  (.own "InUse", .own "NotIrreducible", false),
  (.own "InUse", .own "InUse", true),
  (.own "InUse", .own "UnknownValue", false),
  (.own "InUse", .own "UnknownState", false),
  (.own "InUse", .own "UnboundName", false),
  (.own "InUse", .own "UnknownFormula", false),
  (.own "InUse", .own "LatticeError", true),
  (.own "InUse", .own "NameMissing", false),
  (.own "InUse", .blt "ValueError", true),
  (.own "InUse", .blt "LookupError", false),
  (.own "InUse", .blt "KeyError", false),
  (.own "InUse", .blt "IndexError", false),
  (.own "UnknownValue", .own "BadLattice", false),
  (.own "UnknownValue", .own "MixedLattices", false),
  (.own "UnknownValue", .own "BadMap", false),
  (.own "UnknownValue", .own "BadText", false),
  (.own "UnknownValue", .own "BadName", false),
  (.own "UnknownValue", .own "TwiceTold", false),
  (.own "UnknownValue", .own "NotIrreducible", false),
  (.own "UnknownValue", .own "InUse", false),
  (.own "UnknownValue", .own "UnknownValue", true),
  (.own "UnknownValue", .own "UnknownState", false),
  (.own "UnknownValue", .own "UnboundName", false),
  (.own "UnknownValue", .own "UnknownFormula", false),
  (.own "UnknownValue", .own "LatticeError", false),
  (.own "UnknownValue", .own "NameMissing", true),
  (.own "UnknownValue", .blt "ValueError", false),
  (.own "UnknownValue", .blt "LookupError", true),
  (.own "UnknownValue", .blt "KeyError", false),
  (.own "UnknownValue", .blt "IndexError", false),
  (.own "UnknownState", .own "BadLattice", false),
  (.own "UnknownState", .own "MixedLattices", false),
  (.own "UnknownState", .own "BadMap", false),
  (.own "UnknownState", .own "BadText", false),
  (.own "UnknownState", .own "BadName", false),
  (.own "UnknownState", .own "TwiceTold", false),
  (.own "UnknownState", .own "NotIrreducible", false),
  (.own "UnknownState", .own "InUse", false),
  (.own "UnknownState", .own "UnknownValue", false),
  (.own "UnknownState", .own "UnknownState", true),
  (.own "UnknownState", .own "UnboundName", false),
  (.own "UnknownState", .own "UnknownFormula", false),
  (.own "UnknownState", .own "LatticeError", false),
  (.own "UnknownState", .own "NameMissing", true),
  (.own "UnknownState", .blt "ValueError", false),
  (.own "UnknownState", .blt "LookupError", true),
  (.own "UnknownState", .blt "KeyError", false),
  (.own "UnknownState", .blt "IndexError", false),
  (.own "UnboundName", .own "BadLattice", false),
  (.own "UnboundName", .own "MixedLattices", false),
  (.own "UnboundName", .own "BadMap", false),
  (.own "UnboundName", .own "BadText", false),
  (.own "UnboundName", .own "BadName", false),
  (.own "UnboundName", .own "TwiceTold", false),
  (.own "UnboundName", .own "NotIrreducible", false),
  (.own "UnboundName", .own "InUse", false),
  (.own "UnboundName", .own "UnknownValue", false),
  (.own "UnboundName", .own "UnknownState", false),
  (.own "UnboundName", .own "UnboundName", true),
  (.own "UnboundName", .own "UnknownFormula", false),
  (.own "UnboundName", .own "LatticeError", false),
  (.own "UnboundName", .own "NameMissing", true),
  (.own "UnboundName", .blt "ValueError", false),
  (.own "UnboundName", .blt "LookupError", true),
  (.own "UnboundName", .blt "KeyError", false),
  (.own "UnboundName", .blt "IndexError", false),
  (.own "UnknownFormula", .own "BadLattice", false),
  (.own "UnknownFormula", .own "MixedLattices", false),
  (.own "UnknownFormula", .own "BadMap", false),
  (.own "UnknownFormula", .own "BadText", false),
  (.own "UnknownFormula", .own "BadName", false),
  (.own "UnknownFormula", .own "TwiceTold", false),
  (.own "UnknownFormula", .own "NotIrreducible", false),
  (.own "UnknownFormula", .own "InUse", false),
  (.own "UnknownFormula", .own "UnknownValue", false),
  (.own "UnknownFormula", .own "UnknownState", false),
  (.own "UnknownFormula", .own "UnboundName", false),
  (.own "UnknownFormula", .own "UnknownFormula", true),
  (.own "UnknownFormula", .own "LatticeError", false),
  (.own "UnknownFormula", .own "NameMissing", true),
  (.own "UnknownFormula", .blt "ValueError", false),
  (.own "UnknownFormula", .blt "LookupError", true),
  (.own "UnknownFormula", .blt "KeyError", false),
  (.own "UnknownFormula", .blt "IndexError", false)]
def isTab : XC → XC → Option Bool := tabOf isTab0
def xfl : List (Str × Str) := [("BadText", "at"), ("BadName", "name"), ("TwiceTold", "name"), ("NotIrreducible", "name"), ("InUse", "name"), ("UnknownValue", "name"), ("UnknownState", "name"), ("UnboundName", "name"), ("UnknownFormula", "name")]
def xfldB (C f : Str) : Bool := decide ((C, f) ∈ xfl)
def ex1 (K : PySem.W.Frag) : Bool := tabB K excB [] isTab0
def ex2 (K : PySem.W.Frag) : Bool := xfl.all fun p => xfB1 K p.1 p.2
def ex3 (K : PySem.W.Frag) : Bool := eqO (PySem.W.nsIn K cStatics "thirdparty.any") (some none)
def x_BadText (K : PySem.W.Frag) : Bool := xiB K (ga K "BadText") "at" "ValueError" "ValueError.__new__" "ValueError.__init__" veBase && (PySem.W.clsIn K (ga K "BadText")).isSome
def x_BadName (K : PySem.W.Frag) : Bool := xiB K (ga K "BadName") "name" "ValueError" "ValueError.__new__" "ValueError.__init__" veBase && (PySem.W.clsIn K (ga K "BadName")).isSome
def x_TwiceTold (K : PySem.W.Frag) : Bool := xiB K (ga K "TwiceTold") "name" "ValueError" "ValueError.__new__" "ValueError.__init__" veBase && (PySem.W.clsIn K (ga K "TwiceTold")).isSome
def x_NotIrreducible (K : PySem.W.Frag) : Bool := xiB K (ga K "NotIrreducible") "name" "ValueError" "ValueError.__new__" "ValueError.__init__" veBase && (PySem.W.clsIn K (ga K "NotIrreducible")).isSome
def x_InUse (K : PySem.W.Frag) : Bool := xiB K (ga K "InUse") "name" "ValueError" "ValueError.__new__" "ValueError.__init__" veBase && (PySem.W.clsIn K (ga K "InUse")).isSome
def x_UnknownValue (K : PySem.W.Frag) : Bool := xiB K (ga K "UnknownValue") "name" "LookupError" "LookupError.__new__" "LookupError.__init__" [.type "LookupError", .type "Exception", .type "BaseException", .type "object"] && (PySem.W.clsIn K (ga K "UnknownValue")).isSome
def x_UnknownState (K : PySem.W.Frag) : Bool := xiB K (ga K "UnknownState") "name" "LookupError" "LookupError.__new__" "LookupError.__init__" [.type "LookupError", .type "Exception", .type "BaseException", .type "object"] && (PySem.W.clsIn K (ga K "UnknownState")).isSome
def x_UnboundName (K : PySem.W.Frag) : Bool := xiB K (ga K "UnboundName") "name" "LookupError" "LookupError.__new__" "LookupError.__init__" [.type "LookupError", .type "Exception", .type "BaseException", .type "object"] && (PySem.W.clsIn K (ga K "UnboundName")).isSome
def x_UnknownFormula (K : PySem.W.Frag) : Bool := xiB K (ga K "UnknownFormula") "name" "LookupError" "LookupError.__new__" "LookupError.__init__" [.type "LookupError", .type "Exception", .type "BaseException", .type "object"] && (PySem.W.clsIn K (ga K "UnknownFormula")).isSome
def ex (K : PySem.W.Frag) : Bool := ex1 K && (ex2 K && (ex3 K && (x_BadText K && (x_BadName K && (x_TwiceTold K && (x_NotIrreducible K && (x_InUse K && (x_UnknownValue K && (x_UnknownState K && (x_UnboundName K && (x_UnknownFormula K)))))))))))
abbrev Says (K : PySem.W.Frag) : Prop := SaysZ fa fn sn file ex K
section
variable {h : Heap} {K : PySem.W.Frag} {mg : Str → Option Value} {base : Heap} {w : World}
theorem exs (c : Says K) : ex1 K = true ∧ ex2 K = true ∧ ex3 K = true ∧ x_BadText K = true ∧ x_BadName K = true ∧ x_TwiceTold K = true ∧ x_NotIrreducible K = true ∧ x_InUse K = true ∧ x_UnknownValue K = true ∧ x_UnknownState K = true ∧ x_UnboundName K = true ∧ x_UnknownFormula K = true := by
  have h := c.more
  obtain ⟨h1, h⟩ := ba h
  obtain ⟨h2, h⟩ := ba h
  obtain ⟨h3, h⟩ := ba h
  obtain ⟨k0, h⟩ := ba h
  obtain ⟨k1, h⟩ := ba h
  obtain ⟨k2, h⟩ := ba h
  obtain ⟨k3, h⟩ := ba h
  obtain ⟨k4, h⟩ := ba h
  obtain ⟨k5, h⟩ := ba h
  obtain ⟨k6, h⟩ := ba h
  obtain ⟨k7, h⟩ := ba h
  exact ⟨h1, h2, h3, k0, k1, k2, k3, k4, k5, k6, k7, h⟩
theorem isTab_ok (c : Says K) : IsOk K excB isTab := tab_ok (exs c).1
theorem xfldB_ok (c : Says K) : ∀ C f, xfldB C f = true → XfOk K C f := xf_ok (exs c).2.1
theorem mk0_BadLattice (KX : K.In h) (G : h.Ns mainGlobals mg) (c : Says K) {X : Cx} (hK : X.K = K := by rfl) (hM : X.mg = mg := by rfl) : Mk0 X "BadLattice" := mk0_of hK (c.d.fact 27 rfl) (by rw [hM]; exact glo_ok KX G (c.d.fact 5 rfl))
theorem mk0_MixedLattices (KX : K.In h) (G : h.Ns mainGlobals mg) (c : Says K) {X : Cx} (hK : X.K = K := by rfl) (hM : X.mg = mg := by rfl) : Mk0 X "MixedLattices" := mk0_of hK (c.d.fact 28 rfl) (by rw [hM]; exact glo_ok KX G (c.d.fact 7 rfl))
theorem mk0_BadMap (KX : K.In h) (G : h.Ns mainGlobals mg) (c : Says K) {X : Cx} (hK : X.K = K := by rfl) (hM : X.mg = mg := by rfl) : Mk0 X "BadMap" := mk0_of hK (c.d.fact 29 rfl) (by rw [hM]; exact glo_ok KX G (c.d.fact 8 rfl))
theorem sc_BadText : ScopeS ["self", "at"] ["self", "at"] (defScope s_BadText) := ⟨rfl, rfl, rfl, by decide +kernel, rfl, by decide +kernel, by decide +kernel, by decide +kernel⟩
theorem mkX_BadText (KX : K.In h) (G : h.Ns mainGlobals mg) (c : Says K) {X : Cx} (hK : X.K = K := by rfl) (hM : X.mg = mg := by rfl) (hP : X.prog = P := by rfl) : MkX X "BadText" "at" := by
  subst hK hM
  obtain ⟨fd, S⟩ := c.sup 0 (d := u_BadText) rfl
  obtain ⟨a, b⟩ := ba (show (xiB X.K (ga X.K "BadText") "at" "ValueError" "ValueError.__new__" "ValueError.__init__" veBase && (PySem.W.clsIn X.K (ga X.K "BadText")).isSome) = true from (exs c).2.2.2.1)
  exact mkX_of (xiB_ok PySem.F.excBase_ValueError PySem.F.store_ValueError PySem.W.kxs_ValueError a) S rfl rfl (glo_ok KX G (c.d.fact 9 rfl)) sc_BadText rfl rfl rfl rfl rfl (by rw [hP]; decide +kernel) (Option.isSome_iff_exists.mp b) (free_ok KX G (c.d.fact 30 rfl)) (by rw [hP]; decide +kernel) (eqO_ok (exs c).2.2.1) (by decide) (by decide) (by decide +kernel)
    fun _ _ _ _ _ _ _ us hl => match us, hl with | [_, _], _ => rfl
theorem sc_BadName : ScopeS ["self", "name"] ["self", "name"] (defScope s_BadName) := ⟨rfl, rfl, rfl, by decide +kernel, rfl, by decide +kernel, by decide +kernel, by decide +kernel⟩
theorem mkX_BadName (KX : K.In h) (G : h.Ns mainGlobals mg) (c : Says K) {X : Cx} (hK : X.K = K := by rfl) (hM : X.mg = mg := by rfl) (hP : X.prog = P := by rfl) : MkX X "BadName" "name" := by
  subst hK hM
  obtain ⟨fd, S⟩ := c.sup 1 (d := u_BadName) rfl
  obtain ⟨a, b⟩ := ba (show (xiB X.K (ga X.K "BadName") "name" "ValueError" "ValueError.__new__" "ValueError.__init__" veBase && (PySem.W.clsIn X.K (ga X.K "BadName")).isSome) = true from (exs c).2.2.2.2.1)
  exact mkX_of (xiB_ok PySem.F.excBase_ValueError PySem.F.store_ValueError PySem.W.kxs_ValueError a) S rfl rfl (glo_ok KX G (c.d.fact 10 rfl)) sc_BadName rfl rfl rfl rfl rfl (by rw [hP]; decide +kernel) (Option.isSome_iff_exists.mp b) (free_ok KX G (c.d.fact 30 rfl)) (by rw [hP]; decide +kernel) (eqO_ok (exs c).2.2.1) (by decide) (by decide) (by decide +kernel)
    fun _ _ _ _ _ _ _ us hl => match us, hl with | [_, _], _ => rfl
theorem sc_TwiceTold : ScopeS ["self", "name"] ["self", "name"] (defScope s_TwiceTold) := ⟨rfl, rfl, rfl, by decide +kernel, rfl, by decide +kernel, by decide +kernel, by decide +kernel⟩
theorem mkX_TwiceTold (KX : K.In h) (G : h.Ns mainGlobals mg) (c : Says K) {X : Cx} (hK : X.K = K := by rfl) (hM : X.mg = mg := by rfl) (hP : X.prog = P := by rfl) : MkX X "TwiceTold" "name" := by
  subst hK hM
  obtain ⟨fd, S⟩ := c.sup 2 (d := u_TwiceTold) rfl
  obtain ⟨a, b⟩ := ba (show (xiB X.K (ga X.K "TwiceTold") "name" "ValueError" "ValueError.__new__" "ValueError.__init__" veBase && (PySem.W.clsIn X.K (ga X.K "TwiceTold")).isSome) = true from (exs c).2.2.2.2.2.1)
  exact mkX_of (xiB_ok PySem.F.excBase_ValueError PySem.F.store_ValueError PySem.W.kxs_ValueError a) S rfl rfl (glo_ok KX G (c.d.fact 11 rfl)) sc_TwiceTold rfl rfl rfl rfl rfl (by rw [hP]; decide +kernel) (Option.isSome_iff_exists.mp b) (free_ok KX G (c.d.fact 30 rfl)) (by rw [hP]; decide +kernel) (eqO_ok (exs c).2.2.1) (by decide) (by decide) (by decide +kernel)
    fun _ _ _ _ _ _ _ us hl => match us, hl with | [_, _], _ => rfl
theorem sc_NotIrreducible : ScopeS ["self", "name"] ["self", "name"] (defScope s_NotIrreducible) := ⟨rfl, rfl, rfl, by decide +kernel, rfl, by decide +kernel, by decide +kernel, by decide +kernel⟩
theorem mkX_NotIrreducible (KX : K.In h) (G : h.Ns mainGlobals mg) (c : Says K) {X : Cx} (hK : X.K = K := by rfl) (hM : X.mg = mg := by rfl) (hP : X.prog = P := by rfl) : MkX X "NotIrreducible" "name" := by
  subst hK hM
  obtain ⟨fd, S⟩ := c.sup 3 (d := u_NotIrreducible) rfl
  obtain ⟨a, b⟩ := ba (show (xiB X.K (ga X.K "NotIrreducible") "name" "ValueError" "ValueError.__new__" "ValueError.__init__" veBase && (PySem.W.clsIn X.K (ga X.K "NotIrreducible")).isSome) = true from (exs c).2.2.2.2.2.2.1)
  exact mkX_of (xiB_ok PySem.F.excBase_ValueError PySem.F.store_ValueError PySem.W.kxs_ValueError a) S rfl rfl (glo_ok KX G (c.d.fact 12 rfl)) sc_NotIrreducible rfl rfl rfl rfl rfl (by rw [hP]; decide +kernel) (Option.isSome_iff_exists.mp b) (free_ok KX G (c.d.fact 30 rfl)) (by rw [hP]; decide +kernel) (eqO_ok (exs c).2.2.1) (by decide) (by decide) (by decide +kernel)
    fun _ _ _ _ _ _ _ us hl => match us, hl with | [_, _], _ => rfl
theorem sc_InUse : ScopeS ["self", "name"] ["self", "name"] (defScope s_InUse) := ⟨rfl, rfl, rfl, by decide +kernel, rfl, by decide +kernel, by decide +kernel, by decide +kernel⟩
theorem mkX_InUse (KX : K.In h) (G : h.Ns mainGlobals mg) (c : Says K) {X : Cx} (hK : X.K = K := by rfl) (hM : X.mg = mg := by rfl) (hP : X.prog = P := by rfl) : MkX X "InUse" "name" := by
  subst hK hM
  obtain ⟨fd, S⟩ := c.sup 4 (d := u_InUse) rfl
  obtain ⟨a, b⟩ := ba (show (xiB X.K (ga X.K "InUse") "name" "ValueError" "ValueError.__new__" "ValueError.__init__" veBase && (PySem.W.clsIn X.K (ga X.K "InUse")).isSome) = true from (exs c).2.2.2.2.2.2.2.1)
  exact mkX_of (xiB_ok PySem.F.excBase_ValueError PySem.F.store_ValueError PySem.W.kxs_ValueError a) S rfl rfl (glo_ok KX G (c.d.fact 13 rfl)) sc_InUse rfl rfl rfl rfl rfl (by rw [hP]; decide +kernel) (Option.isSome_iff_exists.mp b) (free_ok KX G (c.d.fact 30 rfl)) (by rw [hP]; decide +kernel) (eqO_ok (exs c).2.2.1) (by decide) (by decide) (by decide +kernel)
    fun _ _ _ _ _ _ _ us hl => match us, hl with | [_, _], _ => rfl
theorem sc_UnknownValue : ScopeS ["self", "name"] ["self", "name"] (defScope s_UnknownValue) := ⟨rfl, rfl, rfl, by decide +kernel, rfl, by decide +kernel, by decide +kernel, by decide +kernel⟩
theorem mkX_UnknownValue (KX : K.In h) (G : h.Ns mainGlobals mg) (c : Says K) {X : Cx} (hK : X.K = K := by rfl) (hM : X.mg = mg := by rfl) (hP : X.prog = P := by rfl) : MkX X "UnknownValue" "name" := by
  subst hK hM
  obtain ⟨fd, S⟩ := c.sup 5 (d := u_UnknownValue) rfl
  obtain ⟨a, b⟩ := ba (show (xiB X.K (ga X.K "UnknownValue") "name" "LookupError" "LookupError.__new__" "LookupError.__init__" [.type "LookupError", .type "Exception", .type "BaseException", .type "object"] && (PySem.W.clsIn X.K (ga X.K "UnknownValue")).isSome) = true from (exs c).2.2.2.2.2.2.2.2.1)
  exact mkX_of (xiB_ok PySem.F.excBase_LookupError PySem.F.store_LookupError PySem.W.kxs_LookupError a) S rfl rfl (glo_ok KX G (c.d.fact 14 rfl)) sc_UnknownValue rfl rfl rfl rfl rfl (by rw [hP]; decide +kernel) (Option.isSome_iff_exists.mp b) (free_ok KX G (c.d.fact 30 rfl)) (by rw [hP]; decide +kernel) (eqO_ok (exs c).2.2.1) (by decide) (by decide) (by decide +kernel)
    fun _ _ _ _ _ _ _ us hl => match us, hl with | [_, _], _ => rfl
theorem sc_UnknownState : ScopeS ["self", "name"] ["self", "name"] (defScope s_UnknownState) := ⟨rfl, rfl, rfl, by decide +kernel, rfl, by decide +kernel, by decide +kernel, by decide +kernel⟩
theorem mkX_UnknownState (KX : K.In h) (G : h.Ns mainGlobals mg) (c : Says K) {X : Cx} (hK : X.K = K := by rfl) (hM : X.mg = mg := by rfl) (hP : X.prog = P := by rfl) : MkX X "UnknownState" "name" := by
  subst hK hM
  obtain ⟨fd, S⟩ := c.sup 6 (d := u_UnknownState) rfl
  obtain ⟨a, b⟩ := ba (show (xiB X.K (ga X.K "UnknownState") "name" "LookupError" "LookupError.__new__" "LookupError.__init__" [.type "LookupError", .type "Exception", .type "BaseException", .type "object"] && (PySem.W.clsIn X.K (ga X.K "UnknownState")).isSome) = true from (exs c).2.2.2.2.2.2.2.2.2.1)
  exact mkX_of (xiB_ok PySem.F.excBase_LookupError PySem.F.store_LookupError PySem.W.kxs_LookupError a) S rfl rfl (glo_ok KX G (c.d.fact 15 rfl)) sc_UnknownState rfl rfl rfl rfl rfl (by rw [hP]; decide +kernel) (Option.isSome_iff_exists.mp b) (free_ok KX G (c.d.fact 30 rfl)) (by rw [hP]; decide +kernel) (eqO_ok (exs c).2.2.1) (by decide) (by decide) (by decide +kernel)
    fun _ _ _ _ _ _ _ us hl => match us, hl with | [_, _], _ => rfl
theorem sc_UnboundName : ScopeS ["self", "name"] ["self", "name"] (defScope s_UnboundName) := ⟨rfl, rfl, rfl, by decide +kernel, rfl, by decide +kernel, by decide +kernel, by decide +kernel⟩
theorem mkX_UnboundName (KX : K.In h) (G : h.Ns mainGlobals mg) (c : Says K) {X : Cx} (hK : X.K = K := by rfl) (hM : X.mg = mg := by rfl) (hP : X.prog = P := by rfl) : MkX X "UnboundName" "name" := by
  subst hK hM
  obtain ⟨fd, S⟩ := c.sup 7 (d := u_UnboundName) rfl
  obtain ⟨a, b⟩ := ba (show (xiB X.K (ga X.K "UnboundName") "name" "LookupError" "LookupError.__new__" "LookupError.__init__" [.type "LookupError", .type "Exception", .type "BaseException", .type "object"] && (PySem.W.clsIn X.K (ga X.K "UnboundName")).isSome) = true from (exs c).2.2.2.2.2.2.2.2.2.2.1)
  exact mkX_of (xiB_ok PySem.F.excBase_LookupError PySem.F.store_LookupError PySem.W.kxs_LookupError a) S rfl rfl (glo_ok KX G (c.d.fact 16 rfl)) sc_UnboundName rfl rfl rfl rfl rfl (by rw [hP]; decide +kernel) (Option.isSome_iff_exists.mp b) (free_ok KX G (c.d.fact 30 rfl)) (by rw [hP]; decide +kernel) (eqO_ok (exs c).2.2.1) (by decide) (by decide) (by decide +kernel)
    fun _ _ _ _ _ _ _ us hl => match us, hl with | [_, _], _ => rfl
theorem sc_UnknownFormula : ScopeS ["self", "name"] ["self", "name"] (defScope s_UnknownFormula) := ⟨rfl, rfl, rfl, by decide +kernel, rfl, by decide +kernel, by decide +kernel, by decide +kernel⟩
theorem mkX_UnknownFormula (KX : K.In h) (G : h.Ns mainGlobals mg) (c : Says K) {X : Cx} (hK : X.K = K := by rfl) (hM : X.mg = mg := by rfl) (hP : X.prog = P := by rfl) : MkX X "UnknownFormula" "name" := by
  subst hK hM
  obtain ⟨fd, S⟩ := c.sup 8 (d := u_UnknownFormula) rfl
  obtain ⟨a, b⟩ := ba (show (xiB X.K (ga X.K "UnknownFormula") "name" "LookupError" "LookupError.__new__" "LookupError.__init__" [.type "LookupError", .type "Exception", .type "BaseException", .type "object"] && (PySem.W.clsIn X.K (ga X.K "UnknownFormula")).isSome) = true from (exs c).2.2.2.2.2.2.2.2.2.2.2)
  exact mkX_of (xiB_ok PySem.F.excBase_LookupError PySem.F.store_LookupError PySem.W.kxs_LookupError a) S rfl rfl (glo_ok KX G (c.d.fact 17 rfl)) sc_UnknownFormula rfl rfl rfl rfl rfl (by rw [hP]; decide +kernel) (Option.isSome_iff_exists.mp b) (free_ok KX G (c.d.fact 30 rfl)) (by rw [hP]; decide +kernel) (eqO_ok (exs c).2.2.1) (by decide) (by decide) (by decide +kernel)
    fun _ _ _ _ _ _ _ us hl => match us, hl with | [_, _], _ => rfl
noncomputable def fd__law_cells (c : Says K) : FuncData := Classical.choose (c.d.def_ 0 (d := d__law_cells) rfl)
theorem D__law_cells (c : Says K) : FunD K "_law_cells" "_law_cells" (defArgs s__law_cells) (defBody s__law_cells) (defScope s__law_cells) [] [] (ga K "_law_cells") (fd__law_cells c) := Classical.choose_spec (c.d.def_ 0 (d := d__law_cells) rfl)
theorem kp__law_cells (c : Says K) : PySem.W.keepIn K (.ref (ga K "_law_cells")) = true := (D__law_cells c).kp
theorem bd__law_cells (c : Says K) : Binds K (fd__law_cells c) ["script"] [] := (D__law_cells c).bindsN fun _ _ _ _ _ _ us hl => match us, hl with | [_], _ => rfl
theorem sc__law_cells : FnScope ["script", "mixed", "cell"] ["script"] (defScope s__law_cells) := ⟨rfl, rfl, rfl, by decide +kernel, rfl, by decide +kernel, by decide +kernel⟩
def b__law_cells_0 : MS := (sSet 1 (rd (fun _ => some (.int 3))))
def b__law_cells_1 : MS := (sFor (mIter W.lstOf (rd (rSlot 0))) (tgName 2) (sSet 1 (rd (rBin W.mod (rBi W.toInt (rCons (rBin W.add (rBin W.add (rBin W.mul (rSlot 1) (fun _ => some (.int 16807))) (rBin W.mul (rSlot 2) (fun _ => some (.int 101)))) (fun _ => some (.int 11))) rNil)) (fun _ => some (.int 2147483563))))))
def b__law_cells_2 : MS := (sRetO (mLstO (mCons (mComp (mIter W.lstOf (rd (rSlot 0))) (tgName 2) (fun ε => .ok true ε) (rd (rBi W.absI (rCons (rSlot 2) rNil))) [2]) (mCons (rd (fun _ => some (.int 0))) (mCons (rd (fun _ => some (.int 1))) (mCons (rd (rSlot 1)) mNil))))))
def m__law_cells : MS :=
  (sSeq b__law_cells_0
  (sSeq b__law_cells_1
  b__law_cells_2))
def F__law_cells : Fn := fnM [false] 2 m__law_cells
theorem ok__law_cells (KX : K.In h) (G : h.Ns mainGlobals mg) (c : Says K) : FnOk P w K mg base (L2.CX P w) 1 (ga K "_law_cells") (fd__law_cells c) ["script"] (spF K F__law_cells) := by
  refine fnd_ok (D__law_cells c) sc__law_cells rfl rfl fun cdv A outer s H vs E hr => ?_
  have tk : Takes (cxOf (L2.CX P w) P w K mg base ["script", "mixed", "cell"] "_law_cells" (defScope s__law_cells) (ga K "_law_cells") cdv A outer s H E) (fun cls d _ H' => E cls d H') := takes_of rfl rfl rfl rfl
  exact (js_cons (ss 1 sc__law_cells.nd (JR.e ri))
  (js_cons (js_for (passes_of rfl) rfl (ji_list rfl (JR.e (rv 0))) (tgn 2 sc__law_cells.nd) (js_one (ss 1 sc__law_cells.nd (JR.e (jr_bin op_mod g_mod (jr_ty call_toInt g_toInt rfl (He.free_ok KX G (c.d.fact 0 rfl)) PyProof.Rows.boot_int (jra_cons rfl (jr_bin op_addG g_add (jr_bin op_addG g_add (jr_bin op_mulG g_mul (rv 1) ri) (jr_bin op_mulG g_mul (rv 2) ri)) ri) jra_nil) (by decide) rfl rfl rfl) ri)))) (fun _ => rfl))
  (js_one (js_retO (jo_lst (ja_cons rfl (je_lc (own := [("cell", 2)]) (is := [2]) rfl sc__law_cells.nd (ji_list rfl (JR.e (rv 0))) (blkOk_by (N := ["script", "mixed", "cell"]) (sc := defScope s__law_cells) (by decide +kernel)) (by decide) (fun _ _ _ _ _ => (tgn 2 sc__law_cells.nd)) (fun _ _ _ _ _ => jts_nil) (fun _ _ _ _ _ => (JR.e (jr_bi call_abs g_abs rfl (He.free_ok KX G (c.d.fact 1 rfl)) boot_abs (jra_cons rfl (rv 2) jra_nil) (by decide) rfl rfl rfl))) (fun _ => rfl)) (ja_cons rfl (JR.e ri) (ja_cons rfl (JR.e ri) (ja_cons rfl (JR.e (rv 1)) ja_nil)))))))))
noncomputable def fd__law_pick (c : Says K) : FuncData := Classical.choose (c.d.def_ 1 (d := d__law_pick) rfl)
theorem D__law_pick (c : Says K) : FunD K "_law_pick" "_law_pick" (defArgs s__law_pick) (defBody s__law_pick) (defScope s__law_pick) [] [] (ga K "_law_pick") (fd__law_pick c) := Classical.choose_spec (c.d.def_ 1 (d := d__law_pick) rfl)
theorem kp__law_pick (c : Says K) : PySem.W.keepIn K (.ref (ga K "_law_pick")) = true := (D__law_pick c).kp
theorem bd__law_pick (c : Says K) : Binds K (fd__law_pick c) ["source", "many"] [] := (D__law_pick c).bindsN fun _ _ _ _ _ _ us hl => match us, hl with | [_, _], _ => rfl
theorem sc__law_pick : FnScope ["source", "many", "digit", "number"] ["source", "many"] (defScope s__law_pick) := ⟨rfl, rfl, rfl, by decide +kernel, rfl, by decide +kernel, by decide +kernel⟩
def b__law_pick_0 : MS := (sIf (rd (rVal (rBin W.lt (rSlot 1) (fun _ => some (.int 2))))) (sRet (rd (fun _ => some (.int 0)))) .next)
def b__law_pick_1 : MS := (sWhile 100 (rd (rAnd (rVal (rBin W.lt (rPl (pIx (pSlot 0) (fun _ => some (.int 2)))) (fun _ => some (.int 2)))) (rVal (rBin W.lt (rPl (pIx (pSlot 0) (fun _ => some (.int 1)))) (bor (rBi W.len (rCons (rBin W.item (rSlot 0) (fun _ => some (.int 0))) rNil))))))) (sSeq (sPut (mFz (rd (rBin W.item (rPl (pIx (pSlot 0) (fun _ => some (.int 0)))) (rPl (pIx (pSlot 0) (fun _ => some (.int 1))))))) (pSlot 0) (fun _ => some (.int 2)))
  (sPut (mFz (rd (bor (rBin W.add (rBin W.item (rSlot 0) (fun _ => some (.int 1))) (fun _ => some (.int 1)))))) (pSlot 0) (fun _ => some (.int 1)))))
def b__law_pick_2 : MS := (sIf (rd (rVal (rBin W.gt (rPl (pIx (pSlot 0) (fun _ => some (.int 2)))) (fun _ => some (.int 1))))) (sSeq (sSet 2 (rd (bor (rBin W.mod (rBi W.toInt (rCons (rBin W.item (rSlot 0) (fun _ => some (.int 2))) rNil)) (rSlot 1)))))
  (sSeq (sPut (mFz (rd (bor (rBin W.fdiv (rBin W.item (rSlot 0) (fun _ => some (.int 2))) (rSlot 1))))) (pSlot 0) (fun _ => some (.int 2)))
  (sRet (rd (rSlot 2))))) .next)
def b__law_pick_3 : MS := (sPut (mFz (rd (bor (rBin W.mod (rBi W.toInt (rCons (rBin W.add (rBin W.mul (rBin W.item (rSlot 0) (fun _ => some (.int 3))) (fun _ => some (.int 40014))) (fun _ => some (.int 12345))) rNil)) (fun _ => some (.int 2147483563)))))) (pSlot 0) (fun _ => some (.int 3)))
def b__law_pick_4 : MS := (sSet 3 (rd (bor (rBin W.fdiv (rBin W.item (rSlot 0) (fun _ => some (.int 3))) (fun _ => some (.int 7))))))
def b__law_pick_5 : MS := (sIf (rd (rVal (rBin W.gt (rSlot 1) (rBin W.pow (fun _ => some (.int 10)) (fun _ => some (.int 7)))))) (sSet 3 (rd (rBin W.pow (rSlot 3) (fun _ => some (.int 9))))) .next)
def b__law_pick_6 : MS := (sRet (rd (rBin W.mod (rBi W.toInt (rCons (rSlot 3) rNil)) (rSlot 1))))
def m__law_pick : MS :=
  (sSeq b__law_pick_0
  (sSeq b__law_pick_1
  (sSeq b__law_pick_2
  (sSeq b__law_pick_3
  (sSeq b__law_pick_4
  (sSeq b__law_pick_5
  b__law_pick_6))))))
def F__law_pick : Fn := fnM [true, false] 2 m__law_pick
theorem ok__law_pick (KX : K.In h) (G : h.Ns mainGlobals mg) (c : Says K) : FnOk P w K mg base (L2.CX P w) 1 (ga K "_law_pick") (fd__law_pick c) ["source", "many"] (spF K F__law_pick) := by
  refine fnd_ok (D__law_pick c) sc__law_pick rfl rfl fun cdv A outer s H vs E hr => ?_
  have tk : Takes (cxOf (L2.CX P w) P w K mg base ["source", "many", "digit", "number"] "_law_pick" (defScope s__law_pick) (ga K "_law_pick") cdv A outer s H E) (fun cls d _ H' => E cls d H') := takes_of rfl rfl rfl rfl
  exact (js_cons (js_if (JRT.e (jrt_cmp op_lt g_lt (rv 1) ri cmp_in)) (js_one (js_ret (JR.e ri))) js_nil)
  (js_cons (js_while (n := 100) (passes_of rfl) (JRT.e (PW.pt (jrp_and (jrt_cmp op_lt g_lt (jr_pl (jp_ix rfl (huL hr) (fun _ _ => rfl) (pvs 0) ri)) ri cmp_in) (jrp_and1 (jrt_cmp op_lt g_lt (jr_pl (jp_ix rfl (huL hr) (fun _ _ => rfl) (pvs 0) ri)) (je_bor (JR.e (jr_bi call_len g_len rfl (He.free_ok KX G (c.d.fact 3 rfl)) boot_len (jra_cons rfl (jr_item rfl (huL hr) (fun _ _ => rfl) (rv 0) ri) jra_nil) (by decide) rfl rfl rfl))) cmp_in))))) (js_cons (js_put (huL hr) (je_jo (JR.e (jr_item rfl (huL hr) (fun _ _ => rfl) (jr_pl (jp_ix rfl (huL hr) (fun _ _ => rfl) (pvs 0) ri)) (jr_pl (jp_ix rfl (huL hr) (fun _ _ => rfl) (pvs 0) ri))))) (pvs 0) ri (fun _ => rfl) rfl rfl rfl)
  (js_one (js_put (huL hr) (je_jo (JR.e (je_bor (JR.e (jr_bin op_addG g_add (jr_item rfl (huL hr) (fun _ _ => rfl) (rv 0) ri) ri))))) (pvs 0) ri (fun _ => rfl) rfl rfl rfl))))
  (js_cons (js_if (JRT.e (jrt_cmp op_gt g_gt (jr_pl (jp_ix rfl (huL hr) (fun _ _ => rfl) (pvs 0) ri)) ri cmp_in)) (js_cons (ss 2 sc__law_pick.nd (JR.e (je_bor (JR.e (jr_bin op_mod g_mod (jr_ty call_toInt g_toInt rfl (He.free_ok KX G (c.d.fact 0 rfl)) PyProof.Rows.boot_int (jra_cons rfl (jr_item rfl (huL hr) (fun _ _ => rfl) (rv 0) ri) jra_nil) (by decide) rfl rfl rfl) (rv 1))))))
  (js_cons (js_put (huL hr) (je_jo (JR.e (je_bor (JR.e (jr_bin op_fdivW g_fdiv (jr_item rfl (huL hr) (fun _ _ => rfl) (rv 0) ri) (rv 1)))))) (pvs 0) ri (fun _ => rfl) rfl rfl rfl)
  (js_one (js_ret (JR.e (rv 2)))))) js_nil)
  (js_cons (js_put (huL hr) (je_jo (JR.e (je_bor (JR.e (jr_bin op_mod g_mod (jr_ty call_toInt g_toInt rfl (He.free_ok KX G (c.d.fact 0 rfl)) PyProof.Rows.boot_int (jra_cons rfl (jr_bin op_addG g_add (jr_bin op_mulG g_mul (jr_item rfl (huL hr) (fun _ _ => rfl) (rv 0) ri) ri) ri) jra_nil) (by decide) rfl rfl rfl) ri))))) (pvs 0) ri (fun _ => rfl) rfl rfl rfl)
  (js_cons (ss 3 sc__law_pick.nd (JR.e (je_bor (JR.e (jr_bin op_fdivW g_fdiv (jr_item rfl (huL hr) (fun _ _ => rfl) (rv 0) ri) ri)))))
  (js_cons (js_if (JRT.e (jrt_cmp op_gt g_gt (rv 1) (jr_bin op_pow g_pow ri ri) cmp_in)) (js_one (ss 3 sc__law_pick.nd (JR.e (jr_bin op_pow g_pow (rv 3) ri)))) js_nil)
  (js_one (js_ret (JR.e (jr_bin op_mod g_mod (jr_ty call_toInt g_toInt rfl (He.free_ok KX G (c.d.fact 0 rfl)) PyProof.Rows.boot_int (jra_cons rfl (rv 3) jra_nil) (by decide) rfl rfl rfl) (rv 1)))))))))))
noncomputable def fd__law_classes (c : Says K) : FuncData := Classical.choose (c.d.def_ 2 (d := d__law_classes) rfl)
theorem D__law_classes (c : Says K) : FunD K "_law_classes" "_law_classes" (defArgs s__law_classes) (defBody s__law_classes) (defScope s__law_classes) [] [] (ga K "_law_classes") (fd__law_classes c) := Classical.choose_spec (c.d.def_ 2 (d := d__law_classes) rfl)
theorem kp__law_classes (c : Says K) : PySem.W.keepIn K (.ref (ga K "_law_classes")) = true := (D__law_classes c).kp
theorem bd__law_classes (c : Says K) : Binds K (fd__law_classes c) ["e"] [] := (D__law_classes c).bindsN fun _ _ _ _ _ _ us hl => match us, hl with | [_], _ => rfl
theorem sc__law_classes : FnScope ["e", "found"] ["e"] (defScope s__law_classes) := ⟨rfl, rfl, rfl, by decide +kernel, rfl, by decide +kernel, by decide +kernel⟩
def b__law_classes_0 : MS := (sSet 1 (rd (rLst (rCons (rBi (isInst excB isTab) (rCons (rSlot 0) (rCons (fun _ => some (.gl "BadLattice")) rNil))) (rCons (rBi (isInst excB isTab) (rCons (rSlot 0) (rCons (fun _ => some (.gl "MixedLattices")) rNil))) (rCons (rBi (isInst excB isTab) (rCons (rSlot 0) (rCons (fun _ => some (.gl "BadMap")) rNil))) (rCons (rBi (isInst excB isTab) (rCons (rSlot 0) (rCons (fun _ => some (.gl "BadText")) rNil))) rNil)))))))
def b__law_classes_1 : MS := (sSet 1 (rd (rBin W.add (rSlot 1) (rLst (rCons (rBi (isInst excB isTab) (rCons (rSlot 0) (rCons (fun _ => some (.gl "BadName")) rNil))) (rCons (rBi (isInst excB isTab) (rCons (rSlot 0) (rCons (fun _ => some (.gl "TwiceTold")) rNil))) (rCons (rBi (isInst excB isTab) (rCons (rSlot 0) (rCons (fun _ => some (.gl "NotIrreducible")) rNil))) rNil)))))))
def b__law_classes_2 : MS := (sSet 1 (rd (rBin W.add (rSlot 1) (rLst (rCons (rBi (isInst excB isTab) (rCons (rSlot 0) (rCons (fun _ => some (.gl "InUse")) rNil))) (rCons (rBi (isInst excB isTab) (rCons (rSlot 0) (rCons (fun _ => some (.gl "UnknownValue")) rNil))) (rCons (rBi (isInst excB isTab) (rCons (rSlot 0) (rCons (fun _ => some (.gl "UnknownState")) rNil))) rNil)))))))
def b__law_classes_3 : MS := (sRet (rd (rBin W.add (rSlot 1) (rLst (rCons (rBi (isInst excB isTab) (rCons (rSlot 0) (rCons (fun _ => some (.gl "UnboundName")) rNil))) (rCons (rBi (isInst excB isTab) (rCons (rSlot 0) (rCons (fun _ => some (.gl "UnknownFormula")) rNil))) rNil))))))
def m__law_classes : MS :=
  (sSeq b__law_classes_0
  (sSeq b__law_classes_1
  (sSeq b__law_classes_2
  b__law_classes_3)))
def F__law_classes : Fn := fnM [false] 1 m__law_classes
theorem ok__law_classes (KX : K.In h) (G : h.Ns mainGlobals mg) (c : Says K) : FnOk P w K mg base (L2.CX P w) 1 (ga K "_law_classes") (fd__law_classes c) ["e"] (spF K F__law_classes) := by
  refine fnd_ok (D__law_classes c) sc__law_classes rfl rfl fun cdv A outer s H vs E hr => ?_
  have tk : Takes (cxOf (L2.CX P w) P w K mg base ["e", "found"] "_law_classes" (defScope s__law_classes) (ga K "_law_classes") cdv A outer s H E) (fun cls d _ H' => E cls d H') := takes_of rfl rfl rfl rfl
  exact (js_cons (ss 1 sc__law_classes.nd (JR.e (jr_lst (jra_cons rfl (jr_is rfl (isTab_ok c) rfl (He.free_ok KX G (c.d.fact 6 rfl)) (jra_cons rfl (rv 0) (jra_cons rfl (jr_glo rfl rfl (He.glo_ok KX G (c.d.fact 5 rfl)) rfl) jra_nil)) rfl rfl) (jra_cons rfl (jr_is rfl (isTab_ok c) rfl (He.free_ok KX G (c.d.fact 6 rfl)) (jra_cons rfl (rv 0) (jra_cons rfl (jr_glo rfl rfl (He.glo_ok KX G (c.d.fact 7 rfl)) rfl) jra_nil)) rfl rfl) (jra_cons rfl (jr_is rfl (isTab_ok c) rfl (He.free_ok KX G (c.d.fact 6 rfl)) (jra_cons rfl (rv 0) (jra_cons rfl (jr_glo rfl rfl (He.glo_ok KX G (c.d.fact 8 rfl)) rfl) jra_nil)) rfl rfl) (jra_cons rfl (jr_is rfl (isTab_ok c) rfl (He.free_ok KX G (c.d.fact 6 rfl)) (jra_cons rfl (rv 0) (jra_cons rfl (jr_glo rfl rfl (He.glo_ok KX G (c.d.fact 9 rfl)) rfl) jra_nil)) rfl rfl) jra_nil)))))))
  (js_cons (ss 1 sc__law_classes.nd (JR.e (jr_bin op_addG g_add (rv 1) (jr_lst (jra_cons rfl (jr_is rfl (isTab_ok c) rfl (He.free_ok KX G (c.d.fact 6 rfl)) (jra_cons rfl (rv 0) (jra_cons rfl (jr_glo rfl rfl (He.glo_ok KX G (c.d.fact 10 rfl)) rfl) jra_nil)) rfl rfl) (jra_cons rfl (jr_is rfl (isTab_ok c) rfl (He.free_ok KX G (c.d.fact 6 rfl)) (jra_cons rfl (rv 0) (jra_cons rfl (jr_glo rfl rfl (He.glo_ok KX G (c.d.fact 11 rfl)) rfl) jra_nil)) rfl rfl) (jra_cons rfl (jr_is rfl (isTab_ok c) rfl (He.free_ok KX G (c.d.fact 6 rfl)) (jra_cons rfl (rv 0) (jra_cons rfl (jr_glo rfl rfl (He.glo_ok KX G (c.d.fact 12 rfl)) rfl) jra_nil)) rfl rfl) jra_nil)))))))
  (js_cons (ss 1 sc__law_classes.nd (JR.e (jr_bin op_addG g_add (rv 1) (jr_lst (jra_cons rfl (jr_is rfl (isTab_ok c) rfl (He.free_ok KX G (c.d.fact 6 rfl)) (jra_cons rfl (rv 0) (jra_cons rfl (jr_glo rfl rfl (He.glo_ok KX G (c.d.fact 13 rfl)) rfl) jra_nil)) rfl rfl) (jra_cons rfl (jr_is rfl (isTab_ok c) rfl (He.free_ok KX G (c.d.fact 6 rfl)) (jra_cons rfl (rv 0) (jra_cons rfl (jr_glo rfl rfl (He.glo_ok KX G (c.d.fact 14 rfl)) rfl) jra_nil)) rfl rfl) (jra_cons rfl (jr_is rfl (isTab_ok c) rfl (He.free_ok KX G (c.d.fact 6 rfl)) (jra_cons rfl (rv 0) (jra_cons rfl (jr_glo rfl rfl (He.glo_ok KX G (c.d.fact 15 rfl)) rfl) jra_nil)) rfl rfl) jra_nil)))))))
  (js_one (js_ret (JR.e (jr_bin op_addG g_add (rv 1) (jr_lst (jra_cons rfl (jr_is rfl (isTab_ok c) rfl (He.free_ok KX G (c.d.fact 6 rfl)) (jra_cons rfl (rv 0) (jra_cons rfl (jr_glo rfl rfl (He.glo_ok KX G (c.d.fact 16 rfl)) rfl) jra_nil)) rfl rfl) (jra_cons rfl (jr_is rfl (isTab_ok c) rfl (He.free_ok KX G (c.d.fact 6 rfl)) (jra_cons rfl (rv 0) (jra_cons rfl (jr_glo rfl rfl (He.glo_ok KX G (c.d.fact 17 rfl)) rfl) jra_nil)) rfl rfl) jra_nil))))))))))
noncomputable def fd_law (c : Says K) : FuncData := Classical.choose (c.d.def_ 3 (d := d_law) rfl)
theorem D_law (c : Says K) : FunD K "law" "law" (defArgs s_law) (defBody s_law) (defScope s_law) [] [] (ga K "law") (fd_law c) := Classical.choose_spec (c.d.def_ 3 (d := d_law) rfl)
theorem kp_law (c : Says K) : PySem.W.keepIn K (.ref (ga K "law")) = true := (D_law c).kp
theorem bd_law (c : Says K) : Binds K (fd_law c) ["script"] [] := (D_law c).bindsN fun _ _ _ _ _ _ us hl => match us, hl with | [_], _ => rfl
theorem sc_law : FnScope ["script", "state", "word", "count", "errors", "k", "bases", "j", "words"] ["script"] (defScope s_law) := ⟨rfl, rfl, rfl, by decide +kernel, rfl, by decide +kernel, by decide +kernel⟩
def b_law_0 : MS := (sSetO 1 (mCall F__law_cells (mCons (avFz (rd (rSlot 0))) mNil)))
def b_law_1 : MS := (sSet 2 (mBin W.item (rd (rLst (rCons (fun _ => some (.str "")) (rCons (fun _ => some (.str "p")) (rCons (fun _ => some (.str "no name")) (rCons (rBin W.mulS (fun _ => some (.str "x")) (fun _ => some (.int 40))) (rCons (fun _ => some (.str "01")) (rCons (fun _ => some (.str "A")) (rCons (fun _ => some (.str "a'b")) (rCons (fun _ => some (.str "(")) rNil)))))))))) (mFr (mCall F__law_pick (mCons (avIo 1 false) (mCons (avFz (rd (fun _ => some (.int 8)))) mNil))))))
def b_law_2 : MS := (sSet 3 (mBin W.sub (mFr (mCall F__law_pick (mCons (avIo 1 false) (mCons (avFz (rd (rBin W.pow (fun _ => some (.int 10)) (fun _ => some (.int 30))))) mNil)))) (mBin W.mul (mFr (mCall F__law_pick (mCons (avIo 1 false) (mCons (avFz (rd (fun _ => some (.int 2)))) mNil)))) (rd (rBin W.pow (fun _ => some (.int 10)) (fun _ => some (.int 30)))))))
def b_law_3 : MS := (sSetO 4 (mLstO (mCons (rd (fun _ => some (.exc "BadLattice" []))) (mCons (rd (fun _ => some (.exc "MixedLattices" []))) (mCons (rd (fun _ => some (.exc "BadMap" []))) (mCons (rd (rBi (W.mkX "BadText" "at") (rCons (rSlot 3) rNil))) (mCons (rd (rBi (W.mkX "BadName" "name") (rCons (rSlot 2) rNil))) (mCons (rd (rBi (W.mkX "TwiceTold" "name") (rCons (rSlot 2) rNil))) mNil))))))))
def b_law_4 : MS := (fun ε => (sSetO 4 (mCat (rd (rSlot 4)) (rd (rLst (rCons (rBi (W.mkX "NotIrreducible" "name") (rCons (rSlot 2) rNil)) (rCons (rBi (W.mkX "InUse" "name") (rCons (rSlot 2) rNil)) (rCons (rBi (W.mkX "UnknownValue" "name") (rCons (rSlot 2) rNil)) (rCons (rBi (W.mkX "UnknownState" "name") (rCons (rSlot 2) rNil)) (rCons (rBi (W.mkX "UnboundName" "name") (rCons (rSlot 2) rNil)) rNil))))))))) (frzSl 4 ε))
def b_law_5 : MS := (sExpr (mOf (mutE "list" (pSlot 4) (rCons (rBi (W.mkX "UnknownFormula" "name") (rCons (rSlot 2) rNil)) rNil) opAppend)))
def b_law_6 : MS := (fun ε => (sFor (mIter rng1 (mCons (rd (fun _ => some (.int 12))) mNil)) (tgName 5) (sSeq (sIf ((mBin W.ne (mFr (mCall F__law_classes (mCons (avFz (rd (rBin W.item (rSlot 4) (rSlot 5)))) mNil))) (mComp (mIter rng1 (mCons (rd (fun _ => some (.int 12))) mNil)) (tgName 7) (fun ε => .ok true ε) (rd (rBin W.eq (rSlot 7) (rSlot 5))) [7])).bind fun w => M3.lift (asB w)) (sRet (rd (fun _ => some (.bl false)))) .next)
  (sSeq (sSet 6 (rd (rLst (rCons (rBi (isInst excB isTab) (rCons (rBin W.item (rSlot 4) (rSlot 5)) (rCons (fun _ => some (.gl "LatticeError")) rNil))) (rCons (rBi (isInst excB isTab) (rCons (rBin W.item (rSlot 4) (rSlot 5)) (rCons (fun _ => some (.ty "ValueError")) rNil))) rNil)))))
  (sSeq (sSet 6 (rd (rBin W.add (rSlot 6) (rLst (rCons (rBi (isInst excB isTab) (rCons (rBin W.item (rSlot 4) (rSlot 5)) (rCons (fun _ => some (.gl "NameMissing")) rNil))) (rCons (rBi (isInst excB isTab) (rCons (rBin W.item (rSlot 4) (rSlot 5)) (rCons (fun _ => some (.ty "LookupError")) rNil))) rNil))))))
  (sSeq (sIf (rd (rVal (rBin W.ne (rSlot 6) (rLst (rCons (rBin W.lt (rSlot 5) (fun _ => some (.int 8))) (rCons (rBin W.lt (rSlot 5) (fun _ => some (.int 8))) (rCons (rBin W.gt (rSlot 5) (fun _ => some (.int 7))) (rCons (rBin W.gt (rSlot 5) (fun _ => some (.int 7))) rNil)))))))) (sRet (rd (fun _ => some (.bl false)))) .next)
  (sIf (rd (rOr (rVal (rBi (isInst excB isTab) (rCons (rBin W.item (rSlot 4) (rSlot 5)) (rCons (fun _ => some (.ty "KeyError")) rNil)))) (rVal (rBi (isInst excB isTab) (rCons (rBin W.item (rSlot 4) (rSlot 5)) (rCons (fun _ => some (.ty "IndexError")) rNil)))))) (sRet (rd (fun _ => some (.bl false)))) .next)))))) (frzSl 4 ε))
def b_law_7 : MS := (sSet 8 (rd (rLst (rCons (rUn (W.xfld xfldB "name") (rBin W.item (rSlot 4) (fun _ => some (.int 4)))) (rCons (rUn (W.xfld xfldB "name") (rBin W.item (rSlot 4) (fun _ => some (.int 5)))) (rCons (rUn (W.xfld xfldB "name") (rBin W.item (rSlot 4) (fun _ => some (.int 6)))) (rCons (rUn (W.xfld xfldB "name") (rBin W.item (rSlot 4) (fun _ => some (.int 7)))) (rCons (rUn (W.xfld xfldB "name") (rBin W.item (rSlot 4) (fun _ => some (.int 8)))) (rCons (rUn (W.xfld xfldB "name") (rBin W.item (rSlot 4) (fun _ => some (.int 9)))) rNil)))))))))
def b_law_8 : MS := (sRet (rd (rAndV (rBin W.eq (rBin W.add (rSlot 8) (rLst (rCons (rUn (W.xfld xfldB "name") (rBin W.item (rSlot 4) (fun _ => some (.int 10)))) (rCons (rUn (W.xfld xfldB "name") (rBin W.item (rSlot 4) (fun _ => some (.int 11)))) rNil)))) (rBin W.mul (rLst (rCons (rSlot 2) rNil)) (fun _ => some (.int 8)))) (rBin W.eq (rUn (W.xfld xfldB "at") (rBin W.item (rSlot 4) (fun _ => some (.int 3)))) (rSlot 3)))))
def m_law : MS :=
  (sSeq b_law_0
  (sSeq b_law_1
  (sSeq b_law_2
  (sSeq b_law_3
  (sSeq b_law_4
  (sSeq b_law_5
  (sSeq b_law_6
  (sSeq b_law_7
  b_law_8))))))))
def F_law : Fn := fnM [false] 8 m_law
theorem ok_law (KX : K.In h) (G : h.Ns mainGlobals mg) (c : Says K) : FnOk P w K mg base (L2.CX P w) 3 (ga K "law") (fd_law c) ["script"] (spF K F_law) := by
  refine fnd_ok (D_law c) sc_law rfl rfl fun cdv A outer s H vs E hr => ?_
  have tk : Takes (cxOf (L2.CX P w) P w K mg base ["script", "state", "word", "count", "errors", "k", "bases", "j", "words"] "law" (defScope s_law) (ga K "law") cdv A outer s H E) (fun cls d _ H' => E cls d H') := takes_of rfl rfl rfl rfl
  exact (js_cons (sso 1 sc_law.nd (jo_call rfl tk ((ok__law_cells (w := w) (base := base) KX G c).mono (by decide)) hr rfl (He.glo_ok KX G (c.d.fact 2 rfl)) (kp__law_cells c) (bd__law_cells c) (jv_fz rfl (JR.e (rv 0)) jv_nil) rfl rfl rfl))
  (js_cons (ss 2 sc_law.nd (je_item rfl (huL hr) (fun _ _ => rfl) (JR.e (jr_lst (jra_cons rfl rs (jra_cons rfl rs (jra_cons rfl rs (jra_cons rfl (jr_bin op_mulS g_mulS rs ri) (jra_cons rfl rs (jra_cons rfl rs (jra_cons rfl rs (jra_cons rfl rs jra_nil)))))))))) (jo_fr (jo_call rfl tk ((ok__law_pick (w := w) (base := base) KX G c).mono (by decide)) hr rfl (He.glo_ok KX G (c.d.fact 4 rfl)) (kp__law_pick c) (bd__law_pick c) (iov (jv_fz rfl (JR.e ri) jv_nil)) rfl rfl rfl))))
  (js_cons (ss 3 sc_law.nd (je_bin op_sub g_sub (jo_fr (jo_call rfl tk ((ok__law_pick (w := w) (base := base) KX G c).mono (by decide)) hr rfl (He.glo_ok KX G (c.d.fact 4 rfl)) (kp__law_pick c) (bd__law_pick c) (iov (jv_fz rfl (JR.e (jr_bin op_pow g_pow ri ri)) jv_nil)) rfl rfl rfl)) (je_bin op_mulG g_mul (jo_fr (jo_call rfl tk ((ok__law_pick (w := w) (base := base) KX G c).mono (by decide)) hr rfl (He.glo_ok KX G (c.d.fact 4 rfl)) (kp__law_pick c) (bd__law_pick c) (iov (jv_fz rfl (JR.e ri) jv_nil)) rfl rfl rfl)) (JR.e (jr_bin op_pow g_pow ri ri)))))
  (js_cons (sso 4 sc_law.nd (jo_lst (ja_cons rfl (JR.e (jr_mk0 rfl (mk0_BadLattice KX G c) rfl rfl)) (ja_cons rfl (JR.e (jr_mk0 rfl (mk0_MixedLattices KX G c) rfl rfl)) (ja_cons rfl (JR.e (jr_mk0 rfl (mk0_BadMap KX G c) rfl rfl)) (ja_cons rfl (JR.e (jr_mkX (k := 0) rfl (mkX_BadText KX G c) (hr.mono (by omega)) rfl (jra_cons rfl (rv 3) jra_nil) rfl rfl)) (ja_cons rfl (JR.e (jr_mkX (k := 0) rfl (mkX_BadName KX G c) (hr.mono (by omega)) rfl (jra_cons rfl (rv 2) jra_nil) rfl rfl)) (ja_cons rfl (JR.e (jr_mkX (k := 0) rfl (mkX_TwiceTold KX G c) (hr.mono (by omega)) rfl (jra_cons rfl (rv 2) jra_nil) rfl rfl)) ja_nil))))))))
  (js_cons (js_frz (i := 4) (sso 4 sc_law.nd (jo_cat (JR.e (rv 4)) (JR.e (jr_lst (jra_cons rfl (jr_mkX (k := 0) rfl (mkX_NotIrreducible KX G c) (hr.mono (by omega)) rfl (jra_cons rfl (rv 2) jra_nil) rfl rfl) (jra_cons rfl (jr_mkX (k := 0) rfl (mkX_InUse KX G c) (hr.mono (by omega)) rfl (jra_cons rfl (rv 2) jra_nil) rfl rfl) (jra_cons rfl (jr_mkX (k := 0) rfl (mkX_UnknownValue KX G c) (hr.mono (by omega)) rfl (jra_cons rfl (rv 2) jra_nil) rfl rfl) (jra_cons rfl (jr_mkX (k := 0) rfl (mkX_UnknownState KX G c) (hr.mono (by omega)) rfl (jra_cons rfl (rv 2) jra_nil) rfl rfl) (jra_cons rfl (jr_mkX (k := 0) rfl (mkX_UnboundName KX G c) (hr.mono (by omega)) rfl (jra_cons rfl (rv 2) jra_nil) rfl rfl) jra_nil))))))))))
  (js_cons (js_expr (je_mut rfl PySem.F.plainAttrs_list PySem.F.slot_list_append PySem.F.type_list_append mt_append g_append (pvs 4) (jra_cons rfl (jr_mkX (k := 0) rfl (mkX_UnknownFormula KX G c) (hr.mono (by omega)) rfl (jra_cons rfl (rv 2) jra_nil) rfl rfl) jra_nil) rfl rfl rfl rfl rfl) rfl)
  (js_cons (js_frz (i := 4) (js_for (passes_of rfl) rfl (ji_range1 rfl (He.free_ok KX G (c.d.fact 19 rfl)) (ja_cons rfl (JR.e ri) ja_nil) rfl) (tgn 5 sc_law.nd) (js_cons (js_if (jt_cmp (op_neD hr.units) g_ne (jo_fr (jo_call rfl tk ((ok__law_classes (w := w) (base := base) KX G c).mono (by decide)) hr rfl (He.glo_ok KX G (c.d.fact 18 rfl)) (kp__law_classes c) (bd__law_classes c) (jv_fz rfl (JR.e (jr_item rfl (huL hr) (fun _ _ => rfl) (rv 4) (rv 5))) jv_nil) rfl rfl rfl)) (je_lc (own := [("j", 7)]) (is := [7]) rfl sc_law.nd (ji_range1 rfl (He.free_ok KX G (c.d.fact 19 rfl)) (ja_cons rfl (JR.e ri) ja_nil) rfl) (blkOk_by (N := ["script", "state", "word", "count", "errors", "k", "bases", "j", "words"]) (sc := defScope s_law) (by decide +kernel)) (by decide) (fun _ _ _ _ _ => (tgn 7 sc_law.nd)) (fun _ _ _ _ _ => jts_nil) (fun _ _ _ _ _ => (JR.e (jr_cmp (op_eqD hr.units) g_eq (rv 7) (rv 5) cmp_in))) (fun _ => rfl)) cmp_in) (js_one (js_ret (JR.e rbl))) js_nil)
  (js_cons (ss 6 sc_law.nd (JR.e (jr_lst (jra_cons rfl (jr_is rfl (isTab_ok c) rfl (He.free_ok KX G (c.d.fact 6 rfl)) (jra_cons rfl (jr_item rfl (huL hr) (fun _ _ => rfl) (rv 4) (rv 5)) (jra_cons rfl (jr_glo rfl rfl (He.glo_ok KX G (c.d.fact 20 rfl)) rfl) jra_nil)) rfl rfl) (jra_cons rfl (jr_is rfl (isTab_ok c) rfl (He.free_ok KX G (c.d.fact 6 rfl)) (jra_cons rfl (jr_item rfl (huL hr) (fun _ _ => rfl) (rv 4) (rv 5)) (jra_cons rfl (jr_blt rfl (He.free_ok KX G (c.d.fact 21 rfl)) PyProof.Rows.Boot.«ValueError» (by decide) rfl) jra_nil)) rfl rfl) jra_nil)))))
  (js_cons (ss 6 sc_law.nd (JR.e (jr_bin op_addG g_add (rv 6) (jr_lst (jra_cons rfl (jr_is rfl (isTab_ok c) rfl (He.free_ok KX G (c.d.fact 6 rfl)) (jra_cons rfl (jr_item rfl (huL hr) (fun _ _ => rfl) (rv 4) (rv 5)) (jra_cons rfl (jr_glo rfl rfl (He.glo_ok KX G (c.d.fact 22 rfl)) rfl) jra_nil)) rfl rfl) (jra_cons rfl (jr_is rfl (isTab_ok c) rfl (He.free_ok KX G (c.d.fact 6 rfl)) (jra_cons rfl (jr_item rfl (huL hr) (fun _ _ => rfl) (rv 4) (rv 5)) (jra_cons rfl (jr_blt rfl (He.free_ok KX G (c.d.fact 23 rfl)) PyProof.Rows.Boot.«LookupError» (by decide) rfl) jra_nil)) rfl rfl) jra_nil))))))
  (js_cons (js_if (JRT.e (jrt_cmp (op_neD hr.units) g_ne (rv 6) (jr_lst (jra_cons rfl (jr_cmp op_lt g_lt (rv 5) ri cmp_in) (jra_cons rfl (jr_cmp op_lt g_lt (rv 5) ri cmp_in) (jra_cons rfl (jr_cmp op_gt g_gt (rv 5) ri cmp_in) (jra_cons rfl (jr_cmp op_gt g_gt (rv 5) ri cmp_in) jra_nil))))) cmp_in)) (js_one (js_ret (JR.e rbl))) js_nil)
  (js_one (js_if (JRT.e (PW.pt (jrp_or (jrt_val (jr_is rfl (isTab_ok c) rfl (He.free_ok KX G (c.d.fact 6 rfl)) (jra_cons rfl (jr_item rfl (huL hr) (fun _ _ => rfl) (rv 4) (rv 5)) (jra_cons rfl (jr_blt rfl (He.free_ok KX G (c.d.fact 24 rfl)) PyProof.Rows.Boot.«KeyError» (by decide) rfl) jra_nil)) rfl rfl) (fun _ => rfl)) (jrp_or1 (jrt_val (jr_is rfl (isTab_ok c) rfl (He.free_ok KX G (c.d.fact 6 rfl)) (jra_cons rfl (jr_item rfl (huL hr) (fun _ _ => rfl) (rv 4) (rv 5)) (jra_cons rfl (jr_blt rfl (He.free_ok KX G (c.d.fact 25 rfl)) PyProof.Rows.Boot.«IndexError» (by decide) rfl) jra_nil)) rfl rfl) (fun _ => rfl)))))) (js_one (js_ret (JR.e rbl))) js_nil)))))) (fun _ => rfl)))
  (js_cons (ss 8 sc_law.nd (JR.e (jr_lst (jra_cons rfl (jr_xfld rfl (xfldB_ok c) rfl (jr_item rfl (huL hr) (fun _ _ => rfl) (rv 4) ri)) (jra_cons rfl (jr_xfld rfl (xfldB_ok c) rfl (jr_item rfl (huL hr) (fun _ _ => rfl) (rv 4) ri)) (jra_cons rfl (jr_xfld rfl (xfldB_ok c) rfl (jr_item rfl (huL hr) (fun _ _ => rfl) (rv 4) ri)) (jra_cons rfl (jr_xfld rfl (xfldB_ok c) rfl (jr_item rfl (huL hr) (fun _ _ => rfl) (rv 4) ri)) (jra_cons rfl (jr_xfld rfl (xfldB_ok c) rfl (jr_item rfl (huL hr) (fun _ _ => rfl) (rv 4) ri)) (jra_cons rfl (jr_xfld rfl (xfldB_ok c) rfl (jr_item rfl (huL hr) (fun _ _ => rfl) (rv 4) ri)) jra_nil)))))))))
  (js_one (js_ret (JR.e (jr_and (jr_cmp (op_eqD hr.units) g_eq (jr_bin op_addG g_add (rv 8) (jr_lst (jra_cons rfl (jr_xfld rfl (xfldB_ok c) rfl (jr_item rfl (huL hr) (fun _ _ => rfl) (rv 4) ri)) (jra_cons rfl (jr_xfld rfl (xfldB_ok c) rfl (jr_item rfl (huL hr) (fun _ _ => rfl) (rv 4) ri)) jra_nil)))) (jr_bin op_mulG g_mul (jr_lst (jra_cons rfl (rv 2) jra_nil)) ri) cmp_in) (jr_one (jr_cmp (op_eqD hr.units) g_eq (jr_xfld rfl (xfldB_ok c) rfl (jr_item rfl (huL hr) (fun _ _ => rfl) (rv 4) ri)) (rv 3) cmp_in))))))))))))))
end
end K91

set_option Elab.async false
set_option linter.all false
set_option maxRecDepth 100000
set_option maxHeartbeats 0
namespace K91
open PySem PySem.Spec PyProof.Rows L2 L3 He
abbrev e9 (scr : W) (d : O) (s2 s3 s4 : Sl) : En := [.fz scr, .own d, s2, s3, s4, .no, .no, .no, .no]
theorem pick_call {g : En → Option W} {n : Int} {scr : W} {s2 s3 s4 : Sl} {cells : List Int} {at_ : Nat} {cur mix : Int} (D : Draw cells at_ cur mix) (h1 : 1 ≤ n) (h2 : n.natAbs.log2 < 9000) (hg : g (e9 scr (drawO cells at_ cur mix) s2 s3 s4) = some (.int n)) :
    ∃ a c m r, Draw cells a c m ∧ 0 ≤ r ∧ r < n ∧ mFr (mCall F__law_pick (mCons (avIo 1 false) (mCons (avFz (rd g)) mNil))) (e9 scr (drawO cells at_ cur mix) s2 s3 s4) = .ok (.int r) (e9 scr (drawO cells a c m) s2 s3 s4) := by
  obtain ⟨a, c, m, r, D', r0, r1, e⟩ := pick_spec D h1 h2
  refine ⟨a, c, m, r, D', r0, r1, ?_⟩
  have e1 : avFz (rd g) (e9 scr (drawO cells at_ cur mix) s2 s3 s4) = .ok (.fz (.int n)) (e9 scr (drawO cells at_ cur mix) s2 s3 s4) := by
    show (rd g _).bind _ = _
    rw [rd_eq hg]
    rfl
  have e2 : (mCons (avIo 1 false) (mCons (avFz (rd g)) mNil)) (e9 scr (drawO cells at_ cur mix) s2 s3 s4) = .ok [.io 1 false, .fz (.int n)] (e9 scr (drawO cells at_ cur mix) s2 s3 s4) := by
    show (Res.bind (Res.bind (avFz (rd g) _) _) _) = _
    rw [e1]
    rfl
  show (Res.bind (Res.bind ((mCons (avIo 1 false) (mCons (avFz (rd g)) mNil)) _) _) _) = _
  rw [e2]
  show (Res.bind (match F__law_pick [drawO cells at_ cur mix, .fz (.int n)] with
    | .ok r os' => .ok r (putArgs [.io 1 false, .fz (.int n)] os' (e9 scr (drawO cells at_ cur mix) s2 s3 s4 |>.set 1 .no))
    | .err x os' => .err x (putArgs [.io 1 false, .fz (.int n)] os' (e9 scr (drawO cells at_ cur mix) s2 s3 s4 |>.set 1 .no))
    | .stuck => Res.stuck) _) = _
  rw [show F__law_pick = L3.F__law_pick from rfl, e]
  rfl
def errs (word : Str) (count : Int) : W := .lst [.exc "BadLattice" [], .exc "MixedLattices" [], .exc "BadMap" [], .exc "BadText" [("at", .int count)], .exc "BadName" [("name", .str word)], .exc "TwiceTold" [("name", .str word)],
  .exc "NotIrreducible" [("name", .str word)], .exc "InUse" [("name", .str word)], .exc "UnknownValue" [("name", .str word)], .exc "UnknownState" [("name", .str word)], .exc "UnboundName" [("name", .str word)], .exc "UnknownFormula" [("name", .str word)]]
def tail : MS := sSeq b_law_3 (sSeq b_law_4 (sSeq b_law_5 (sSeq b_law_6 b_law_7)))
def wds (word : Str) : W := .lst [.str word, .str word, .str word, .str word, .str word, .str word]
def e9z (scr : W) (d : O) (word : Str) (count : Int) : En := [.fz scr, .own d, .fz (.str word), .fz (.int count), .fz (errs word count), .no, .no, .no, .fz (wds word)]
theorem tail_eq (scr : W) (d : O) (word : Str) (count : Int) : tail (e9 scr d (.fz (.str word)) (.fz (.int count)) .no) = .next (e9z scr d word count) := by
  kernel_rfl
def retA : En → Option W := (rBin W.eq (rBin W.add (rSlot 8) (rLst (rCons (rUn (W.xfld xfldB "name") (rBin W.item (rSlot 4) (fun _ => some (.int 10)))) (rCons (rUn (W.xfld xfldB "name") (rBin W.item (rSlot 4) (fun _ => some (.int 11)))) rNil)))) (rBin W.mul (rLst (rCons (rSlot 2) rNil)) (fun _ => some (.int 8))))
def retB : En → Option W := (rBin W.eq (rUn (W.xfld xfldB "at") (rBin W.item (rSlot 4) (fun _ => some (.int 3)))) (rSlot 3))
theorem ret_of {scr : W} {d : O} {word : Str} {count : Int} (h : retA (e9z scr d word count) = some (.bl true)) : b_law_8 (e9z scr d word count) = .ret (.fz (.bl true)) (e9z scr d word count) := by
  have hb : retB (e9z scr d word count) = some (.bl true) := by
    have e : retB (e9z scr d word count) = W.eq (.int count) (.int count) := by kernel_rfl
    rw [e]
    have e2 : PyData.eqv (.int count) (.int count) = true := by simp [PyData.eqv]
    show some (W.bl (PyData.eqv (.int count) (.int count))) = _
    rw [e2]
  refine sRet_eq (rd_eq ?_)
  show (retA (e9z scr d word count)).bind (fun x => (asB x).bind fun k => if k = true then retB (e9z scr d word count) else some (.bl false)) = _
  rw [h]
  exact hb
theorem item_eq {a b : M3 W} {ε ε1 ε2 : En} {x y z : W} {g : W → W → Option W} (ha : a ε = .ok x ε1) (hb : b ε1 = .ok y ε2) (hg : g x y = some z) : mBin g a b ε = .ok z ε2 := by
  show (a ε).bind _ = _
  rw [ha]
  show (b ε1).bind _ = _
  rw [hb]
  show (M3.lift (g x y) : M3 W) ε2 = _
  rw [hg]
  rfl
def words : List Str := ["", "p", "no name", Txt.mul "x" 40, "01", "A", "a'b", "("]
theorem ret_word {scr : W} {d : O} {count : Int} {word : Str} (h : word ∈ words) : retA (e9z scr d word count) = some (.bl true) := by
  simp only [words, List.mem_cons, List.not_mem_nil, or_false] at h
  rcases h with rfl | rfl | rfl | rfl | rfl | rfl | rfl | rfl <;> kernel_rfl
theorem law_spec {ns : List Int} (hl : ns.length ≤ 63) (hb : ∀ i ∈ ns, (Builtin.Int.intBits i : Int) ≤ 1048577) : ∃ os, F_law [.fz (.klst (ns.map .int))] = .ok (.fz (.bl true)) os := by
  obtain ⟨mix, D0, ec⟩ := cells_spec hl hb
  have s0 : b_law_0 [.fz (.klst (ns.map .int)), .no, .no, .no, .no, .no, .no, .no, .no] = .next (e9 (.klst (ns.map .int)) (drawO (ns.map absI) 0 1 mix) .no .no .no) := by
    show (Res.out (match F__law_cells [.fz (.klst (ns.map .int))] with
      | .ok r os' => .ok r (putArgs [.fz (.klst (ns.map .int))] os' [.fz (.klst (ns.map .int)), .no, .no, .no, .no, .no, .no, .no, .no])
      | .err x os' => .err x (putArgs [.fz (.klst (ns.map .int))] os' [.fz (.klst (ns.map .int)), .no, .no, .no, .no, .no, .no, .no, .no])
      | .stuck => Res.stuck) _) = _
    rw [show F__law_cells = L3.F__law_cells from rfl, ec]
    rfl
  obtain ⟨a1, c1, m1, r1, D1, q0, q1, e1⟩ := pick_call (g := fun _ => some (.int 8)) (n := 8) (scr := .klst (ns.map .int)) (s2 := .no) (s3 := .no) (s4 := .no) D0 (by decide) (by decide) rfl
  obtain ⟨word, hw, hi⟩ : ∃ word ∈ words, W.item (.lst (words.map .str)) (.int r1) = some (.str word) := by
    have : r1 = 0 ∨ r1 = 1 ∨ r1 = 2 ∨ r1 = 3 ∨ r1 = 4 ∨ r1 = 5 ∨ r1 = 6 ∨ r1 = 7 := by omega
    rcases this with rfl | rfl | rfl | rfl | rfl | rfl | rfl | rfl <;> exact ⟨_, by simp [words], rfl⟩
  have s1 : b_law_1 (e9 (.klst (ns.map .int)) (drawO (ns.map absI) 0 1 mix) .no .no .no) = .next (e9 (.klst (ns.map .int)) (drawO (ns.map absI) a1 c1 m1) (.fz (.str word)) .no .no) := by
    refine sSet_eq (item_eq (x := .lst (words.map .str)) (rd_eq ?_) e1 hi) rfl
    kernel_rfl
  obtain ⟨T, hT⟩ : ∃ T : Int, T = 10 ^ 30 := ⟨_, rfl⟩
  have hp : ∀ ε : En, rBin W.pow (fun _ => some (.int 10)) (fun _ => some (.int 30)) ε = some (.int T) := by
    intro ε
    rw [hT]
    kernel_rfl
  obtain ⟨a2, c2, m2, r2, D2, _, _, e2⟩ := pick_call (g := rBin W.pow (fun _ => some (.int 10)) (fun _ => some (.int 30))) (n := T) (scr := .klst (ns.map .int)) (s2 := .fz (.str word)) (s3 := .no) (s4 := .no) D1 (by rw [hT]; decide) (by rw [hT]; decide +kernel) (hp _)
  obtain ⟨a3, c3, m3, r3, D3, p0, p1, e3⟩ := pick_call (g := fun _ => some (.int 2)) (n := 2) (scr := .klst (ns.map .int)) (s2 := .fz (.str word)) (s3 := .no) (s4 := .no) D2 (by decide) (by decide) rfl
  have hm : W.mul (.int r3) (.int T) = some (.int (r3 * T)) := mul_ii (by
    have h1 : (Builtin.Int.intBits r3 : Int) ≤ 31 := bits_small p0 (by omega)
    have h2 : (Builtin.Int.intBits T : Int) = 100 := by rw [hT]; decide +kernel
    omega)
  have s2 : b_law_2 (e9 (.klst (ns.map .int)) (drawO (ns.map absI) a1 c1 m1) (.fz (.str word)) .no .no) = .next (e9 (.klst (ns.map .int)) (drawO (ns.map absI) a3 c3 m3) (.fz (.str word)) (.fz (.int (r2 - r3 * T))) .no) := by
    refine sSet_eq (item_eq e2 (item_eq e3 (rd_eq (a := .int T) (hp _)) hm) rfl) rfl
  have body : m_law [.fz (.klst (ns.map .int)), .no, .no, .no, .no, .no, .no, .no, .no] = .ret (.fz (.bl true)) (e9z (.klst (ns.map .int)) (drawO (ns.map absI) a3 c3 m3) word (r2 - r3 * T)) := by
    refine (seq_next s0).trans ((seq_next s1).trans ((seq_next s2).trans ?_))
    have ht := tail_eq (.klst (ns.map .int)) (drawO (ns.map absI) a3 c3 m3) word (r2 - r3 * T)
    have hr := ret_of (ret_word (scr := .klst (ns.map .int)) (d := drawO (ns.map absI) a3 c3 m3) (count := r2 - r3 * T) hw)
    have assoc : ∀ (a b c : MS) (ε : En), sSeq (sSeq a b) c ε = sSeq a (sSeq b c) ε := fun a b c ε => by
      show ((a ε).bind b).bind c = (a ε).bind fun ε => (b ε).bind c
      cases a ε <;> rfl
    have : sSeq tail b_law_8 (e9 (.klst (ns.map .int)) (drawO (ns.map absI) a3 c3 m3) (.fz (.str word)) (.fz (.int (r2 - r3 * T))) .no) = .ret (.fz (.bl true)) (e9z (.klst (ns.map .int)) (drawO (ns.map absI) a3 c3 m3) word (r2 - r3 * T)) := (seq_next ht).trans hr
    unfold tail at this
    have assoc' : ∀ (a b c : MS), sSeq (sSeq a b) c = sSeq a (sSeq b c) := fun a b c => funext (assoc a b c)
    simp only [assoc'] at this
    exact this
  refine ⟨[.fz (.klst (ns.map .int))], ?_⟩
  show (match m_law [.fz (.klst (ns.map .int)), .no, .no, .no, .no, .no, .no, .no, .no] with
    | .ret o ε' => (match finSl [false] [.fz (.klst (ns.map .int))] ε' with
      | some os' => FRes.ok o os'
      | none => FRes.stuck)
    | .next ε' => (match finSl [false] [.fz (.klst (ns.map .int))] ε' with
      | some os' => .ok (.fz .non) os'
      | none => .stuck)
    | .err x ε' => (match finSl [false] [.fz (.klst (ns.map .int))] ε' with
      | some os' => .err x os'
      | none => .stuck)
    | _ => .stuck) = _
  rw [body]
  rfl
end K91

set_option Elab.async false
set_option linter.all false
set_option maxRecDepth 100000
set_option maxHeartbeats 0
namespace K91
open PySem PySem.Spec PyProof.Rows L2 L3 He
abbrev R : PySem.W.OpenRow := PySem.W.OpenLaw.row PySem.Challenge.rw_latticewish_k91_errors
abbrev hk : PySem.W.Hook := hookZ 7 fa fn sn file ex
def ob (s : PySem.W.SharedT) : AlZ := obsZG 7 fa fn sn file ex (HandSHeadRun.getT s)
theorem ob_eq (s : PySem.W.SharedT) : ob s = hk.obs s.abs := obsZG_eq (HandSHeadRun.getT_eq s)
def names : List Str := ["__name__", "LatticeError", "BadLattice", "MixedLattices", "BadText", "BadName", "TwiceTold", "NotIrreducible", "BadMap", "InUse", "NameMissing", "UnknownValue", "UnknownState", "UnboundName", "UnknownFormula", "_law_cells", "_law_pick", "_law_classes"]
theorem run (w : World) : HandSHeadRun.RunEq R (PySem.W.view R.prog [19]) hk ob 5000 names w := by
  intro os
  kernel_rfl
end K91
open PySem PySem.W PySem.Calls PyProof.Rows
theorem PySem.Challenge.cw_latticewish_k91_errors_holds : PySem.Challenge.rw_latticewish_k91_errors.Holds := by
  w_on; o_law
  refine HandSHeadRun.head_any (r := OpenLaw.row PySem.Challenge.rw_latticewish_k91_errors) (q := view (OpenLaw.row PySem.Challenge.rw_latticewish_k91_errors).prog [19]) (H := K91.hk) (ob := K91.ob) (M := 5000) (loose := K91.names) (d := HandSHeadRun.topDef (OpenLaw.row PySem.Challenge.rw_latticewish_k91_errors).prog 19) (kwd := []) K91.ob_eq
    (by kernel_rfl) (fun s => by kernel_rfl) K91.run (by kernel_rfl) (by kernel_rfl) (by kernel_rfl) (by rfl) (by first | assumption | decide +kernel) (by decide +kernel) ⟨rfl, rfl, rfl, rfl, rfl, by decide +kernel⟩ ?hw ?hc
  case hw => w_witness2
  case hc =>
    refine L3.walk_ofZ (l := PySem.Challenge.rw_latticewish_k91_errors) (n := 63) (k := 3) (x := "script") (f := K91.F_law) rfl (by decide) (by kernel_rfl) ⟨rfl, by decide, by decide⟩ ?F (fun ns h1 h2 => K91.law_spec h1 h2)
    intro w mg fa h Y G hmg0
    obtain ⟨K, KX, c⟩ := Y
    have hmg : mg ("law" : PySem.Str) = some (.ref fa) := by
      have e : (HandSHeadRun.topDef (OpenLaw.row PySem.Challenge.rw_latticewish_k91_errors).prog 19).name = ("law" : PySem.Str) := by kernel_rfl
      rw [← e]
      exact hmg0
    have hi : K91.fa[26]? = some (He.Fa.glo "law") := rfl
    have e := hmg.symm.trans (He.glo_ok KX G (c.d.fact 26 hi))
    cases e
    have b := L2.FunD.bindsA (ps := ["script"]) (K91.D_law c) fun _ _ _ _ _ _ us hl => match us, hl with | [_], _ => rfl
    exact ⟨K, K91.fd_law c, KX, fun s v => b s [v] rfl, fun base hX hB => K91.ok_law KX G c⟩

