import PyProof.Rows.All
import Wide.All
import OpenK.AllK
import Wide.FinOn
import HandS.ForMost
import HandS.WideBits
import HandS.Deep
import HandS.IsInst
import HandS.Conv
import HandS.NoneIn
import HandS.Style
import HandS.RevRange
import KE.SortData
import HandS.TupLen
import HandS.TupSets
import HandS.DictTup
import KE.KDictList
import HandS.Zip
import HandS.EndBits
import PyProof.ReprRoads
import PyProof.ReprLen
import PyProof.Rows.RegStrFacts
import HandS.RaiseMore
import HandS.Text
import HandS.Replace
import PyProof.EnumMake
import PyProof.Draws
import KE.KxIndex
import HandS.Exc
import HandS.ExcInit
import HandS.ExcOwn
import HandS.ExcIs
import HandS.Small
import HandS.TryOnly
import KE.KExcIs
import HandS.ClsMeth
import HandS.ExcField
import HandS.Words
import HandS.SetFor
import HandS.Strs
import HandS.TupAny
import KE.GoesComp
import PySem.Challenge.RW_telltight_k78_heap_texts_refused
section
set_option Elab.async false
set_option linter.all false
set_option maxRecDepth 100000
namespace T2
open PySem PySem.Spec PyProof.Rows L2
/-- data that nobody changes any more -/
inductive D where
  | non | bl (b : Bool) | int (i : Int) | str (x : Str)
  | lst (xs : List D) | tup (xs : List D) | ins (C : Addr) (fs : List (Str × D)) | scr (ns : List Int) | dic (ks : List Key) (ds : List D) | any | exc (n : Nat) (C : Addr) (fs : List (Str × D))
/-- a step of a path down an owned tree -/
inductive Pa where
  | ix (k : Nat) | fd (f : Str)
  deriving DecidableEq
/-- a tree whose nodes are owned: frozen leaves; what a slot's tree has at a path; a list, a tuple, an instance -/
inductive M where
  | fz (d : D) | bp (i : Nat) (p : List Pa)
  | ol (xs : List M) | ot (xs : List M) | oi (C : Addr) (fs : List (Str × M)) | od (lk : Bool) (kvs : List (Key × D)) | odt (ks : List (List Int))
/-- a caught exception at a: its class, its own dict -/
def excV (a C : Addr) (d : Option Addr) : HO := .ext fun h => ∃ o vs, h.get? a = some o ∧ o.cls = .ref C ∧ o.dict = d ∧ o.data = .fields vs
def toV : D → V
  | .non => .non | .bl b => .bl b | .int i => .int i | .str x => .str x | _ => .non
def scal : D → Bool
  | .non => true | .bl _ => true | .int _ => true | .str _ => true | _ => false
/-- a dict's keys with values -/
def zipK (kvs : List (Key × D)) (vs : List V) : List (Key × V) := (kvs.map (·.1)).zip vs
/-- a key of a dict of tuples: a tuple of numbers -/
def tupI (k : List Int) : D := .tup (k.map D.int)
def entI (x : List Int × Addr) : DictEntry := ⟨reduceHash (Builtin.Tuple.tupleHashOf (x.1.map hashInt)), .ref x.2, .bool true⟩
/-- the dict at p has the keys ks, which stand at vs, each with the value True -/
def dTI (p : Addr) (ks : List (List Int)) (vs : List V) : Heap → Prop := fun h => ks.length ≤ sizeLine ∧ (p == sysModules) = false ∧ ks.Nodup ∧ ∃ bs : List Addr, vs = bs.map V.ref ∧ bs.length = ks.length ∧
  ∃ o es ep, h.get? p = some o ∧ o.ExactDict ∧ o.data = .dict es ep ∧ es.toList = (ks.zip bs).map entI
/-- what stands at p is o, locked or not -/
def lkd (lk : Bool) (H : Hp) (p : Addr) (o : HO) : Prop := (lk = false ∧ H p = some o) ∨ (lk = true ∧ ∃ od, H p = some (.frz od o))
theorem lkd.mono {lk : Bool} {H H' : Hp} {p : Addr} {o : HO} (h : lkd lk H p o) (s : ∀ o, H p = some o → H' p = some o) : lkd lk H' p o := by
  rcases h with ⟨h1, h2⟩ | ⟨h1, od, h2⟩
  · exact .inl ⟨h1, s _ h2⟩
  · exact .inr ⟨h1, od, s _ h2⟩
theorem lkd.there {lk : Bool} {H : Hp} {p : Addr} {o : HO} (h : lkd lk H p o) : ∃ u, H p = some u := by
  rcases h with ⟨h1, h2⟩ | ⟨h1, od, h2⟩
  · exact ⟨_, h2⟩
  · exact ⟨_, h2⟩
section
variable (K : PySem.W.Frag)
mutual
/-- v is the data d in the heap F -/
def Rep (F : Hp) : D → V → Prop
  | .non, v => v = .non
  | .bl b, v => v = .bl b
  | .int i, v => v = .int i
  | .str x, v => v = .str x
  | .lst xs, v => ∃ a vs, v = .ref a ∧ F a = some (.lst vs) ∧ RepL F xs vs
  | .tup xs, v => ∃ a vs, v = .ref a ∧ F a = some (.tup vs) ∧ RepL F xs vs
  | .ins C fs, v => ∃ a dx gs, v = .ref a ∧ F a = some (.ins C dx gs) ∧ F dx = some (.own a) ∧ RepF F fs gs
  | .scr ns, v => ∃ a, v = .ref a ∧ SqL K F a (ns.map V.int)
  | .dic ks ds, v => ∃ a vs, v = .ref a ∧ ks.length = ds.length ∧ Rd F a (.dK (ks.zip vs)) ∧ RepL F ds vs
  | .any, v => ∃ a, v = .ref a
  | .exc _ C fs, v => ∃ a d gs, v = .ref a ∧ F a = some (excV a C d) ∧ (d = none ∨ ∃ dx, d = some dx ∧ F dx = some (.xd gs)) ∧ (d = none → gs = []) ∧ RepF F fs gs
def RepL (F : Hp) : List D → List V → Prop
  | [], vs => vs = []
  | d :: ds, vs => ∃ v r, vs = v :: r ∧ Rep F d v ∧ RepL F ds r
def RepF (F : Hp) : List (Str × D) → List (Str × V) → Prop
  | [], vs => vs = []
  | d :: ds, vs => ∃ v r, vs = (d.1, v) :: r ∧ Rep F d.2 v ∧ RepF F ds r
end
mutual
/-- v is the tree m: its frozen leaves in F, its own nodes at A, in H; br: what the places of slots are -/
def Own (br : Nat → List Pa → V → Prop) (F H : Hp) : M → V → List Addr → Prop
  | .fz d, v, A => A = [] ∧ Rep K F d v
  | .bp i p, v, A => A = [] ∧ br i p v
  | .ol ms, v, A => ∃ p vs B, v = .ref p ∧ A = p :: B ∧ F p = none ∧ H p = some (.lst vs) ∧ OwnL br F H ms vs B
  | .ot ms, v, A => ∃ p vs B, v = .ref p ∧ A = p :: B ∧ F p = none ∧ H p = some (.tup vs) ∧ OwnL br F H ms vs B
  | .oi C fs, v, A => ∃ p dx gs B, v = .ref p ∧ A = p :: dx :: B ∧ F p = none ∧ F dx = none ∧ H p = some (.ins C dx gs) ∧ H dx = some (.own p) ∧ OwnF br F H fs gs B
  | .od lk kvs, v, A => ∃ p vs, v = .ref p ∧ A = [p] ∧ F p = none ∧ lkd lk H p (.dK (zipK kvs vs)) ∧ RepL K F (kvs.map (·.2)) vs
  | .odt ks, v, A => ∃ p vs, v = .ref p ∧ A = [p] ∧ F p = none ∧ H p = some (.ext (dTI p ks vs)) ∧ RepL K F (ks.map tupI) vs
def OwnL (br : Nat → List Pa → V → Prop) (F H : Hp) : List M → List V → List Addr → Prop
  | [], vs, A => vs = [] ∧ A = []
  | m :: ms, vs, A => ∃ v r B C, vs = v :: r ∧ A = B ++ C ∧ Own br F H m v B ∧ OwnL br F H ms r C
def OwnF (br : Nat → List Pa → V → Prop) (F H : Hp) : List (Str × M) → List (Str × V) → List Addr → Prop
  | [], vs, A => vs = [] ∧ A = []
  | m :: ms, vs, A => ∃ v r B C, vs = (m.1, v) :: r ∧ A = B ++ C ∧ Own br F H m.2 v B ∧ OwnF br F H ms r C
end
end
/-- no places of slots -/
def noBr : Nat → List Pa → V → Prop := fun _ _ _ => False
def frz (F H : Hp) (A : List Addr) : Hp := fun a => if a ∈ A then H a else F a
theorem rep_sc {K : PySem.W.Frag} {F : Hp} : ∀ {d : D} {v : V}, scal d = true → (Rep K F d v ↔ v = toV d)
  | .non, v, h => by simp only [Rep, toV]
  | .bl b, v, h => by simp only [Rep, toV]
  | .int b, v, h => by simp only [Rep, toV]
  | .str b, v, h => by simp only [Rep, toV]
  | .lst xs, v, h => by cases h
  | .tup xs, v, h => by cases h
  | .ins C xs, v, h => by cases h
  | .scr xs, v, h => by cases h
  | .dic _ _, v, h => by cases h
  | .any, v, h => by cases h
  | .exc _ _ _, v, h => by cases h
section
variable {K : PySem.W.Frag}
mutual
theorem Rep.mono {F F' : Hp} (s : Same F F') : ∀ (d : D) (v : V), Rep K F d v → Rep K F' d v
  | .non, v, h => by simpa only [Rep] using h
  | .bl b, v, h => by simpa only [Rep] using h
  | .int i, v, h => by simpa only [Rep] using h
  | .str x, v, h => by simpa only [Rep] using h
  | .lst xs, v, h => by
    simp only [Rep] at h ⊢
    obtain ⟨a, vs, e, q, r⟩ := h
    exact ⟨a, vs, e, s _ _ q, RepL.mono s xs vs r⟩
  | .tup xs, v, h => by
    simp only [Rep] at h ⊢
    obtain ⟨a, vs, e, q, r⟩ := h
    exact ⟨a, vs, e, s _ _ q, RepL.mono s xs vs r⟩
  | .ins C fs, v, h => by
    simp only [Rep] at h ⊢
    obtain ⟨a, dx, gs, e, q, q2, r⟩ := h
    exact ⟨a, dx, gs, e, s _ _ q, s _ _ q2, RepF.mono s fs gs r⟩
  | .scr ns, v, h => by
    simp only [Rep] at h ⊢
    obtain ⟨a, e, q⟩ := h
    exact ⟨a, e, s.seq q⟩
  | .dic ks ds, v, h => by
    simp only [Rep] at h ⊢
    obtain ⟨a, vs, e, l, q, r⟩ := h
    exact ⟨a, vs, e, l, q.imp (s _ _) (fun ⟨o, z⟩ => ⟨o, s _ _ z⟩), RepL.mono s ds vs r⟩
  | .any, v, h => by simpa only [Rep] using h
  | .exc _ C fs, v, h => by
    simp only [Rep] at h ⊢
    obtain ⟨a, d, gs, e, q, q2, q3, r⟩ := h
    exact ⟨a, d, gs, e, s _ _ q, q2.imp id (fun ⟨dx, z1, z2⟩ => ⟨dx, z1, s _ _ z2⟩), q3, RepF.mono s fs gs r⟩
theorem RepL.mono {F F' : Hp} (s : Same F F') : ∀ (ds : List D) (vs : List V), RepL K F ds vs → RepL K F' ds vs
  | [], vs, h => by simpa only [RepL] using h
  | d :: ds, vs, h => by
    simp only [RepL] at h ⊢
    obtain ⟨v, r, e, q, q2⟩ := h
    exact ⟨v, r, e, Rep.mono s d v q, RepL.mono s ds r q2⟩
theorem RepF.mono {F F' : Hp} (s : Same F F') : ∀ (ds : List (Str × D)) (vs : List (Str × V)), RepF K F ds vs → RepF K F' ds vs
  | [], vs, h => by simpa only [RepF] using h
  | d :: ds, vs, h => by
    simp only [RepF] at h ⊢
    obtain ⟨v, r, e, q, q2⟩ := h
    exact ⟨v, r, e, Rep.mono s d.2 v q, RepF.mono s ds r q2⟩
end
mutual
/-- a tree stays: F grows away from its nodes, H keeps its nodes, places stay -/
theorem Own.mono {br br' : Nat → List Pa → V → Prop} {F H F' H' : Hp} (s : Same F F') (hb : ∀ i p v, br i p v → br' i p v) : ∀ (m : M) (v : V) (A : List Addr), Own K br F H m v A → (∀ a ∈ A, F' a = none ∧ ∀ o, H a = some o → H' a = some o) → Own K br' F' H' m v A
  | .fz d, v, A, h, k => by
    simp only [Own] at h ⊢
    exact ⟨h.1, Rep.mono s d v h.2⟩
  | .bp i p, v, A, h, k => by
    simp only [Own] at h ⊢
    exact ⟨h.1, hb _ _ _ h.2⟩
  | .ol ms, v, A, h, k => by
    simp only [Own] at h ⊢
    obtain ⟨p, vs, B, e, rfl, f, q, r⟩ := h
    exact ⟨p, vs, B, e, rfl, (k p List.mem_cons_self).1, (k p List.mem_cons_self).2 _ q, OwnL.mono s hb ms vs B r fun a ha => k a (List.mem_cons_of_mem _ ha)⟩
  | .ot ms, v, A, h, k => by
    simp only [Own] at h ⊢
    obtain ⟨p, vs, B, e, rfl, f, q, r⟩ := h
    exact ⟨p, vs, B, e, rfl, (k p List.mem_cons_self).1, (k p List.mem_cons_self).2 _ q, OwnL.mono s hb ms vs B r fun a ha => k a (List.mem_cons_of_mem _ ha)⟩
  | .oi C fs, v, A, h, k => by
    simp only [Own] at h ⊢
    obtain ⟨p, dx, gs, B, e, rfl, f, f2, q, q2, r⟩ := h
    have kp := k p List.mem_cons_self
    have kd := k dx (List.mem_cons_of_mem _ List.mem_cons_self)
    exact ⟨p, dx, gs, B, e, rfl, kp.1, kd.1, kp.2 _ q, kd.2 _ q2, OwnF.mono s hb fs gs B r fun a ha => k a (List.mem_cons_of_mem _ (List.mem_cons_of_mem _ ha))⟩
  | .od lk kvs, v, A, h, k => by
    simp only [Own] at h ⊢
    obtain ⟨p, vs, e, rfl, f, q, r⟩ := h
    have kp := k p List.mem_cons_self
    exact ⟨p, vs, e, rfl, kp.1, q.mono kp.2, RepL.mono s _ _ r⟩
  | .odt kvs, v, A, h, k => by
    simp only [Own] at h ⊢
    obtain ⟨p, vs, e, rfl, f, q, r⟩ := h
    have kp := k p List.mem_cons_self
    exact ⟨p, vs, e, rfl, kp.1, kp.2 _ q, RepL.mono s _ _ r⟩
theorem OwnL.mono {br br' : Nat → List Pa → V → Prop} {F H F' H' : Hp} (s : Same F F') (hb : ∀ i p v, br i p v → br' i p v) : ∀ (ms : List M) (vs : List V) (A : List Addr), OwnL K br F H ms vs A → (∀ a ∈ A, F' a = none ∧ ∀ o, H a = some o → H' a = some o) → OwnL K br' F' H' ms vs A
  | [], vs, A, h, k => by simpa only [OwnL] using h
  | m :: ms, vs, A, h, k => by
    simp only [OwnL] at h ⊢
    obtain ⟨v, r, B, C, e, rfl, q, q2⟩ := h
    exact ⟨v, r, B, C, e, rfl, Own.mono s hb m v B q fun a ha => k a (List.mem_append_left _ ha), OwnL.mono s hb ms r C q2 fun a ha => k a (List.mem_append_right _ ha)⟩
theorem OwnF.mono {br br' : Nat → List Pa → V → Prop} {F H F' H' : Hp} (s : Same F F') (hb : ∀ i p v, br i p v → br' i p v) : ∀ (ms : List (Str × M)) (vs : List (Str × V)) (A : List Addr), OwnF K br F H ms vs A → (∀ a ∈ A, F' a = none ∧ ∀ o, H a = some o → H' a = some o) → OwnF K br' F' H' ms vs A
  | [], vs, A, h, k => by simpa only [OwnF] using h
  | m :: ms, vs, A, h, k => by
    simp only [OwnF] at h ⊢
    obtain ⟨v, r, B, C, e, rfl, q, q2⟩ := h
    exact ⟨v, r, B, C, e, rfl, Own.mono s hb m.2 v B q fun a ha => k a (List.mem_append_left _ ha), OwnF.mono s hb ms r C q2 fun a ha => k a (List.mem_append_right _ ha)⟩
end
mutual
/-- the nodes stand in H and not in F -/
theorem Own.at {br : Nat → List Pa → V → Prop} {F H : Hp} : ∀ (m : M) (v : V) (A : List Addr), Own K br F H m v A → ∀ a ∈ A, F a = none ∧ ∃ o, H a = some o
  | .fz d, v, A, h => by
    simp only [Own] at h
    rw [h.1]
    intro a ha
    cases ha
  | .bp i p, v, A, h => by
    simp only [Own] at h
    rw [h.1]
    intro a ha
    cases ha
  | .ol ms, v, A, h => by
    simp only [Own] at h
    obtain ⟨p, vs, B, e, rfl, f, q, r⟩ := h
    intro a ha
    rcases List.mem_cons.mp ha with rfl | ha
    · exact ⟨f, _, q⟩
    · exact OwnL.at ms vs B r a ha
  | .ot ms, v, A, h => by
    simp only [Own] at h
    obtain ⟨p, vs, B, e, rfl, f, q, r⟩ := h
    intro a ha
    rcases List.mem_cons.mp ha with rfl | ha
    · exact ⟨f, _, q⟩
    · exact OwnL.at ms vs B r a ha
  | .oi C fs, v, A, h => by
    simp only [Own] at h
    obtain ⟨p, dx, gs, B, e, rfl, f, f2, q, q2, r⟩ := h
    intro a ha
    rcases List.mem_cons.mp ha with rfl | ha
    · exact ⟨f, _, q⟩
    rcases List.mem_cons.mp ha with rfl | ha
    · exact ⟨f2, _, q2⟩
    · exact OwnF.at fs gs B r a ha
  | .od lk kvs, v, A, h => by
    simp only [Own] at h
    obtain ⟨p, vs, e, rfl, f, q, r⟩ := h
    intro a ha
    rw [List.mem_singleton.mp ha]
    exact ⟨f, q.there⟩
  | .odt kvs, v, A, h => by
    simp only [Own] at h
    obtain ⟨p, vs, e, rfl, f, q, r⟩ := h
    intro a ha
    rw [List.mem_singleton.mp ha]
    exact ⟨f, _, q⟩
theorem OwnL.at {br : Nat → List Pa → V → Prop} {F H : Hp} : ∀ (ms : List M) (vs : List V) (A : List Addr), OwnL K br F H ms vs A → ∀ a ∈ A, F a = none ∧ ∃ o, H a = some o
  | [], vs, A, h => by
    simp only [OwnL] at h
    rw [h.2]
    intro a ha
    cases ha
  | m :: ms, vs, A, h => by
    simp only [OwnL] at h
    obtain ⟨v, r, B, C, e, rfl, q, q2⟩ := h
    intro a ha
    rcases List.mem_append.mp ha with ha | ha
    · exact Own.at m v B q a ha
    · exact OwnL.at ms r C q2 a ha
theorem OwnF.at {br : Nat → List Pa → V → Prop} {F H : Hp} : ∀ (ms : List (Str × M)) (vs : List (Str × V)) (A : List Addr), OwnF K br F H ms vs A → ∀ a ∈ A, F a = none ∧ ∃ o, H a = some o
  | [], vs, A, h => by
    simp only [OwnF] at h
    rw [h.2]
    intro a ha
    cases ha
  | m :: ms, vs, A, h => by
    simp only [OwnF] at h
    obtain ⟨v, r, B, C, e, rfl, q, q2⟩ := h
    intro a ha
    rcases List.mem_append.mp ha with ha | ha
    · exact Own.at m.2 v B q a ha
    · exact OwnF.at ms r C q2 a ha
end
theorem same_frz {F H : Hp} {A : List Addr} (s : Same F H) : Same F (frz F H A) := fun b o e => by
  unfold frz
  split
  · exact s _ _ e
  · exact e
theorem frz_same {F H : Hp} {A : List Addr} (s : Same F H) : Same (frz F H A) H := fun b o e => by
  unfold frz at e
  split at e
  · exact e
  · exact s _ _ e
end
mutual
/-- the data of a tree, bp: those of the places -/
def datW (bp : Nat → List Pa → Option D) : M → Option D
  | .fz d => some d
  | .bp i p => bp i p
  | .ol ms => (datWL bp ms).map D.lst
  | .ot ms => (datWL bp ms).map D.tup
  | .oi C fs => (datWF bp fs).map (D.ins C)
  | .od _ kvs => some (.dic (kvs.map (·.1)) (kvs.map (·.2)))
  | .odt _ => none
def datWL (bp : Nat → List Pa → Option D) : List M → Option (List D)
  | [] => some []
  | m :: ms => match datW bp m, datWL bp ms with
    | some d, some ds => some (d :: ds)
    | _, _ => none
def datWF (bp : Nat → List Pa → Option D) : List (Str × M) → Option (List (Str × D))
  | [] => some []
  | m :: ms => match datW bp m.2, datWF bp ms with
    | some d, some ds => some ((m.1, d) :: ds)
    | _, _ => none
end
/-- a clean tree's data -/
def dat0 : M → Option D := datW fun _ _ => none
def getF : List (Str × M) → Str → Option M
  | [], _ => none
  | p :: r, f => if p.1 = f then some p.2 else getF r f
def setF : List (Str × M) → Str → M → List (Str × M)
  | [], f, m => [(f, m)]
  | p :: r, f, m => if p.1 = f then (f, m) :: r else p :: setF r f m
def getP : M → List Pa → Option M
  | m, [] => some m
  | .ol ms, .ix k :: r => match ms[k]? with
    | some m => getP m r
    | none => none
  | .ot ms, .ix k :: r => match ms[k]? with
    | some m => getP m r
    | none => none
  | .oi _ fs, .fd f :: r => match getF fs f with
    | some m => getP m r
    | none => none
  | _, _ => none
def setP : M → List Pa → M → Option M
  | _, [], n => some n
  | .ol ms, .ix k :: r, n => match ms[k]? with
    | some m => (setP m r n).map fun m' => .ol (ms.set k m')
    | none => none
  | .ot ms, .ix k :: r, n => match ms[k]? with
    | some m => (setP m r n).map fun m' => .ot (ms.set k m')
    | none => none
  | .oi C fs, .fd f :: r, n => match getF fs f with
    | some m => (setP m r n).map fun m' => .oi C (setF fs f m')
    | none => none
  | _, _, _ => none
/-- the slots: a tree each, or nothing known -/
abbrev En := List (Option M)
def En.get (env : En) (i : Nat) : Option M := match env[i]? with
  | some (some m) => some m
  | _ => none
def En.place (env : En) (i : Nat) (p : List Pa) : Option M := match env.get i with
  | some m => getP m p
  | none => none
/-- the data of a result -/
def dat (env : En) : M → Option D := datW fun i p => match env.place i p with
  | some m => dat0 m
  | none => none
section
variable {K : PySem.W.Frag}
mutual
theorem datW_ok {br : Nat → List Pa → V → Prop} {bp : Nat → List Pa → Option D} {F H G : Hp} (s : Same F G) (hb : ∀ i p v d, br i p v → bp i p = some d → Rep K G d v) : ∀ (m : M) (v : V) (A : List Addr) (d : D), Own K br F H m v A → datW bp m = some d → (∀ a ∈ A, ∀ o, H a = some o → G a = some o) → Rep K G d v
  | .fz d, v, A, d', h, e, hA => by
    simp only [Own, datW, Option.some.injEq] at h e
    subst e
    exact Rep.mono s _ _ h.2
  | .bp i p, v, A, d', h, e, hA => by
    simp only [Own, datW] at h e
    exact hb i p v d' h.2 e
  | .ol ms, v, A, d', h, e, hA => by
    simp only [Own, datW, Option.map_eq_some_iff] at h e
    obtain ⟨p, vs, B, rfl, rfl, f, q, r⟩ := h
    obtain ⟨ds, e, rfl⟩ := e
    simp only [Rep]
    exact ⟨p, vs, rfl, hA p List.mem_cons_self _ q, datWL_ok s hb ms vs B ds r e fun a ha => hA a (List.mem_cons_of_mem _ ha)⟩
  | .ot ms, v, A, d', h, e, hA => by
    simp only [Own, datW, Option.map_eq_some_iff] at h e
    obtain ⟨p, vs, B, rfl, rfl, f, q, r⟩ := h
    obtain ⟨ds, e, rfl⟩ := e
    simp only [Rep]
    exact ⟨p, vs, rfl, hA p List.mem_cons_self _ q, datWL_ok s hb ms vs B ds r e fun a ha => hA a (List.mem_cons_of_mem _ ha)⟩
  | .oi C fs, v, A, d', h, e, hA => by
    simp only [Own, datW, Option.map_eq_some_iff] at h e
    obtain ⟨p, dx, gs, B, rfl, rfl, f, f2, q, q2, r⟩ := h
    obtain ⟨ds, e, rfl⟩ := e
    simp only [Rep]
    exact ⟨p, dx, gs, rfl, hA p List.mem_cons_self _ q, hA dx (List.mem_cons_of_mem _ List.mem_cons_self) _ q2, datWF_ok s hb fs gs B ds r e fun a ha => hA a (List.mem_cons_of_mem _ (List.mem_cons_of_mem _ ha))⟩
  | .od lk kvs, v, A, d', h, e, hA => by
    simp only [Own, datW, Option.some.injEq] at h e
    subst e
    obtain ⟨p, vs, rfl, rfl, f, q, r⟩ := h
    simp only [Rep]
    refine ⟨p, vs, rfl, by simp, ?_, RepL.mono s _ _ r⟩
    rcases q with ⟨_, q⟩ | ⟨_, od, q⟩
    · exact .inl (hA p List.mem_cons_self _ q)
    · exact .inr ⟨od, hA p List.mem_cons_self _ q⟩
  | .odt kvs, v, A, d', h, e, hA => by
    simp only [datW] at e
    cases e
theorem datWL_ok {br : Nat → List Pa → V → Prop} {bp : Nat → List Pa → Option D} {F H G : Hp} (s : Same F G) (hb : ∀ i p v d, br i p v → bp i p = some d → Rep K G d v) : ∀ (ms : List M) (vs : List V) (A : List Addr) (ds : List D), OwnL K br F H ms vs A → datWL bp ms = some ds → (∀ a ∈ A, ∀ o, H a = some o → G a = some o) → RepL K G ds vs
  | [], vs, A, ds, h, e, hA => by
    simp only [OwnL, datWL, Option.some.injEq] at h e
    subst e
    simp only [RepL]
    exact h.1
  | m :: ms, vs, A, ds, h, e, hA => by
    simp only [OwnL] at h
    obtain ⟨v, r, B, C, rfl, rfl, q, q2⟩ := h
    simp only [datWL] at e
    split at e
    · rename_i d ds' e1 e2
      cases e
      simp only [RepL]
      exact ⟨v, r, rfl, datW_ok s hb m v B d q e1 (fun a ha => hA a (List.mem_append_left _ ha)), datWL_ok s hb ms r C ds' q2 e2 fun a ha => hA a (List.mem_append_right _ ha)⟩
    · cases e
theorem datWF_ok {br : Nat → List Pa → V → Prop} {bp : Nat → List Pa → Option D} {F H G : Hp} (s : Same F G) (hb : ∀ i p v d, br i p v → bp i p = some d → Rep K G d v) : ∀ (ms : List (Str × M)) (vs : List (Str × V)) (A : List Addr) (ds : List (Str × D)), OwnF K br F H ms vs A → datWF bp ms = some ds → (∀ a ∈ A, ∀ o, H a = some o → G a = some o) → RepF K G ds vs
  | [], vs, A, ds, h, e, hA => by
    simp only [OwnF, datWF, Option.some.injEq] at h e
    subst e
    simp only [RepF]
    exact h.1
  | m :: ms, vs, A, ds, h, e, hA => by
    simp only [OwnF] at h
    obtain ⟨v, r, B, C, rfl, rfl, q, q2⟩ := h
    simp only [datWF] at e
    split at e
    · rename_i d ds' e1 e2
      cases e
      simp only [RepF]
      exact ⟨v, r, rfl, datW_ok s hb m.2 v B d q e1 (fun a ha => hA a (List.mem_append_left _ ha)), datWF_ok s hb ms r C ds' q2 e2 fun a ha => hA a (List.mem_append_right _ ha)⟩
    · cases e
end
end
end T2
end
section
set_option Elab.async false
set_option linter.all false
set_option maxRecDepth 100000
namespace T2
open PySem PySem.Spec PyProof.Rows L2
def ValP (H : Hp) : V → List Pa → V → Prop
  | w, [], v => v = w
  | w, .ix k :: r, v => ∃ a vs u, w = .ref a ∧ (H a = some (.lst vs) ∨ H a = some (.tup vs)) ∧ vs[k]? = some u ∧ ValP H u r v
  | w, .fd f :: r, v => ∃ a C dx gs u, w = .ref a ∧ H a = some (.ins C dx gs) ∧ gs.lookup f = some u ∧ ValP H u r v
theorem ValP.mono {H H' : Hp} (s : Same H H') : ∀ {p : List Pa} {w v : V}, ValP H w p v → ValP H' w p v
  | [], w, v, h => h
  | .ix k :: r, w, v, h => by
    obtain ⟨a, vs, u, e, q, g, h⟩ := h
    exact ⟨a, vs, u, e, q.imp (s _ _) (s _ _), g, ValP.mono s h⟩
  | .fd f :: r, w, v, h => by
    obtain ⟨a, C, dx, gs, u, e, q, g, h⟩ := h
    exact ⟨a, C, dx, gs, u, e, s _ _ q, g, ValP.mono s h⟩
theorem OwnL.get {K : PySem.W.Frag} {br : Nat → List Pa → V → Prop} {F H : Hp} : ∀ {ms : List M} {vs : List V} {A : List Addr} {k : Nat} {m : M}, OwnL K br F H ms vs A → ms[k]? = some m → ∃ v B, vs[k]? = some v ∧ Own K br F H m v B ∧ B.Sublist A
  | [], vs, A, k, m, h, e => by cases e
  | n :: ms, vs, A, 0, m, h, e => by
    simp only [OwnL] at h
    obtain ⟨v, r, B, C, rfl, rfl, q, q2⟩ := h
    cases e
    exact ⟨v, B, rfl, q, List.sublist_append_left B C⟩
  | n :: ms, vs, A, k + 1, m, h, e => by
    simp only [OwnL] at h
    obtain ⟨v, r, B, C, rfl, rfl, q, q2⟩ := h
    obtain ⟨w, D, e1, e2, e3⟩ := OwnL.get (k := k) q2 (by simpa using e)
    exact ⟨w, D, by simpa using e1, e2, e3.trans (List.sublist_append_right B C)⟩
theorem OwnL.len {K : PySem.W.Frag} {br : Nat → List Pa → V → Prop} {F H : Hp} : ∀ {ms : List M} {vs : List V} {A : List Addr}, OwnL K br F H ms vs A → ms.length = vs.length
  | [], vs, A, h => by
    simp only [OwnL] at h
    rw [h.1]
    rfl
  | n :: ms, vs, A, h => by
    simp only [OwnL] at h
    obtain ⟨v, r, B, C, rfl, rfl, q, q2⟩ := h
    simp only [List.length_cons, OwnL.len q2]
theorem OwnF.get {K : PySem.W.Frag} {br : Nat → List Pa → V → Prop} {F H : Hp} : ∀ {ms : List (Str × M)} {vs : List (Str × V)} {A : List Addr} {f : Str} {m : M}, OwnF K br F H ms vs A → getF ms f = some m → ∃ v B, vs.lookup f = some v ∧ Own K br F H m v B ∧ B.Sublist A
  | [], vs, A, k, m, h, e => by cases e
  | n :: ms, vs, A, f, m, h, e => by
    simp only [OwnF] at h
    obtain ⟨v, r, B, C, rfl, rfl, q, q2⟩ := h
    unfold getF at e
    split at e
    · rename_i hf
      cases e
      exact ⟨v, B, by rw [List.lookup_cons, hf]; simp, q, List.sublist_append_left B C⟩
    · rename_i hf
      obtain ⟨w, D, e1, e2, e3⟩ := OwnF.get q2 e
      refine ⟨w, D, ?_, e2, e3.trans (List.sublist_append_right B C)⟩
      rw [List.lookup_cons]
      have : (f == n.1) = false := by simpa using fun z => hf z.symm
      simp only [this, e1]
/-- the subtree at a path stands at the value that is read there -/
theorem Own.path {K : PySem.W.Frag} {F H : Hp} : ∀ {p : List Pa} {m : M} {w : V} {A : List Addr} {n : M} {v : V}, Own K noBr F H m w A → getP m p = some n → ValP H w p v → ∃ B, Own K noBr F H n v B ∧ B.Sublist A
  | [], m, w, A, n, v, h, e, q => by
    have e' : m = n := by
      unfold getP at e
      cases m <;> exact Option.some.inj e
    have q' : v = w := q
    subst e' q'
    exact ⟨A, h, List.Sublist.refl _⟩
  | .ix k :: r, m, w, A, n, v, h, e, q => by
    obtain ⟨a, vs, u, rfl, q, g, q2⟩ := q
    cases m with
    | ol ms =>
      simp only [Own] at h
      obtain ⟨p, vs', B, e1, rfl, f, q3, h⟩ := h
      cases e1
      have : vs = vs' := by rcases q with q | q <;> rw [q3] at q <;> cases q <;> rfl
      subst this
      simp only [getP] at e
      split at e
      · rename_i m' hm
        obtain ⟨u', B', e1, e2, e3⟩ := OwnL.get h hm
        rw [g] at e1
        cases e1
        obtain ⟨C, c1, c2⟩ := Own.path e2 e q2
        exact ⟨C, c1, c2.trans (e3.trans (List.sublist_cons_self _ _))⟩
      · cases e
    | ot ms =>
      simp only [Own] at h
      obtain ⟨p, vs', B, e1, rfl, f, q3, h⟩ := h
      cases e1
      have : vs = vs' := by rcases q with q | q <;> rw [q3] at q <;> cases q <;> rfl
      subst this
      simp only [getP] at e
      split at e
      · rename_i m' hm
        obtain ⟨u', B', e1, e2, e3⟩ := OwnL.get h hm
        rw [g] at e1
        cases e1
        obtain ⟨C, c1, c2⟩ := Own.path e2 e q2
        exact ⟨C, c1, c2.trans (e3.trans (List.sublist_cons_self _ _))⟩
      · cases e
    | fz d => cases e
    | bp i p => cases e
    | oi C fs => cases e
    | od lk kvs => cases e
    | odt _ => cases e
  | .fd f :: r, m, w, A, n, v, h, e, q => by
    obtain ⟨a, C, dx, gs, u, rfl, q, g, q2⟩ := q
    cases m with
    | oi C fs =>
      simp only [Own] at h
      obtain ⟨p, dx', gs', B, e1, rfl, f1, f2, q3, q4, h⟩ := h
      cases e1
      rw [q3] at q
      cases q
      simp only [getP] at e
      split at e
      · rename_i m' hm
        obtain ⟨u', B', e1, e2, e3⟩ := OwnF.get h hm
        rw [g] at e1
        cases e1
        obtain ⟨C, c1, c2⟩ := Own.path e2 e q2
        exact ⟨C, c1, c2.trans (e3.trans ((List.sublist_cons_self _ _).trans (List.sublist_cons_self _ _)))⟩
      · cases e
    | fz d => cases e
    | bp i p => cases e
    | ol ms => cases e
    | ot ms => cases e
    | od lk kvs => cases e
    | odt _ => cases e
/-- what holds of the slots -/
structure EnvOk (K : PySem.W.Frag) (F H : Hp) (σ : L2.St) (env : En) (fp : Nat → List Addr) : Prop where
  len : env.length = σ.length
  sub : Same F H
  slot : ∀ i m, env.get i = some m → ∃ v, σ[i]? = some (some v) ∧ Own K noBr F H m v (fp i)
  nd : ∀ i m, env.get i = some m → (fp i).Nodup
  dj : ∀ i j m n a, env.get i = some m → env.get j = some n → a ∈ fp i → a ∈ fp j → i = j
/-- a step that changes nothing that stands; A: temporary nodes that may freeze -/
structure Step (A : List Addr) (F H F' H' : Hp) : Prop where
  fr : Same F F'
  hpA : ∀ b o, H b = some o → b ∉ A → H' b = some o
  stay : ∀ a, H' a = none → H a = none
  sub : Same F' H'
  nw : ∀ a, F' a ≠ none → F a ≠ none ∨ H a = none ∨ a ∈ A
  lok : ∀ a od u, H a = some (.frz od u) → H' a = some (.frz od u)
theorem Step.mk' {A : List Addr} {F H F' H' : Hp} (fr : Same F F') (hp : Same H H') (sub : Same F' H') (nw : ∀ a, F' a ≠ none → F a ≠ none ∨ H a = none ∨ a ∈ A) : Step A F H F' H' := ⟨fr, fun b o e _ => hp b o e, fun a e => hp.free e, sub, nw, fun a od u e => hp _ _ e⟩
theorem Step.hp {F H F' H' : Hp} (s : Step [] F H F' H') : Same H H' := fun b o e => s.hpA b o e (by simp)
theorem Step.refl {F H : Hp} (s : Same F H) : Step [] F H F H := .mk' (Same.refl _) (Same.refl _) s fun a h => .inl h
theorem Step.trans {A : List Addr} {F H F1 H1 F2 H2 : Hp} (s : Step [] F H F1 H1) (t : Step A F1 H1 F2 H2) (hA : ∀ a ∈ A, H a = none) : Step [] F H F2 H2 :=
  ⟨s.fr.trans t.fr, fun b o e _ => t.hpA b o (s.hp b o e) (fun z => by
    rw [hA b z] at e
    cases e), fun a e => s.stay a (t.stay a e), t.sub, fun a h => by
    rcases t.nw a h with h | h | h
    · rcases s.nw a h with h | h | h
      · exact .inl h
      · exact .inr (.inl h)
      · cases h
    · exact .inr (.inl (s.hp.free h))
    · exact .inr (.inl (hA a h)), fun a od u e => t.lok a od u (s.lok a od u e)⟩
/-- the places of slots -/
def plc (H : Hp) (σ : L2.St) (env : En) : Nat → List Pa → V → Prop := fun i p v => ∃ w, σ[i]? = some (some w) ∧ ValP H w p v ∧ ∃ m, env.place i p = some m
theorem plc.mono {H H' : Hp} {σ : L2.St} {env : En} (s : Same H H') : ∀ i p v, plc H σ env i p v → plc H' σ env i p v := fun i p v ⟨w, e, h, m⟩ => ⟨w, e, h.mono s, m⟩
section
variable {K : PySem.W.Frag} {F H F' H' : Hp} {σ : L2.St} {env : En} {fp : Nat → List Addr} {A B : List Addr}
theorem EnvOk.step (ok : EnvOk K F H σ env fp) (s : Step A F H F' H') (hA : ∀ a ∈ A, ∀ i m, env.get i = some m → a ∉ fp i) : EnvOk K F' H' σ env fp := by
  refine ⟨ok.len, s.sub, fun i m e => ?_, ok.nd, ok.dj⟩
  obtain ⟨v, e1, e2⟩ := ok.slot i m e
  refine ⟨v, e1, e2.mono s.fr (fun _ _ _ h => h) _ _ _ fun a ha => ⟨?_, fun o q => s.hpA a o q fun z => hA a z i m e ha⟩⟩
  obtain ⟨h1, o, h2⟩ := e2.at _ _ _ a ha
  cases q : F' a with
  | none => rfl
  | some u =>
    rcases s.nw a (by rw [q]; simp) with z | z | z
    · exact absurd h1 z
    · rw [h2] at z
      cases z
    · exact absurd ha (hA a z i m e)
theorem Own.step {m : M} {v : V} (h : Own K (plc H σ env) F H m v B) (s : Step [] F H F' H') : Own K (plc H' σ env) F' H' m v B := by
  refine h.mono s.fr (plc.mono s.hp) _ _ _ fun a ha => ⟨?_, s.hp a⟩
  obtain ⟨h1, o, h2⟩ := h.at _ _ _ a ha
  cases q : F' a with
  | none => rfl
  | some u =>
    rcases s.nw a (by rw [q]; simp) with z | z | z
    · exact absurd h1 z
    · rw [h2] at z
      cases z
    · cases z
theorem OwnL.step {ms : List M} {vs : List V} (h : OwnL K (plc H σ env) F H ms vs B) (s : Step [] F H F' H') : OwnL K (plc H' σ env) F' H' ms vs B := by
  refine h.mono s.fr (plc.mono s.hp) _ _ _ fun a ha => ⟨?_, s.hp a⟩
  obtain ⟨h1, o, h2⟩ := h.at _ _ _ a ha
  cases q : F' a with
  | none => rfl
  | some u =>
    rcases s.nw a (by rw [q]; simp) with z | z | z
    · exact absurd h1 z
    · rw [h2] at z
      cases z
    · cases z
theorem EnvOk.data (ok : EnvOk K F H σ env fp) {m : M} {v : V} {d : D} (h : Own K (plc H σ env) F H m v B) (e : dat env m = some d) : Rep K H d v := by
  refine datW_ok ok.sub (fun i p v d hp hd => ?_) m v B d h e fun a _ o q => q
  obtain ⟨w, e1, e2, n, e3⟩ := hp
  rw [e3] at hd
  unfold En.place at e3
  split at e3
  · rename_i m' hm
    obtain ⟨w', g1, g2⟩ := ok.slot i m' hm
    rw [e1] at g1
    cases g1
    obtain ⟨C, c1, _⟩ := g2.path e3 e2
    exact datW_ok ok.sub (fun _ _ _ _ z => z.elim) n v C d c1 hd fun a _ o q => q
  · cases e3
theorem EnvOk.dataL (ok : EnvOk K F H σ env fp) {ms : List M} {vs : List V} {ds : List D} (h : OwnL K (plc H σ env) F H ms vs B) (e : datWL (fun i p => match env.place i p with
  | some m => dat0 m
  | none => none) ms = some ds) : RepL K H ds vs := by
  refine datWL_ok ok.sub (fun i p v d hp hd => ?_) ms vs B ds h e fun a _ o q => q
  obtain ⟨w, e1, e2, n, e3⟩ := hp
  rw [e3] at hd
  unfold En.place at e3
  split at e3
  · rename_i m' hm
    obtain ⟨w', g1, g2⟩ := ok.slot i m' hm
    rw [e1] at g1
    cases g1
    obtain ⟨C, c1, _⟩ := g2.path e3 e2
    exact datW_ok ok.sub (fun _ _ _ _ z => z.elim) n v C d c1 hd fun a _ o q => q
  · cases e3
end
theorem own_fz {K : PySem.W.Frag} {br : Nat → List Pa → V → Prop} {F H : Hp} {d : D} {v : V} (h : Rep K F d v) : Own K br F H (.fz d) v [] := by
  simp only [Own]
  exact ⟨trivial, h⟩
theorem own_bp {K : PySem.W.Frag} {br : Nat → List Pa → V → Prop} {F H : Hp} {i : Nat} {p : List Pa} {v : V} (h : br i p v) : Own K br F H (.bp i p) v [] := by
  simp only [Own]
  exact ⟨trivial, h⟩
theorem ownL_nil {K : PySem.W.Frag} {br : Nat → List Pa → V → Prop} {F H : Hp} : OwnL K br F H [] [] [] := by
  simp only [OwnL]
  exact ⟨trivial, trivial⟩
section
variable (K : PySem.W.Frag)
/-- an expression: its result from the slots -/
def tD (f : En → Option M) : TE := fun σ H Q => ∃ env m F fp, f env = some m ∧ EnvOk K F H σ env fp ∧
  ∀ v F' H' A, Step [] F H F' H' → Own K (plc H' σ env) F' H' m v A → A.Nodup → (∀ a ∈ A, H a = none) → Q v H'
def tDA (f : En → Option (List M)) : TA := fun σ H Q => ∃ env ms F fp, f env = some ms ∧ EnvOk K F H σ env fp ∧
  ∀ vs F' H' A, Step [] F H F' H' → OwnL K (plc H' σ env) F' H' ms vs A → A.Nodup → (∀ a ∈ A, H a = none) → Q vs H'
def tDT (f : En → Option Bool) : TT := fun σ H Q => ∃ env b F fp, f env = some b ∧ EnvOk K F H σ env fp ∧ ∀ F' H', Step [] F H F' H' → Q b H'
end
def PD (X : Cx) (e : Expr) (f : En → Option M) : Prop := PE X e (tD X.K f)
def PDA (X : Cx) (es : List Expr) (f : En → Option (List M)) : Prop := PA X es (tDA X.K f)
def PDT (X : Cx) (e : Expr) (f : En → Option Bool) : Prop := PT X e (tDT X.K f)
theorem PE.imp {X : Cx} {e : Expr} {t u : TE} (h : PE X e t) (i : ∀ σ H Q, u σ H Q → t σ H Q) : PE X e u := ⟨fun pins s σ H Q I q => h.run pins s σ H Q I (i _ _ _ q)⟩
theorem PT.imp {X : Cx} {e : Expr} {t u : TT} (h : PT X e t) (i : ∀ σ H Q, u σ H Q → t σ H Q) : PT X e u := ⟨fun pins s σ H Q I q => h.run pins s σ H Q I (i _ _ _ q)⟩
theorem PA.imp {X : Cx} {e : List Expr} {t u : TA} (h : PA X e t) (i : ∀ σ H Q, u σ H Q → t σ H Q) : PA X e u := ⟨fun pos pins s σ H Q I q => h.run pos pins s σ H Q I (i _ _ _ q)⟩
/-- an operation on results, by the layer's rule r on values -/
def OpS (K : PySem.W.Frag) (op : En → List M → Option M) (r : List V → Hp → VK → Prop) : Prop :=
  ∀ (σ : L2.St) (env : En) (F H : Hp) (fp : Nat → List Addr) (ms : List M) (vs : List V) (A : List Addr) (m : M) (Q : VK), EnvOk K F H σ env fp → OwnL K (plc H σ env) F H ms vs A → A.Nodup →
    (∀ a ∈ A, ∀ i n, env.get i = some n → a ∉ fp i) → op env ms = some m →
    (∀ v F' H' B, Step A F H F' H' → Own K (plc H' σ env) F' H' m v B → B.Nodup → (∀ a ∈ B, H a = none ∨ a ∈ A) → Q v H') → r vs H Q
/-- an operation behind an argument list -/
def opr (op : En → List M → Option M) (fs : En → Option (List M)) : En → Option M := fun env => match fs env with
  | some ms => op env ms
  | none => none
section
variable {K : PySem.W.Frag} {F H F' H' : Hp} {σ : L2.St} {env : En} {fp : Nat → List Addr} {A B : List Addr}
/-- behind the arguments: the operation -/
theorem tDA.op {f : En → Option (List M)} {op : En → List M → Option M} {r : List V → Hp → VK → Prop} (ho : OpS K op r) {Q : VK} (h : tD K (opr op f) σ H Q) : tDA K f σ H fun vs H1 => r vs H1 Q := by
  obtain ⟨env, m, F, fp, e, ok, q⟩ := h
  unfold opr at e
  split at e
  · rename_i ms hms
    refine ⟨env, ms, F, fp, hms, ok, fun vs F' H' A s hO hn hA => ?_⟩
    have dj : ∀ a ∈ A, ∀ i n, env.get i = some n → a ∉ fp i := fun a ha i n hi hin => by
      obtain ⟨v, e1, e2⟩ := ok.slot i n hi
      obtain ⟨_, o, z⟩ := e2.at _ _ _ a hin
      rw [hA a ha] at z
      cases z
    refine ho σ env F' H' fp ms vs A m Q (ok.step s fun a ha => by cases ha) hO hn dj e fun v F2 H2 B s2 hB hnB hAB => ?_
    refine q v F2 H2 B (s.trans s2 hA) hB hnB fun a ha => ?_
    rcases hAB a ha with z | z
    · exact s.hp.free z
    · exact hA a z
  · cases e
end
section
variable {X : Cx} {e : Expr} {es : List Expr} {f : En → Option M} {fs : En → Option (List M)} {pos : Pos}
/-- the slots' own names -/
def nam (i : Nat) : En → Option M := fun env => match env.get i with
  | some (.fz d) => some (.fz d)
  | some _ => some (.bp i [])
  | none => none
theorem pd_name (i : Nat) {x : Str} (hN : X.N[i]? = some x := by rfl) (hv : Vis X.env.scope x := by first | exact Or.inl rfl | exact Or.inr (Or.inl rfl) | exact Or.inr (Or.inr rfl)) (hd : (x == ("__debug__" : Str)) = false := by decide)
    (hcd : (x == ("__classdict__" : Str)) = false := by decide) : PD X (.Name x pos) (nam i) := by
  refine PE.imp (pe_var hN hv hd hcd) fun σ H Q h => ?_
  obtain ⟨env, m, F, fp, e, ok, q⟩ := h
  unfold nam at e
  split at e
  · rename_i d hm
    cases e
    obtain ⟨v, e1, e2⟩ := ok.slot i _ hm
    simp only [Own] at e2
    exact ⟨v, e1, q v F H [] (.refl ok.sub) (own_fz e2.2) .nil fun a z => by cases z⟩
  · rename_i m' hne hm
    cases e
    obtain ⟨v, e1, e2⟩ := ok.slot i _ hm
    refine ⟨v, e1, q v F H [] (.refl ok.sub) (own_bp ?_) .nil fun a z => by cases z⟩
    refine ⟨v, e1, rfl, m', ?_⟩
    unfold En.place
    rw [hm]
    unfold getP
    cases m' <;> rfl
  · cases e
def cst (d : D) : En → Option M := fun _ => some (.fz d)
theorem pd_cst {e : Expr} {d : D} (h : PE X e (tC (toV d))) (hs : scal d = true) : PD X e (cst d) := by
  refine PE.imp h fun σ H Q h => ?_
  obtain ⟨env, m, F, fp, e, ok, q⟩ := h
  cases e
  exact q _ F H [] (.refl ok.sub) (own_fz ((rep_sc hs).mpr rfl)) .nil fun a z => by cases z
theorem pd_int {i : Int} {j} : PD X (.Constant (.int i) j pos) (cst (.int i)) := pd_cst (d := .int i) pe_int rfl
theorem pd_bl {b j} : PD X (.Constant (.bool b) j pos) (cst (.bl b)) := pd_cst (d := .bl b) pe_bl rfl
theorem pd_non {j} : PD X (.Constant .none j pos) (cst .non) := pd_cst (d := .non) pe_non rfl
theorem pd_str {x j} : PD X (.Constant (.str x) j pos) (cst (.str x)) := pd_cst (d := .str x) pe_str rfl
/-- a module's constant -/
theorem pd_glob {x : Str} {d : D} {u : Value} (hg : Gl X x) (hm : X.mg x = some u) (r : RelV (toV d) u) (hs : scal d = true) (hd : (x == ("__debug__" : Str)) = false := by decide) : PD X (.Name x pos) (cst d) := pd_cst (pe_glob hg hm r hd) hs
def aNil : En → Option (List M) := fun _ => some []
def aCons (f : En → Option M) (fs : En → Option (List M)) : En → Option (List M) := fun env => match f env, fs env with
  | some m, some ms => some (m :: ms)
  | _, _ => none
theorem pda_nil : PDA X [] aNil := by
  refine PA.imp pa_nil fun σ H Q h => ?_
  obtain ⟨env, m, F, fp, e, ok, q⟩ := h
  cases e
  exact q [] F H [] (.refl ok.sub) ownL_nil .nil fun a z => by cases z
theorem pda_cons (ha : PD X e f) (hr : PDA X es fs) (hs : starEach (e :: es) X.env = (false, eval e X.env) :: starEach es X.env := by rfl) : PDA X (e :: es) (aCons f fs) := by
  refine PA.imp (pa_cons ha hr hs) fun σ H Q h => ?_
  obtain ⟨env, m, F, fp, e, ok, q⟩ := h
  unfold aCons at e
  split at e
  · rename_i m1 ms e1 e2
    cases e
    refine ⟨env, m1, F, fp, e1, ok, fun v F1 H1 A s1 o1 n1 a1 => ?_⟩
    refine ⟨env, ms, F1, fp, e2, ok.step s1 (fun a z => by cases z), fun vs F2 H2 B s2 o2 n2 a2 => ?_⟩
    have no : ∀ a ∈ A, a ∉ B := fun a ha hb => by
      obtain ⟨_, o, z⟩ := o1.at _ _ _ a ha
      rw [a2 a hb] at z
      cases z
    refine q (v :: vs) F2 H2 (A ++ B) (s1.trans s2 fun a z => by cases z) ?_ ?_ fun a ha => ?_
    · simp only [OwnL]
      exact ⟨v, vs, A, B, rfl, rfl, o1.step s2, o2⟩
    · exact List.nodup_append.mpr ⟨n1, n2, fun a ha b hb e => no a ha (e ▸ hb)⟩
    · rcases List.mem_append.mp ha with z | z
      · exact a1 a z
      · exact s1.hp.free (a2 a z)
  · cases e
end
end T2
end
section
set_option Elab.async false
set_option linter.all false
set_option maxRecDepth 100000
namespace T2
open PySem PySem.Spec PyProof.Rows L2
def plD (env : En) : Nat → List Pa → Option D := fun i p => match env.place i p with
  | some m => dat0 m
  | none => none
def dats (env : En) (ms : List M) : Option (List D) := datWL (plD env) ms
/-- an operation on data that gives a plain value -/
def sop (g : List D → Option D) : En → List M → Option M := fun env ms => match dats env ms with
  | some ds => match g ds with
    | some d => if scal d then some (.fz d) else none
    | none => none
  | none => none
def r2L (r : R2) : List V → Hp → VK → Prop := fun vs H Q => ∃ x y, vs = [x, y] ∧ r x y H Q
def r1L (r : V → Hp → VK → Prop) : List V → Hp → VK → Prop := fun vs H Q => ∃ x, vs = [x] ∧ r x H Q
section
variable {K : PySem.W.Frag}
theorem scalS {g : List D → Option D} {r : List V → Hp → VK → Prop} (hr : ∀ (H : Hp) (ds : List D) (vs : List V) (d : D) (Q : VK), RepL K H ds vs → g ds = some d → scal d = true → Q (toV d) H → r vs H Q) : OpS K (sop g) r := by
  intro σ env F H fp ms vs A m Q ok hO hn dj e q
  unfold sop at e
  split at e
  · rename_i ds hd
    split at e
    · rename_i d hg
      split at e
      · rename_i hs
        cases e
        exact hr H ds vs d Q (ok.dataL hO hd) hg hs (q _ F H [] (.mk' (.refl _) (.refl _) ok.sub fun a h => .inl h) (own_fz ((rep_sc hs).mpr rfl)) .nil fun a z => by cases z)
      · cases e
    · cases e
  · cases e
def oOr (f g : En → List M → Option M) : En → List M → Option M := fun env ms => match f env ms with
  | some m => some m
  | none => g env ms
theorem OpS.or {f g : En → List M → Option M} {r r' : List V → Hp → VK → Prop} (hf : OpS K f r) (hg : OpS K g r') : OpS K (oOr f g) (fun vs H Q => r vs H Q ∨ r' vs H Q) := by
  intro σ env F H fp ms vs A m Q ok hO hn dj e q
  unfold oOr at e
  split at e
  · rename_i m' hm
    cases e
    exact .inl (hf σ env F H fp ms vs A m Q ok hO hn dj hm q)
  · exact .inr (hg σ env F H fp ms vs A m Q ok hO hn dj e q)
theorem OpS.imp {f : En → List M → Option M} {r r' : List V → Hp → VK → Prop} (hf : OpS K f r) (h : ∀ vs H Q, r vs H Q → r' vs H Q) : OpS K f r' := fun σ env F H fp ms vs A m Q ok hO hn dj e q => h _ _ _ (hf σ env F H fp ms vs A m Q ok hO hn dj e q)
theorem OpS.or2 {f g : En → List M → Option M} {r r' : R2} (hf : OpS K f (r2L r)) (hg : OpS K g (r2L r')) : OpS K (oOr f g) (r2L fun x y H Q => r x y H Q ∨ r' x y H Q) :=
  (hf.or hg).imp fun vs H Q h => by
    rcases h with ⟨x, y, e, h⟩ | ⟨x, y, e, h⟩
    · exact ⟨x, y, e, .inl h⟩
    · exact ⟨x, y, e, .inr h⟩
theorem repL1 {H : Hp} {d : D} {vs : List V} (h : RepL K H [d] vs) : ∃ v, vs = [v] ∧ Rep K H d v := by
  simp only [RepL] at h
  obtain ⟨v, r, rfl, q, rfl⟩ := h
  exact ⟨v, rfl, q⟩
theorem repL2 {H : Hp} {d e : D} {vs : List V} (h : RepL K H [d, e] vs) : ∃ v w, vs = [v, w] ∧ Rep K H d v ∧ Rep K H e w := by
  simp only [RepL] at h
  obtain ⟨v, r, rfl, q, w, r', rfl, q', rfl⟩ := h
  exact ⟨v, w, rfl, q, q'⟩
def gII (c : Int → Int → Bool) (f : Int → Int → Int) : List D → Option D
  | [.int i, .int j] => if c i j then some (.int (f i j)) else none
  | _ => none
def gIB (f : Int → Int → Bool) : List D → Option D
  | [.int i, .int j] => some (.bl (f i j))
  | _ => none
theorem sII {c : Int → Int → Bool} {f : Int → Int → Int} {C : Int → Int → Prop} {g : Int → Int → V} (hc : ∀ i j, c i j = true → C i j) (hg : ∀ i j, C i j → g i j = .int (f i j)) : OpS K (sop (gII c f)) (r2L (rI C g)) :=
  scalS fun H ds vs d Q h e hs q => by
    unfold gII at e
    split at e
    · rename_i i j
      split at e
      · rename_i hh
        cases e
        obtain ⟨v, w, rfl, q1, q2⟩ := repL2 h
        simp only [Rep] at q1 q2
        exact ⟨v, w, rfl, i, j, q1, q2, hc i j hh, by rw [hg i j (hc i j hh)]; exact q⟩
      · cases e
    · cases e
theorem sII0 {f : Int → Int → Int} : OpS K (sop (gII (fun _ _ => true) f)) (r2L (rI0 fun i j => .int (f i j))) :=
  scalS fun H ds vs d Q h e hs q => by
    unfold gII at e
    split at e
    · rename_i i j
      cases e
      obtain ⟨v, w, rfl, q1, q2⟩ := repL2 h
      simp only [Rep] at q1 q2
      exact ⟨v, w, rfl, i, j, q1, q2, q⟩
    · cases e
theorem sIB {f : Int → Int → Bool} : OpS K (sop (gIB f)) (r2L (rI0 fun i j => .bl (f i j))) :=
  scalS fun H ds vs d Q h e hs q => by
    unfold gIB at e
    split at e
    · rename_i i j
      cases e
      obtain ⟨v, w, rfl, q1, q2⟩ := repL2 h
      simp only [Rep] at q1 q2
      exact ⟨v, w, rfl, i, j, q1, q2, q⟩
    · cases e
def cMul (i j : Int) : Bool := decide ((Builtin.Int.intBits i : Int) + (Builtin.Int.intBits j : Int) ≤ 134217728)
def cDiv (i j : Int) : Bool := decide (0 < j ∧ j.natAbs.log2 < 9000)
def cMod (i j : Int) : Bool := decide (0 < j)
def cPow (i j : Int) : Bool := decide (0 ≤ j ∧ j ≤ 1000000 ∧ i.natAbs < 2 ^ 64)
def cShr (i j : Int) : Bool := decide (0 ≤ j)
def iAdd := gII (fun _ _ => true) fun i j => i + j
def iSub := gII (fun _ _ => true) fun i j => i - j
def iMul := gII cMul fun i j => i * j
def iDiv := gII cDiv fun i j => i / j
def iMod := gII cMod fun i j => i % j
def iPow := gII cPow fun i j => i ^ j.toNat
def iShl := gII cPow fun i j => i * 2 ^ j.toNat
def iShr := gII cShr fun i j => i / 2 ^ j.toNat
def iAnd := gII (fun _ _ => true) fun i j => Builtin.bitAnd i j
def iOr := gII (fun _ _ => true) fun i j => Builtin.bitOr i j
def iXor := gII (fun _ _ => true) fun i j => Builtin.bitXor i j
theorem s_add : OpS K (sop iAdd) (r2L (rI0 fun i j => .int (i + j))) := sII0
theorem s_sub : OpS K (sop iSub) (r2L (rI0 fun i j => .int (i - j))) := sII0
theorem s_mul : OpS K (sop iMul) (r2L (rI CMulX fun i j => .int (i * j))) := sII (fun i j h => by unfold cMul at h; have h := of_decide_eq_true h; exact h) fun _ _ _ => rfl
theorem s_div : OpS K (sop iDiv) (r2L (rI CDivW fun i j => .int (i / j))) := sII (fun i j h => by unfold cDiv at h; have h := of_decide_eq_true h; exact h) fun _ _ _ => rfl
theorem s_mod : OpS K (sop iMod) (r2L (rI (fun _ j => 0 < j) fun i j => .int (i % j))) := sII (fun i j h => by unfold cMod at h; have h := of_decide_eq_true h; exact h) fun _ _ _ => rfl
theorem s_pow : OpS K (sop iPow) (r2L (rI CPow fun i j => .int (i ^ j.toNat))) := sII (fun i j h => by unfold cPow at h; have h := of_decide_eq_true h; exact h) fun _ _ _ => rfl
theorem s_shl : OpS K (sop iShl) (r2L (rI CPow fun i j => .int (i * 2 ^ j.toNat))) := sII (fun i j h => by unfold cPow at h; have h := of_decide_eq_true h; exact h) fun _ _ _ => rfl
theorem s_shr : OpS K (sop iShr) (r2L (rI (fun _ j => 0 ≤ j) fun i j => .int (i / 2 ^ j.toNat))) := sII (fun i j h => by unfold cShr at h; have h := of_decide_eq_true h; exact h) fun _ _ _ => rfl
theorem s_and : OpS K (sop iAnd) (r2L (rI0 fun i j => .int (Builtin.bitAnd i j))) := sII0
theorem s_or : OpS K (sop iOr) (r2L (rI0 fun i j => .int (Builtin.bitOr i j))) := sII0
def iLt := gIB fun i j => decide (i < j)
def iLe := gIB fun i j => decide (i ≤ j)
def iGt := gIB fun i j => decide (j < i)
def iGe := gIB fun i j => decide (j ≤ i)
theorem s_lt : OpS K (sop iLt) (r2L (rI0 fun i j => .bl (decide (i < j)))) := sIB
theorem s_le : OpS K (sop iLe) (r2L (rI0 fun i j => .bl (decide (i ≤ j)))) := sIB
theorem s_gt : OpS K (sop iGt) (r2L (rI0 fun i j => .bl (decide (j < i)))) := sIB
theorem s_ge : OpS K (sop iGe) (r2L (rI0 fun i j => .bl (decide (j ≤ i)))) := sIB
/-- texts joined -/
def gStr : List D → Option D
  | [.str x, .str y] => if decide (x.length + y.length ≤ sizeLine) then some (.str (x ++ y)) else none
  | _ => none
theorem s_addS : OpS K (sop gStr) (r2L fun x y H Q => ∃ i j, x = .str i ∧ y = .str j ∧ i.length + j.length ≤ sizeLine ∧ Q (.str (i ++ j)) H) :=
  scalS fun H ds vs d Q h e hs q => by
    unfold gStr at e
    split at e
    · rename_i i j
      split at e
      · rename_i hh
        cases e
        obtain ⟨v, w, rfl, q1, q2⟩ := repL2 h
        simp only [Rep] at q1 q2
        exact ⟨v, w, rfl, i, j, q1, q2, of_decide_eq_true hh, q⟩
      · cases e
    · cases e
/-- one int -/
def gU (f : Int → Int) : List D → Option D
  | [.int i] => some (.int (f i))
  | _ => none
theorem sU {f : Int → Int} : OpS K (sop (gU f)) (r1L (rU fun i => .int (f i))) :=
  scalS fun H ds vs d Q h e hs q => by
    unfold gU at e
    split at e
    · rename_i i
      cases e
      obtain ⟨v, rfl, q1⟩ := repL1 h
      simp only [Rep] at q1
      exact ⟨v, rfl, i, q1, q⟩
    · cases e
mutual
def pyD : D → Option PyData
  | .non => some .none
  | .bl b => some (.bool b)
  | .int i => some (.int i)
  | .str x => some (.str x)
  | .lst ds => (pyDL ds).map .list
  | .tup ds => (pyDL ds).map .tuple
  | .ins _ _ => none
  | .dic _ _ => none
  | .any => none
  | .exc _ _ _ => none
  | .scr ns => some (.list (ns.map .int))
def pyDL : List D → Option (List PyData)
  | [] => some []
  | d :: ds => match pyD d, pyDL ds with
    | some x, some xs => some (x :: xs)
    | _, _ => none
end
theorem dpAll_ints {H : Hp} : ∀ ns : List Int, DpAll K H (ns.map V.int) (ns.map .int)
  | [] => .nil
  | n :: ns => .cons (.int n) (dpAll_ints ns)
mutual
theorem pyD_ok {H : Hp} : ∀ (d : D) (v : V) (x : PyData), Rep K H d v → pyD d = some x → Dp K H v x
  | .non, v, x, h, e => by
    simp only [Rep, pyD, Option.some.injEq] at h e
    subst h e
    exact .non
  | .bl b, v, x, h, e => by
    simp only [Rep, pyD, Option.some.injEq] at h e
    subst h e
    exact .bl b
  | .int b, v, x, h, e => by
    simp only [Rep, pyD, Option.some.injEq] at h e
    subst h e
    exact .int b
  | .str b, v, x, h, e => by
    simp only [Rep, pyD, Option.some.injEq] at h e
    subst h e
    exact .str b
  | .lst ds, v, x, h, e => by
    simp only [Rep, pyD, Option.map_eq_some_iff] at h e
    obtain ⟨a, vs, rfl, q, r⟩ := h
    obtain ⟨xs, e, rfl⟩ := e
    exact .lst (.of q) (pyDL_ok ds vs xs r e)
  | .tup ds, v, x, h, e => by
    simp only [Rep, pyD, Option.map_eq_some_iff] at h e
    obtain ⟨a, vs, rfl, q, r⟩ := h
    obtain ⟨xs, e, rfl⟩ := e
    exact .tup (.of q) (pyDL_ok ds vs xs r e)
  | .ins C fs, v, x, h, e => by cases e
  | .dic _ _, v, x, h, e => by cases e
  | .any, v, x, h, e => by cases e
  | .exc _ _ _, v, x, h, e => by cases e
  | .scr ns, v, x, h, e => by
    simp only [Rep, pyD, Option.some.injEq] at h e
    obtain ⟨a, rfl, q⟩ := h
    subst e
    exact .lst q (dpAll_ints ns)
theorem pyDL_ok {H : Hp} : ∀ (ds : List D) (vs : List V) (xs : List PyData), RepL K H ds vs → pyDL ds = some xs → DpAll K H vs xs
  | [], vs, xs, h, e => by
    simp only [RepL, pyDL, Option.some.injEq] at h e
    subst h e
    exact .nil
  | d :: ds, vs, xs, h, e => by
    simp only [RepL] at h
    obtain ⟨v, r, rfl, q, q2⟩ := h
    simp only [pyDL] at e
    split at e
    · rename_i x xs' e1 e2
      cases e
      exact .cons (pyD_ok d v x q e1) (pyDL_ok ds r xs' q2 e2)
    · cases e
end
/-- equal, as Python has it -/
def gEq (neg : Bool) : List D → Option D
  | [a, b] => match pyD a, pyD b with
    | some x, some y => if SeqAt.shaped x && SeqAt.shaped y then some (.bl (if neg then !PyData.eqv x y else PyData.eqv x y)) else none
    | _, _ => none
  | _ => none
theorem s_eq : OpS K (sop (gEq false)) (r2L (rEqD K)) := scalS fun H ds vs d Q h e hs q => by
  unfold gEq at e
  split at e
  · rename_i a b
    split at e
    · rename_i x y e1 e2
      split at e
      · rename_i hh
        cases e
        obtain ⟨v, w, rfl, q1, q2⟩ := repL2 h
        have hh := Bool.and_eq_true_iff.mp hh
        exact ⟨v, w, rfl, x, y, pyD_ok a v x q1 e1, pyD_ok b w y q2 e2, hh.1, hh.2, q⟩
      · cases e
    · cases e
  · cases e
theorem s_ne : OpS K (sop (gEq true)) (r2L (rNeD K)) := scalS fun H ds vs d Q h e hs q => by
  unfold gEq at e
  split at e
  · rename_i a b
    split at e
    · rename_i x y e1 e2
      split at e
      · rename_i hh
        cases e
        obtain ⟨v, w, rfl, q1, q2⟩ := repL2 h
        have hh := Bool.and_eq_true_iff.mp hh
        exact ⟨v, w, rfl, x, y, pyD_ok a v x q1 e1, pyD_ok b w y q2 e2, hh.1, hh.2, q⟩
      · cases e
    · cases e
  · cases e
/-- is None -/
def gIsN (neg : Bool) : List D → Option D
  | [a, .non] => some (.bl (if neg then !(match a with | .non => true | _ => false) else (match a with | .non => true | _ => false)))
  | _ => none
theorem rep_non {H : Hp} {v : V} : ∀ {a : D}, Rep K H a v → decide (v = V.non) = (match a with | .non => true | _ => false)
  | .non, h => by simp only [Rep] at h; subst h; rfl
  | .bl _, h => by simp only [Rep] at h; subst h; rfl
  | .int _, h => by simp only [Rep] at h; subst h; rfl
  | .str _, h => by simp only [Rep] at h; subst h; rfl
  | .lst _, h => by simp only [Rep] at h; obtain ⟨a, vs, rfl, _⟩ := h; rfl
  | .tup _, h => by simp only [Rep] at h; obtain ⟨a, vs, rfl, _⟩ := h; rfl
  | .ins _ _, h => by simp only [Rep] at h; obtain ⟨a, vs, dx, rfl, _⟩ := h; rfl
  | .dic _ _, h => by simp only [Rep] at h; obtain ⟨a, vs, rfl, _⟩ := h; rfl
  | .any, h => by simp only [Rep] at h; obtain ⟨a, rfl⟩ := h; rfl
  | .exc _ _ _, h => by simp only [Rep] at h; obtain ⟨a, d, gs, rfl, _⟩ := h; rfl
  | .scr _, h => by simp only [Rep] at h; obtain ⟨a, rfl, _⟩ := h; rfl
theorem s_isN : OpS K (sop (gIsN false)) (r2L fun x y H Q => y = .non ∧ Q (.bl (decide (x = .non))) H) := scalS fun H ds vs d Q h e hs q => by
  unfold gIsN at e
  split at e
  · rename_i a
    obtain ⟨v, w, rfl, q1, q2⟩ := repL2 h
    refine ⟨v, w, rfl, by simpa only [Rep] using q2, ?_⟩
    rw [rep_non q1]
    cases e
    exact q
  · cases e
end
section
variable {K : PySem.W.Frag}
theorem tDA.cons {f : En → Option M} {fs : En → Option (List M)} {σ : L2.St} {H : Hp} {R : List V → Hp → Prop} (h : tDA K (aCons f fs) σ H R) : tD K f σ H fun v H1 => tDA K fs σ H1 fun vs H2 => R (v :: vs) H2 := by
  obtain ⟨env, m, F, fp, e, ok, q⟩ := h
  unfold aCons at e
  split at e
  · rename_i m1 ms e1 e2
    cases e
    refine ⟨env, m1, F, fp, e1, ok, fun v F1 H1 A s1 o1 n1 a1 => ?_⟩
    refine ⟨env, ms, F1, fp, e2, ok.step s1 (fun a z => by cases z), fun vs F2 H2 B s2 o2 n2 a2 => ?_⟩
    have no : ∀ a ∈ A, a ∉ B := fun a ha hb => by
      obtain ⟨_, o, z⟩ := o1.at _ _ _ a ha
      rw [a2 a hb] at z
      cases z
    refine q (v :: vs) F2 H2 (A ++ B) (s1.trans s2 fun a z => by cases z) ?_ ?_ fun a ha => ?_
    · simp only [OwnL]
      exact ⟨v, vs, A, B, rfl, rfl, o1.step s2, o2⟩
    · exact List.nodup_append.mpr ⟨n1, n2, fun a ha b hb e => no a ha (e ▸ hb)⟩
    · rcases List.mem_append.mp ha with z | z
      · exact a1 a z
      · exact s1.hp.free (a2 a z)
  · cases e
theorem tDA.nil {σ : L2.St} {H : Hp} {R : List V → Hp → Prop} (h : tDA K aNil σ H R) : R [] H := by
  obtain ⟨env, m, F, fp, e, ok, q⟩ := h
  cases e
  exact q [] F H [] (.refl ok.sub) ownL_nil .nil fun a z => by cases z
theorem tD.mono {f : En → Option M} {σ : L2.St} {H : Hp} {Q R : VK} (h : tD K f σ H Q) (i : ∀ v H', Q v H' → R v H') : tD K f σ H R := by
  obtain ⟨env, m, F, fp, e, ok, q⟩ := h
  exact ⟨env, m, F, fp, e, ok, fun v F' H' A a b c d => i _ _ (q v F' H' A a b c d)⟩
theorem tDA.two {f g : En → Option M} {σ : L2.St} {H : Hp} {R : List V → Hp → Prop} (h : tDA K (aCons f (aCons g aNil)) σ H R) : tD K f σ H fun v H1 => tD K g σ H1 fun w H2 => R [v, w] H2 :=
  h.cons.mono fun v H1 h1 => (tDA.cons h1).mono fun w H2 h2 => tDA.nil h2
theorem tDA.one {f : En → Option M} {σ : L2.St} {H : Hp} {R : List V → Hp → Prop} (h : tDA K (aCons f aNil) σ H R) : tD K f σ H fun v H1 => R [v] H1 :=
  h.cons.mono fun v H1 h1 => tDA.nil h1
end
section
variable {X : Cx} {a b : Expr} {fa fb : En → Option M} {pos : Pos} {o : En → List M → Option M}
abbrev bin (o : En → List M → Option M) (f g : En → Option M) : En → Option M := opr o (aCons f (aCons g aNil))
abbrev una (o : En → List M → Option M) (f : En → Option M) : En → Option M := opr o (aCons f aNil)
theorem pd_op2 {e : Expr} {r : R2} {o : En → List M → Option M} (h : PE X e (tOp r (tD X.K fa) (tD X.K fb))) (ho : OpS X.K o (r2L r)) : PD X e (bin o fa fb) := by
  refine PE.imp h fun σ H Q q => ?_
  refine (tDA.op ho q).two.mono fun v H1 h1 => h1.mono fun w H2 h2 => ?_
  obtain ⟨x, y, e, h2⟩ := h2
  cases e
  exact h2
theorem pd_bin {op : Operator} {r : R2} (hr : OpR X (binaryOp op) r) (ho : OpS X.K o (r2L r)) (ha : PD X a fa) (hb : PD X b fb) : PD X (.BinOp a op b pos) (bin o fa fb) := pd_op2 (pe_op hr ha hb) ho
theorem pd_cmp {op : CmpOp} {r : R2} (hr : OpR X (compareOp op) r) (ho : OpS X.K o (r2L r)) (ha : PD X a fa) (hb : PD X b fb) (hm : behindInMarks op b = false) : PD X (.Compare a [op] [b] pos) (bin o fa fb) := pd_op2 (pe_cmpR hr ha hb hm) ho
theorem pd_ixr {r : R2} (hr : IxR X r) (ho : OpS X.K o (r2L r)) (ha : PD X a fa) (hb : PD X b fb) (hs : PlainIx b) : PD X (.Subscript a b pos) (bin o fa fb) := pd_op2 (pe_ix hr ha hb hs) ho
theorem pd_un {op : UnaryOp} {r : V → Hp → VK → Prop} (hr : UnR X (unaryOp op) r) (ho : OpS X.K o (r1L r)) (ha : PD X a fa) : PD X (.UnaryOp op a pos) (una o fa) := by
  refine PE.imp (pe_un hr ha) fun σ H Q q => ?_
  refine (tDA.op ho q).one.mono fun v H1 h1 => ?_
  obtain ⟨x, e, h1⟩ := h1
  cases e
  exact h1
theorem pd_callB {x : Str} {p : Pos} {e : Expr} {es : List Expr} {id : String} {r : List V → Hp → VK → Prop} {fs : En → Option (List M)} (hc : CallR X (.builtin id) r) (ho : OpS X.K o r) (hg : Gl X x) (hm : X.mg x = none) (hv : bootBuiltins x = some (.builtin id)) (ha : PDA X (e :: es) fs)
    (hn : x ≠ "__name__" := by decide) (hdb : (x == ("__debug__" : Str)) = false := by decide)
    (he : starEach (e :: es) X.env = (false, eval e X.env) :: starEach es X.env := by rfl) (hpl : (backTo pos (starEach es X.env)).any (·.1) = false := by rfl) : PD X (.Call (.Name x p) (e :: es) [] pos) (opr o fs) :=
  PE.imp (pe_callB hc hg hm hv ha hn hdb he hpl) fun σ H Q q => tDA.op ho q
end
end T2
end
section
set_option Elab.async false
set_option linter.all false
set_option maxRecDepth 100000
namespace T2
open PySem PySem.Spec PyProof.Rows L2
def allFz : List M → Option (List D)
  | [] => some []
  | .fz d :: ms => match allFz ms with
    | some ds => some (d :: ds)
    | none => none
  | _ :: _ => none
/-- a tuple of results: frozen where all are -/
def mkT (ms : List M) : M := match allFz ms with
  | some ds => .fz (.tup ds)
  | none => .ot ms
/-- a child of a place -/
def kid (i : Nat) (p : List Pa) : Nat → List M → List M
  | _, [] => []
  | k, .fz d :: r => .fz d :: kid i p (k + 1) r
  | k, _ :: r => .bp i (p ++ [.ix k]) :: kid i p (k + 1) r
/-- the items of a list (true) or a tuple (false) -/
def elems (env : En) : M → Option (Bool × List M)
  | .fz (.lst ds) => some (true, ds.map .fz)
  | .fz (.tup ds) => some (false, ds.map .fz)
  | .ol ms => some (true, ms)
  | .ot ms => some (false, ms)
  | .bp i p => match env.place i p with
    | some (.fz (.lst ds)) => some (true, ds.map .fz)
    | some (.fz (.tup ds)) => some (false, ds.map .fz)
    | some (.ol ms) => some (true, kid i p 0 ms)
    | some (.ot ms) => some (false, kid i p 0 ms)
    | _ => none
  | _ => none
section
variable {K : PySem.W.Frag} {F H F' H' : Hp} {σ : L2.St} {env : En} {fp : Nat → List Addr} {A B : List Addr} {br : Nat → List Pa → V → Prop}
theorem ownL_fz : ∀ {ds : List D} {vs : List V}, RepL K F ds vs → OwnL K br F H (ds.map .fz) vs []
  | [], vs, h => by
    simp only [RepL] at h
    subst h
    exact ownL_nil
  | d :: ds, vs, h => by
    simp only [RepL] at h
    obtain ⟨v, r, rfl, q, q2⟩ := h
    simp only [List.map_cons, OwnL]
    exact ⟨v, r, [], [], rfl, rfl, own_fz q, ownL_fz q2⟩
theorem allFz_ok : ∀ {ms : List M} {vs : List V} {A : List Addr} {ds : List D}, OwnL K br F H ms vs A → allFz ms = some ds → RepL K F ds vs ∧ A = []
  | [], vs, A, ds, h, e => by
    cases e
    simp only [OwnL] at h
    simp only [RepL]
    exact h
  | m :: ms, vs, A, ds, h, e => by
    cases m with
    | fz d =>
      simp only [allFz] at e
      split at e
      · rename_i ds' e'
        cases e
        simp only [OwnL, Own] at h
        obtain ⟨v, r, B, C, rfl, rfl, ⟨rfl, q⟩, q2⟩ := h
        obtain ⟨h1, rfl⟩ := allFz_ok q2 e'
        simp only [RepL]
        exact ⟨⟨v, r, rfl, q, h1⟩, rfl⟩
      · cases e
    | bp i p => cases e
    | ol _ => cases e
    | ot _ => cases e
    | oi _ _ => cases e
    | od _ _ => cases e
    | odt _ => cases e
theorem ValP.snoc {H : Hp} {a : Addr} {vs : List V} {k : Nat} {u : V} (q : H a = some (.lst vs) ∨ H a = some (.tup vs)) (g : vs[k]? = some u) : ∀ {p : List Pa} {w : V}, ValP H w p (.ref a) → ValP H w (p ++ [.ix k]) u
  | [], w, h => by
    have h : V.ref a = w := h
    subst h
    exact ⟨a, vs, u, rfl, q, g, rfl⟩
  | .ix j :: r, w, h => by
    obtain ⟨b, vs', u', e, q', g', h⟩ := h
    exact ⟨b, vs', u', e, q', g', ValP.snoc q g h⟩
  | .fd f :: r, w, h => by
    obtain ⟨b, C, dx, gs, u', e, q', g', h⟩ := h
    exact ⟨b, C, dx, gs, u', e, q', g', ValP.snoc q g h⟩
theorem getP_snoc {ms : List M} {k : Nat} {n : M} (hn : ms[k]? = some n) : ∀ {p : List Pa} {m : M}, getP m p = some (.ol ms) ∨ getP m p = some (.ot ms) → getP m (p ++ [.ix k]) = some n
  | [], m, h => by
    have h : m = .ol ms ∨ m = .ot ms := by
      rcases h with h | h
      · exact .inl (by unfold getP at h; cases m <;> exact Option.some.inj h)
      · exact .inr (by unfold getP at h; cases m <;> exact Option.some.inj h)
    rcases h with rfl | rfl
    · show getP (.ol ms) [.ix k] = some n
      simp only [getP, hn]
    · show getP (.ot ms) [.ix k] = some n
      simp only [getP, hn]
  | .ix j :: r, m, h => by
    cases m with
    | ol xs =>
      simp only [List.cons_append, getP] at h ⊢
      cases e : xs[j]? with
      | none => rw [e] at h; simp at h
      | some x => rw [e] at h; exact getP_snoc hn h
    | ot xs =>
      simp only [List.cons_append, getP] at h ⊢
      cases e : xs[j]? with
      | none => rw [e] at h; simp at h
      | some x => rw [e] at h; exact getP_snoc hn h
    | fz d => rcases h with h | h <;> cases h
    | bp i p => rcases h with h | h <;> cases h
    | oi C fs => rcases h with h | h <;> cases h
    | od _ _ => rcases h with h | h <;> cases h
    | odt _ => rcases h with h | h <;> cases h
  | .fd f :: r, m, h => by
    cases m with
    | oi C xs =>
      simp only [List.cons_append, getP] at h ⊢
      cases e : getF xs f with
      | none => rw [e] at h; simp at h
      | some x => rw [e] at h; exact getP_snoc hn h
    | fz d => rcases h with h | h <;> cases h
    | bp i p => rcases h with h | h <;> cases h
    | ol xs => rcases h with h | h <;> cases h
    | ot xs => rcases h with h | h <;> cases h
    | od _ _ => rcases h with h | h <;> cases h
    | odt _ => rcases h with h | h <;> cases h
theorem kid_ok {i : Nat} {p : List Pa} {w : V} {a : Addr} {vs : List V} (hw : σ[i]? = some (some w)) (hv : ValP H w p (.ref a)) (q : H a = some (.lst vs) ∨ H a = some (.tup vs)) :
    ∀ {r : List M} {us : List V} {C : List Addr} (k : Nat), (∀ (j : Nat) (n : M), r[j]? = some n → (env.place i (p ++ [.ix (k + j)])) = some n) → (∀ j, us[j]? = vs[k + j]?) → OwnL K noBr F H r us C → OwnL K (plc H σ env) F H (kid i p k r) us []
  | [], us, C, k, hp, hu, h => by
    simp only [OwnL] at h
    rw [h.1]
    exact ownL_nil
  | n :: r, us, C, k, hp, hu, h => by
    simp only [OwnL] at h
    obtain ⟨v, us', B, C, rfl, rfl, h1, h2⟩ := h
    have ih := kid_ok hw hv q (k + 1) (fun j n' e => by rw [Nat.add_assoc, Nat.add_comm 1 j]; exact hp (j + 1) n' (by simpa using e)) (fun j => by
      have := hu (j + 1)
      rw [Nat.add_assoc, Nat.add_comm 1 j]
      simpa using this) h2
    have hk : vs[k]? = some v := by
      have := hu 0
      simpa using this.symm
    have bpk : Own K (plc H σ env) F H (.bp i (p ++ [.ix k])) v [] := own_bp ⟨w, hw, hv.snoc q hk, n, by
      have := hp 0 n rfl
      simpa using this⟩
    cases n with
    | fz d =>
      simp only [Own] at h1
      simp only [kid, OwnL]
      exact ⟨v, us', [], [], rfl, rfl, own_fz h1.2, ih⟩
    | bp j p' => simp only [Own, noBr] at h1; exact h1.2.elim
    | ol _ => simp only [kid, OwnL]; exact ⟨v, us', [], [], rfl, rfl, bpk, ih⟩
    | ot _ => simp only [kid, OwnL]; exact ⟨v, us', [], [], rfl, rfl, bpk, ih⟩
    | oi _ _ => simp only [kid, OwnL]; exact ⟨v, us', [], [], rfl, rfl, bpk, ih⟩
    | od _ _ => simp only [kid, OwnL]; exact ⟨v, us', [], [], rfl, rfl, bpk, ih⟩
    | odt _ => simp only [kid, OwnL]; exact ⟨v, us', [], [], rfl, rfl, bpk, ih⟩
theorem elems_ok (ok : EnvOk K F H σ env fp) {m : M} {v : V} {b : Bool} {ms : List M} (h : Own K (plc H σ env) F H m v A) (e : elems env m = some (b, ms)) :
    ∃ a vs B, v = .ref a ∧ (b = true → H a = some (.lst vs)) ∧ (b = false → H a = some (.tup vs)) ∧ OwnL K (plc H σ env) F H ms vs B ∧ B.Sublist A := by
  cases m with
  | fz d =>
    cases d with
    | lst ds =>
      cases e
      simp only [Own, Rep] at h
      obtain ⟨rfl, a, vs, rfl, q, r⟩ := h
      exact ⟨a, vs, [], rfl, fun _ => ok.sub _ _ q, (fun z => nomatch z), ownL_fz r, List.Sublist.refl _⟩
    | tup ds =>
      cases e
      simp only [Own, Rep] at h
      obtain ⟨rfl, a, vs, rfl, q, r⟩ := h
      exact ⟨a, vs, [], rfl, (fun z => nomatch z), fun _ => ok.sub _ _ q, ownL_fz r, List.Sublist.refl _⟩
    | non => cases e
    | bl _ => cases e
    | int _ => cases e
    | str _ => cases e
    | ins _ _ => cases e
    | dic _ _ => cases e
    | any => cases e
    | exc _ _ _ => cases e
    | scr _ => cases e
  | ol xs =>
    cases e
    simp only [Own] at h
    obtain ⟨p, vs, B, rfl, rfl, f, q, r⟩ := h
    exact ⟨p, vs, B, rfl, fun _ => q, (fun z => nomatch z), r, List.sublist_cons_self _ _⟩
  | ot xs =>
    cases e
    simp only [Own] at h
    obtain ⟨p, vs, B, rfl, rfl, f, q, r⟩ := h
    exact ⟨p, vs, B, rfl, (fun z => nomatch z), fun _ => q, r, List.sublist_cons_self _ _⟩
  | oi C fs => cases e
  | od _ _ => cases e
  | odt _ => cases e
  | bp i p =>
    simp only [Own] at h
    obtain ⟨rfl, w, hw, hv, n, hn⟩ := h
    simp only [elems, hn] at e
    have hn' := hn
    unfold En.place at hn
    split at hn
    · rename_i m' hm
      obtain ⟨w', g1, g2⟩ := ok.slot i m' hm
      rw [hw] at g1
      cases g1
      obtain ⟨C, c1, _⟩ := g2.path hn hv
      have pl : ∀ (k : Nat) (ms : List M) (x : M), (getP m' p = some (.ol ms) ∨ getP m' p = some (.ot ms)) → ms[k]? = some x → env.place i (p ++ [.ix k]) = some x := fun k ms x z1 z2 => by
        unfold En.place
        rw [hm]
        exact getP_snoc z2 z1
      cases n with
      | fz d =>
        cases d with
        | lst ds =>
          cases e
          simp only [Own, Rep] at c1
          obtain ⟨rfl, a, vs, rfl, q, r⟩ := c1
          exact ⟨a, vs, [], rfl, fun _ => ok.sub _ _ q, (fun z => nomatch z), ownL_fz r, List.Sublist.refl _⟩
        | tup ds =>
          cases e
          simp only [Own, Rep] at c1
          obtain ⟨rfl, a, vs, rfl, q, r⟩ := c1
          exact ⟨a, vs, [], rfl, (fun z => nomatch z), fun _ => ok.sub _ _ q, ownL_fz r, List.Sublist.refl _⟩
        | non => cases e
        | bl _ => cases e
        | int _ => cases e
        | str _ => cases e
        | ins _ _ => cases e
        | dic _ _ => cases e
        | any => cases e
        | exc _ _ _ => cases e
        | scr _ => cases e
      | ol xs =>
        cases e
        simp only [Own] at c1
        obtain ⟨a, vs, B, rfl, rfl, f, q, r⟩ := c1
        exact ⟨a, vs, [], rfl, fun _ => q, (fun z => nomatch z), kid_ok hw hv (.inl q) 0 (fun j x z => by rw [Nat.zero_add]; exact pl j xs x (.inl hn) z) (fun j => by rw [Nat.zero_add]) r, List.Sublist.refl _⟩
      | ot xs =>
        cases e
        simp only [Own] at c1
        obtain ⟨a, vs, B, rfl, rfl, f, q, r⟩ := c1
        exact ⟨a, vs, [], rfl, (fun z => nomatch z), fun _ => q, kid_ok hw hv (.inr q) 0 (fun j x z => by rw [Nat.zero_add]; exact pl j xs x (.inr hn) z) (fun j => by rw [Nat.zero_add]) r, List.Sublist.refl _⟩
      | bp _ _ => cases e
      | oi _ _ => cases e
      | od _ _ => cases e
      | odt _ => cases e
    · cases hn
/-- a new list -/
theorem newL (ok : EnvOk K F H σ env fp) {ms : List M} {vs : List V} {p : Addr} (h : OwnL K (plc H σ env) F H ms vs B) (hB : B.Sublist A) (hn : A.Nodup) (hp : H p = none) {Q : VK}
    (q : ∀ v F' H' B, Step A F H F' H' → Own K (plc H' σ env) F' H' (.ol ms) v B → B.Nodup → (∀ a ∈ B, H a = none ∨ a ∈ A) → Q v H') : Q (.ref p) (upd H p (.lst vs)) := by
  have s : Same H (upd H p (.lst vs)) := fun b o e => by rw [upd_ne (ne_of_none e hp)]; exact e
  have np : p ∉ B := fun z => by
    obtain ⟨_, o, e⟩ := h.at _ _ _ p z
    rw [hp] at e
    cases e
  have fp0 : F p = none := ok.sub.free hp
  refine q (.ref p) F _ (p :: B) (.mk' (.refl _) s (ok.sub.trans s) fun a h => .inl h) ?_ (List.nodup_cons.mpr ⟨np, hn.sublist hB⟩) fun a ha => ?_
  · simp only [Own]
    exact ⟨p, vs, B, rfl, rfl, fp0, upd_same, h.mono (.refl _) (plc.mono s) _ _ _ fun a ha => ⟨(h.at _ _ _ a ha).1, s a⟩⟩
  · rcases List.mem_cons.mp ha with rfl | ha
    · exact .inl hp
    · exact .inr (hB.subset ha)
/-- a new tuple -/
theorem newT (ok : EnvOk K F H σ env fp) {ms : List M} {vs : List V} {p : Addr} (h : OwnL K (plc H σ env) F H ms vs B) (hB : B.Sublist A) (hn : A.Nodup) (hp : H p = none) {Q : VK}
    (q : ∀ v F' H' B, Step A F H F' H' → Own K (plc H' σ env) F' H' (mkT ms) v B → B.Nodup → (∀ a ∈ B, H a = none ∨ a ∈ A) → Q v H') : Q (.ref p) (upd H p (.tup vs)) := by
  have s : Same H (upd H p (.tup vs)) := fun b o e => by rw [upd_ne (ne_of_none e hp)]; exact e
  have fp0 : F p = none := ok.sub.free hp
  unfold mkT at q
  split at q
  · rename_i ds hd
    obtain ⟨r, _⟩ := allFz_ok h hd
    have sF : Same F (upd F p (.tup vs)) := fun b o e => by rw [upd_ne (ne_of_none e fp0)]; exact e
    refine q (.ref p) (upd F p (.tup vs)) _ [] (.mk' sF s (fun b o e => ?_) fun a z => ?_) (own_fz ?_) .nil fun a z => by cases z
    · by_cases hb : b = p
      · subst hb
        rw [upd_same] at e ⊢
        exact e
      · rw [upd_ne hb] at e ⊢
        exact ok.sub _ _ e
    · by_cases hb : a = p
      · subst hb
        exact .inr (.inl hp)
      · rw [upd_ne hb] at z
        exact .inl z
    · simp only [Rep]
      exact ⟨p, vs, rfl, upd_same, RepL.mono sF _ _ r⟩
  · have np : p ∉ B := fun z => by
      obtain ⟨_, o, e⟩ := h.at _ _ _ p z
      rw [hp] at e
      cases e
    refine q (.ref p) F _ (p :: B) (.mk' (.refl _) s (ok.sub.trans s) fun a h => .inl h) ?_ (List.nodup_cons.mpr ⟨np, hn.sublist hB⟩) fun a ha => ?_
    · simp only [Own]
      exact ⟨p, vs, B, rfl, rfl, fp0, upd_same, h.mono (.refl _) (plc.mono s) _ _ _ fun a ha => ⟨(h.at _ _ _ a ha).1, s a⟩⟩
    · rcases List.mem_cons.mp ha with rfl | ha
      · exact .inl hp
      · exact .inr (hB.subset ha)
/-- a part of what was there -/
theorem keepS (ok : EnvOk K F H σ env fp) {m : M} {v : V} (h : Own K (plc H σ env) F H m v B) (hB : B.Sublist A) (hn : A.Nodup) {Q : VK}
    (q : ∀ v F' H' B, Step A F H F' H' → Own K (plc H' σ env) F' H' m v B → B.Nodup → (∀ a ∈ B, H a = none ∨ a ∈ A) → Q v H') : Q v H :=
  q v F H B (.mk' (.refl _) (.refl _) ok.sub fun a h => .inl h) h (hn.sublist hB) fun a ha => .inr (hB.subset ha)
theorem ownL1 {m : M} {vs : List V} (h : OwnL K br F H [m] vs A) : ∃ v, vs = [v] ∧ Own K br F H m v A := by
  simp only [OwnL] at h
  obtain ⟨v, r, B, C, rfl, rfl, q, rfl, rfl⟩ := h
  rw [List.append_nil]
  exact ⟨v, rfl, q⟩
theorem ownL2 {m n : M} {vs : List V} (h : OwnL K br F H [m, n] vs A) : ∃ v w B C, vs = [v, w] ∧ A = B ++ C ∧ Own K br F H m v B ∧ Own K br F H n w C := by
  simp only [OwnL] at h
  obtain ⟨v, r, B, C, rfl, rfl, q, w, r', D, E, rfl, rfl, q2, rfl, rfl⟩ := h
  rw [List.append_nil]
  exact ⟨v, w, B, D, rfl, rfl, q, q2⟩
theorem OwnL.append : ∀ {ms ns : List M} {vs ws : List V} {A B : List Addr}, OwnL K br F H ms vs A → OwnL K br F H ns ws B → OwnL K br F H (ms ++ ns) (vs ++ ws) (A ++ B)
  | [], ns, vs, ws, A, B, h, h' => by
    simp only [OwnL] at h
    obtain ⟨rfl, rfl⟩ := h
    exact h'
  | m :: ms, ns, vs, ws, A, B, h, h' => by
    simp only [OwnL] at h
    obtain ⟨v, r, C, D, rfl, rfl, q, q2⟩ := h
    simp only [List.cons_append, OwnL]
    exact ⟨v, r ++ ws, C, D ++ B, rfl, by rw [List.append_assoc], q, q2.append h'⟩
theorem OwnL.take : ∀ {ms : List M} {vs : List V} {A : List Addr} (n : Nat), OwnL K br F H ms vs A → ∃ B, OwnL K br F H (ms.take n) (vs.take n) B ∧ B.Sublist A
  | _, vs, A, 0, h => ⟨[], by rw [List.take_zero, List.take_zero]; exact ownL_nil, List.nil_sublist _⟩
  | [], vs, A, n + 1, h => by
    simp only [OwnL] at h
    obtain ⟨rfl, rfl⟩ := h
    exact ⟨[], ownL_nil, List.nil_sublist _⟩
  | m :: ms, vs, A, n + 1, h => by
    simp only [OwnL] at h
    obtain ⟨v, r, C, D, rfl, rfl, q, q2⟩ := h
    obtain ⟨B, h1, h2⟩ := q2.take n
    refine ⟨C ++ B, ?_, List.Sublist.append (List.Sublist.refl _) h2⟩
    simp only [List.take_succ_cons, OwnL]
    exact ⟨v, r.take n, C, B, rfl, rfl, q, h1⟩
theorem OwnL.drop : ∀ {ms : List M} {vs : List V} {A : List Addr} (n : Nat), OwnL K br F H ms vs A → ∃ B, OwnL K br F H (ms.drop n) (vs.drop n) B ∧ B.Sublist A
  | ms, vs, A, 0, h => ⟨A, by rw [List.drop_zero, List.drop_zero]; exact h, List.Sublist.refl _⟩
  | [], vs, A, n + 1, h => by
    simp only [OwnL] at h
    obtain ⟨rfl, rfl⟩ := h
    exact ⟨[], ownL_nil, List.nil_sublist _⟩
  | m :: ms, vs, A, n + 1, h => by
    simp only [OwnL] at h
    obtain ⟨v, r, C, D, rfl, rfl, q, q2⟩ := h
    obtain ⟨B, h1, h2⟩ := q2.drop n
    exact ⟨B, h1, h2.trans (List.sublist_append_right _ _)⟩
end
def oLst : En → List M → Option M := fun _ ms => if ms.length ≤ sizeLine then some (.ol ms) else none
def oTup : En → List M → Option M := fun _ ms => if ms.length ≤ sizeLine then some (mkT ms) else none
section
variable {K : PySem.W.Frag}
theorem s_lst : OpS K oLst (fun xs H Q => xs.length ≤ sizeLine ∧ ∀ p, H p = none → Q (.ref p) (upd H p (.lst xs))) := by
  intro σ env F H fp ms vs A m Q ok hO hn dj e q
  unfold oLst at e
  split at e
  · rename_i hl
    cases e
    exact ⟨by rw [← hO.len]; exact hl, fun p hp => newL ok hO (List.Sublist.refl _) hn hp q⟩
  · cases e
theorem s_tup : OpS K oTup (fun xs H Q => xs.length ≤ sizeLine ∧ ∀ p, H p = none → Q (.ref p) (upd H p (.tup xs))) := by
  intro σ env F H fp ms vs A m Q ok hO hn dj e q
  unfold oTup at e
  split at e
  · rename_i hl
    cases e
    exact ⟨by rw [← hO.len]; exact hl, fun p hp => newT ok hO (List.Sublist.refl _) hn hp q⟩
  · cases e
/-- l[i], t[i] -/
def oIx (b : Bool) : En → List M → Option M := fun env ms => match ms with
  | [m, .fz (.int i)] => match elems env m with
    | some (c, xs) => if c = b then atI xs i else none
    | none => none
  | _ => none
theorem atI_own {br : Nat → List Pa → V → Prop} {F H : Hp} {ms : List M} {vs : List V} {A : List Addr} {i : Int} {m : M} (h : OwnL K br F H ms vs A) (e : atI ms i = some m) : ∃ v B, atI vs i = some v ∧ Own K br F H m v B ∧ B.Sublist A := by
  unfold atI at e ⊢
  rw [h.len] at e
  cases hj : ixN vs.length i with
  | none => rw [hj] at e; cases e
  | some j =>
    rw [hj] at e
    exact h.get e
theorem s_ixL : OpS K (oIx true) (r2L (rIxL K)) := by
  intro σ env F H fp ms vs A m Q ok hO hn dj e q
  unfold oIx at e
  split at e
  · rename_i x i
    split at e
    · rename_i c xs hx
      split at e
      · rename_i hc
        subst hc
        obtain ⟨v, w, B, C, rfl, rfl, h1, h2⟩ := ownL2 hO
        simp only [Own, Rep] at h2
        obtain ⟨rfl, rfl⟩ := h2
        obtain ⟨a, us, D, rfl, hl, _, h3, hs⟩ := elems_ok ok h1 hx
        obtain ⟨u, E, e1, e2, e3⟩ := atI_own h3 e
        exact ⟨_, _, rfl, a, us, i, u, rfl, rfl, SqL.of (hl rfl), e1, keepS ok e2 (e3.trans (hs.trans (List.sublist_append_left _ _))) hn q⟩
      · cases e
    · cases e
  · cases e
theorem s_ixT : OpS K (oIx false) (r2L (rIxT K)) := by
  intro σ env F H fp ms vs A m Q ok hO hn dj e q
  unfold oIx at e
  split at e
  · rename_i x i
    split at e
    · rename_i c xs hx
      split at e
      · rename_i hc
        subst hc
        obtain ⟨v, w, B, C, rfl, rfl, h1, h2⟩ := ownL2 hO
        simp only [Own, Rep] at h2
        obtain ⟨rfl, rfl⟩ := h2
        obtain ⟨a, us, D, rfl, _, hl, h3, hs⟩ := elems_ok ok h1 hx
        obtain ⟨u, E, e1, e2, e3⟩ := atI_own h3 e
        exact ⟨_, _, rfl, a, us, i, u, rfl, rfl, SqT.of (hl rfl), e1, keepS ok e2 (e3.trans (hs.trans (List.sublist_append_left _ _))) hn q⟩
      · cases e
    · cases e
  · cases e
/-- the script at a place; a text at a place -/
def gIxR : List D → Option D
  | [.scr ns, .int i] => match atI ns i with
    | some n => some (.int n)
    | none => none
  | _ => none
def gIxS : List D → Option D
  | [.str z, .int i] => if decide (z.length ≤ sizeLine) then (match atI z.cps.toList i with
    | some c => some (.str ⟨#[c]⟩)
    | none => none) else none
  | _ => none
theorem atI_map {α β : Type} {f : α → β} {xs : List α} {i : Int} {x : α} (h : atI xs i = some x) : atI (xs.map f) i = some (f x) := by
  unfold atI at h ⊢
  rw [List.length_map]
  cases hj : ixN xs.length i with
  | none => rw [hj] at h; cases h
  | some j =>
    rw [hj] at h
    show (xs.map f)[j]? = _
    rw [List.getElem?_map, show xs[j]? = some x from h]
    rfl
theorem s_ixR : OpS K (sop gIxR) (r2L (rIxL K)) := scalS fun H ds vs d Q h e hs q => by
  unfold gIxR at e
  split at e
  · rename_i ns i
    split at e
    · rename_i n hn
      cases e
      obtain ⟨v, w, rfl, q1, q2⟩ := repL2 h
      simp only [Rep] at q1 q2
      obtain ⟨a, rfl, q1⟩ := q1
      exact ⟨_, _, rfl, a, _, i, .int n, rfl, q2, q1, atI_map hn, q⟩
    · cases e
  · cases e
theorem s_ixS : OpS K (sop gIxS) (r2L rIxS) := scalS fun H ds vs d Q h e hs q => by
  unfold gIxS at e
  split at e
  · rename_i z i
    split at e
    · rename_i hl
      split at e
      · rename_i c hc
        cases e
        obtain ⟨v, w, rfl, q1, q2⟩ := repL2 h
        simp only [Rep] at q1 q2
        exact ⟨_, _, rfl, z, i, c, q1, q2, of_decide_eq_true hl, hc, q⟩
      · cases e
    · cases e
  · cases e
/-- o[i] of any of these -/
def oIdx : En → List M → Option M := oOr (oIx true) (oOr (oIx false) (oOr (sop gIxS) (sop gIxR)))
theorem s_idx : OpS K oIdx (r2L fun x y H Q => rIxL K x y H Q ∨ rIxT K x y H Q ∨ rIxS x y H Q) :=
  ((s_ixL.or2 (s_ixT.or2 (s_ixS.or2 s_ixR)))).imp fun vs H Q ⟨x, y, e, h⟩ => ⟨x, y, e, by
    rcases h with h | h | h | h
    · exact .inl h
    · exact .inr (.inl h)
    · exact .inr (.inr h)
    · exact .inl h⟩
/-- lists joined -/
def oCat : En → List M → Option M := fun env ms => match ms with
  | [m, n] => match elems env m, elems env n with
    | some (true, xs), some (true, ys) => if xs.length + ys.length ≤ sizeLine then some (.ol (xs ++ ys)) else none
    | _, _ => none
  | _ => none
theorem s_cat : OpS K oCat (r2L rCat) := by
  intro σ env F H fp ms vs A m Q ok hO hn dj e q
  unfold oCat at e
  split at e
  · rename_i x y
    split at e
    · rename_i xs ys hx hy
      split at e
      · rename_i hl
        cases e
        obtain ⟨v, w, B, C, rfl, rfl, h1, h2⟩ := ownL2 hO
        obtain ⟨a, us, D, rfl, l1, _, h3, s1⟩ := elems_ok ok h1 hx
        obtain ⟨b, ws, E, rfl, l2, _, h4, s2⟩ := elems_ok ok h2 hy
        refine ⟨_, _, rfl, a, b, us, ws, rfl, rfl, l1 rfl, l2 rfl, by rw [← h3.len, ← h4.len]; exact hl, fun p hp => newL ok (h3.append h4) (s1.append s2) hn hp q⟩
      · cases e
    · cases e
  · cases e
end
section
variable {X : Cx} {es : List Expr} {fs : En → Option (List M)} {pos : Pos}
theorem pd_lst (h : PDA X es fs) : PD X (.List es pos) (opr oLst fs) := PE.imp (pe_lst h) fun σ H Q q => tDA.op s_lst q
theorem pd_tup {x1} (h : PDA X es fs) : PD X (.Tuple es x1 pos) (opr oTup fs) := PE.imp (pe_tup h) fun σ H Q q => tDA.op s_tup q
end
end T2
end
section
set_option Elab.async false
set_option linter.all false
set_option maxRecDepth 100000
namespace T2
open PySem PySem.Spec PyProof.Rows L2
/-- the nodes of the slots -/
def Ond (env : En) (fp : Nat → List Addr) (a : Addr) : Prop := ∃ i m, env.get i = some m ∧ a ∈ fp i
/-- from one state to a later one; T: temporary nodes that may freeze -/
structure Go (K : PySem.W.Frag) (T : List Addr) (σ : L2.St) (env : En) (fp : Nat → List Addr) (F H : Hp) (σ' : L2.St) (env' : En) (fp' : Nat → List Addr) (F' H' : Hp) : Prop where
  fr : Same F F'
  keep : ∀ a o, H a = some o → ¬ Ond env fp a → a ∉ T → H' a = some o
  stay : ∀ a, H' a = none → H a = none
  nw : ∀ a, F' a ≠ none → F a ≠ none ∨ H a = none ∨ Ond env fp a ∨ a ∈ T
  nf : ∀ a, Ond env' fp' a → H a = none ∨ Ond env fp a ∨ a ∈ T
  ok : EnvOk K F' H' σ' env' fp'
  lok : ∀ a od u, H a = some (.frz od u) → H' a = some (.frz od u)
section
variable {K : PySem.W.Frag} {F H F' H' F1 H1 F2 H2 : Hp} {σ σ' σ1 σ2 : L2.St} {env env' env1 env2 : En} {fp fp' fp1 fp2 : Nat → List Addr} {A B T : List Addr}
theorem Go.refl (ok : EnvOk K F H σ env fp) : Go K [] σ env fp F H σ env fp F H := ⟨.refl _, fun _ _ h _ _ => h, fun _ h => h, fun _ h => .inl h, fun _ h => .inr (.inl h), ok, fun _ _ _ e => e⟩
theorem Go.trans (g : Go K [] σ env fp F H σ1 env1 fp1 F1 H1) (h : Go K T σ1 env1 fp1 F1 H1 σ2 env2 fp2 F2 H2) (hT : ∀ a ∈ T, H a = none ∨ Ond env fp a) : Go K [] σ env fp F H σ2 env2 fp2 F2 H2 := by
  have ond : ∀ a, Ond env1 fp1 a → H a = none ∨ Ond env fp a := fun a z => by
    rcases g.nf a z with z | z | z
    · exact .inl z
    · exact .inr z
    · cases z
  refine ⟨g.fr.trans h.fr, fun a o e no _ => h.keep a o (g.keep a o e no (by simp)) (fun z => ?_) (fun z => ?_), fun a z => g.stay a (h.stay a z), fun a z => ?_, fun a z => ?_, h.ok, fun a od u e => h.lok a od u (g.lok a od u e)⟩
  · rcases ond a z with z | z
    · rw [z] at e
      cases e
    · exact no z
  · rcases hT a z with z | z
    · rw [z] at e
      cases e
    · exact no z
  · rcases h.nw a z with z | z | z | z
    · rcases g.nw a z with z | z | z | z
      · exact .inl z
      · exact .inr (.inl z)
      · exact .inr (.inr (.inl z))
      · cases z
    · exact .inr (.inl (g.stay a z))
    · rcases ond a z with z | z
      · exact .inr (.inl z)
      · exact .inr (.inr (.inl z))
    · rcases hT a z with z | z
      · exact .inr (.inl z)
      · exact .inr (.inr (.inl z))
  · rcases h.nf a z with z | z | z
    · exact .inl (g.stay a z)
    · rcases ond a z with z | z
      · exact .inl z
      · exact .inr (.inl z)
    · rcases hT a z with z | z
      · exact .inl z
      · exact .inr (.inl z)
/-- temporary nodes stay -/
theorem Go.tmp (g : Go K T σ env fp F H σ' env' fp' F' H') (hA : ∀ a ∈ A, F a = none ∧ (∃ o, H a = some o) ∧ ¬ Ond env fp a ∧ a ∉ T) : ∀ a ∈ A, F' a = none ∧ ∀ o, H a = some o → H' a = some o := fun a ha => by
  obtain ⟨h1, ⟨o, h2⟩, h3, h4⟩ := hA a ha
  refine ⟨?_, fun o e => g.keep a o e h3 h4⟩
  cases q : F' a with
  | none => rfl
  | some u =>
    rcases g.nw a (by rw [q]; simp) with z | z | z | z
    · exact absurd h1 z
    · rw [h2] at z
      cases z
    · exact absurd z h3
    · exact absurd z h4
theorem Step.go (s : Step A F H F' H') (ok : EnvOk K F H σ env fp) (hA : ∀ a ∈ A, ∀ i m, env.get i = some m → a ∉ fp i) : Go K A σ env fp F H σ env fp F' H' :=
  ⟨s.fr, fun a o e _ z => s.hpA a o e z, s.stay, fun a h => by
    rcases s.nw a h with z | z | z
    · exact .inl z
    · exact .inr (.inl z)
    · exact .inr (.inr (.inr z)), fun a h => .inr (.inl h), ok.step s hA, s.lok⟩
theorem EnvOk.at (ok : EnvOk K F H σ env fp) {a : Addr} (h : Ond env fp a) : F a = none ∧ ∃ o, H a = some o := by
  obtain ⟨i, m, e, ha⟩ := h
  obtain ⟨v, _, q⟩ := ok.slot i m e
  exact q.at _ _ _ a ha
end
def En.put (env : En) (i : Nat) (m : M) : En := env.set i (some m)
def En.kill (env : En) (i : Nat) : En := env.set i none
theorem En.get_put {env : En} {i j : Nat} {m : M} (hi : i < env.length) : (env.put i m).get j = if j = i then some m else env.get j := by
  unfold En.put En.get
  by_cases h : j = i
  · subst h
    rw [if_pos rfl, List.getElem?_set_self hi]
  · rw [if_neg h, List.getElem?_set_ne (Ne.symm h)]
theorem En.get_kill {env : En} {i j : Nat} : (env.kill i).get j = if j = i then none else env.get j := by
  unfold En.kill En.get
  by_cases h : j = i
  · subst h
    rw [if_pos rfl]
    by_cases hi : j < env.length
    · rw [List.getElem?_set_self hi]
    · rw [List.getElem?_eq_none (by rw [List.length_set]; omega)]
  · rw [if_neg h, List.getElem?_set_ne (Ne.symm h)]
theorem En.get_lt {env : En} {i : Nat} {m : M} (h : env.get i = some m) : i < env.length := by
  unfold En.get at h
  cases e : env[i]? with
  | none => rw [e] at h; cases h
  | some o => exact (List.getElem?_eq_some_iff.mp e).1
mutual
/-- the slots that a result speaks of -/
def slots : M → List Nat
  | .fz _ => []
  | .bp i _ => [i]
  | .ol ms => slotsL ms
  | .ot ms => slotsL ms
  | .oi _ fs => slotsF fs
  | .od _ _ => []
  | .odt _ => []
def slotsL : List M → List Nat
  | [] => []
  | m :: ms => slots m ++ slotsL ms
def slotsF : List (Str × M) → List Nat
  | [] => []
  | m :: ms => slots m.2 ++ slotsF ms
end
/-- slots become frozen -/
def frS : List Nat → En → Option En
  | [], env => some env
  | i :: S, env => match env.get i with
    | some m => match dat0 m with
      | some d => frS S (env.put i (.fz d))
      | none => none
    | none => none
section
variable {K : PySem.W.Frag} {F H F' H' : Hp} {σ : L2.St} {env env' : En} {fp : Nat → List Addr} {A B : List Addr}
mutual
/-- the data of a result in a heap G that holds its nodes and those of the slots that it speaks of -/
theorem dat_in {G : Hp} (s : Same F G) (ok : EnvOk K F H σ env fp) : ∀ (m : M) (v : V) (A : List Addr) (d : D), Own K (plc H σ env) F H m v A → dat env m = some d → (∀ a ∈ A, ∀ o, H a = some o → G a = some o) → (∀ i ∈ slots m, ∀ n, env.get i = some n → ∀ a ∈ fp i, ∀ o, H a = some o → G a = some o) → Rep K G d v
  | .fz d, v, A, d', h, e, hA, hS => by
    simp only [Own, dat, datW, Option.some.injEq] at h e
    subst e
    exact Rep.mono s _ _ h.2
  | .bp i p, v, A, d', h, e, hA, hS => by
    simp only [Own, dat, datW] at h e
    obtain ⟨_, w, e1, e2, n, e3⟩ := h
    rw [e3] at e
    unfold En.place at e3
    split at e3
    · rename_i m' hm
      obtain ⟨w', g1, g2⟩ := ok.slot i m' hm
      rw [e1] at g1
      cases g1
      obtain ⟨C, c1, c2⟩ := g2.path e3 e2
      exact datW_ok s (fun _ _ _ _ z => z.elim) n v C d' c1 e fun a ha => hS i (by simp [slots]) m' hm a (c2.subset ha)
    · cases e3
  | .ol ms, v, A, d', h, e, hA, hS => by
    simp only [Own, dat, datW, Option.map_eq_some_iff] at h e
    obtain ⟨p, vs, B, rfl, rfl, f, q, r⟩ := h
    obtain ⟨ds, e, rfl⟩ := e
    simp only [Rep]
    exact ⟨p, vs, rfl, hA p List.mem_cons_self _ q, datL_in s ok ms vs B ds r e (fun a ha => hA a (List.mem_cons_of_mem _ ha)) (by simpa only [slots] using hS)⟩
  | .ot ms, v, A, d', h, e, hA, hS => by
    simp only [Own, dat, datW, Option.map_eq_some_iff] at h e
    obtain ⟨p, vs, B, rfl, rfl, f, q, r⟩ := h
    obtain ⟨ds, e, rfl⟩ := e
    simp only [Rep]
    exact ⟨p, vs, rfl, hA p List.mem_cons_self _ q, datL_in s ok ms vs B ds r e (fun a ha => hA a (List.mem_cons_of_mem _ ha)) (by simpa only [slots] using hS)⟩
  | .oi C fs, v, A, d', h, e, hA, hS => by
    simp only [Own, dat, datW, Option.map_eq_some_iff] at h e
    obtain ⟨p, dx, gs, B, rfl, rfl, f, f2, q, q2, r⟩ := h
    obtain ⟨ds, e, rfl⟩ := e
    simp only [Rep]
    exact ⟨p, dx, gs, rfl, hA p List.mem_cons_self _ q, hA dx (List.mem_cons_of_mem _ List.mem_cons_self) _ q2, datF_in s ok fs gs B ds r e (fun a ha => hA a (List.mem_cons_of_mem _ (List.mem_cons_of_mem _ ha))) (by simpa only [slots] using hS)⟩
  | .od lk kvs, v, A, d', h, e, hA, hS => by
    have h2 : Own K noBr F H (.od lk kvs) v A := by simpa only [Own] using h
    exact datW_ok (bp := fun _ _ => none) s (fun _ _ _ _ z => z.elim) (.od lk kvs) v A d' h2 e hA
  | .odt kvs, v, A, d', h, e, hA, hS => by
    simp only [dat, datW] at e
    cases e
theorem datL_in {G : Hp} (s : Same F G) (ok : EnvOk K F H σ env fp) : ∀ (ms : List M) (vs : List V) (A : List Addr) (ds : List D), OwnL K (plc H σ env) F H ms vs A → dats env ms = some ds → (∀ a ∈ A, ∀ o, H a = some o → G a = some o) → (∀ i ∈ slotsL ms, ∀ n, env.get i = some n → ∀ a ∈ fp i, ∀ o, H a = some o → G a = some o) → RepL K G ds vs
  | [], vs, A, ds, h, e, hA, hS => by
    simp only [OwnL, dats, datWL, Option.some.injEq] at h e
    subst e
    simp only [RepL]
    exact h.1
  | m :: ms, vs, A, ds, h, e, hA, hS => by
    simp only [OwnL] at h
    obtain ⟨v, r, B, C, rfl, rfl, q, q2⟩ := h
    simp only [dats, datWL] at e
    split at e
    · rename_i d ds' e1 e2
      cases e
      simp only [RepL]
      exact ⟨v, r, rfl, dat_in s ok m v B d q e1 (fun a ha => hA a (List.mem_append_left _ ha)) (fun i hi => hS i (by simp only [slotsL]; exact List.mem_append_left _ hi)),
        datL_in s ok ms r C ds' q2 e2 (fun a ha => hA a (List.mem_append_right _ ha)) (fun i hi => hS i (by simp only [slotsL]; exact List.mem_append_right _ hi))⟩
    · cases e
theorem datF_in {G : Hp} (s : Same F G) (ok : EnvOk K F H σ env fp) : ∀ (ms : List (Str × M)) (vs : List (Str × V)) (A : List Addr) (ds : List (Str × D)), OwnF K (plc H σ env) F H ms vs A → datWF (plD env) ms = some ds → (∀ a ∈ A, ∀ o, H a = some o → G a = some o) → (∀ i ∈ slotsF ms, ∀ n, env.get i = some n → ∀ a ∈ fp i, ∀ o, H a = some o → G a = some o) → RepF K G ds vs
  | [], vs, A, ds, h, e, hA, hS => by
    simp only [OwnF, datWF, Option.some.injEq] at h e
    subst e
    simp only [RepF]
    exact h.1
  | m :: ms, vs, A, ds, h, e, hA, hS => by
    simp only [OwnF] at h
    obtain ⟨v, r, B, C, rfl, rfl, q, q2⟩ := h
    simp only [datWF] at e
    split at e
    · rename_i d ds' e1 e2
      cases e
      simp only [RepF]
      exact ⟨v, r, rfl, dat_in s ok m.2 v B d q e1 (fun a ha => hA a (List.mem_append_left _ ha)) (fun i hi => hS i (by simp only [slotsF]; exact List.mem_append_left _ hi)),
        datF_in s ok ms r C ds' q2 e2 (fun a ha => hA a (List.mem_append_right _ ha)) (fun i hi => hS i (by simp only [slotsF]; exact List.mem_append_right _ hi))⟩
    · cases e
end
/-- slots freeze -/
theorem frS_ok : ∀ {S : List Nat} {env env' : En} {fp : Nat → List Addr} {F : Hp}, EnvOk K F H σ env fp → frS S env = some env' →
    ∃ F' fp', Go K [] σ env fp F H σ env' fp' F' H ∧ (∀ i ∈ S, ∀ n, env.get i = some n → ∀ a ∈ fp i, F' a = H a) ∧ (∀ a, Ond env' fp' a → Ond env fp a) ∧ (∀ a, ¬ Ond env fp a → F' a = F a)
  | [], env, env', fp, F, ok, e => by
    cases e
    exact ⟨F, fp, Go.refl ok, (fun i z => by cases z), fun a h => h, fun a _ => rfl⟩
  | i :: S, env, env', fp, F, ok, e => by
    simp only [frS] at e
    split at e
    · rename_i m hm
      split at e
      · rename_i d hd
        obtain ⟨v, g1, g2⟩ := ok.slot i m hm
        have hlt := En.get_lt hm
        have at' := g2.at _ _ _
        have s1 : Same F (frz F H (fp i)) := same_frz ok.sub
        have s2 : Same (frz F H (fp i)) H := frz_same ok.sub
        have fzv : Rep K (frz F H (fp i)) d v := datW_ok s1 (fun _ _ _ _ z => z.elim) m v (fp i) d g2 hd fun a ha o q => by
          unfold frz
          rw [if_pos ha]
          exact q
        have ok1 : EnvOk K (frz F H (fp i)) H σ (env.put i (.fz d)) (fun j => if j = i then [] else fp j) := by
          refine ⟨by unfold En.put; rw [List.length_set]; exact ok.len, s2, fun j n hj => ?_, fun j n hj => ?_, fun j k n n' a hj hk ha hb => ?_⟩
          · rw [En.get_put hlt] at hj
            by_cases h : j = i
            · subst h
              rw [if_pos rfl] at hj
              cases hj
              refine ⟨v, g1, ?_⟩
              rw [if_pos rfl]
              exact own_fz fzv
            · rw [if_neg h] at hj
              obtain ⟨w, k1, k2⟩ := ok.slot j n hj
              refine ⟨w, k1, ?_⟩
              rw [if_neg h]
              refine k2.mono s1 (fun _ _ _ z => z) _ _ _ fun a ha => ⟨?_, fun o q => q⟩
              unfold frz
              rw [if_neg fun z => h (ok.dj j i n m a hj hm ha z)]
              exact (k2.at _ _ _ a ha).1
          · by_cases h : j = i
            · simp only [if_pos h]
              exact .nil
            · rw [En.get_put hlt, if_neg h] at hj
              simp only [if_neg h]
              exact ok.nd j n hj
          · by_cases h : j = i
            · simp only [if_pos h] at ha
              cases ha
            · by_cases h' : k = i
              · simp only [if_pos h'] at hb
                cases hb
              · rw [En.get_put hlt, if_neg h] at hj
                rw [En.get_put hlt, if_neg h'] at hk
                simp only [if_neg h] at ha
                simp only [if_neg h'] at hb
                exact ok.dj j k n n' a hj hk ha hb
        have on1 : ∀ a, Ond (env.put i (.fz d)) (fun j => if j = i then [] else fp j) a → Ond env fp a := fun a ⟨j, n, hj, ha⟩ => by
          by_cases h : j = i
          · simp only [if_pos h] at ha
            cases ha
          · rw [En.get_put hlt, if_neg h] at hj
            simp only [if_neg h] at ha
            exact ⟨j, n, hj, ha⟩
        have go1 : Go K [] σ env fp F H σ (env.put i (.fz d)) (fun j => if j = i then [] else fp j) (frz F H (fp i)) H := by
          refine ⟨s1, fun a o q _ _ => q, fun a q => q, fun a z => ?_, fun a z => .inr (.inl (on1 a z)), ok1, fun _ _ _ e => e⟩
          unfold frz at z
          split at z
          · rename_i ha
            exact .inr (.inr (.inl ⟨i, m, hm, ha⟩))
          · exact .inl z
        obtain ⟨F2, fp2, go2, h2, o2, k2⟩ := frS_ok ok1 e
        refine ⟨F2, fp2, go1.trans go2 (fun a z => by cases z), fun j hj n hn a ha => ?_, fun a z => on1 a (o2 a z), fun a no => ?_⟩
        · by_cases h : j = i
          · subst h
            have e1 : frz F H (fp j) a = H a := by unfold frz; rw [if_pos ha]
            obtain ⟨_, o, ho⟩ := at' a (by
              have : n = m := Option.some.inj (hn.symm.trans hm)
              exact ha)
            rw [ho] at e1 ⊢
            exact go2.fr _ _ e1
          · rcases List.mem_cons.mp hj with z | z
            · exact absurd z h
            · refine h2 j z n ?_ a ?_
              · rw [En.get_put hlt, if_neg h]
                exact hn
              · simp only [if_neg h]
                exact ha
        · rw [k2 a fun z => no (on1 a z)]
          unfold frz
          rw [if_neg fun z => no ⟨i, m, hm, z⟩]
      · cases e
    · cases e
/-- results freeze: their nodes, the slots that they speak of -/
theorem frL_ok {ms : List M} {vs : List V} {ds : List D} (ok : EnvOk K F H σ env fp) (h : OwnL K (plc H σ env) F H ms vs A) (hA : ∀ a ∈ A, ¬ Ond env fp a) (e : dats env ms = some ds) (e' : frS (slotsL ms) env = some env') :
    ∃ F' fp', Go K A σ env fp F H σ env' fp' F' H ∧ RepL K F' ds vs ∧ (∀ a, Ond env' fp' a → Ond env fp a) := by
  obtain ⟨F1, fp1, g, h1, h2, h3⟩ := frS_ok ok e'
  have s1 : Same F1 (frz F1 H A) := same_frz g.ok.sub
  have s2 : Same (frz F1 H A) H := frz_same g.ok.sub
  have ok2 : EnvOk K (frz F1 H A) H σ env' fp1 := by
    refine ⟨g.ok.len, s2, fun j n hj => ?_, g.ok.nd, g.ok.dj⟩
    obtain ⟨w, k1, k2⟩ := g.ok.slot j n hj
    refine ⟨w, k1, k2.mono s1 (fun _ _ _ z => z) _ _ _ fun a ha => ⟨?_, fun o q => q⟩⟩
    unfold frz
    rw [if_neg fun z => hA a z (h2 a ⟨j, n, hj, ha⟩)]
    exact (k2.at _ _ _ a ha).1
  refine ⟨frz F1 H A, fp1, ⟨g.fr.trans s1, fun a o q h _ => g.keep a o q h (by simp), g.stay, fun a z => ?_, fun a z => .inr (.inl (h2 a z)), ok2, g.lok⟩, ?_, h2⟩
  · unfold frz at z
    split at z
    · rename_i ha
      exact .inr (.inr (.inr ha))
    · rcases g.nw a z with z | z | z | z
      · exact .inl z
      · exact .inr (.inl z)
      · exact .inr (.inr (.inl z))
      · cases z
  · refine datL_in (g.fr.trans s1) ok ms vs A ds h e (fun a ha o q => ?_) fun i hi n hn a ha o q => ?_
    · unfold frz
      rw [if_pos ha]
      exact q
    · have := h1 i hi n hn a ha
      rw [q] at this
      exact s1 _ _ this
end
mutual
def shut : Nat → M → Option M
  | _, .fz d => some (.fz d)
  | 0, m => (dat0 m).map .fz
  | k + 1, .ol ms => (shutL k ms).map .ol
  | k + 1, .ot ms => (shutL k ms).map .ot
  | k + 1, .oi C fs => (shutF k fs).map (.oi C)
  | _ + 1, .od lk kvs => some (.od lk kvs)
  | _ + 1, .odt kvs => some (.odt kvs)
  | _, .bp _ _ => none
def shutL : Nat → List M → Option (List M)
  | _, [] => some []
  | k, m :: ms => match shut k m, shutL k ms with
    | some n, some ns => some (n :: ns)
    | _, _ => none
def shutF : Nat → List (Str × M) → Option (List (Str × M))
  | _, [] => some []
  | k, m :: ms => match shut k m.2, shutF k ms with
    | some n, some ns => some ((m.1, n) :: ns)
    | _, _ => none
end
section
variable {K : PySem.W.Frag} {F H : Hp} {br : Nat → List Pa → V → Prop}
/-- what freezes but A' -/
def Fr (F H F' : Hp) (A A' : List Addr) : Prop := Same F F' ∧ (∀ a ∈ A', F' a = none) ∧ ∀ a ∈ A, a ∉ A' → ∀ o, H a = some o → F' a = some o
theorem Fr.left {F' : Hp} {B C B' C' : List Addr} (h : Fr F H F' (B ++ C) (B' ++ C')) (hn : (B ++ C).Nodup) (hC : C'.Sublist C) : Fr F H F' B B' :=
  ⟨h.1, fun a ha => h.2.1 a (List.mem_append_left _ ha), fun a ha hb => h.2.2 a (List.mem_append_left _ ha) fun z => by
    rcases List.mem_append.mp z with z | z
    · exact hb z
    · exact (List.nodup_append.mp hn).2.2 a ha a (hC.subset z) rfl⟩
theorem Fr.right {F' : Hp} {B C B' C' : List Addr} (h : Fr F H F' (B ++ C) (B' ++ C')) (hn : (B ++ C).Nodup) (hB : B'.Sublist B) : Fr F H F' C C' :=
  ⟨h.1, fun a ha => h.2.1 a (List.mem_append_right _ ha), fun a ha hb => h.2.2 a (List.mem_append_right _ ha) fun z => by
    rcases List.mem_append.mp z with z | z
    · exact (List.nodup_append.mp hn).2.2 a (hB.subset z) a ha rfl
    · exact hb z⟩
theorem Fr.cons {F' : Hp} {p : Addr} {B B' : List Addr} (h : Fr F H F' (p :: B) (p :: B')) (hn : (p :: B).Nodup) : Fr F H F' B B' ∧ F' p = none :=
  ⟨⟨h.1, fun a ha => h.2.1 a (List.mem_cons_of_mem _ ha), fun a ha hb => h.2.2 a (List.mem_cons_of_mem _ ha) fun z => by
    rcases List.mem_cons.mp z with rfl | z
    · exact (List.nodup_cons.mp hn).1 ha
    · exact hb z⟩, h.2.1 p List.mem_cons_self⟩
theorem shut0 {m : M} {v : V} {A : List Addr} {m' : M} (h : Own K br F H m v A) (e : (dat0 m).map M.fz = some m') : ∃ A', A'.Sublist A ∧ ∀ F', Fr F H F' A A' → Own K noBr F' H m' v A' := by
  obtain ⟨d, hd, rfl⟩ := Option.map_eq_some_iff.mp e
  exact ⟨[], List.nil_sublist _, fun F' hF => own_fz (datW_ok hF.1 (fun _ _ _ _ _ z => by cases z) m v A d h hd fun a ha => hF.2.2 a ha (by simp))⟩
mutual
theorem shut_ok : ∀ (k : Nat) (m : M) (v : V) (A : List Addr) (m' : M), Own K br F H m v A → A.Nodup → shut k m = some m' → ∃ A', A'.Sublist A ∧ ∀ F', Fr F H F' A A' → Own K noBr F' H m' v A'
  | 0, .fz d, v, A, m', h, hn, e => by
    simp only [shut, Option.some.injEq] at e
    subst e
    simp only [Own] at h
    exact ⟨[], List.nil_sublist _, fun F' hF => own_fz (Rep.mono hF.1 _ _ h.2)⟩
  | k + 1, .fz d, v, A, m', h, hn, e => by
    simp only [shut, Option.some.injEq] at e
    subst e
    simp only [Own] at h
    exact ⟨[], List.nil_sublist _, fun F' hF => own_fz (Rep.mono hF.1 _ _ h.2)⟩
  | 0, .ol ms, v, A, m', h, hn, e => shut0 h (by simpa only [shut] using e)
  | 0, .ot ms, v, A, m', h, hn, e => shut0 h (by simpa only [shut] using e)
  | 0, .oi C ms, v, A, m', h, hn, e => shut0 h (by simpa only [shut] using e)
  | 0, .bp i p, v, A, m', h, hn, e => shut0 h (by simpa only [shut] using e)
  | 0, .od lk kvs, v, A, m', h, hn, e => shut0 h (by simpa only [shut] using e)
  | k + 1, .od lk kvs, v, A, m', h, hn, e => by
    simp only [shut, Option.some.injEq] at e
    subst e
    simp only [Own] at h
    obtain ⟨p, vs, rfl, rfl, f, q, r⟩ := h
    refine ⟨[p], List.Sublist.refl _, fun F' hF => ?_⟩
    simp only [Own]
    exact ⟨p, vs, rfl, rfl, hF.2.1 p List.mem_cons_self, q, RepL.mono hF.1 _ _ r⟩
  | 0, .odt kvs, v, A, m', h, hn, e => shut0 h (by simpa only [shut] using e)
  | k + 1, .odt kvs, v, A, m', h, hn, e => by
    simp only [shut, Option.some.injEq] at e
    subst e
    simp only [Own] at h
    obtain ⟨p, vs, rfl, rfl, f, q, r⟩ := h
    refine ⟨[p], List.Sublist.refl _, fun F' hF => ?_⟩
    simp only [Own]
    exact ⟨p, vs, rfl, rfl, hF.2.1 p List.mem_cons_self, q, RepL.mono hF.1 _ _ r⟩
  | k + 1, .ol ms, v, A, m', h, hn, e => by
    simp only [shut] at e
    obtain ⟨ns, e1, rfl⟩ := Option.map_eq_some_iff.mp e
    simp only [Own] at h
    obtain ⟨p, vs, B, rfl, rfl, f, q, r⟩ := h
    obtain ⟨B', h1, h2⟩ := shutL_ok k ms vs B ns r (List.nodup_cons.mp hn).2 e1
    refine ⟨p :: B', h1.cons_cons p, fun F' hF => ?_⟩
    obtain ⟨h3, h4⟩ := hF.cons hn
    simp only [Own]
    exact ⟨p, vs, B', rfl, rfl, h4, q, h2 F' h3⟩
  | k + 1, .ot ms, v, A, m', h, hn, e => by
    simp only [shut] at e
    obtain ⟨ns, e1, rfl⟩ := Option.map_eq_some_iff.mp e
    simp only [Own] at h
    obtain ⟨p, vs, B, rfl, rfl, f, q, r⟩ := h
    obtain ⟨B', h1, h2⟩ := shutL_ok k ms vs B ns r (List.nodup_cons.mp hn).2 e1
    refine ⟨p :: B', h1.cons_cons p, fun F' hF => ?_⟩
    obtain ⟨h3, h4⟩ := hF.cons hn
    simp only [Own]
    exact ⟨p, vs, B', rfl, rfl, h4, q, h2 F' h3⟩
  | k + 1, .oi C fs, v, A, m', h, hn, e => by
    simp only [shut] at e
    obtain ⟨ns, e1, rfl⟩ := Option.map_eq_some_iff.mp e
    simp only [Own] at h
    obtain ⟨p, dx, gs, B, rfl, rfl, f, f2, q, q2, r⟩ := h
    obtain ⟨B', h1, h2⟩ := shutF_ok k fs gs B ns r (List.nodup_cons.mp (List.nodup_cons.mp hn).2).2 e1
    refine ⟨p :: dx :: B', (h1.cons_cons dx).cons_cons p, fun F' hF => ?_⟩
    obtain ⟨h3, h4⟩ := hF.cons hn
    obtain ⟨h5, h6⟩ := h3.cons (List.nodup_cons.mp hn).2
    simp only [Own]
    exact ⟨p, dx, gs, B', rfl, rfl, h4, h6, q, q2, h2 F' h5⟩
  | k + 1, .bp i p, v, A, m', h, hn, e => by simp only [shut] at e; cases e
theorem shutL_ok : ∀ (k : Nat) (ms : List M) (vs : List V) (A : List Addr) (ms' : List M), OwnL K br F H ms vs A → A.Nodup → shutL k ms = some ms' → ∃ A', A'.Sublist A ∧ ∀ F', Fr F H F' A A' → OwnL K noBr F' H ms' vs A'
  | k, [], vs, A, ms', h, hn, e => by
    simp only [shutL, Option.some.injEq] at e
    subst e
    simp only [OwnL] at h
    obtain ⟨rfl, rfl⟩ := h
    exact ⟨[], List.Sublist.refl _, fun F' hF => ownL_nil⟩
  | k, m :: ms, vs, A, ms', h, hn, e => by
    simp only [shutL] at e
    split at e
    · rename_i n ns e1 e2
      cases e
      simp only [OwnL] at h
      obtain ⟨v, r, B, C, rfl, rfl, q, q2⟩ := h
      have hn' := List.nodup_append.mp hn
      obtain ⟨B', b1, b2⟩ := shut_ok k m v B n q hn'.1 e1
      obtain ⟨C', c1, c2⟩ := shutL_ok k ms r C ns q2 hn'.2.1 e2
      refine ⟨B' ++ C', List.Sublist.append b1 c1, fun F' hF => ?_⟩
      simp only [OwnL]
      exact ⟨v, r, B', C', rfl, rfl, b2 F' (hF.left hn c1), c2 F' (hF.right hn b1)⟩
    · cases e
theorem shutF_ok : ∀ (k : Nat) (ms : List (Str × M)) (vs : List (Str × V)) (A : List Addr) (ms' : List (Str × M)), OwnF K br F H ms vs A → A.Nodup → shutF k ms = some ms' → ∃ A', A'.Sublist A ∧ ∀ F', Fr F H F' A A' → OwnF K noBr F' H ms' vs A'
  | k, [], vs, A, ms', h, hn, e => by
    simp only [shutF, Option.some.injEq] at e
    subst e
    simp only [OwnF] at h
    obtain ⟨rfl, rfl⟩ := h
    refine ⟨[], List.Sublist.refl _, fun F' hF => ?_⟩
    simp only [OwnF]
    exact ⟨trivial, trivial⟩
  | k, m :: ms, vs, A, ms', h, hn, e => by
    simp only [shutF] at e
    split at e
    · rename_i n ns e1 e2
      cases e
      simp only [OwnF] at h
      obtain ⟨v, r, B, C, rfl, rfl, q, q2⟩ := h
      have hn' := List.nodup_append.mp hn
      obtain ⟨B', b1, b2⟩ := shut_ok k m.2 v B n q hn'.1 e1
      obtain ⟨C', c1, c2⟩ := shutF_ok k ms r C ns q2 hn'.2.1 e2
      refine ⟨B' ++ C', List.Sublist.append b1 c1, fun F' hF => ?_⟩
      simp only [OwnF]
      exact ⟨v, r, B', C', rfl, rfl, b2 F' (hF.left hn c1), c2 F' (hF.right hn b1)⟩
    · cases e
end
end
def frz2 (F H : Hp) (A A' : List Addr) : Hp := fun a => if a ∈ A ∧ a ∉ A' then H a else F a
/-- a result goes into a slot, a list ..: k levels stay owned where it is a temporary tree, else it freezes, and the slots that it speaks of -/
def stow (k : Nat) (env : En) (m : M) : Option (M × En) := match slots m with
  | [] => (shut k m).map fun n => (n, env)
  | _ => match dat env m, frS (slots m) env with
    | some d, some env' => some (.fz d, env')
    | _, _ => none
section
variable {K : PySem.W.Frag} {F H : Hp} {σ : L2.St} {env env' : En} {fp : Nat → List Addr} {A : List Addr}
theorem stow_ok {k : Nat} {m m' : M} {v : V} (ok : EnvOk K F H σ env fp) (h : Own K (plc H σ env) F H m v A) (hn : A.Nodup) (hA : ∀ a ∈ A, ¬ Ond env fp a) (e : stow k env m = some (m', env')) :
    ∃ F' fp' A', Go K A σ env fp F H σ env' fp' F' H ∧ Own K noBr F' H m' v A' ∧ A'.Sublist A ∧ (∀ a, Ond env' fp' a → Ond env fp a) := by
  unfold stow at e
  split at e
  · obtain ⟨n, e1, q⟩ := Option.map_eq_some_iff.mp e
    cases q
    obtain ⟨A', h1, h2⟩ := shut_ok k m v A m' h hn e1
    have hF : Fr F H (frz2 F H A A') A A' := by
      refine ⟨fun b o q => ?_, fun a ha => ?_, fun a ha hb o q => ?_⟩
      · unfold frz2
        split
        · exact ok.sub _ _ q
        · exact q
      · unfold frz2
        rw [if_neg fun z => z.2 ha]
        exact (h.at _ _ _ a (h1.subset ha)).1
      · unfold frz2
        rw [if_pos ⟨ha, hb⟩]
        exact q
    refine ⟨frz2 F H A A', fp, A', ⟨hF.1, fun a o q _ _ => q, fun a q => q, fun a z => ?_, fun a z => .inr (.inl z), ?_, fun _ _ _ e => e⟩, h2 _ hF, h1, fun a z => z⟩
    · unfold frz2 at z
      split at z
      · rename_i hb
        exact .inr (.inr (.inr hb.1))
      · exact .inl z
    · refine ⟨ok.len, fun b o q => ?_, fun j n hj => ?_, ok.nd, ok.dj⟩
      · unfold frz2 at q
        split at q
        · exact q
        · exact ok.sub _ _ q
      · obtain ⟨w, k1, k2⟩ := ok.slot j n hj
        refine ⟨w, k1, k2.mono hF.1 (fun _ _ _ z => z) _ _ _ fun a ha => ⟨?_, fun o q => q⟩⟩
        unfold frz2
        rw [if_neg fun z => hA a z.1 ⟨j, n, hj, ha⟩]
        exact (k2.at _ _ _ a ha).1
  · split at e
    · rename_i d env1 hd hs
      cases e
      have hL : OwnL K (plc H σ env) F H [m] [v] A := by
        simp only [OwnL]
        exact ⟨v, [], A, [], rfl, by rw [List.append_nil], h, by trivial, by trivial⟩
      have hd' : dats env [m] = some [d] := by
        unfold dats
        simp only [datWL]
        rw [show datW (plD env) m = some d from hd]
      have hs' : frS (slotsL [m]) env = some env' := by
        simp only [slotsL, List.append_nil]
        exact hs
      obtain ⟨F', fp', g, r, o⟩ := frL_ok ok hL hA hd' hs'
      refine ⟨F', fp', [], g, ?_, List.nil_sublist _, o⟩
      obtain ⟨w, e1, e2⟩ := repL1 r
      cases e1
      exact own_fz e2
    · cases e
end
end T2
end
section
set_option Elab.async false
set_option linter.all false
set_option maxRecDepth 100000
namespace T2
open PySem PySem.Spec PyProof.Rows L2
section
variable (K : PySem.W.Frag)
/-- an expression that may change what slots own -/
def tX (g : En → Option (M × En)) : TE := fun σ H Q => ∃ env m env' F fp, g env = some (m, env') ∧ EnvOk K F H σ env fp ∧
  ∀ v F' H' fp' A, Go K [] σ env fp F H σ env' fp' F' H' → Own K (plc H' σ env') F' H' m v A → A.Nodup → (∀ a ∈ A, H a = none ∨ Ond env fp a) → (∀ a ∈ A, ¬ Ond env' fp' a) → Q v H'
def tXA (g : En → Option (List M × En)) : TA := fun σ H Q => ∃ env ms env' F fp, g env = some (ms, env') ∧ EnvOk K F H σ env fp ∧
  ∀ vs F' H' fp' A, Go K [] σ env fp F H σ env' fp' F' H' → OwnL K (plc H' σ env') F' H' ms vs A → A.Nodup → (∀ a ∈ A, H a = none ∨ Ond env fp a) → (∀ a ∈ A, ¬ Ond env' fp' a) → Q vs H'
def tXT (g : En → Option (Bool × En)) : TT := fun σ H Q => ∃ env b env' F fp, g env = some (b, env') ∧ EnvOk K F H σ env fp ∧ ∀ F' H' fp', Go K [] σ env fp F H σ env' fp' F' H' → Q b H'
end
def PX (X : Cx) (e : Expr) (g : En → Option (M × En)) : Prop := PE X e (tX X.K g)
def PXA (X : Cx) (es : List Expr) (g : En → Option (List M × En)) : Prop := PA X es (tXA X.K g)
def PXT (X : Cx) (e : Expr) (g : En → Option (Bool × En)) : Prop := PT X e (tXT X.K g)
/-- what changes nothing -/
def lif (f : En → Option M) : En → Option (M × En) := fun env => match f env with | some m => some (m, env) | none => none
def lifA (f : En → Option (List M)) : En → Option (List M × En) := fun env => match f env with | some m => some (m, env) | none => none
def lifT (f : En → Option Bool) : En → Option (Bool × En) := fun env => match f env with | some m => some (m, env) | none => none
section
variable {K : PySem.W.Frag} {F H F' H' F1 H1 F2 H2 : Hp} {σ σ' σ1 σ2 : L2.St} {env env' env1 env2 : En} {fp fp' fp1 fp2 : Nat → List Addr} {A B T : List Addr}
theorem tX.of {f : En → Option M} {Q : VK} (h : tX K (lif f) σ H Q) : tD K f σ H Q := by
  obtain ⟨env, m, env', F, fp, e, ok, q⟩ := h
  unfold lif at e
  split at e
  · rename_i m' hm
    cases e
    refine ⟨env, m, F, fp, hm, ok, fun v F' H' A s o n a => q v F' H' fp A (s.go ok fun a z => by cases z) o n (fun b hb => .inl (a b hb)) fun b hb z => ?_⟩
    obtain ⟨_, o', z⟩ := ok.at z
    rw [a b hb] at z
    cases z
  · cases e
theorem tXA.of {f : En → Option (List M)} {Q : List V → Hp → Prop} (h : tXA K (lifA f) σ H Q) : tDA K f σ H Q := by
  obtain ⟨env, m, env', F, fp, e, ok, q⟩ := h
  unfold lifA at e
  split at e
  · rename_i m' hm
    cases e
    refine ⟨env, m, F, fp, hm, ok, fun v F' H' A s o n a => q v F' H' fp A (s.go ok fun a z => by cases z) o n (fun b hb => .inl (a b hb)) fun b hb z => ?_⟩
    obtain ⟨_, o', z⟩ := ok.at z
    rw [a b hb] at z
    cases z
  · cases e
theorem tXT.of {f : En → Option Bool} {Q : Bool → Hp → Prop} (h : tXT K (lifT f) σ H Q) : tDT K f σ H Q := by
  obtain ⟨env, m, env', F, fp, e, ok, q⟩ := h
  unfold lifT at e
  split at e
  · rename_i m' hm
    cases e
    exact ⟨env, m, F, fp, hm, ok, fun F' H' s => q F' H' fp (s.go ok fun a z => by cases z)⟩
  · cases e
mutual
/-- a result that stays when slots change -/
def alv (env : En) : M → Bool
  | .fz _ => true
  | .bp i p => p.isEmpty && (env.get i).isSome
  | .ol ms => alvL env ms
  | .ot ms => alvL env ms
  | .oi _ fs => alvF env fs
  | .od _ _ => true
  | .odt _ => true
def alvL (env : En) : List M → Bool
  | [] => true
  | m :: ms => alv env m && alvL env ms
def alvF (env : En) : List (Str × M) → Bool
  | [] => true
  | m :: ms => alv env m.2 && alvF env ms
end
mutual
theorem Own.alive (s : Same F F') : ∀ (m : M) (v : V) (A : List Addr), Own K (plc H σ env) F H m v A → alv env' m = true → (∀ a ∈ A, F' a = none ∧ ∀ o, H a = some o → H' a = some o) → Own K (plc H' σ env') F' H' m v A
  | .fz d, v, A, h, e, k => by
    simp only [Own] at h ⊢
    exact ⟨h.1, Rep.mono s d v h.2⟩
  | .bp i p, v, A, h, e, k => by
    simp only [Own] at h ⊢
    simp only [alv, Bool.and_eq_true, List.isEmpty_iff] at e
    obtain ⟨h1, w, h2, h3, h4⟩ := h
    obtain ⟨rfl, e2⟩ := e
    obtain ⟨m', hm⟩ := Option.isSome_iff_exists.mp e2
    refine ⟨h1, w, h2, h3, m', ?_⟩
    unfold En.place
    rw [hm]
    unfold getP
    cases m' <;> rfl
  | .ol ms, v, A, h, e, k => by
    simp only [Own] at h ⊢
    simp only [alv] at e
    obtain ⟨p, vs, B, e1, rfl, f, q, r⟩ := h
    exact ⟨p, vs, B, e1, rfl, (k p List.mem_cons_self).1, (k p List.mem_cons_self).2 _ q, OwnL.alive s ms vs B r e fun a ha => k a (List.mem_cons_of_mem _ ha)⟩
  | .ot ms, v, A, h, e, k => by
    simp only [Own] at h ⊢
    simp only [alv] at e
    obtain ⟨p, vs, B, e1, rfl, f, q, r⟩ := h
    exact ⟨p, vs, B, e1, rfl, (k p List.mem_cons_self).1, (k p List.mem_cons_self).2 _ q, OwnL.alive s ms vs B r e fun a ha => k a (List.mem_cons_of_mem _ ha)⟩
  | .oi C fs, v, A, h, e, k => by
    simp only [Own] at h ⊢
    simp only [alv] at e
    obtain ⟨p, dx, gs, B, e1, rfl, f, f2, q, q2, r⟩ := h
    have kp := k p List.mem_cons_self
    have kd := k dx (List.mem_cons_of_mem _ List.mem_cons_self)
    exact ⟨p, dx, gs, B, e1, rfl, kp.1, kd.1, kp.2 _ q, kd.2 _ q2, OwnF.alive s fs gs B r e fun a ha => k a (List.mem_cons_of_mem _ (List.mem_cons_of_mem _ ha))⟩
  | .od lk kvs, v, A, h, e, k => by
    simp only [Own] at h ⊢
    obtain ⟨p, vs, e1, rfl, f, q, r⟩ := h
    have kp := k p List.mem_cons_self
    exact ⟨p, vs, e1, rfl, kp.1, q.mono kp.2, RepL.mono s _ _ r⟩
  | .odt kvs, v, A, h, e, k => by
    simp only [Own] at h ⊢
    obtain ⟨p, vs, e1, rfl, f, q, r⟩ := h
    have kp := k p List.mem_cons_self
    exact ⟨p, vs, e1, rfl, kp.1, kp.2 _ q, RepL.mono s _ _ r⟩
theorem OwnL.alive (s : Same F F') : ∀ (ms : List M) (vs : List V) (A : List Addr), OwnL K (plc H σ env) F H ms vs A → alvL env' ms = true → (∀ a ∈ A, F' a = none ∧ ∀ o, H a = some o → H' a = some o) → OwnL K (plc H' σ env') F' H' ms vs A
  | [], vs, A, h, e, k => by simpa only [OwnL] using h
  | m :: ms, vs, A, h, e, k => by
    simp only [OwnL] at h ⊢
    simp only [alvL, Bool.and_eq_true] at e
    obtain ⟨v, r, B, C, e1, rfl, q, q2⟩ := h
    exact ⟨v, r, B, C, e1, rfl, Own.alive s m v B q e.1 fun a ha => k a (List.mem_append_left _ ha), OwnL.alive s ms r C q2 e.2 fun a ha => k a (List.mem_append_right _ ha)⟩
theorem OwnF.alive (s : Same F F') : ∀ (ms : List (Str × M)) (vs : List (Str × V)) (A : List Addr), OwnF K (plc H σ env) F H ms vs A → alvF env' ms = true → (∀ a ∈ A, F' a = none ∧ ∀ o, H a = some o → H' a = some o) → OwnF K (plc H' σ env') F' H' ms vs A
  | [], vs, A, h, e, k => by simpa only [OwnF] using h
  | m :: ms, vs, A, h, e, k => by
    simp only [OwnF] at h ⊢
    simp only [alvF, Bool.and_eq_true] at e
    obtain ⟨v, r, B, C, e1, rfl, q, q2⟩ := h
    exact ⟨v, r, B, C, e1, rfl, Own.alive s m.2 v B q e.1 fun a ha => k a (List.mem_append_left _ ha), OwnF.alive s ms r C q2 e.2 fun a ha => k a (List.mem_append_right _ ha)⟩
end
def xNil : En → Option (List M × En) := fun env => some ([], env)
def xCons (g : En → Option (M × En)) (gs : En → Option (List M × En)) : En → Option (List M × En) := fun env => match g env with
  | some (m, e1) => match gs e1 with
    | some (ms, e2) => if alv e2 m then some (m :: ms, e2) else none
    | none => none
  | none => none
theorem tXA.nil {R : List V → Hp → Prop} (h : tXA K xNil σ H R) : R [] H := by
  obtain ⟨env, m, env', F, fp, e, ok, q⟩ := h
  cases e
  exact q [] F H fp [] (Go.refl ok) ownL_nil .nil (fun a z => by cases z) fun a z => by cases z
theorem tX.mono {f : En → Option (M × En)} {Q R : VK} (h : tX K f σ H Q) (i : ∀ v H', Q v H' → R v H') : tX K f σ H R := by
  obtain ⟨env, m, env', F, fp, e, ok, q⟩ := h
  exact ⟨env, m, env', F, fp, e, ok, fun v F' H' fp' A a b c d e => i _ _ (q v F' H' fp' A a b c d e)⟩
theorem tXA.mono {f : En → Option (List M × En)} {Q R : List V → Hp → Prop} (h : tXA K f σ H Q) (i : ∀ v H', Q v H' → R v H') : tXA K f σ H R := by
  obtain ⟨env, m, env', F, fp, e, ok, q⟩ := h
  exact ⟨env, m, env', F, fp, e, ok, fun v F' H' fp' A a b c d e => i _ _ (q v F' H' fp' A a b c d e)⟩
theorem tXA.cons {f : En → Option (M × En)} {fs : En → Option (List M × En)} {R : List V → Hp → Prop} (h : tXA K (xCons f fs) σ H R) : tX K f σ H fun v H1 => tXA K fs σ H1 fun vs H2 => R (v :: vs) H2 := by
  obtain ⟨env, m, env', F, fp, e, ok, q⟩ := h
  unfold xCons at e
  split at e
  · rename_i m1 e1 h1
    split at e
    · rename_i ms e2 h2
      split at e
      · rename_i ha
        cases e
        refine ⟨env, m1, e1, F, fp, h1, ok, fun v F1 H1 fp1 A g1 o1 n1 a1 b1 => ?_⟩
        refine ⟨e1, ms, env', F1, fp1, h2, g1.ok, fun vs F2 H2 fp2 B g2 o2 n2 a2 b2 => ?_⟩
        have st := g2.tmp (A := A) fun a ha => ⟨(o1.at _ _ _ a ha).1, (o1.at _ _ _ a ha).2, b1 a ha, by simp⟩
        have on1 : ∀ a, Ond e1 fp1 a → H a = none ∨ Ond env fp a := fun a z => by
          rcases g1.nf a z with z | z | z
          · exact .inl z
          · exact .inr z
          · cases z
        have no : ∀ a ∈ A, a ∉ B := fun a ha hb => by
          rcases a2 a hb with z | z
          · obtain ⟨_, o, z'⟩ := o1.at _ _ _ a ha
            rw [z] at z'
            cases z'
          · exact b1 a ha z
        refine q (v :: vs) F2 H2 fp2 (A ++ B) (g1.trans g2 fun a z => by cases z) ?_ ?_ (fun a ha => ?_) fun a ha => ?_
        · simp only [OwnL]
          exact ⟨v, vs, A, B, rfl, rfl, Own.alive g2.fr _ _ _ o1 ha st, o2⟩
        · exact List.nodup_append.mpr ⟨n1, n2, fun a ha b hb e => no a ha (e ▸ hb)⟩
        · rcases List.mem_append.mp ha with z | z
          · exact a1 a z
          · rcases a2 a z with z | z
            · exact .inl (g1.stay a z)
            · exact on1 a z
        · rcases List.mem_append.mp ha with z | z
          · intro w
            rcases g2.nf a w with w | w | w
            · obtain ⟨_, o, z'⟩ := o1.at _ _ _ a z
              rw [w] at z'
              cases z'
            · exact b1 a z w
            · cases w
          · exact b2 a z
      · cases e
    · cases e
  · cases e
/-- an operation behind arguments -/
def xop (op : En → List M → Option M) (gs : En → Option (List M × En)) : En → Option (M × En) := fun env => match gs env with
  | some (ms, e1) => match op e1 ms with
    | some m => some (m, e1)
    | none => none
  | none => none
theorem tXA.op {gs : En → Option (List M × En)} {op : En → List M → Option M} {r : List V → Hp → VK → Prop} (ho : OpS K op r) {Q : VK} (h : tX K (xop op gs) σ H Q) : tXA K gs σ H fun vs H1 => r vs H1 Q := by
  obtain ⟨env, m, env', F, fp, e, ok, q⟩ := h
  unfold xop at e
  split at e
  · rename_i ms e1 h1
    split at e
    · rename_i m' h2
      cases e
      refine ⟨env, ms, env', F, fp, h1, ok, fun vs F1 H1 fp1 A g o n a b => ?_⟩
      have dj : ∀ a ∈ A, ∀ i n, env'.get i = some n → a ∉ fp1 i := fun a ha i n hi hin => b a ha ⟨i, n, hi, hin⟩
      refine ho σ env' F1 H1 fp1 ms vs A m Q g.ok o n dj h2 fun v F2 H2 B s2 o2 n2 ab => ?_
      refine q v F2 H2 fp1 B (g.trans (s2.go g.ok dj) a) o2 n2 (fun c hc => ?_) fun c hc z => ?_
      · rcases ab c hc with z | z
        · exact .inl (g.stay c z)
        · exact a c z
      · rcases ab c hc with w | w
        · obtain ⟨_, o', z'⟩ := g.ok.at z
          rw [w] at z'
          cases z'
        · exact b c w z
    · cases e
  · cases e
theorem tXA.two {f g : En → Option (M × En)} {R : List V → Hp → Prop} (h : tXA K (xCons f (xCons g xNil)) σ H R) : tX K f σ H fun v H1 => tX K g σ H1 fun w H2 => R [v, w] H2 :=
  h.cons.mono fun v H1 h1 => (tXA.cons h1).mono fun w H2 h2 => tXA.nil h2
theorem tXA.one {f : En → Option (M × En)} {R : List V → Hp → Prop} (h : tXA K (xCons f xNil) σ H R) : tX K f σ H fun v H1 => R [v] H1 :=
  h.cons.mono fun v H1 h1 => tXA.nil h1
end
section
variable {X : Cx} {e a b : Expr} {es : List Expr} {f : En → Option M} {g ga gb : En → Option (M × En)} {gs : En → Option (List M × En)} {pos : Pos} {o : En → List M → Option M}
theorem px_of (h : PD X e f) : PX X e (lif f) := PE.imp h fun _ _ _ q => tX.of q
theorem pxa_of {fs : En → Option (List M)} (h : PDA X es fs) : PXA X es (lifA fs) := PA.imp h fun _ _ _ q => tXA.of q
theorem pxt_of {f : En → Option Bool} (h : PDT X e f) : PXT X e (lifT f) := PT.imp h fun _ _ _ q => tXT.of q
theorem pxa_nil : PXA X [] xNil := PA.imp pa_nil fun _ _ _ q => tXA.nil q
theorem pxa_cons (ha : PX X e g) (hr : PXA X es gs) (hs : starEach (e :: es) X.env = (false, eval e X.env) :: starEach es X.env := by rfl) : PXA X (e :: es) (xCons g gs) := PA.imp (pa_cons ha hr hs) fun _ _ _ q => q.cons
abbrev xbin (o : En → List M → Option M) (f g : En → Option (M × En)) := xop o (xCons f (xCons g xNil))
theorem px_op2 {e : Expr} {r : R2} (h : PE X e (tOp r (tX X.K ga) (tX X.K gb))) (ho : OpS X.K o (r2L r)) : PX X e (xbin o ga gb) := by
  refine PE.imp h fun σ H Q q => ?_
  refine (tXA.op ho q).two.mono fun v H1 h1 => h1.mono fun w H2 h2 => ?_
  obtain ⟨x, y, e, h2⟩ := h2
  cases e
  exact h2
theorem px_bin {op : Operator} {r : R2} (hr : OpR X (binaryOp op) r) (ho : OpS X.K o (r2L r)) (ha : PX X a ga) (hb : PX X b gb) : PX X (.BinOp a op b pos) (xbin o ga gb) := px_op2 (pe_op hr ha hb) ho
theorem px_ixr {r : R2} (hr : IxR X r) (ho : OpS X.K o (r2L r)) (ha : PX X a ga) (hb : PX X b gb) (hs : PlainIx b) : PX X (.Subscript a b pos) (xbin o ga gb) := px_op2 (pe_ix hr ha hb hs) ho
theorem px_lst (h : PXA X es gs) : PX X (.List es pos) (xop oLst gs) := PE.imp (pe_lst h) fun σ H Q q => tXA.op s_lst q
theorem pd_callT {x : Str} {p : Pos} {T : String} {r : List V → Hp → VK → Prop} {fs : En → Option (List M)} (hc : CallR X (.type T) r) (ho : OpS X.K o r) (hg : Gl X x) (hm : X.mg x = none) (hv : bootBuiltins x = some (.type T)) (ha : PDA X (e :: es) fs)
    (hn : x ≠ "__name__" := by decide) (hdb : (x == ("__debug__" : Str)) = false := by decide)
    (he : starEach (e :: es) X.env = (false, eval e X.env) :: starEach es X.env := by rfl) (hpl : (backTo pos (starEach es X.env)).any (·.1) = false := by rfl) : PD X (.Call (.Name x p) (e :: es) [] pos) (opr o fs) :=
  PE.imp (pe_callTy hc hg hm hv ha hn hdb he hpl) fun σ H Q q => tDA.op ho q
def tst (f : En → Option M) : En → Option Bool := fun env => match f env with
  | some (.fz (.bl b)) => some b
  | _ => none
def xtst (g : En → Option (M × En)) : En → Option (Bool × En) := fun env => match g env with
  | some (.fz (.bl b), e) => some (b, e)
  | _ => none
theorem tDT.test {K : PySem.W.Frag} {f : En → Option M} {σ : L2.St} {H : Hp} {Q : Bool → Hp → Prop} (h : tDT K (tst f) σ H Q) : tD K f σ H fun x H1 => ∃ c, x = .bl c ∧ Q c H1 := by
  obtain ⟨env, b, F, fp, e, ok, q⟩ := h
  unfold tst at e
  split at e
  · rename_i b' hb
    cases e
    refine ⟨env, _, F, fp, hb, ok, fun v F' H' A s o n a => ?_⟩
    simp only [Own, Rep] at o
    exact ⟨b, o.2, q F' H' s⟩
  · cases e
theorem tXT.test {K : PySem.W.Frag} {f : En → Option (M × En)} {σ : L2.St} {H : Hp} {Q : Bool → Hp → Prop} (h : tXT K (xtst f) σ H Q) : tX K f σ H fun x H1 => ∃ c, x = .bl c ∧ Q c H1 := by
  obtain ⟨env, b, env', F, fp, e, ok, q⟩ := h
  unfold xtst at e
  split at e
  · rename_i b' e' hb
    cases e
    refine ⟨env, _, _, F, fp, hb, ok, fun v F' H' fp' A g o n a b => ?_⟩
    simp only [Own, Rep] at o
    exact ⟨_, o.2, q F' H' fp' g⟩
  · cases e
theorem pdt_val (h : PD X e f) (he : ∀ whole, isTrue e X.env whole = (do let v ← whole; standAt e.pos; holding [v] (truthy v)) := by intro _; rfl) : PDT X e (tst f) := PT.imp (pt_val h he) fun σ H Q q => q.test
theorem pdt_cmp {fa fb : En → Option M} {op : CmpOp} {r : R2} (hr : OpR X (compareOp op) r) (ho : OpS X.K o (r2L r)) (ha : PD X a fa) (hb : PD X b fb) (hm : behindInMarks op b = false) : PDT X (.Compare a [op] [b] pos) (tst (bin o fa fb)) := by
  refine PT.imp (pt_cmpR hr ha hb hm) fun σ H Q q => ?_
  refine (tDA.op ho q.test).two.mono fun v H1 h1 => h1.mono fun w H2 h2 => ?_
  obtain ⟨x, y, e, h2⟩ := h2
  cases e
  exact h2
end
def PDW (X : Cx) (e : Expr) (f : En → Option Bool) : Prop := PW X e (tDT X.K f)
theorem PW.imp {X : Cx} {e : Expr} {t u : TT} (h : PW X e t) (i : ∀ σ H Q, u σ H Q → t σ H Q) : PW X e u := ⟨fun w pins s σ H Q I q => h.run w pins s σ H Q I (i _ _ _ q)⟩
def dAnd (f g : En → Option Bool) : En → Option Bool := fun env => match f env with
  | some true => g env
  | some false => some false
  | none => none
def dOr (f g : En → Option Bool) : En → Option Bool := fun env => match f env with
  | some false => g env
  | some true => some true
  | none => none
def dNot (f : En → Option Bool) : En → Option Bool := fun env => match f env with
  | some b => some (!b)
  | none => none
def xAnd (f g : En → Option (Bool × En)) : En → Option (Bool × En) := fun env => match f env with
  | some (true, e) => g e
  | some (false, e) => some (false, e)
  | none => none
def xOr (f g : En → Option (Bool × En)) : En → Option (Bool × En) := fun env => match f env with
  | some (false, e) => g e
  | some (true, e) => some (true, e)
  | none => none
def xNot (f : En → Option (Bool × En)) : En → Option (Bool × En) := fun env => match f env with
  | some (b, e) => some (!b, e)
  | none => none
section
variable {K : PySem.W.Frag} {σ : L2.St} {H : Hp}
theorem tDT.and {f g : En → Option Bool} {Q : Bool → Hp → Prop} (h : tDT K (dAnd f g) σ H Q) : tDT K f σ H fun c H1 => if c = true then tDT K g σ H1 Q else Q false H1 := by
  obtain ⟨env, b, F, fp, e, ok, q⟩ := h
  unfold dAnd at e
  split at e
  · rename_i hb
    refine ⟨env, true, F, fp, hb, ok, fun F1 H1 s => ?_⟩
    exact iteT (⟨env, b, F1, fp, e, ok.step s (fun a z => by cases z), fun F2 H2 s2 => q F2 H2 (s.trans s2 fun a z => by cases z)⟩)
  · rename_i hb
    cases e
    exact ⟨env, false, F, fp, hb, ok, fun F1 H1 s => iteF (q F1 H1 s)⟩
  · cases e
theorem tDT.or {f g : En → Option Bool} {Q : Bool → Hp → Prop} (h : tDT K (dOr f g) σ H Q) : tDT K f σ H fun c H1 => if c = true then Q true H1 else tDT K g σ H1 Q := by
  obtain ⟨env, b, F, fp, e, ok, q⟩ := h
  unfold dOr at e
  split at e
  · rename_i hb
    refine ⟨env, false, F, fp, hb, ok, fun F1 H1 s => ?_⟩
    exact iteF (⟨env, b, F1, fp, e, ok.step s (fun a z => by cases z), fun F2 H2 s2 => q F2 H2 (s.trans s2 fun a z => by cases z)⟩)
  · rename_i hb
    cases e
    exact ⟨env, true, F, fp, hb, ok, fun F1 H1 s => iteT (q F1 H1 s)⟩
  · cases e
theorem tDT.not {f : En → Option Bool} {Q : Bool → Hp → Prop} (h : tDT K (dNot f) σ H Q) : tDT K f σ H fun c H1 => Q (!c) H1 := by
  obtain ⟨env, b, F, fp, e, ok, q⟩ := h
  unfold dNot at e
  split at e
  · rename_i b' hb
    cases e
    exact ⟨env, b', F, fp, hb, ok, q⟩
  · cases e
theorem tXT.and {f g : En → Option (Bool × En)} {Q : Bool → Hp → Prop} (h : tXT K (xAnd f g) σ H Q) : tXT K f σ H fun c H1 => if c = true then tXT K g σ H1 Q else Q false H1 := by
  obtain ⟨env, b, env', F, fp, e, ok, q⟩ := h
  unfold xAnd at e
  split at e
  · rename_i e1 hb
    refine ⟨env, true, e1, F, fp, hb, ok, fun F1 H1 fp1 s => ?_⟩
    exact iteT (⟨e1, b, env', F1, fp1, e, s.ok, fun F2 H2 fp2 s2 => q F2 H2 fp2 (s.trans s2 fun a z => by cases z)⟩)
  · rename_i e1 hb
    cases e
    exact ⟨env, false, _, F, fp, hb, ok, fun F1 H1 fp1 s => iteF (q F1 H1 fp1 s)⟩
  · cases e
theorem tXT.or {f g : En → Option (Bool × En)} {Q : Bool → Hp → Prop} (h : tXT K (xOr f g) σ H Q) : tXT K f σ H fun c H1 => if c = true then Q true H1 else tXT K g σ H1 Q := by
  obtain ⟨env, b, env', F, fp, e, ok, q⟩ := h
  unfold xOr at e
  split at e
  · rename_i e1 hb
    refine ⟨env, false, e1, F, fp, hb, ok, fun F1 H1 fp1 s => ?_⟩
    exact iteF (⟨e1, b, env', F1, fp1, e, s.ok, fun F2 H2 fp2 s2 => q F2 H2 fp2 (s.trans s2 fun a z => by cases z)⟩)
  · rename_i e1 hb
    cases e
    exact ⟨env, true, _, F, fp, hb, ok, fun F1 H1 fp1 s => iteT (q F1 H1 fp1 s)⟩
  · cases e
theorem tXT.not {f : En → Option (Bool × En)} {Q : Bool → Hp → Prop} (h : tXT K (xNot f) σ H Q) : tXT K f σ H fun c H1 => Q (!c) H1 := by
  obtain ⟨env, b, env', F, fp, e, ok, q⟩ := h
  unfold xNot at e
  split at e
  · rename_i b' e' hb
    cases e
    exact ⟨env, b', _, F, fp, hb, ok, q⟩
  · cases e
end
section
variable {X : Cx} {a b : Expr} {rest : List Expr} {f g : En → Option Bool} {xf xg : En → Option (Bool × En)} {pos : Pos}
theorem pdw_and1 (h : PDT X a f) : PDW X (.BoolOp .And [a] pos) f := pw_and1 h
theorem pdw_or1 (h : PDT X a f) : PDW X (.BoolOp .Or [a] pos) f := pw_or1 h
theorem pdw_and (h : PDT X a f) (hb : PDW X (.BoolOp .And (b :: rest) pos) g) : PDW X (.BoolOp .And (a :: b :: rest) pos) (dAnd f g) := PW.imp (pw_and h hb) fun σ H Q q => q.and
theorem pdw_or (h : PDT X a f) (hb : PDW X (.BoolOp .Or (b :: rest) pos) g) : PDW X (.BoolOp .Or (a :: b :: rest) pos) (dOr f g) := PW.imp (pw_or h hb) fun σ H Q q => q.or
theorem PDW.t {e : Expr} (h : PDW X e f) : PDT X e f := PW.pt h
theorem pdt_not (h : PDT X a f) : PDT X (.UnaryOp .Not a pos) (dNot f) := PT.imp (pt_not h) fun σ H Q q => q.not
end
def val (f : En → Option Bool) : En → Option M := fun env => match f env with
  | some b => some (.fz (.bl b))
  | none => none
section
variable {X : Cx} {a b : Expr} {rest : List Expr} {f g : En → Option M} {pos : Pos}
def vAnd (f g : En → Option M) : En → Option M := fun env => match f env with
  | some (.fz (.bl true)) => g env
  | some (.fz (.bl false)) => some (.fz (.bl false))
  | _ => none
def vOr (f g : En → Option M) : En → Option M := fun env => match f env with
  | some (.fz (.bl false)) => g env
  | some (.fz (.bl true)) => some (.fz (.bl true))
  | _ => none
theorem pd_one {op} (h : PD X a f) : PD X (.BoolOp op [a] pos) f := pe_one h
theorem pd_and (ha : PD X a f) (hb : PD X (.BoolOp .And (b :: rest) pos) g) : PD X (.BoolOp .And (a :: b :: rest) pos) (vAnd f g) := by
  refine PE.imp (pe_and ha hb) fun σ H Q h => ?_
  obtain ⟨env, m, F, fp, e, ok, q⟩ := h
  unfold vAnd at e
  split at e
  · rename_i h1
    refine ⟨env, _, F, fp, h1, ok, fun v F1 H1 A s o n aa => ?_⟩
    simp only [Own, Rep] at o
    refine ⟨true, o.2, ?_⟩
    exact iteT (⟨env, m, F1, fp, e, ok.step s (fun a z => by cases z), fun v2 F2 H2 A2 s2 o2 n2 a2 => q v2 F2 H2 A2 (s.trans s2 fun a z => by cases z) o2 n2 fun a ha => s.hp.free (a2 a ha)⟩)
  · rename_i h1
    cases e
    refine ⟨env, _, F, fp, h1, ok, fun v F1 H1 A s o n aa => ?_⟩
    simp only [Own, Rep] at o
    refine ⟨false, o.2, ?_⟩
    exact iteF (q _ F1 H1 [] s (own_fz (by simp only [Rep])) .nil fun a z => by cases z)
  · cases e
theorem pd_or (ha : PD X a f) (hb : PD X (.BoolOp .Or (b :: rest) pos) g) : PD X (.BoolOp .Or (a :: b :: rest) pos) (vOr f g) := by
  refine PE.imp (pe_or ha hb) fun σ H Q h => ?_
  obtain ⟨env, m, F, fp, e, ok, q⟩ := h
  unfold vOr at e
  split at e
  · rename_i h1
    refine ⟨env, _, F, fp, h1, ok, fun v F1 H1 A s o n aa => ?_⟩
    simp only [Own, Rep] at o
    refine ⟨false, o.2, ?_⟩
    exact iteF (⟨env, m, F1, fp, e, ok.step s (fun a z => by cases z), fun v2 F2 H2 A2 s2 o2 n2 a2 => q v2 F2 H2 A2 (s.trans s2 fun a z => by cases z) o2 n2 fun a ha => s.hp.free (a2 a ha)⟩)
  · rename_i h1
    cases e
    refine ⟨env, _, F, fp, h1, ok, fun v F1 H1 A s o n aa => ?_⟩
    simp only [Own, Rep] at o
    refine ⟨true, o.2, ?_⟩
    exact iteT (q _ F1 H1 [] s (own_fz (by simp only [Rep])) .nil fun a z => by cases z)
  · cases e
/-- a if t else b -/
def dIf (t : En → Option Bool) (f g : En → Option M) : En → Option M := fun env => match t env with
  | some true => f env
  | some false => g env
  | none => none
end
end T2
end
section
set_option Elab.async false
set_option linter.all false
set_option maxRecDepth 100000
namespace T2
open PySem PySem.Spec PyProof.Rows L2
/-- how a statement ends -/
inductive Fl where
  | nx (e : En) | rt (m : M) (e : En) | bk (e : En) | ct (e : En)
/-- the slots lk keep their values -/
def Lk (lk : Nat → Bool) (σ σ' : L2.St) : Prop := ∀ i, lk i = true → σ'[i]? = σ[i]?
theorem Lk.trans {lk : Nat → Bool} {σ σ1 σ2 : L2.St} (a : Lk lk σ σ1) (b : Lk lk σ1 σ2) : Lk lk σ σ2 := fun i h => (b i h).trans (a i h)
section
variable (K : PySem.W.Frag) (lk : Nat → Bool)
def Fin (D : Ends) (σ : L2.St) (env : En) (fp : Nat → List Addr) (F H : Hp) : Fl → Prop
  | .nx e' => ∀ σ' F' H' fp', Go K [] σ env fp F H σ' e' fp' F' H' → Lk lk σ σ' → D.nx σ' H'
  | .bk e' => ∀ σ' F' H' fp', Go K [] σ env fp F H σ' e' fp' F' H' → Lk lk σ σ' → D.bk σ' H'
  | .ct e' => ∀ σ' F' H' fp', Go K [] σ env fp F H σ' e' fp' F' H' → Lk lk σ σ' → D.ct σ' H'
  | .rt m e' => ∀ v σ' F' H' fp' A, Go K [] σ env fp F H σ' e' fp' F' H' → Lk lk σ σ' → Own K noBr F' H' m v A → A.Nodup → (∀ a ∈ A, H a = none ∨ Ond env fp a) → (∀ a ∈ A, ¬ Ond e' fp' a) → D.rt v H'
def tS (f : En → Option Fl) : TS := fun D σ H => ∃ env r F fp, f env = some r ∧ EnvOk K F H σ env fp ∧ Fin K lk D σ env fp F H r
end
def PDS (X : Cx) (lk : Nat → Bool) (st : Stmt) (f : En → Option Fl) : Prop := PS X st (tS X.K lk f)
def PDSs (X : Cx) (lk : Nat → Bool) (sts : List Stmt) (f : En → Option Fl) : Prop := PSs X sts (tS X.K lk f)
theorem PS.imp {X : Cx} {e : Stmt} {t u : TS} (h : PS X e t) (i : ∀ D σ H, u D σ H → t D σ H) : PS X e u := ⟨fun pins s σ H Q I q => h.run pins s σ H Q I (i _ _ _ q)⟩
theorem PSs.imp {X : Cx} {e : List Stmt} {t u : TS} (h : PSs X e t) (i : ∀ D σ H, u D σ H → t D σ H) : PSs X e u := ⟨fun pins s σ H Q I q => h.run pins s σ H Q I (i _ _ _ q)⟩
section
variable {K : PySem.W.Frag} {lk : Nat → Bool} {F H F' H' F1 H1 F2 H2 : Hp} {σ σ' σ1 σ2 : L2.St} {env env' env1 env2 : En} {fp fp' fp1 fp2 : Nat → List Addr} {A B T : List Addr} {D : Ends}
theorem Go.ond (g : Go K [] σ env fp F H σ1 env1 fp1 F1 H1) {a : Addr} (h : Ond env1 fp1 a) : H a = none ∨ Ond env fp a := by
  rcases g.nf a h with z | z | z
  · exact .inl z
  · exact .inr z
  · cases z
theorem Fin.after {r : Fl} (q : Fin K lk D σ env fp F H r) (g : Go K [] σ env fp F H σ1 env1 fp1 F1 H1) (l : Lk lk σ σ1) : Fin K lk D σ1 env1 fp1 F1 H1 r := by
  cases r with
  | nx e => exact fun σ' F' H' fp' g' l' => q σ' F' H' fp' (g.trans g' fun a z => by cases z) (l.trans l')
  | bk e => exact fun σ' F' H' fp' g' l' => q σ' F' H' fp' (g.trans g' fun a z => by cases z) (l.trans l')
  | ct e => exact fun σ' F' H' fp' g' l' => q σ' F' H' fp' (g.trans g' fun a z => by cases z) (l.trans l')
  | rt m e => exact fun v σ' F' H' fp' A g' l' o n a b => q v σ' F' H' fp' A (g.trans g' fun a z => by cases z) (l.trans l') o n (fun c hc => by
      rcases a c hc with z | z
      · exact .inl (g.stay c z)
      · exact g.ond z) b
end
def sNil : En → Option Fl := fun env => some (.nx env)
def sSeq (f g : En → Option Fl) : En → Option Fl := fun env => match f env with
  | some (.nx e) => g e
  | r => r
section
variable {X : Cx} {lk : Nat → Bool} {st : Stmt} {sts : List Stmt} {f g : En → Option Fl} {pos : Pos}
theorem pds_nil : PDSs X lk [] sNil := by
  refine PSs.imp pss_nil fun D σ H h => ?_
  obtain ⟨env, r, F, fp, e, ok, q⟩ := h
  cases e
  exact q σ F H fp (Go.refl ok) fun i _ => rfl
theorem pds_cons (h1 : PDS X lk st f) (h2 : PDSs X lk sts g) : PDSs X lk (st :: sts) (sSeq f g) := by
  refine PSs.imp (pss_cons h1 h2) fun D σ H h => ?_
  obtain ⟨env, r, F, fp, e, ok, q⟩ := h
  unfold sSeq at e
  split at e
  · rename_i e1 h1
    exact ⟨env, _, F, fp, h1, ok, fun σ1 F1 H1 fp1 g1 l1 => ⟨e1, r, F1, fp1, e, g1.ok, q.after g1 l1⟩⟩
  · rename_i r' hne
    cases r with
    | nx e1 => exact absurd e (hne e1)
    | rt m e1 => exact ⟨env, _, F, fp, e, ok, q⟩
    | bk e1 => exact ⟨env, _, F, fp, e, ok, q⟩
    | ct e1 => exact ⟨env, _, F, fp, e, ok, q⟩
theorem pds_one (h1 : PDS X lk st f) : PDSs X lk [st] f := pss_one h1
theorem pds_never : PDS X lk st (fun _ => none) := by
  refine PS.imp ps_never fun D σ H h => ?_
  obtain ⟨env, r, F, fp, e, ok, q⟩ := h
  cases e
/-- if -/
def sIf (t : En → Option (Bool × En)) (f g : En → Option Fl) : En → Option Fl := fun env => match t env with
  | some (true, e) => f e
  | some (false, e) => g e
  | none => none
theorem pds_if {c : Expr} {a b : List Stmt} {t : En → Option (Bool × En)} (hc : PXT X c t) (ha : PDSs X lk a f) (hb : PDSs X lk b g) : PDS X lk (.If c a b pos) (sIf t f g) := by
  refine PS.imp (ps_if hc ha hb) fun D σ H h => ?_
  obtain ⟨env, r, F, fp, e, ok, q⟩ := h
  unfold sIf at e
  split at e
  · rename_i e1 h1
    exact ⟨env, true, e1, F, fp, h1, ok, fun F1 H1 fp1 g1 => iteT ⟨e1, r, F1, fp1, e, g1.ok, q.after g1 fun i _ => rfl⟩⟩
  · rename_i e1 h1
    exact ⟨env, false, e1, F, fp, h1, ok, fun F1 H1 fp1 g1 => iteF ⟨e1, r, F1, fp1, e, g1.ok, q.after g1 fun i _ => rfl⟩⟩
  · cases e
/-- an expression for what it does -/
def sExp (g : En → Option (M × En)) : En → Option Fl := fun env => match g env with
  | some (_, e) => some (.nx e)
  | none => none
theorem pds_expr {e : Expr} {g : En → Option (M × En)} (he : PX X e g) (hs : swapsWith e none pos.line X.env = pure false := by rfl) : PDS X lk (.Expr e pos) (sExp g) := by
  refine PS.imp (ps_expr he hs) fun D σ H h => ?_
  obtain ⟨env, r, F, fp, e, ok, q⟩ := h
  unfold sExp at e
  split at e
  · rename_i m e1 h1
    cases e
    exact ⟨env, m, e1, F, fp, h1, ok, fun v F' H' fp' A g1 o n a b => q σ F' H' fp' g1 fun i _ => rfl⟩
  · cases e
end
section
variable {K : PySem.W.Frag} {lk : Nat → Bool} {F H F' H' F1 H1 F2 H2 : Hp} {σ σ' σ1 σ2 : L2.St} {env env' env1 env2 : En} {fp fp' fp1 fp2 : Nat → List Addr} {A B T : List Addr} {D : Ends}
theorem set_ok {i : Nat} {m : M} {v : V} (ok : EnvOk K F H σ env fp) (h : Own K noBr F H m v A) (hn : A.Nodup) (hA : ∀ a ∈ A, ¬ Ond env fp a) (hi : i < env.length) : Go K A σ env fp F H (σ.set i (some v)) (env.put i m) (fun j => if j = i then A else fp j) F H := by
  refine ⟨.refl _, fun _ _ e _ _ => e, fun _ e => e, fun _ e => .inl e, fun a ⟨j, n, hj, ha⟩ => ?_, ?_, fun _ _ _ e => e⟩
  · by_cases e : j = i
    · simp only [if_pos e] at ha
      exact .inr (.inr ha)
    · simp only [if_neg e] at ha
      rw [En.get_put hi, if_neg e] at hj
      exact .inr (.inl ⟨j, n, hj, ha⟩)
  · refine ⟨?_, ok.sub, fun j n hj => ?_, fun j n hj => ?_, fun j k n n' a hj hk ha hb => ?_⟩
    · unfold En.put
      rw [List.length_set, List.length_set]
      exact ok.len
    · rw [En.get_put hi] at hj
      by_cases e : j = i
      · subst e
        rw [if_pos rfl] at hj
        cases hj
        refine ⟨v, List.getElem?_set_self (by rw [← ok.len]; exact hi), ?_⟩
        simp only [if_pos]
        exact h
      · rw [if_neg e] at hj
        obtain ⟨w, k1, k2⟩ := ok.slot j n hj
        refine ⟨w, by rw [List.getElem?_set_ne (Ne.symm e)]; exact k1, ?_⟩
        simp only [if_neg e]
        exact k2
    · by_cases e : j = i
      · simp only [if_pos e]
        exact hn
      · rw [En.get_put hi, if_neg e] at hj
        simp only [if_neg e]
        exact ok.nd j n hj
    · by_cases e : j = i
      · simp only [if_pos e] at ha
        by_cases e' : k = i
        · rw [e, e']
        · simp only [if_neg e'] at hb
          rw [En.get_put hi, if_neg e'] at hk
          exact absurd ⟨k, n', hk, hb⟩ (hA a ha)
      · simp only [if_neg e] at ha
        rw [En.get_put hi, if_neg e] at hj
        by_cases e' : k = i
        · simp only [if_pos e'] at hb
          exact absurd ⟨j, n, hj, ha⟩ (hA a hb)
        · simp only [if_neg e'] at hb
          rw [En.get_put hi, if_neg e'] at hk
          exact ok.dj j k n n' a hj hk ha hb
/-- behind a result: it is stored -/
theorem stow_go {k : Nat} {m m' : M} {v : V} {env2 : En} (g : Go K [] σ env fp F H σ env1 fp1 F1 H1) (o : Own K (plc H1 σ env1) F1 H1 m v A) (n : A.Nodup) (a : ∀ a ∈ A, H a = none ∨ Ond env fp a) (b : ∀ a ∈ A, ¬ Ond env1 fp1 a) (e : stow k env1 m = some (m', env2)) :
    ∃ F2 fp2 A', Go K [] σ env fp F H σ env2 fp2 F2 H1 ∧ Own K noBr F2 H1 m' v A' ∧ A'.Nodup ∧ (∀ a ∈ A', H a = none ∨ Ond env fp a) ∧ (∀ a ∈ A', ¬ Ond env2 fp2 a) := by
  obtain ⟨F2, fp2, A', g2, o2, s2, k2⟩ := stow_ok g.ok o n b e
  exact ⟨F2, fp2, A', g.trans g2 a, o2, n.sublist s2, fun c hc => a c (s2.subset hc), fun c hc z => b c (s2.subset hc) (k2 c z)⟩
end
/-- name = e: the first k levels stay owned -/
def sAsg (lk : Nat → Bool) (i k : Nat) (g : En → Option (M × En)) : En → Option Fl := fun env => match g env with
  | some (m, e1) => match stow k e1 m with
    | some (m', e2) => if lk i = false ∧ i < e2.length then some (.nx (e2.put i m')) else none
    | none => none
  | none => none
theorem Lk.set {lk : Nat → Bool} {σ : L2.St} {i : Nat} {v : V} (h : lk i = false) : Lk lk σ (σ.set i (some v)) := fun j hj => by
  have : i ≠ j := fun e => by
    subst e
    rw [h] at hj
    cases hj
  rw [List.getElem?_set_ne this]
section
variable {X : Cx} {lk : Nat → Bool} {i k : Nat} {g : En → Option (M × En)}
theorem pds_asg {st : Stmt} (h : PS X st (tAsg (tX X.K g) (gName i))) : PDS X lk st (sAsg lk i k g) := by
  refine PS.imp h fun D σ H h => ?_
  obtain ⟨env, r, F, fp, e, ok, q⟩ := h
  unfold sAsg at e
  split at e
  · rename_i m e1 h1
    split at e
    · rename_i m' e2 h2
      split at e
      · rename_i hi
        cases e
        refine ⟨env, m, e1, F, fp, h1, ok, fun v F1 H1 fp1 A g1 o n a b => ?_⟩
        obtain ⟨F2, fp2, A', g2, o2, n2, a2, b2⟩ := stow_go g1 o n a b h2
        exact q _ F2 H1 _ (g2.trans (set_ok g2.ok o2 n2 b2 hi.2) a2) (Lk.set hi.1)
      · cases e
    · cases e
  · cases e
theorem pds_set {x : Str} {e : Expr} {pos pos' : Pos} (hN : X.N.Nodup) (he : PX X e g) (hi : X.N[i]? = some x := by rfl) (hx : Loc X.env.scope x := by first | exact .inl rfl | exact .inr rfl) (hs : swapsWith e (some (.Name x pos')) pos.line X.env = pure false := by rfl)
    (hf : X.fn x = true ∨ X.env.scope.names.lookup x = some .local := by first | exact .inl rfl | exact .inr rfl | assumption) : PDS X lk (.Assign [.Name x pos'] e pos) (sAsg lk i k g) := pds_asg (ps_set hN hi hx he hs hf)
end
def sRet (lk : Nat → Bool) (g : En → Option (M × En)) : En → Option Fl := fun env => match g env with
  | some (.bp i [], e1) => match e1.get i with
    | some m => if lk i = false then some (.rt m (e1.kill i)) else none
    | none => none
  | some (m, e1) => match stow 9 e1 m with
    | some (m', e2) => some (.rt m' e2)
    | none => none
  | none => none
section
variable {X : Cx} {lk : Nat → Bool} {g : En → Option (M × En)} {e : Expr} {pos : Pos}
theorem kill_ok {K : PySem.W.Frag} {F H : Hp} {σ : L2.St} {env : En} {fp : Nat → List Addr} {i : Nat} (ok : EnvOk K F H σ env fp) : Go K [] σ env fp F H σ (env.kill i) fp F H := by
  refine ⟨.refl _, fun _ _ e _ _ => e, fun _ e => e, fun _ e => .inl e, fun a ⟨j, n, hj, ha⟩ => ?_, ?_, fun _ _ _ e => e⟩
  · rw [En.get_kill] at hj
    split at hj
    · cases hj
    · exact .inr (.inl ⟨j, n, hj, ha⟩)
  · refine ⟨by unfold En.kill; rw [List.length_set]; exact ok.len, ok.sub, fun j n hj => ?_, fun j n hj => ?_, fun j k n n' a hj hk ha hb => ?_⟩
    · rw [En.get_kill] at hj
      split at hj
      · cases hj
      · exact ok.slot j n hj
    · rw [En.get_kill] at hj
      split at hj
      · cases hj
      · exact ok.nd j n hj
    · rw [En.get_kill] at hj hk
      split at hj
      · cases hj
      · split at hk
        · cases hk
        · exact ok.dj j k n n' a hj hk ha hb
theorem pds_ret (he : PX X e g) : PDS X lk (.Return (some e) pos) (sRet lk g) := by
  refine PS.imp (ps_ret he) fun D σ H h => ?_
  obtain ⟨env, r, F, fp, e, ok, q⟩ := h
  unfold sRet at e
  split at e
  · rename_i i e1 h1
    split at e
    · rename_i m hm
      split at e
      · rename_i hl
        cases e
        refine ⟨env, _, e1, F, fp, h1, ok, fun v F1 H1 fp1 A g1 o n a b => ?_⟩
        simp only [Own] at o
        obtain ⟨_, w, hw, hv, _⟩ := o
        have hv : v = w := hv
        subst hv
        obtain ⟨u, k1, k2⟩ := g1.ok.slot i m hm
        rw [hw] at k1
        cases k1
        refine q v σ F1 H1 fp1 (fp1 i) (g1.trans (kill_ok g1.ok) fun a z => by cases z) (fun _ _ => rfl) k2 (g1.ok.nd i m hm) (fun c hc => g1.ond ⟨i, m, hm, hc⟩) fun c hc ⟨j, n, hj, hc'⟩ => ?_
        rw [En.get_kill] at hj
        split at hj
        · cases hj
        · rename_i hne
          exact hne (g1.ok.dj j i n m c hj hm hc' hc)
      · cases e
    · cases e
  · rename_i m e1 hne h1
    split at e
    · rename_i m' e2 h2
      cases e
      refine ⟨env, m, e1, F, fp, h1, ok, fun v F1 H1 fp1 A g1 o n a b => ?_⟩
      obtain ⟨F2, fp2, A', g2, o2, n2, a2, b2⟩ := stow_go g1 o n a b h2
      exact q v σ F2 H1 fp2 A' g2 (fun _ _ => rfl) o2 n2 a2 b2
    · cases e
  · cases e
end
inductive Tg where
  | nm (i : Nat) | tp (ts : List Tg)
mutual
def asT (lk : Nat → Bool) : Tg → D → En → Option En
  | .nm i, d, env => if lk i = false ∧ i < env.length then some (env.put i (.fz d)) else none
  | .tp ts, .tup ds, env => if ts.length = ds.length then asTs lk ts ds env else none
  | .tp ts, .lst ds, env => if ts.length = ds.length then asTs lk ts ds env else none
  | .tp _, _, _ => none
def asTs (lk : Nat → Bool) : List Tg → List D → En → Option En
  | [], [], env => some env
  | t :: ts, d :: ds, env => match asT lk t d env with
    | some e => asTs lk ts ds e
    | none => none
  | _, _, _ => none
end
mutual
theorem asT_len {lk : Nat → Bool} : ∀ (t : Tg) (d : D) (env env' : En), asT lk t d env = some env' → env'.length = env.length
  | .nm i, d, env, env', e => by
    simp only [asT] at e
    split at e
    · cases e
      unfold En.put
      rw [List.length_set]
    · cases e
  | .tp ts, .tup ds, env, env', e => by
    simp only [asT] at e
    split at e
    · exact asTs_len ts ds env env' e
    · cases e
  | .tp ts, .non, env, env', e => by simp only [asT] at e; cases e
  | .tp ts, .bl _, env, env', e => by simp only [asT] at e; cases e
  | .tp ts, .int _, env, env', e => by simp only [asT] at e; cases e
  | .tp ts, .str _, env, env', e => by simp only [asT] at e; cases e
  | .tp ts, .lst ds, env, env', e => by
    simp only [asT] at e
    split at e
    · exact asTs_len ts ds env env' e
    · cases e
  | .tp ts, .ins _ _, env, env', e => by simp only [asT] at e; cases e
  | .tp ts, .dic _ _, env, env', e => by simp only [asT] at e; cases e
  | .tp ts, .any, env, env', e => by simp only [asT] at e; cases e
  | .tp ts, .exc _ _ _, env, env', e => by simp only [asT] at e; cases e
  | .tp ts, .scr _, env, env', e => by simp only [asT] at e; cases e
theorem asTs_len {lk : Nat → Bool} : ∀ (ts : List Tg) (ds : List D) (env env' : En), asTs lk ts ds env = some env' → env'.length = env.length
  | [], [], env, env', e => by simp only [asTs, Option.some.injEq] at e; rw [e]
  | t :: ts, d :: ds, env, env', e => by
    simp only [asTs] at e
    split at e
    · rename_i e1 h1
      rw [asTs_len ts ds e1 env' e, asT_len t d env e1 h1]
    · cases e
  | [], d :: ds, env, env', e => by simp only [asTs] at e; cases e
  | t :: ts, [], env, env', e => by simp only [asTs] at e; cases e
end
section
variable (K : PySem.W.Frag) (lk : Nat → Bool)
/-- a target takes data -/
def tT (t : Tg) : TG := fun v σ H Q => ∃ d env env' F fp, Rep K F d v ∧ asT lk t d env = some env' ∧ EnvOk K F H σ env fp ∧ ∀ σ' fp', Go K [] σ env fp F H σ' env' fp' F H → Lk lk σ σ' → Q σ' H
def tTs (t : List Tg) : TGs := fun vs σ H Q => ∃ ds env env' F fp, RepL K F ds vs ∧ asTs lk t ds env = some env' ∧ EnvOk K F H σ env fp ∧ ∀ σ' fp', Go K [] σ env fp F H σ' env' fp' F H → Lk lk σ σ' → Q σ' H
end
def PT' (X : Cx) (lk : Nat → Bool) (e : Expr) (t : Tg) : Prop := PG X e (tT X.K lk t)
def PTs' (X : Cx) (lk : Nat → Bool) (es : List Expr) (t : List Tg) : Prop := PGs X es (tTs X.K lk t)
theorem PG.imp {X : Cx} {e : Expr} {t u : TG} (h : PG X e t) (i : ∀ v σ H Q, u v σ H Q → t v σ H Q) : PG X e u := ⟨fun pins s σ H v w Q I r q => h.run pins s σ H v w Q I r (i _ _ _ _ q)⟩
theorem PGs.imp {X : Cx} {e : List Expr} {t u : TGs} (h : PGs X e t) (i : ∀ v σ H Q, u v σ H Q → t v σ H Q) : PGs X e u := ⟨fun pins s σ H v w Q I r q => h.run pins s σ H v w Q I r (i _ _ _ _ q)⟩
section
variable {X : Cx} {lk : Nat → Bool} {e : Expr} {es : List Expr} {t : Tg} {ts : List Tg} {pos : Pos}
theorem pt_nm {i : Nat} {x : Str} (hN : X.N.Nodup) (hi : X.N[i]? = some x := by rfl) (hx : Loc X.env.scope x := by first | exact .inl rfl | exact .inr rfl) (hf : X.fn x = true ∨ X.env.scope.names.lookup x = some .local := by first | exact .inl rfl | exact .inr rfl | assumption) : PT' X lk (.Name x pos) (.nm i) := by
  refine PG.imp (pg_name hN hi hx hf) fun v σ H Q h => ?_
  obtain ⟨d, env, env', F, fp, r, e, ok, q⟩ := h
  simp only [asT] at e
  split at e
  · rename_i hi
    cases e
    have g := set_ok (i := i) (v := v) ok (own_fz (br := noBr) (H := H) r) .nil (fun a z => by cases z) hi.2
    exact q _ _ g (Lk.set hi.1)
  · cases e
theorem pts_nil' : PTs' X lk [] [] := by
  refine PGs.imp pgs_nil fun v σ H Q h => ?_
  obtain ⟨ds, env, env', F, fp, r, e, ok, q⟩ := h
  cases ds with
  | nil =>
    simp only [asTs, Option.some.injEq] at e
    subst e
    simp only [RepL] at r
    exact ⟨r, q σ fp (Go.refl ok) fun _ _ => rfl⟩
  | cons d ds => simp only [asTs] at e; cases e
theorem pts_cons' (h1 : PT' X lk e t) (h2 : PTs' X lk es ts) (hs : (assignEach (e :: es) X.env).map (·.2) = assign e X.env :: (assignEach es X.env).map (·.2) := by rfl) : PTs' X lk (e :: es) (t :: ts) := by
  refine PGs.imp (pgs_cons h1 h2 hs) fun v σ H Q h => ?_
  obtain ⟨ds, env, env', F, fp, r, e, ok, q⟩ := h
  cases ds with
  | nil => simp only [asTs] at e; cases e
  | cons d ds =>
    simp only [asTs] at e
    split at e
    · rename_i e1 h1
      simp only [RepL] at r
      obtain ⟨w, vs, rfl, r1, r2⟩ := r
      refine ⟨w, vs, rfl, d, env, e1, F, fp, r1, h1, ok, fun σ1 fp1 g1 l1 => ?_⟩
      exact ⟨ds, e1, env', F, fp1, r2, e, g1.ok, fun σ2 fp2 g2 l2 => q σ2 fp2 (g1.trans g2 fun a z => by cases z) (l1.trans l2)⟩
    · cases e
theorem RepL.len {K : PySem.W.Frag} {F : Hp} : ∀ {ds : List D} {vs : List V}, RepL K F ds vs → ds.length = vs.length
  | [], vs, h => by
    simp only [RepL] at h
    rw [h]
    rfl
  | d :: ds, vs, h => by
    simp only [RepL] at h
    obtain ⟨v, r, rfl, _, q⟩ := h
    simp only [List.length_cons, RepL.len q]
theorem PG.or {e : Expr} {t u : TG} (h : PG X e t) (h' : PG X e u) : PG X e (fun v σ H Q => t v σ H Q ∨ u v σ H Q) := ⟨fun pins s σ H v w Q I r q => q.elim (h.run pins s σ H v w Q I r) (h'.run pins s σ H v w Q I r)⟩
theorem pt_tp {k : Nat} {n : Nat} (hc : X.calm = true) (h : PTs' X lk es ts) (hn : (assignEach es X.env).length = n := by rfl) (hl : ts.length = n := by rfl) (hst : (assignEach es X.env).findIdx? (·.1) = none := by rfl) : PT' X lk (.Tuple es k pos) (.tp ts) := by
  refine PG.imp (PG.or (pg_tup hc h hn hst) (pg_unl hc h hn hst)) fun v σ H Q h => ?_
  obtain ⟨d, env, env', F, fp, r, e, ok, q⟩ := h
  cases d with
  | tup ds =>
    simp only [asT] at e
    split at e
    · rename_i hl'
      simp only [Rep] at r
      obtain ⟨a, vs, rfl, r1, r2⟩ := r
      exact .inl ⟨a, vs, rfl, SqT.of (ok.sub _ _ r1), by rw [← r2.len, ← hl', hl], ds, env, env', F, fp, r2, e, ok, q⟩
    · cases e
  | non => cases e
  | bl _ => cases e
  | int _ => cases e
  | str _ => cases e
  | lst ds =>
    simp only [asT] at e
    split at e
    · rename_i hl'
      simp only [Rep] at r
      obtain ⟨a, vs, rfl, r1, r2⟩ := r
      exact .inr ⟨a, vs, rfl, SqL.of (ok.sub _ _ r1), by rw [← r2.len, ← hl', hl], ds, env, env', F, fp, r2, e, ok, q⟩
    · cases e
  | ins _ _ => cases e
  | dic _ _ => cases e
  | any => cases e
  | exc _ _ _ => cases e
  | scr _ => cases e
/-- targets = e, frozen -/
def sUnp (lk : Nat → Bool) (t : Tg) (g : En → Option (M × En)) : En → Option Fl := fun env => match g env with
  | some (m, e1) => match stow 0 e1 m with
    | some (.fz d, e2) => match asT lk t d e2 with
      | some e3 => some (.nx e3)
      | none => none
    | _ => none
  | none => none
theorem pds_unp {tg : Expr} {g : En → Option (M × En)} (he : PX X e g) (ht : PT' X lk tg t) (hs : swapsWithSole [tg] e pos.line X.env = pure false := by rfl) (hw : swappedStores [tg] e X.env = pure none := by rfl)
    (h1 : (assignEach [tg] X.env).map (·.2) = [assign tg X.env] := by rfl) : PDS X lk (.Assign [tg] e pos) (sUnp lk t g) := by
  refine PS.imp (ps_asg he ht hs hw h1) fun D σ H h => ?_
  obtain ⟨env, r, F, fp, e, ok, q⟩ := h
  unfold sUnp at e
  split at e
  · rename_i m e1 h1
    split at e
    · rename_i d e2 h2
      split at e
      · rename_i e3 h3
        cases e
        refine ⟨env, m, e1, F, fp, h1, ok, fun v F1 H1 fp1 A g1 o n a b => ?_⟩
        obtain ⟨F2, fp2, A', g2, o2, n2, a2, b2⟩ := stow_go g1 o n a b h2
        simp only [Own] at o2
        exact ⟨d, e2, e3, F2, fp2, o2.2, h3, g2.ok, fun σ' fp' g3 l3 => q σ' F2 H1 fp' (g2.trans g3 fun a z => by cases z) l3⟩
      · cases e
    · cases e
  · cases e
end
end T2
end
section
set_option Elab.async false
set_option linter.all false
set_option maxRecDepth 100000
namespace T2
open PySem PySem.Spec PyProof.Rows L2
structure ItOk (K : PySem.W.Frag) (J : It) (F0 G0 : Hp) (ds : List D) : Prop where
  go : ∀ i F H d, Same F0 F → Same G0 H → Same F H → ds[i]? = some d → J.go i H ∧ ∀ x H', J.yld i H x H' → ∃ F', Step [] F H F' H' ∧ Rep K F' d x
  stop : ∀ i F H, Same F0 F → Same G0 H → Same F H → ds.length ≤ i → J.stop i H
section
variable (K : PySem.W.Frag)
def tI (it : En → Option (List D × En)) : TI := fun σ H R => ∃ env ds env' F fp, it env = some (ds, env') ∧ EnvOk K F H σ env fp ∧ ∀ J F' H' fp', Go K [] σ env fp F H σ env' fp' F' H' → ItOk K J F' F' ds → R J H'
def tIp (it : En → Option (List D)) : TI := fun σ H R => ∃ env ds F fp, it env = some ds ∧ EnvOk K F H σ env fp ∧ ∀ J F' H', Step [] F H F' H' → ItOk K J F' H' ds → R J H'
end
def PDI (X : Cx) (tg e : Expr) (it : En → Option (List D × En)) : Prop := PI X tg e (tI X.K it)
def PDP (X : Cx) (tg e : Expr) (it : En → Option (List D)) : Prop := PI X tg e (tIp X.K it)
theorem PI.imp {X : Cx} {tg e : Expr} {t u : TI} (h : PI X tg e t) (i : ∀ σ H R, u σ H R → t σ H R) : PI X tg e u := ⟨fun pins s σ H R I q => h.run pins s σ H R I (i _ _ _ q)⟩
/-- what is walked stands by itself -/
def tIr (K : PySem.W.Frag) (it : En → Option (List D)) : TI := fun σ H R => ∃ env ds F fp, it env = some ds ∧ EnvOk K F H σ env fp ∧ ∀ J F' H', Step [] F H F' H' → (∀ G, ItOk K J F' G ds) → R J H'
def PDR (X : Cx) (tg e : Expr) (it : En → Option (List D)) : Prop := PI X tg e (tIr X.K it)
def lifI (it : En → Option (List D)) : En → Option (List D × En) := fun env => match it env with
  | some ds => some (ds, env)
  | none => none
theorem pdi_of {X : Cx} {tg e : Expr} {it : En → Option (List D)} (h : PDR X tg e it) : PDI X tg e (lifI it) := PI.imp h fun σ H R h => by
  obtain ⟨env, ds, env', F, fp, e, ok, q⟩ := h
  unfold lifI at e
  split at e
  · rename_i ds' hd
    cases e
    exact ⟨env, ds, F, fp, hd, ok, fun J F' H' s j => q J F' H' fp (s.go ok fun a z => by cases z) (j F')⟩
  · cases e
theorem pdp_of {X : Cx} {tg e : Expr} {it : En → Option (List D)} (h : PDR X tg e it) : PDP X tg e it := PI.imp h fun σ H R h => by
  obtain ⟨env, ds, F, fp, e, ok, q⟩ := h
  exact ⟨env, ds, F, fp, e, ok, fun J F' H' s j => q J F' H' s (j H')⟩
section
variable {K : PySem.W.Frag} {F H F' H' : Hp}
theorem RepL.get : ∀ {ds : List D} {vs : List V} {i : Nat} {d : D}, RepL K F ds vs → ds[i]? = some d → ∃ v, vs[i]? = some v ∧ Rep K F d v
  | [], vs, i, d, h, e => by cases e
  | d' :: ds, vs, 0, d, h, e => by
    simp only [RepL] at h
    obtain ⟨v, r, rfl, h1, h2⟩ := h
    cases e
    exact ⟨v, rfl, h1⟩
  | d' :: ds, vs, i + 1, d, h, e => by
    simp only [RepL] at h
    obtain ⟨v, r, rfl, h1, h2⟩ := h
    exact RepL.get (ds := ds) (vs := r) (i := i) h2 (by simpa using e)
theorem seqT {H H' : Hp} {a : Addr} {xs : List V} (e : Same H H') (h : SqT K H a xs) : SqT K H' a xs := by
  rcases h with (h | ⟨o, h⟩) | h
  · exact .inl (.inl (e _ _ h))
  · exact .inl (.inr ⟨o, e _ _ h⟩)
  · exact .inr h
theorem it_list {G : Hp} {a : Addr} {vs : List V} {ds : List D} (h : SqL K G a vs) (r : RepL K F ds vs) : ItOk K (Itl K a) F G ds := by
  refine ⟨fun i F1 H1 d s1 sg s2 hd => ?_, fun i F1 H1 s1 sg s2 hl => ⟨vs, sg.seq h, by rw [← r.len]; exact hl⟩⟩
  have q : SqL K H1 a vs := sg.seq h
  obtain ⟨v, hv, rv⟩ := r.get hd
  refine ⟨⟨vs, v, q, hv⟩, fun x H2 ⟨e1, e2⟩ => ?_⟩
  subst e1
  have e3 := e2 vs q
  rw [hv] at e3
  cases e3
  exact ⟨F1, .refl s2, Rep.mono s1 _ _ rv⟩
theorem it_tup {G : Hp} {a : Addr} {vs : List V} {ds : List D} (h : SqT K G a vs) (r : RepL K F ds vs) : ItOk K (Itt K a) F G ds := by
  refine ⟨fun i F1 H1 d s1 sg s2 hd => ?_, fun i F1 H1 s1 sg s2 hl => ⟨vs, seqT sg h, by rw [← r.len]; exact hl⟩⟩
  have q : SqT K H1 a vs := seqT sg h
  obtain ⟨v, hv, rv⟩ := r.get hd
  refine ⟨⟨vs, v, q, hv⟩, fun x H2 ⟨e1, e2⟩ => ?_⟩
  subst e1
  have e3 := e2 vs q
  rw [hv] at e3
  cases e3
  exact ⟨F1, .refl s2, Rep.mono s1 _ _ rv⟩
theorem repL_ints : ∀ ns : List Int, RepL K F (ns.map .int) (ns.map V.int)
  | [] => by simp only [List.map_nil, RepL]
  | n :: ns => by
    simp only [List.map_cons, RepL]
    exact ⟨_, _, rfl, by simp only [Rep], repL_ints ns⟩
def rngD (lo : Int) (n : Nat) : List D := (List.range n).map fun i => .int (lo + (i : Nat))
theorem it_rng {G : Hp} {lo : Int} {n : Nat} : ItOk K (Itr lo n) F G (rngD lo n) := by
  refine ⟨fun i F1 H1 d s1 sg s2 hd => ?_, fun i F1 H1 s1 sg s2 hl => ?_⟩
  · unfold rngD at hd
    rw [List.getElem?_map] at hd
    obtain ⟨j, hj, rfl⟩ := Option.map_eq_some_iff.mp hd
    obtain ⟨hlt, e⟩ := List.getElem?_eq_some_iff.mp hj
    rw [List.getElem_range] at e
    subst e
    rw [List.length_range] at hlt
    refine ⟨hlt, fun x H2 ⟨e1, e2⟩ => ?_⟩
    subst e1 e2
    exact ⟨F1, .refl s2, by simp only [Rep]⟩
  · unfold rngD at hl
    rw [List.length_map, List.length_range] at hl
    exact hl
end
/-- the items of data -/
def itemsD : D → Option (List D)
  | .lst ds => some ds
  | .tup ds => some ds
  | .scr ns => some (ns.map .int)
  | _ => none
def isLst : D → Bool
  | .lst _ => true
  | .scr _ => true
  | _ => false
/-- what is walked, behind an expression: it freezes -/
def itX (b : Bool) (g : En → Option (M × En)) : En → Option (List D × En) := fun env => match g env with
  | some (m, e1) => match stow 0 e1 m with
    | some (.fz d, e2) => if isLst d = b then (match itemsD d with
      | some ds => some (ds, e2)
      | none => none) else none
    | _ => none
  | none => none
/-- the same, where nothing of the slots freezes -/
def items (env : En) (m : M) : Option D := match slots m with
  | [] => dat0 m
  | _ => match elems env m with
    | some (true, ms) => (allFz ms).map .lst
    | some (false, ms) => (allFz ms).map .tup
    | none => none
def itP (b : Bool) (f : En → Option M) : En → Option (List D) := fun env => match f env with
  | some m => match items env m with
    | some d => if isLst d = b then itemsD d else none
    | none => none
  | none => none
section
variable {X : Cx} {e tg : Expr} {g : En → Option (M × En)} {f : En → Option M}
theorem pdi_lst (h : PX X e g) : PDI X tg e (itX true g) := PI.imp (pi_list h) fun σ H R h => by
  obtain ⟨env, ds, env', F, fp, e, ok, q⟩ := h
  unfold itX at e
  split at e
  · rename_i m e1 h1
    split at e
    · rename_i d e2 h2
      split at e
      · rename_i hb
        split at e
        · rename_i ds' hd
          cases e
          refine ⟨env, m, e1, F, fp, h1, ok, fun v F1 H1 fp1 A g1 o n a b => ?_⟩
          obtain ⟨F2, fp2, A', g2, o2, n2, a2, b2⟩ := stow_go g1 o n a b h2
          simp only [Own] at o2
          cases d with
          | lst xs =>
            cases hd
            have o3 := o2.2
            simp only [Rep] at o3
            obtain ⟨p, vs, rfl, r1, r2⟩ := o3
            exact ⟨p, rfl, ⟨vs, SqL.of (g2.ok.sub _ _ r1)⟩, q _ F2 H1 fp2 g2 (it_list (SqL.of r1) r2)⟩
          | scr ns =>
            cases hd
            have o3 := o2.2
            simp only [Rep] at o3
            obtain ⟨p, rfl, r1⟩ := o3
            exact ⟨p, rfl, ⟨_, g2.ok.sub.seq r1⟩, q _ F2 H1 fp2 g2 (it_list r1 (repL_ints ns))⟩
          | non => cases hb
          | bl _ => cases hb
          | int _ => cases hb
          | str _ => cases hb
          | ins _ _ => cases hb
          | dic _ _ => cases hb
          | any => cases hb
          | exc _ _ _ => cases hb
          | tup _ => cases hb
        · cases e
      · cases e
    · cases e
  · cases e
/-- the data of a result whose slots stay -/
theorem items_ok {K : PySem.W.Frag} {F H : Hp} {σ : L2.St} {env : En} {fp : Nat → List Addr} {A : List Addr} {m : M} {v : V} {d : D} {ds : List D} (ok : EnvOk K F H σ env fp) (h : Own K (plc H σ env) F H m v A) (hA : ∀ a ∈ A, ¬ Ond env fp a) (e : items env m = some d) (hd : itemsD d = some ds) :
    ∃ F', Step A F H F' H ∧ ∃ p vs, v = .ref p ∧ RepL K F' ds vs ∧ (isLst d = true → SqL K H p vs) ∧ (isLst d = false → SqT K H p vs) := by
  unfold items at e
  split at e
  · rename_i hs
    have st : Step A F H (frz F H A) H := .mk' (same_frz ok.sub) (.refl _) (frz_same ok.sub) fun a z => by
      unfold frz at z
      split at z
      · rename_i ha
        exact .inr (.inr ha)
      · exact .inl z
    have e' : datW (fun _ _ => none) m = some d := e
    have r : Rep K (frz F H A) d v := datW_ok (same_frz ok.sub) (fun _ _ _ _ _ z => by cases z) m v A d h e' fun a ha o q => by
      unfold frz
      rw [if_pos ha]
      exact q
    refine ⟨frz F H A, st, ?_⟩
    cases d with
    | lst xs =>
      cases hd
      simp only [Rep] at r
      obtain ⟨p, vs, rfl, r1, r2⟩ := r
      exact ⟨p, vs, rfl, r2, fun _ => SqL.of (frz_same ok.sub _ _ r1), fun z => nomatch z⟩
    | tup xs =>
      cases hd
      simp only [Rep] at r
      obtain ⟨p, vs, rfl, r1, r2⟩ := r
      exact ⟨p, vs, rfl, r2, (fun z => nomatch z), fun _ => SqT.of (frz_same ok.sub _ _ r1)⟩
    | scr ns =>
      cases hd
      simp only [Rep] at r
      obtain ⟨p, rfl, r1⟩ := r
      exact ⟨p, _, rfl, repL_ints ns, fun _ => (frz_same ok.sub).seq r1, fun z => nomatch z⟩
    | non => cases hd
    | bl _ => cases hd
    | int _ => cases hd
    | str _ => cases hd
    | ins _ _ => cases hd
    | dic _ _ => cases hd
    | any => cases hd
    | exc _ _ _ => cases hd
  · have st : Step A F H F H := .mk' (.refl _) (.refl _) ok.sub fun a z => .inl z
    split at e
    · rename_i ms hm
      obtain ⟨xs, hx, rfl⟩ := Option.map_eq_some_iff.mp e
      cases hd
      obtain ⟨p, vs, B, rfl, q1, _, o, _⟩ := elems_ok ok h hm
      obtain ⟨r, _⟩ := allFz_ok o hx
      exact ⟨F, st, p, vs, rfl, r, fun _ => SqL.of (q1 rfl), fun z => nomatch z⟩
    · rename_i ms hm
      obtain ⟨xs, hx, rfl⟩ := Option.map_eq_some_iff.mp e
      cases hd
      obtain ⟨p, vs, B, rfl, _, q1, o, _⟩ := elems_ok ok h hm
      obtain ⟨r, _⟩ := allFz_ok o hx
      exact ⟨F, st, p, vs, rfl, r, (fun z => nomatch z), fun _ => SqT.of (q1 rfl)⟩
    · cases e
theorem itP_ok {K : PySem.W.Frag} {σ : L2.St} {H : Hp} {R : It → Hp → Prop} {b : Bool} (h : tIp K (itP b f) σ H R) : tD K f σ H fun x H1 => ∃ p, x = .ref p ∧ (b = true → (∃ xs, SqL K H1 p xs) ∧ R (Itl K p) H1) ∧ (b = false → (∃ xs, SqT K H1 p xs) ∧ R (Itt K p) H1) := by
  obtain ⟨env, ds, F, fp, e, ok, q⟩ := h
  unfold itP at e
  split at e
  · rename_i m h1
    split at e
    · rename_i d h2
      split at e
      · rename_i hb
        refine ⟨env, m, F, fp, h1, ok, fun v F1 H1 A s o n a => ?_⟩
        have no : ∀ c ∈ A, ¬ Ond env fp c := fun c hc z => by
          obtain ⟨_, o', z'⟩ := ok.at z
          rw [a c hc] at z'
          cases z'
        obtain ⟨F2, s2, p, vs, rfl, r, r1, r2⟩ := items_ok (ok.step s fun a z => by cases z) o no h2 e
        refine ⟨p, rfl, fun z => ?_, fun z => ?_⟩
        · exact ⟨⟨vs, r1 (hb.trans z)⟩, q _ F2 H1 (s.trans s2 a) (it_list (r1 (hb.trans z)) r)⟩
        · exact ⟨⟨vs, r2 (hb.trans z)⟩, q _ F2 H1 (s.trans s2 a) (it_tup (r2 (hb.trans z)) r)⟩
      · cases e
    · cases e
  · cases e
theorem pdp_lst (h : PD X e f) : PDP X tg e (itP true f) := PI.imp (pi_list h) fun σ H R h => (itP_ok h).mono fun x H1 ⟨p, e, q, _⟩ => ⟨p, e, (q rfl).1, (q rfl).2⟩
/-- range -/
def inR (i : Int) : Bool := decide (-(2 ^ 62) ≤ i ∧ i < 2 ^ 62)
def itR1 (fs : En → Option (List M)) : En → Option (List D) := fun env => match fs env with
  | some [.fz (.int j)] => if inR j then some (rngD 0 j.toNat) else none
  | _ => none
def itR2 (fs : En → Option (List M)) : En → Option (List D) := fun env => match fs env with
  | some [.fz (.int i), .fz (.int j)] => if inR i && inR j then some (rngD i (j - i).toNat) else none
  | _ => none
theorem pdr_range1 {a : Expr} {fs : En → Option (List M)} {p pos : Pos} (hg : Gl X "range") (hm : X.mg "range" = none) (ha : PDA X [a] fs) (hs : starEach [a] X.env = [(false, eval a X.env)] := by rfl) : PDR X tg (.Call (.Name "range" p) [a] [] pos) (itR1 fs) :=
  PI.imp (pi_range1 hg hm ha hs) fun σ H R h => by
    obtain ⟨env, ds, F, fp, e, ok, q⟩ := h
    unfold itR1 at e
    split at e
    · rename_i j hj
      split at e
      · rename_i hr
        cases e
        refine ⟨env, [.fz (.int j)], F, fp, hj, ok, fun vs F1 H1 A s o n a => ?_⟩
        obtain ⟨v, rfl, o1⟩ := ownL1 o
        simp only [Own, Rep] at o1
        unfold inR at hr
        have hr := of_decide_eq_true hr
        exact ⟨j, by rw [o1.2], hr.1, hr.2, q _ F1 H1 s fun G => it_rng⟩
      · cases e
    · cases e
end
def lpF (lk : Nat → Bool) (t : Tg) (body : En → Option Fl) : List D → En → Option Fl
  | [], env => some (.nx env)
  | d :: ds, env => match asT lk t d env with
    | some e1 => match body e1 with
      | some (.nx e2) => lpF lk t body ds e2
      | some (.ct e2) => lpF lk t body ds e2
      | some (.bk e2) => some (.nx e2)
      | some (.rt m e2) => some (.rt m e2)
      | none => none
    | none => none
def sFor (lk : Nat → Bool) (t : Tg) (it : En → Option (List D × En)) (body : En → Option Fl) : En → Option Fl := fun env => match it env with
  | some (ds, e1) => lpF lk t body ds e1
  | none => none
section
variable {X : Cx} {lk : Nat → Bool} {iter tg : Expr} {body : List Stmt} {t : Tg} {it : En → Option (List D × En)} {f : En → Option Fl} {pos : Pos}
theorem pds_for (hp : PassesOwn (model X.prog X.w) X.A X.env X.xe) (hc : X.calm = true) (hi : PDI X tg iter it) (hg : PT' X lk tg t) (hb : PDSs X lk body f)
    (hs : ∀ x, foldedSetIterable iter X.env x = pure x := by intro _; rfl) : PDS X lk (.For tg iter body [] pos) (sFor lk t it f) := by
  refine PS.imp (ps_for hp hc hi hg hb hs) fun D σ H h => ?_
  obtain ⟨env, r, F, fp, e, ok, q⟩ := h
  unfold sFor at e
  split at e
  · rename_i ds e1 h1
    refine ⟨env, ds, e1, F, fp, h1, ok, fun J F1 H1 fp1 g1 ji => ?_⟩
    refine ⟨fun i m σ' H' => m = ds.length - i ∧ i ≤ ds.length ∧ ∃ env' F' fp', lpF lk t f (ds.drop i) env' = some r ∧ Go X.K [] σ env fp F H σ' env' fp' F' H' ∧ Lk lk σ σ' ∧ Same F1 F',
      ⟨_, rfl, Nat.zero_le _, e1, F1, fp1, by rw [List.drop_zero]; exact e, g1, fun _ _ => rfl, .refl _⟩, fun i m σ' H' hW => ?_⟩
    obtain ⟨rfl, hi, env', F', fp', hl, g, l, s⟩ := hW
    by_cases hlt : i < ds.length
    · right
      obtain ⟨d, hd⟩ : ∃ d, ds[i]? = some d := ⟨_, List.getElem?_eq_getElem hlt⟩
      have hdrop : ds.drop i = d :: ds.drop (i + 1) := by
        rw [List.drop_eq_getElem_cons hlt]
        rw [List.getElem?_eq_getElem hlt] at hd
        cases hd
        rfl
      rw [hdrop] at hl
      simp only [lpF] at hl
      obtain ⟨j1, j2⟩ := ji.go i F' H' d s (s.trans g.ok.sub) g.ok.sub hd
      refine ⟨j1, fun σ2 H2 => ∃ env2 F2 fp2, lpF lk t f (ds.drop (i + 1)) env2 = some r ∧ Go X.K [] σ env fp F H σ2 env2 fp2 F2 H2 ∧ Lk lk σ σ2 ∧ Same F1 F2,
        fun σ2 H2 ⟨env2, F2, fp2, a, b, c, d'⟩ => ⟨ds.length - (i + 1), by omega, rfl, hlt, env2, F2, fp2, a, b, c, d'⟩, fun x H2 hy => ?_⟩
      obtain ⟨F2, s2, rx⟩ := j2 x H2 hy
      split at hl
      · rename_i e3 h3
        have g2 := g.trans (s2.go g.ok fun a z => by cases z) (fun a z => by cases z)
        refine ⟨d, env', e3, F2, fp', rx, h3, g2.ok, fun σ3 fp3 g3 l3 => ?_⟩
        have g4 := g2.trans g3 (fun a z => by cases z)
        split at hl
        · rename_i e4 h4
          exact ⟨e3, _, F2, fp3, h4, g4.ok, fun σ5 F5 H5 fp5 g5 l5 => ⟨e4, F5, fp5, hl, g4.trans g5 (fun a z => by cases z), (l.trans l3).trans l5, (s.trans s2.fr).trans g5.fr⟩⟩
        · rename_i e4 h4
          exact ⟨e3, _, F2, fp3, h4, g4.ok, fun σ5 F5 H5 fp5 g5 l5 => ⟨e4, F5, fp5, hl, g4.trans g5 (fun a z => by cases z), (l.trans l3).trans l5, (s.trans s2.fr).trans g5.fr⟩⟩
        · rename_i e4 h4
          cases hl
          exact ⟨e3, _, F2, fp3, h4, g4.ok, fun σ5 F5 H5 fp5 g5 l5 => q σ5 F5 H5 fp5 (g4.trans g5 fun a z => by cases z) ((l.trans l3).trans l5)⟩
        · rename_i m4 e4 h4
          cases hl
          exact ⟨e3, _, F2, fp3, h4, g4.ok, q.after g4 (l.trans l3)⟩
        · cases hl
      · cases hl
    · left
      have hi' : i = ds.length := by omega
      subst hi'
      rw [List.drop_length] at hl
      cases hl
      exact ⟨ji.stop _ F' H' s (s.trans g.ok.sub) g.ok.sub (Nat.le_refl _), q σ' F' H' fp' g l⟩
  · cases e
/-- while -/
def lpW (c : En → Option (Bool × En)) (body : En → Option Fl) : Nat → En → Option Fl
  | 0, _ => none
  | n + 1, env => match c env with
    | some (true, e1) => match body e1 with
      | some (.nx e2) => lpW c body n e2
      | some (.ct e2) => lpW c body n e2
      | some (.bk e2) => some (.nx e2)
      | some (.rt m e2) => some (.rt m e2)
      | none => none
    | some (false, e1) => some (.nx e1)
    | none => none
def sWh (n : Nat) (c : En → Option (Bool × En)) (body : En → Option Fl) : En → Option Fl := fun env => lpW c body n env
end
end T2
end
section
set_option Elab.async false
set_option linter.all false
set_option maxRecDepth 100000
namespace T2
open PySem PySem.Spec PyProof.Rows L2
def En.wipe (env : En) : List Nat → En
  | [] => env
  | v :: vs => (env.wipe vs).kill v
def lkOf (vs : List Nat) : Nat → Bool := fun j => !vs.contains j
def lcL (vs : List Nat) (t : Tg) (cond : En → Option Bool) (elt : En → Option M) (env : En) : List D → Option (List M)
  | [] => some []
  | d :: ds => match asT (lkOf vs) t d (env.wipe vs) with
    | some e1 => match cond e1 with
      | some true => match elt e1 with
        | some m => if (slots m).isEmpty then (match lcL vs t cond elt env ds with
          | some ms => some (m :: ms)
          | none => none) else none
        | none => none
      | some false => lcL vs t cond elt env ds
      | none => none
    | none => none
def lcF (vs : List Nat) (t : Tg) (it : En → Option (List D)) (cond : En → Option Bool) (elt : En → Option M) : En → Option M := fun env => match it env with
  | some ds => match lcL vs t cond elt env ds with
    | some ms => if ms.length ≤ sizeLine then some (.ol ms) else none
    | none => none
  | none => none
section
variable {K : PySem.W.Frag} {F H F' H' : Hp} {σ σ' : L2.St} {env env' : En} {fp fp' : Nat → List Addr} {A : List Addr}
theorem En.get_wipe {vs : List Nat} {i : Nat} {m : M} (h : (env.wipe vs).get i = some m) : env.get i = some m ∧ i ∉ vs := by
  induction vs with
  | nil => exact ⟨h, by simp⟩
  | cons v vs ih =>
    simp only [En.wipe] at h
    rw [En.get_kill] at h
    split at h
    · cases h
    · rename_i hne
      obtain ⟨h1, h2⟩ := ih h
      exact ⟨h1, by simp only [List.mem_cons, not_or]; exact ⟨hne, h2⟩⟩
theorem En.wipe_length {vs : List Nat} : (env.wipe vs).length = env.length := by
  induction vs with
  | nil => rfl
  | cons v vs ih => simp only [En.wipe, En.kill, List.length_set]; exact ih
theorem wipe_get {vs : List Nat} {i : Nat} (h : i ∉ vs) : (L2.wipe σ vs)[i]? = σ[i]? := by
  induction vs with
  | nil => rfl
  | cons v vs ih =>
    simp only [L2.wipe]
    simp only [List.mem_cons, not_or] at h
    rw [List.getElem?_set_ne (Ne.symm h.1)]
    exact ih h.2
theorem wipe_in {vs : List Nat} {i : Nat} (h : i ∈ vs) (hl : i < σ.length) : (L2.wipe σ vs)[i]? = some none := by
  induction vs with
  | nil => cases h
  | cons v vs ih =>
    simp only [L2.wipe]
    by_cases e : v = i
    · subst e
      rw [List.getElem?_set_self (by rw [L2.wipe_length]; exact hl)]
    · rw [List.getElem?_set_ne e]
      rcases List.mem_cons.mp h with z | z
      · exact absurd z.symm e
      · exact ih z
theorem EnvOk.wipe (ok : EnvOk K F H σ env fp) (vs : List Nat) : EnvOk K F H (L2.wipe σ vs) (env.wipe vs) fp := by
  refine ⟨by rw [En.wipe_length, L2.wipe_length]; exact ok.len, ok.sub, fun i m h => ?_, fun i m h => ok.nd i m (En.get_wipe h).1, fun i j m n a h h' => ok.dj i j m n a (En.get_wipe h).1 (En.get_wipe h').1⟩
  obtain ⟨h1, h2⟩ := En.get_wipe h
  obtain ⟨v, e1, e2⟩ := ok.slot i m h1
  exact ⟨v, by rw [wipe_get h2]; exact e1, e2⟩
/-- own slots alone were changed -/
theorem wipe_same {vs : List Nat} (l : Lk (lkOf vs) (L2.wipe σ vs) σ') (hl : σ'.length = σ.length) : L2.wipe σ' vs = L2.wipe σ vs := by
  refine List.ext_getElem? fun i => ?_
  by_cases h : i ∈ vs
  · by_cases hi : i < σ.length
    · rw [wipe_in h hi, wipe_in h (by rw [hl]; exact hi)]
    · rw [List.getElem?_eq_none (by rw [L2.wipe_length]; omega), List.getElem?_eq_none (by rw [L2.wipe_length]; omega)]
  · rw [wipe_get h, l i (by unfold lkOf; simp [h])]
mutual
theorem clean {br br' : Nat → List Pa → V → Prop} : ∀ (m : M) (v : V) (A : List Addr), slots m = [] → Own K br F H m v A → Own K br' F H m v A
  | .fz d, v, A, e, h => by simpa only [Own] using h
  | .bp i p, v, A, e, h => by simp only [slots] at e; cases e
  | .ol ms, v, A, e, h => by
    simp only [Own] at h ⊢
    simp only [slots] at e
    obtain ⟨p, vs, B, e1, rfl, f, q, r⟩ := h
    exact ⟨p, vs, B, e1, rfl, f, q, cleanL ms vs B e r⟩
  | .ot ms, v, A, e, h => by
    simp only [Own] at h ⊢
    simp only [slots] at e
    obtain ⟨p, vs, B, e1, rfl, f, q, r⟩ := h
    exact ⟨p, vs, B, e1, rfl, f, q, cleanL ms vs B e r⟩
  | .oi C fs, v, A, e, h => by
    simp only [Own] at h ⊢
    simp only [slots] at e
    obtain ⟨p, dx, gs, B, e1, rfl, f, f2, q, q2, r⟩ := h
    exact ⟨p, dx, gs, B, e1, rfl, f, f2, q, q2, cleanF fs gs B e r⟩
  | .od lk kvs, v, A, e, h => by
    simp only [Own] at h ⊢
    exact h
  | .odt kvs, v, A, e, h => by
    simp only [Own] at h ⊢
    exact h
theorem cleanL {br br' : Nat → List Pa → V → Prop} : ∀ (ms : List M) (vs : List V) (A : List Addr), slotsL ms = [] → OwnL K br F H ms vs A → OwnL K br' F H ms vs A
  | [], vs, A, e, h => by simpa only [OwnL] using h
  | m :: ms, vs, A, e, h => by
    simp only [OwnL] at h ⊢
    simp only [slotsL, List.append_eq_nil_iff] at e
    obtain ⟨v, r, B, C, e1, rfl, q, q2⟩ := h
    exact ⟨v, r, B, C, e1, rfl, clean m v B e.1 q, cleanL ms r C e.2 q2⟩
theorem cleanF {br br' : Nat → List Pa → V → Prop} : ∀ (ms : List (Str × M)) (vs : List (Str × V)) (A : List Addr), slotsF ms = [] → OwnF K br F H ms vs A → OwnF K br' F H ms vs A
  | [], vs, A, e, h => by simpa only [OwnF] using h
  | m :: ms, vs, A, e, h => by
    simp only [OwnF] at h ⊢
    simp only [slotsF, List.append_eq_nil_iff] at e
    obtain ⟨v, r, B, C, e1, rfl, q, q2⟩ := h
    exact ⟨v, r, B, C, e1, rfl, clean m.2 v B e.1 q, cleanF ms r C e.2 q2⟩
end
end
section
variable {X : Cx} {elt tg iter : Expr} {ifs : List Expr} {scope : Scope} {own : List (Str × Nat)} {pos : Pos} {it : En → Option (List D)} {t : Tg} {cond : En → Option Bool} {f : En → Option M}
def cYes : En → Option Bool := fun _ => some true
theorem pdt_yes : PTs X [] (tDT X.K cYes) := ⟨fun pins s σ H Q I h => by
  obtain ⟨env, b, F, fp, e, ok, q⟩ := h
  cases e
  exact (pts_nil (X := X)).run pins s σ H Q I (q F H (.refl ok.sub))⟩
theorem pdt_one {c : Expr} (h : PDT X c cond) : PTs X [c] (tDT X.K cond) := pts_one h
theorem tLc_ok {vs : List Nat} {σ : L2.St} {H : Hp} {Q : VK} (h : tD X.K (lcF vs t it cond f) σ H Q) : tLc (tIp X.K it) (tT X.K (lkOf vs) t) (tDT X.K cond) (tD X.K f) vs σ H Q := by
  obtain ⟨env, m, F, fp, e, ok, q⟩ := h
  unfold lcF at e
  split at e
  · rename_i ds hds
    split at e
    · rename_i ms hms
      split at e
      · rename_i hsz
        cases e
        refine ⟨env, ds, F, fp, hds, ok, fun J F1 H1 s1 ji => fun Da hD => ?_⟩
        have hDH : H Da = none := s1.stay _ hD
        have hDF : F1 Da = none := s1.sub.free hD
        have sD : Same H1 (upd H1 Da (.lst [])) := fun b o e => by rw [upd_ne (ne_of_none e hD)]; exact e
        refine ⟨fun i mm H2 => mm = ds.length - i ∧ i ≤ ds.length ∧ ∃ F2 ms1 ms2 ws A, ms = ms1 ++ ms2 ∧ lcL vs t cond f env (ds.drop i) = some ms2 ∧ H2 Da = some (.lst ws) ∧ F2 Da = none ∧ OwnL X.K noBr F2 H2 ms1 ws A ∧ (Da :: A).Nodup ∧ (∀ a ∈ A, H a = none) ∧
            Step [] F H F2 H2 ∧ Same F1 F2 ∧ Same H1 H2,
          ⟨_, rfl, Nat.zero_le _, F1, [], ms, [], [], rfl, by rw [List.drop_zero]; exact hms, upd_same, hDF, ownL_nil, by simp, (fun a z => by cases z), s1.trans (Step.mk' (A := []) (.refl _) sD (s1.sub.trans sD) fun a z => .inl z) (fun a z => by cases z), .refl _, sD⟩, fun i mm H2 hW => ?_⟩
        obtain ⟨rfl, hi, F2, ms1, ms2, ws, A, em, hl, hDa, hFa, hO, hn, hA, st, sF, sH⟩ := hW
        have okS : EnvOk X.K F2 H2 σ env fp := ok.step st fun a z => by cases z
        by_cases hlt : i < ds.length
        · right
          obtain ⟨d, hd⟩ : ∃ d, ds[i]? = some d := ⟨_, List.getElem?_eq_getElem hlt⟩
          have hdrop : ds.drop i = d :: ds.drop (i + 1) := by
            rw [List.drop_eq_getElem_cons hlt]
            rw [List.getElem?_eq_getElem hlt] at hd
            cases hd
            rfl
          rw [hdrop] at hl
          simp only [lcL] at hl
          obtain ⟨j1, j2⟩ := ji.go i F2 H2 d sF sH okS.sub hd
          refine ⟨j1, fun H5 => ∃ F2 ms1 ms2 ws A, ms = ms1 ++ ms2 ∧ lcL vs t cond f env (ds.drop (i + 1)) = some ms2 ∧ H5 Da = some (.lst ws) ∧ F2 Da = none ∧ OwnL X.K noBr F2 H5 ms1 ws A ∧ (Da :: A).Nodup ∧ (∀ a ∈ A, H a = none) ∧
            Step [] F H F2 H5 ∧ Same F1 F2 ∧ Same H1 H5, fun H5 z => ⟨ds.length - (i + 1), by omega, rfl, hlt, z⟩, fun x H3 hy => ?_⟩
          obtain ⟨F3, s3, rx⟩ := j2 x H3 hy
          split at hl
          · rename_i e1 h1
            refine ⟨d, env.wipe vs, e1, F3, fp, rx, h1, (okS.step s3 fun a z => by cases z).wipe vs, fun σ2 fp2 g2 l2 => ?_⟩
            have hlen : σ2.length = σ.length := by
              rw [← g2.ok.len]
              have : e1.length = (env.wipe vs).length := asT_len t d _ _ h1
              rw [this, En.wipe_length]
              exact ok.len
            refine ⟨wipe_same l2 hlen, ?_⟩
            -- a later state, the new list as it is
            have keep : ∀ {F4 H4 : Hp}, Step [] F3 H3 F4 H4 → Step [] F H F4 H4 ∧ Same F1 F4 ∧ Same H1 H4 ∧ H4 Da = some (.lst ws) ∧ F4 Da = none ∧ OwnL X.K noBr F4 H4 ms1 ws A := fun {F4 H4} s4 => by
              have s34 : Step [] F2 H2 F4 H4 := s3.trans s4 fun a z => by cases z
              refine ⟨st.trans s34 (fun a z => by cases z), sF.trans s34.fr, sH.trans s34.hp, s34.hp _ _ hDa, ?_, ?_⟩
              · cases z : F4 Da with
                | none => rfl
                | some o =>
                  rcases s34.nw Da (by rw [z]; simp) with w | w | w
                  · exact absurd hFa w
                  · rw [hDa] at w
                    cases w
                  · cases w
              · refine hO.mono s34.fr (fun _ _ _ z => z) _ _ _ fun a ha => ⟨?_, s34.hp a⟩
                obtain ⟨z1, o, z2⟩ := hO.at _ _ _ a ha
                cases z : F4 a with
                | none => rfl
                | some o =>
                  rcases s34.nw a (by rw [z]; simp) with w | w | w
                  · exact absurd z1 w
                  · rw [z2] at w
                    cases w
                  · cases w
            split at hl
            · rename_i hc
              refine ⟨e1, true, F3, fp2, hc, g2.ok, fun F4 H4 s4 => iteT ?_⟩
              split at hl
              · rename_i m1 hm1
                split at hl
                · rename_i hs1
                  split at hl
                  · rename_i ms' hms'
                    cases hl
                    refine ⟨e1, m1, F4, fp2, hm1, g2.ok.step s4 (fun a z => by cases z), fun y F5 H5 B s5 o5 n5 a5 => ?_⟩
                    obtain ⟨st5, sF5, sH5, hDa5, hFa5, hO5⟩ := keep (s4.trans s5 fun a z => by cases z)
                    have hlen1 : ms1.length = ws.length := hO5.len
                    refine ⟨ws, hDa5, ?_, ?_⟩
                    · rw [← hlen1]
                      rw [em, List.length_append, List.length_cons] at hsz
                      omega
                    · have hBn : ∀ b ∈ B, H4 b = none := a5
                      obtain ⟨st4, _, _, hDa4, _, hO4⟩ := keep s4
                      have nDB : Da ∉ B := fun z => by
                        have := hBn Da z
                        rw [hDa4] at this
                        cases this
                      have nAB : ∀ a ∈ A, a ∉ B := fun a ha z => by
                        obtain ⟨_, o, z2⟩ := hO4.at _ _ _ a ha
                        rw [hBn a z] at z2
                        cases z2
                      have hn' := List.nodup_cons.mp hn
                      have o5' := clean (br' := noBr) m1 y B (by simpa [List.isEmpty_iff] using hs1) o5
                      have up : ∀ c o, c ≠ Da → H5 c = some o → (upd H5 Da (.lst (ws ++ [y]))) c = some o := fun c o ne e => by rw [upd_ne ne]; exact e
                      refine ⟨F5, ms1 ++ [m1], ms', ws ++ [y], A ++ B, by rw [em, List.append_assoc]; rfl, hms', upd_same, hFa5, ?_, ?_, ?_, ?_, sF5, fun b o e => ?_⟩
                      · refine OwnL.append (hO5.mono (.refl _) (fun _ _ _ z => z) _ _ _ fun a ha => ⟨(hO5.at _ _ _ a ha).1, fun o e => up a o (fun z => hn'.1 (z ▸ ha)) e⟩) ?_
                        simp only [OwnL]
                        refine ⟨y, [], B, [], rfl, by rw [List.append_nil], o5'.mono (.refl _) (fun _ _ _ z => z) _ _ _ fun a ha => ⟨(o5'.at _ _ _ a ha).1, fun o e => up a o (fun z => nDB (z ▸ ha)) e⟩, rfl, rfl⟩
                      · refine List.nodup_cons.mpr ⟨fun z => ?_, List.nodup_append.mpr ⟨hn'.2, n5, fun a ha b hb e => nAB a ha (e ▸ hb)⟩⟩
                        rcases List.mem_append.mp z with z | z
                        · exact hn'.1 z
                        · exact nDB z
                      · intro a ha
                        rcases List.mem_append.mp ha with z | z
                        · exact hA a z
                        · exact st4.stay _ (hBn a z)
                      · refine .mk' st5.fr (fun b o e => ?_) (fun b o e => ?_) fun a z => st5.nw a z
                        · rw [upd_ne (ne_of_none e hDH)]
                          exact st5.hp _ _ e
                        · rw [upd_ne fun z => by rw [z, hFa5] at e; cases e]
                          exact st5.sub _ _ e
                      · rw [upd_ne (ne_of_none e hD)]
                        exact sH5 _ _ e
                  · cases hl
                · cases hl
              · cases hl
            · rename_i hc
              refine ⟨e1, false, F3, fp2, hc, g2.ok, fun F4 H4 s4 => iteF ?_⟩
              obtain ⟨st4, sF4, sH4, hDa4, hFa4, hO4⟩ := keep s4
              exact ⟨F4, ms1, ms2, ws, A, em, hl, hDa4, hFa4, hO4, hn, hA, st4, sF4, sH4⟩
            · cases hl
          · cases hl
        · left
          have hi' : i = ds.length := by omega
          subst hi'
          rw [List.drop_length] at hl
          cases hl
          rw [List.append_nil] at em
          subst em
          refine ⟨ji.stop _ F2 H2 sF sH okS.sub (Nat.le_refl _), q _ F2 H2 (Da :: A) st ?_ hn fun a ha => ?_⟩
          · simp only [Own]
            exact ⟨Da, ws, A, rfl, rfl, hFa, hDa, hO.mono (.refl _) (fun _ _ _ z => z.elim) _ _ _ fun a ha => ⟨(hO.at _ _ _ a ha).1, fun _ z => z⟩⟩
          · rcases List.mem_cons.mp ha with rfl | z
            · exact hDH
            · exact hA a z
      · cases e
    · cases e
  · cases e
theorem pd_lc (hc : X.calm = true) (hN : X.N.Nodup) (hi : PDP X tg iter it) (ok : BlkOk X.N X.env.scope scope own)
    (hg : ∀ (s : Shared) (H : Hp) (C : Addr) (cl : List (Str × Addr)) (fp : List Addr), PT' (X.blk s H scope (compEnvC scope cl C X.env) fp) (lkOf (own.map (·.2))) tg t)
    (ht : ∀ (s : Shared) (H : Hp) (C : Addr) (cl : List (Str × Addr)) (fp : List Addr), PTs (X.blk s H scope (compEnvC scope cl C X.env) fp) ifs (tDT X.K cond))
    (he : ∀ (s : Shared) (H : Hp) (C : Addr) (cl : List (Str × Addr)) (fp : List Addr), PD (X.blk s H scope (compEnvC scope cl C X.env) fp) elt f) (hs : ∀ x, foldedSetIterable iter X.env x = pure x := by intro _; rfl) :
    PD X (.ListComp elt [⟨tg, iter, ifs, 0⟩] scope pos) (lcF (own.map (·.2)) t it cond f) := PE.imp (pe_lc (g := tT X.K (lkOf (own.map fun p : Str × Nat => p.2)) t) (tt := tDT X.K cond) (te := tD X.K f) hc hN hi ok hg ht he hs) fun σ H Q q => tLc_ok q
/-- name = [..] -/
theorem pds_setLc {lk : Nat → Bool} {i k : Nat} {y : Str} {py spos : Pos} (hc : X.calm = true) (hN : X.N.Nodup) (hy : X.N[i]? = some y) (hyl : X.env.scope.names.lookup y = some .local)
    (hsw : swapsWith (.ListComp elt [⟨tg, iter, ifs, 0⟩] scope pos) (some (.Name y py)) spos.line X.env = pure true) (hi : PDP X tg iter it) (ok : BlkOk X.N X.env.scope scope own)
    (hg : ∀ (s : Shared) (H : Hp) (C : Addr) (cl : List (Str × Addr)) (fp : List Addr), PT' (X.blk s H scope (compEnvC scope cl C X.env) fp) (lkOf (own.map (·.2))) tg t)
    (ht : ∀ (s : Shared) (H : Hp) (C : Addr) (cl : List (Str × Addr)) (fp : List Addr), PTs (X.blk s H scope (compEnvC scope cl C X.env) fp) ifs (tDT X.K cond))
    (he : ∀ (s : Shared) (H : Hp) (C : Addr) (cl : List (Str × Addr)) (fp : List Addr), PD (X.blk s H scope (compEnvC scope cl C X.env) fp) elt f) (hs : ∀ x, foldedSetIterable iter X.env x = pure x := by intro _; rfl) :
    PDS X lk (.Assign [.Name y py] (.ListComp elt [⟨tg, iter, ifs, 0⟩] scope pos) spos) (sAsg lk i k (lif (lcF (own.map (·.2)) t it cond f))) :=
  pds_asg (PS.imp (ps_setLc (g := tT X.K (lkOf (own.map fun p : Str × Nat => p.2)) t) (tt := tDT X.K cond) (te := tD X.K f) hc hN hy hyl hsw hi ok hg ht he hs) fun D σ H q => tLc_ok q.of)
end
end T2
end
section
set_option Elab.async false
set_option linter.all false
set_option maxRecDepth 100000
namespace T2
open PySem PySem.Spec PyProof.Rows L2
/-- room for k calls; no display is under way -/
structure RoomG (k : Nat) (A : Around) : Prop where
  rm : Room k A
  gd : A.guards = some []
section
variable {j k : Nat} {A : Around}
theorem RoomG.mono (r : RoomG k A) (h : j ≤ k) : RoomG j A := ⟨r.rm.mono h, r.gd⟩
theorem RoomG.deeper (r : RoomG (k + 1) A) (v : Env) : RoomG k (A.deeper v) := ⟨r.rm.deeper v, r.gd⟩
theorem RoomG.units (r : RoomG k A) : A.units + 64 < cLine := r.rm.units
end
/-- FnOk, promised where nothing is being shown -/
structure FnG (P : Program) (w : World) (K : PySem.W.Frag) (mg : Str → Option Value) (base : Heap) (CX : CXT) (k : Nat) (fa : Addr) (d : FuncData) (ps : List Str) (sp : Sp) : Prop where
  lens : ∀ {zs H Q E}, sp zs H Q E → zs.length = ps.length
  runs : ∀ {A fs s H as us zs Q E}, RoomG k A → Env0 P w K mg base A fs s H → BindsTo s d as (ps.zip us) → Vals zs us → sp zs H Q E → codeAny (model P w) A (.call (.ref fa) as) (CR CX fs P w H s Q E) s
theorem FnG.mono {P : Program} {w : World} {K : PySem.W.Frag} {mg : Str → Option Value} {base : Heap} {CX : CXT} {j k : Nat} {fa : Addr} {d : FuncData} {ps : List Str} {sp : Sp} (F : FnG P w K mg base CX j fa d ps sp) (h : j ≤ k) : FnG P w K mg base CX k fa d ps sp :=
  ⟨F.lens, fun r => F.runs (r.mono h)⟩
theorem FnG.imp {P : Program} {w : World} {K : PySem.W.Frag} {mg : Str → Option Value} {base : Heap} {CX : CXT} {k : Nat} {fa : Addr} {d : FuncData} {ps : List Str} {sp sp' : Sp} (F : FnG P w K mg base CX k fa d ps sp) (i : ∀ zs H Q E, sp' zs H Q E → sp zs H Q E) : FnG P w K mg base CX k fa d ps sp' :=
  ⟨fun h => F.lens (i _ _ _ _ h), fun r e b v h => F.runs r e b v (i _ _ _ _ h)⟩
section
variable {X : Cx} {CX : CXT} {k : Nat} {fa C : Addr} {d : FuncData} {ps : List Str} {sp : Sp} {dvs : List V} {ds : List Value} {E : XK} {x m : Str} {p pos apos : Pos} {e o : Expr} {es : List Expr} {ta : TE} {t : TA}
/-- what a call's end leaves to its caller -/
theorem after_g {pins : List (Addr × Obj)} {σ : L2.St} {H : Hp} {s : Shared} {Q : VK} (hx : Passes CX X E) (I : Inv X pins σ H s) {r : Result} {s' : Shared} (h : CR CX X.stack X.prog X.w H s Q E r s') :
    match r with
    | .ok (.ret u) => EP X pins σ Q u s'
    | .ok _ => False
    | .error u => X.xe u s' := by
  rcases r with u | fl
  · exact hx pins σ H s u s' I h
  · rcases fl with _ | u | _ | _
    all_goals first
    | exact I.after h
    | exact h
theorem run_g {pins : List (Addr × Obj)} {σ : L2.St} {H : Hp} {s : Shared} {Q : VK} {us : List Value} {zs : List V} (F : FnG X.prog X.w X.K X.mg X.base CX k fa d ps sp) (hr : RoomG k X.A) (hb : Binds X.K d ps ds) (hd : Vals dvs ds) (hx : Passes CX X E)
    (I : Inv X pins σ H s) (r : Vals zs us) (h : sp (zs ++ dvs) H Q E) : wpAny (model X.prog X.w) X.A (call (.ref fa) us) (EP X pins σ Q) X.xe s := by
  have rr := r.append hd
  refine wpAny_call (codeAny_mono (F.runs hr I.env0 (hb s us I.kIn (rr.length.symm.trans (F.lens h))) rr h) fun r s' hq => ?_)
  have z := after_g hx I hq
  rcases r with u | fl
  · exact z
  · rcases fl with _ | u | _ | _
    all_goals exact z
theorem pe_callG (F : FnG X.prog X.w X.K X.mg X.base CX k fa d ps sp) (hr : RoomG k X.A) (hg : Gl X x) (hm : X.mg x = some (.ref fa)) (hk : PySem.W.keepIn X.K (.ref fa) = true) (hb : Binds X.K d ps ds) (hd : Vals dvs ds) (hx : Passes CX X E)
    (ha : PA X (e :: es) t) (h1 : (x == ("__debug__" : Str)) = false := by decide) (h2 : starEach (e :: es) X.env = (false, eval e X.env) :: starEach es X.env := by rfl) (h3 : (backTo pos (starEach es X.env)).any (·.1) = false := by rfl) :
    PE X (.Call (.Name x p) (e :: es) [] pos) (tCall sp dvs E t) :=
  ⟨fun pins s σ H Q I h => wpAny_Call_Name_kw (ld_glob I hg hm (PySem.W.callWith_K (h₀ := X.base) I.ok.mod.kin hk (thn (ha.run pos pins s σ H _ I h) fun us s1 ⟨zs, H1, I1, r, q⟩ => ⟨I1.kIn, run_g F hr hb hd hx I1 r q⟩) h2 h3) h1)⟩
end
/-- a def by its body -/
theorem fun_g {P : Program} {w : World} {K : PySem.W.Frag} {mg : Str → Option Value} {base : Heap} {CX : CXT} {x qual : Str} {st : Stmt} {fa : Addr} {d : FuncData} {N ps : List Str} {k : Nat} {sp : Sp} (F : Fun K x qual st fa d) (S : FnScope N ps (defScope st)) (len : ∀ zs H Q E, sp zs H Q E → zs.length = ps.length)
    (body : ∀ (cd : Value) (A : Around) (fs : List Env) (s : Shared) (H : Hp) (zs : List V) (Q : VK) (E : XK), RoomG k (A.deeper (envOfC qual (defScope st) s.heap.objs.size fa cd)) → sp zs H Q E → ∃ t, PSs (cxOf CX P w K mg base N qual (defScope st) fa cd A fs s H E) (defBody st) t ∧ t { nx := fun _ H' => Q .non H', rt := Q } (start N zs) H) :
    FnG P w K mg base CX (k + 1) fa d ps sp := by
  obtain ⟨oc, od, kV, doc, pm, an, cd, ct, osl, rfl, lk, hcd⟩ := F.ex
  constructor
  · intro zs H Q E h
    exact len _ _ _ _ h
  intro A fs s H as us zs Q E hr e0 hb r h
  have keepB := fun (b : Addr) (o : Obj) (e : base.get? b = some o) => (e0.bs b o e).1
  have KX : K.In s.heap := e0.mod.kin.keeps keepB
  have hn := len _ _ _ _ h
  apply codeAny_call_function hr.rm.depth (KX _ _ lk) rfl S.co S.gen rfl (PySem.W.codeRec_of KX hcd)
  apply hb
  apply wpAny_newFunctionEnv_cells S.kind
  · rintro ⟨nm, v⟩ hy
    rcases S.par nm (List.of_mem_zip hy).1 with q | q
    · exact .inl q
    · exact .inr ⟨q, PySem.W.cellsFrom_some _ _ _ (.inl q)⟩
  intro env he s1 y
  subst he
  refine ⟨(e0.mod.nolimit.keeps keepB).keeps y.toInCall.keep, codeAny_func ?_⟩
  obtain ⟨t, ht, hq⟩ := body cd A fs s H zs Q E (hr.deeper _) h
  refine wpAny_mono (ht.run [] s1 (start N zs) H _ (inv_start S hr.rm.hd e0 hn r y) hq) (fun fl s' hs => ?_) fun e s' hs => hs
  rcases fl with _ | u | _ | _
  all_goals first
  | (obtain ⟨v, σ', H', J, rv, q⟩ := hs; exact ⟨v, H', J.os, J.bare, J.base, J.hok, rv, q⟩)
  | (obtain ⟨σ', H', J, q⟩ := hs; exact ⟨V.non, H', J.os, J.bare, J.base, J.hok, rfl, q⟩)
  | (obtain ⟨_, _, _, q⟩ := hs; exact q.elim)
/-- what a def does with its arguments' trees: its result, and what the arguments are behind it -/
abbrev Fn := List M → Option (M × List M)
def SpI (K : PySem.W.Frag) (f : Fn) : Sp := fun vs H Q _ => ∃ ms m ms' F fp, f ms = some (m, ms') ∧ EnvOk K F H (vs.map some) (ms.map some) fp ∧
  ∀ v F' H' fp' B, Go K [] (vs.map some) (ms.map some) fp F H (vs.map some) (ms'.map some) fp' F' H' → Own K noBr F' H' m v B → B.Nodup → (∀ b ∈ B, H b = none ∨ Ond (ms.map some) fp b) → (∀ b ∈ B, ¬ Ond (ms'.map some) fp' b) → Q v H'
def isFz : M → Bool
  | .fz _ => true
  | _ => false
def okA (lk : Nat → Bool) : Nat → List M → Bool
  | _, [] => true
  | i, m :: ms => (lk i || isFz m) && okA lk (i + 1) ms
def outs (lk : Nat → Bool) (e : En) : Nat → List M → Option (List M)
  | _, [] => some []
  | i, m :: ms => match (if lk i then e.get i else some m), outs lk e (i + 1) ms with
    | some n, some ns => some (n :: ns)
    | _, _ => none
def runD (n p : Nat) (lk : Nat → Bool) (fS : En → Option Fl) : Fn := fun ms => if ms.length = p ∧ okA lk 0 ms = true then (match fS (ms.map some ++ List.replicate (n - p) none) with
  | some (.rt m e) => match outs lk e 0 ms with
    | some ns => some (m, ns)
    | none => none
  | some (.nx e) => match outs lk e 0 ms with
    | some ns => some (.fz .non, ns)
    | none => none
  | _ => none) else none
section
variable {K : PySem.W.Frag} {F H F' H' : Hp} {σ σ' : L2.St} {env env' : En} {fp fp' : Nat → List Addr} {A : List Addr}
theorem get_map {ms : List M} {i : Nat} : En.get (ms.map some) i = ms[i]? := by
  unfold En.get
  rw [List.getElem?_map]
  cases ms[i]? <;> rfl
theorem get_pad {ms : List M} {k i : Nat} : En.get (ms.map some ++ List.replicate k none) i = ms[i]? := by
  unfold En.get
  by_cases h : i < ms.length
  · rw [List.getElem?_append_left (by simpa using h), List.getElem?_map]
    cases ms[i]? <;> rfl
  · rw [List.getElem?_append_right (by simpa using h), List.getElem?_replicate, List.getElem?_eq_none (by omega)]
    split <;> rename_i h' <;> split at h' <;> first | cases h' | rfl
theorem ond_pad {ms : List M} {k : Nat} {a : Addr} : Ond (ms.map some ++ List.replicate k none) fp a ↔ Ond (ms.map some) fp a := by
  unfold Ond
  simp only [get_pad, get_map]
theorem EnvOk.pad {vs : List V} {ms : List M} {n : Nat} (ok : EnvOk K F H (vs.map some) (ms.map some) fp) : EnvOk K F H (vs.map some ++ List.replicate n none) (ms.map some ++ List.replicate n none) fp := by
  have hl : ms.length = vs.length := by simpa using ok.len
  refine ⟨by simp [hl], ok.sub, fun i m h => ?_, fun i m h => ok.nd i m (by rw [get_map]; rw [get_pad] at h; exact h), fun i j m m' a h h' => ok.dj i j m m' a (by rw [get_map]; rw [get_pad] at h; exact h) (by rw [get_map]; rw [get_pad] at h'; exact h')⟩
  rw [get_pad] at h
  obtain ⟨v, e1, e2⟩ := ok.slot i m (by rw [get_map]; exact h)
  refine ⟨v, ?_, e2⟩
  have hi : i < vs.length := by rw [← hl]; exact (List.getElem?_eq_some_iff.mp h).1
  rw [List.getElem?_append_left (by simpa using hi)]
  exact e1
theorem outs_get {lk : Nat → Bool} {e : En} : ∀ {ms ns : List M} {k i : Nat} {m : M}, outs lk e k ms = some ns → ns[i]? = some m → (lk (k + i) = true ∧ e.get (k + i) = some m) ∨ (lk (k + i) = false ∧ ms[i]? = some m)
  | [], ns, k, i, m, h, hm => by
    simp only [outs, Option.some.injEq] at h
    subst h
    cases hm
  | a :: ms, ns, k, i, m, h, hm => by
    simp only [outs] at h
    split at h
    · rename_i n ns' h1 h2
      cases h
      cases i with
      | zero =>
        cases hm
        by_cases hk : lk k = true
        · rw [if_pos hk] at h1
          exact .inl ⟨hk, h1⟩
        · rw [if_neg hk] at h1
          exact .inr ⟨by simpa using hk, h1⟩
      | succ i =>
        have := outs_get (i := i) h2 (by simpa using hm)
        rw [Nat.add_assoc, Nat.add_comm 1 i] at this
        exact this
    · cases h
theorem outs_len {lk : Nat → Bool} {e : En} : ∀ {ms ns : List M} {k : Nat}, outs lk e k ms = some ns → ns.length = ms.length
  | [], ns, k, h => by
    simp only [outs, Option.some.injEq] at h
    subst h
    rfl
  | a :: ms, ns, k, h => by
    simp only [outs] at h
    split at h
    · rename_i n ns' h1 h2
      cases h
      simp only [List.length_cons, outs_len h2]
    · cases h
theorem okA_get {lk : Nat → Bool} : ∀ {ms : List M} {k i : Nat} {m : M}, okA lk k ms = true → ms[i]? = some m → lk (k + i) = false → ∃ d, m = .fz d
  | [], k, i, m, h, hm, hl => by cases hm
  | a :: ms, k, i, m, h, hm, hl => by
    simp only [okA, Bool.and_eq_true, Bool.or_eq_true] at h
    cases i with
    | zero =>
      cases hm
      rcases h.1 with z | z
      · rw [show k + 0 = k from rfl] at hl
        rw [hl] at z
        cases z
      · cases a with
        | fz d => exact ⟨d, rfl⟩
        | bp _ _ => cases z
        | ol _ => cases z
        | ot _ => cases z
        | oi _ _ => cases z
        | od _ _ => cases z
        | odt _ => cases z
    | succ i => exact okA_get (k := k + 1) (i := i) h.2 (by simpa using hm) (by rw [Nat.add_assoc, Nat.add_comm 1 i]; exact hl)
/-- behind a def's body: the arguments -/
theorem outs_ok {lk : Nat → Bool} {vs : List V} {ms ns : List M} {n : Nat} (ok : EnvOk K F H (vs.map some) (ms.map some) fp) (ha : okA lk 0 ms = true) (ho : outs lk env' 0 ms = some ns)
    (g : Go K [] (vs.map some ++ List.replicate n none) (ms.map some ++ List.replicate n none) fp F H σ' env' fp' F' H') (l : Lk lk (vs.map some ++ List.replicate n none) σ') :
    Go K [] (vs.map some) (ms.map some) fp F H (vs.map some) (ns.map some) (fun i => if lk i then fp' i else []) F' H' ∧ ∀ b, Ond (ns.map some) (fun i => if lk i then fp' i else []) b → Ond env' fp' b := by
  have hl : ms.length = vs.length := by simpa using ok.len
  have on : ∀ b, Ond (ns.map some) (fun i => if lk i then fp' i else []) b → Ond env' fp' b := fun b ⟨i, m, hi, hb⟩ => by
    rw [get_map] at hi
    by_cases hk : lk i = true
    · simp only [if_pos hk] at hb
      rcases outs_get ho hi with ⟨_, z⟩ | ⟨z, _⟩
      · rw [Nat.zero_add] at z
        exact ⟨i, m, z, hb⟩
      · rw [Nat.zero_add, hk] at z
        cases z
    · simp only [if_neg hk] at hb
      cases hb
  refine ⟨⟨g.fr, fun a o e no _ => g.keep a o e (fun z => no (ond_pad.mp z)) (by simp), g.stay, fun a z => ?_, fun a z => ?_, ?_, g.lok⟩, on⟩
  · rcases g.nw a z with z | z | z | z
    · exact .inl z
    · exact .inr (.inl z)
    · exact .inr (.inr (.inl (ond_pad.mp z)))
    · cases z
  · rcases g.ond (on a z) with z | z
    · exact .inl z
    · exact .inr (.inl (ond_pad.mp z))
  · refine ⟨by rw [List.length_map, List.length_map, outs_len ho, hl], g.ok.sub, fun i m hi => ?_, fun i m hi => ?_, fun i j m m' a hi hj ha hb => ?_⟩
    · rw [get_map] at hi
      rcases outs_get ho hi with ⟨h1, h2⟩ | ⟨h1, h2⟩ <;> rw [Nat.zero_add] at h1
      · rw [Nat.zero_add] at h2
        obtain ⟨v, e1, e2⟩ := g.ok.slot i m h2
        have hi' : i < vs.length := by
          rw [← hl, ← outs_len ho]
          exact (List.getElem?_eq_some_iff.mp hi).1
        rw [l i h1, List.getElem?_append_left (by simpa using hi')] at e1
        exact ⟨v, e1, by simp only [if_pos h1]; exact e2⟩
      · obtain ⟨d, rfl⟩ := okA_get ha h2 (by rw [Nat.zero_add]; exact h1)
        obtain ⟨v, e1, e2⟩ := ok.slot i (.fz d) (by rw [get_map]; exact h2)
        simp only [Own] at e2
        refine ⟨v, e1, ?_⟩
        rw [if_neg (by rw [h1]; simp)]
        exact own_fz (Rep.mono g.fr _ _ e2.2)
    · rw [get_map] at hi
      rcases outs_get ho hi with ⟨h1, h2⟩ | ⟨h1, h2⟩ <;> rw [Nat.zero_add] at h1
      · rw [Nat.zero_add] at h2
        simp only [if_pos h1]
        exact g.ok.nd i m h2
      · rw [if_neg (by rw [h1]; simp)]
        exact .nil
    · rw [get_map] at hi hj
      rcases outs_get ho hi with ⟨h1, h2⟩ | ⟨h1, h2⟩ <;> rw [Nat.zero_add] at h1
      · rcases outs_get ho hj with ⟨h3, h4⟩ | ⟨h3, h4⟩ <;> rw [Nat.zero_add] at h3
        · rw [Nat.zero_add] at h2 h4
          simp only [if_pos h1] at ha
          simp only [if_pos h3] at hb
          exact g.ok.dj i j m m' a h2 h4 ha hb
        · rw [if_neg (by rw [h3]; simp)] at hb
          cases hb
      · rw [if_neg (by rw [h1]; simp)] at ha
        cases ha
end
/-- a def keeps its promise, by its body -/
theorem def_ok {P : Program} {w : World} {K : PySem.W.Frag} {mg : Str → Option Value} {base : Heap} {x qual : Str} {st : Stmt} {f : Addr} {fd : FuncData} {N ps : List Str} {k : Nat} {lk : Nat → Bool} {fS : En → Option Fl} (F : Fun K x qual st f fd) (S : FnScope N ps (defScope st))
    (hb : ∀ (cdv : Value) (A : Around) (outer : List Env) (s : Shared) (H : Hp) (E : XK), RoomG k (A.deeper (envOfC qual (defScope st) s.heap.objs.size f cdv)) → PDSs (cxOf CX0 P w K mg base N qual (defScope st) f cdv A outer s H E).nox lk (defBody st) fS) :
    FnG P w K mg base CX0 (k + 1) f fd ps (SpI K (runD N.length ps.length lk fS)) := by
  have key : ∀ {ms : List M} {m : M} {ns : List M}, runD N.length ps.length lk fS ms = some (m, ns) → ms.length = ps.length ∧ okA lk 0 ms = true := fun {ms m ns} e => by
    unfold runD at e
    split at e
    · assumption
    · cases e
  refine fun_g F S (fun vs H Q E h => ?_) (fun cdv A outer s H vs Q E hr h => ?_)
  · obtain ⟨ms, m, ms', Fz, fp, e, ok, _⟩ := h
    rw [← (key e).1]
    have := ok.len
    simpa using this.symm
  · obtain ⟨ms, m, ms', Fz, fp, e, ok, q⟩ := h
    obtain ⟨hl, ha⟩ := key e
    have hv : ms.length = vs.length := by simpa using ok.len
    refine ⟨_, (hb cdv A outer s H E hr).nox, ?_⟩
    have hst : L2.start N vs = vs.map some ++ List.replicate (N.length - ps.length) none := by
      unfold L2.start
      rw [← hv, hl]
    rw [hst]
    unfold runD at e
    rw [if_pos ⟨hl, ha⟩] at e
    split at e
    · rename_i m' env' hf
      split at e
      · rename_i ns ho
        cases e
        refine ⟨_, _, Fz, fp, hf, ok.pad, fun v σ' F' H' fp' A g l o n a b => ?_⟩
        obtain ⟨g2, on⟩ := outs_ok ok ha ho g l
        refine q v F' H' _ A g2 o n (fun c hc => ?_) fun c hc z => b c hc (on c z)
        rcases a c hc with z | z
        · exact .inl z
        · exact .inr (ond_pad.mp z)
      · cases e
    · rename_i env' hf
      split at e
      · rename_i ns ho
        cases e
        refine ⟨_, _, Fz, fp, hf, ok.pad, fun σ' F' H' fp' g l => ?_⟩
        obtain ⟨g2, on⟩ := outs_ok ok ha ho g l
        exact q .non F' H' _ [] g2 (own_fz (by simp only [Rep])) .nil (fun c hc => by cases hc) fun c hc z => by cases hc
      · cases e
    · cases e
mutual
def sLf : M → Bool
  | .fz d => scal d
  | .bp _ _ => false
  | .ol ms => sLfL ms
  | .ot ms => sLfL ms
  | .oi _ fs => sLfF fs
  | .od _ _ => false
  | .odt _ => false
def sLfL : List M → Bool
  | [] => true
  | m :: ms => sLf m && sLfL ms
def sLfF : List (Str × M) → Bool
  | [] => true
  | m :: ms => sLf m.2 && sLfF ms
end
def shutZ : List Bool → List M → Option (List M)
  | [], [] => some []
  | b :: bs, m :: ms => match shut (if b then 9 else 0) m, shutZ bs ms with
    | some n, some ns => some (n :: ns)
    | _, _ => none
  | _, _ => none
section
variable {K : PySem.W.Frag} {F H F' H' : Hp} {σ σ' : L2.St} {env env' : En} {fp fp' : Nat → List Addr} {A B : List Addr} {br br' : Nat → List Pa → V → Prop}
mutual
theorem own_scal : ∀ (m : M) (v : V) (A : List Addr), Own K br F' H m v A → sLf m = true → (∀ a ∈ A, F a = none) → Own K br' F H m v A
  | .fz d, v, A, h, e, k => by
    simp only [sLf] at e
    simp only [Own] at h ⊢
    exact ⟨h.1, (rep_sc e).mpr ((rep_sc e).mp h.2)⟩
  | .bp i p, v, A, h, e, k => by cases e
  | .ol ms, v, A, h, e, k => by
    simp only [sLf] at e
    simp only [Own] at h ⊢
    obtain ⟨p, vs, B, e1, rfl, f, q, r⟩ := h
    exact ⟨p, vs, B, e1, rfl, k p List.mem_cons_self, q, own_scalL ms vs B r e fun a ha => k a (List.mem_cons_of_mem _ ha)⟩
  | .ot ms, v, A, h, e, k => by
    simp only [sLf] at e
    simp only [Own] at h ⊢
    obtain ⟨p, vs, B, e1, rfl, f, q, r⟩ := h
    exact ⟨p, vs, B, e1, rfl, k p List.mem_cons_self, q, own_scalL ms vs B r e fun a ha => k a (List.mem_cons_of_mem _ ha)⟩
  | .oi C fs, v, A, h, e, k => by
    simp only [sLf] at e
    simp only [Own] at h ⊢
    obtain ⟨p, dx, gs, B, e1, rfl, f, f2, q, q2, r⟩ := h
    exact ⟨p, dx, gs, B, e1, rfl, k p List.mem_cons_self, k dx (List.mem_cons_of_mem _ List.mem_cons_self), q, q2, own_scalF fs gs B r e fun a ha => k a (List.mem_cons_of_mem _ (List.mem_cons_of_mem _ ha))⟩
  | .od lk kvs, v, A, h, e, k => by cases e
  | .odt kvs, v, A, h, e, k => by cases e
theorem own_scalL : ∀ (ms : List M) (vs : List V) (A : List Addr), OwnL K br F' H ms vs A → sLfL ms = true → (∀ a ∈ A, F a = none) → OwnL K br' F H ms vs A
  | [], vs, A, h, e, k => by simpa only [OwnL] using h
  | m :: ms, vs, A, h, e, k => by
    simp only [sLfL, Bool.and_eq_true] at e
    simp only [OwnL] at h ⊢
    obtain ⟨v, r, B, C, e1, rfl, q, q2⟩ := h
    exact ⟨v, r, B, C, e1, rfl, own_scal m v B q e.1 fun a ha => k a (List.mem_append_left _ ha), own_scalL ms r C q2 e.2 fun a ha => k a (List.mem_append_right _ ha)⟩
theorem own_scalF : ∀ (ms : List (Str × M)) (vs : List (Str × V)) (A : List Addr), OwnF K br F' H ms vs A → sLfF ms = true → (∀ a ∈ A, F a = none) → OwnF K br' F H ms vs A
  | [], vs, A, h, e, k => by simpa only [OwnF] using h
  | m :: ms, vs, A, h, e, k => by
    simp only [sLfF, Bool.and_eq_true] at e
    simp only [OwnF] at h ⊢
    obtain ⟨v, r, B, C, e1, rfl, q, q2⟩ := h
    exact ⟨v, r, B, C, e1, rfl, own_scal m.2 v B q e.1 fun a ha => k a (List.mem_append_left _ ha), own_scalF ms r C q2 e.2 fun a ha => k a (List.mem_append_right _ ha)⟩
end
theorem shutZ_ok : ∀ {bs : List Bool} {ms : List M} {vs : List V} {A : List Addr} {ms' : List M}, OwnL K br F H ms vs A → A.Nodup → shutZ bs ms = some ms' → ∃ A', A'.Sublist A ∧ ∀ F', Fr F H F' A A' → OwnL K noBr F' H ms' vs A'
  | [], [], vs, A, ms', h, hn, e => by
    cases e
    simp only [OwnL] at h
    obtain ⟨rfl, rfl⟩ := h
    exact ⟨[], List.Sublist.refl _, fun F' hF => ownL_nil⟩
  | b :: bs, m :: ms, vs, A, ms', h, hn, e => by
    simp only [shutZ] at e
    split at e
    · rename_i n ns e1 e2
      cases e
      simp only [OwnL] at h
      obtain ⟨v, r, B, C, rfl, rfl, q, q2⟩ := h
      have hn' := List.nodup_append.mp hn
      obtain ⟨B', b1, b2⟩ := shut_ok _ m v B n q hn'.1 e1
      obtain ⟨C', c1, c2⟩ := shutZ_ok q2 hn'.2.1 e2
      refine ⟨B' ++ C', List.Sublist.append b1 c1, fun F' hF => ?_⟩
      simp only [OwnL]
      exact ⟨v, r, B', C', rfl, rfl, b2 F' (hF.left hn c1), c2 F' (hF.right hn b1)⟩
    · cases e
  | [], m :: ms, vs, A, ms', h, hn, e => by cases e
  | b :: bs, [], vs, A, ms', h, hn, e => by cases e
theorem fr_frz2 {A' : List Addr} (s : Same F H) (hA : ∀ a ∈ A', F a = none) : Fr F H (frz2 F H A A') A A' ∧ Same (frz2 F H A A') H ∧ ∀ a, frz2 F H A A' a ≠ none → F a ≠ none ∨ (a ∈ A ∧ a ∉ A') := by
  refine ⟨⟨fun b o q => ?_, fun a ha => ?_, fun a ha hb o q => ?_⟩, fun b o q => ?_, fun a z => ?_⟩
  · unfold frz2
    split
    · exact s _ _ q
    · exact q
  · unfold frz2
    rw [if_neg fun z => z.2 ha]
    exact hA a ha
  · unfold frz2
    rw [if_pos ⟨ha, hb⟩]
    exact q
  · unfold frz2 at q
    split at q
    · exact q
    · exact s _ _ q
  · unfold frz2 at z
    split at z
    · rename_i h
      exact .inr h
    · exact .inl z
/-- a callee's slots -/
theorem envOf (s : Same F H) : ∀ {ms : List M} {vs : List V} {A : List Addr}, OwnL K noBr F H ms vs A → A.Nodup → ∃ fp, EnvOk K F H (vs.map some) (ms.map some) fp ∧ ∀ a, Ond (ms.map some) fp a → a ∈ A
  | [], vs, A, h, hn => by
    simp only [OwnL] at h
    obtain ⟨rfl, rfl⟩ := h
    refine ⟨fun _ => [], ⟨rfl, s, fun i m e => ?_, fun i m e => .nil, fun i j m n a e _ ha => by cases ha⟩, fun a ⟨i, m, e, ha⟩ => by cases ha⟩
    rw [get_map] at e
    cases e
  | m :: ms, vs, A, h, hn => by
    simp only [OwnL] at h
    obtain ⟨v, r, B, C, rfl, rfl, q, q2⟩ := h
    have hn' := List.nodup_append.mp hn
    obtain ⟨fp, ok, on⟩ := envOf s q2 hn'.2.1
    have sc : ∀ {i n}, En.get (ms.map some) i = some n → ∀ a ∈ fp i, a ∈ C := fun {i n} e a ha => on a ⟨i, n, e, ha⟩
    refine ⟨fun i => match i with | 0 => B | i + 1 => fp i, ⟨by have := ok.len; simp at this ⊢; exact this, s, fun i n e => ?_, fun i n e => ?_, fun i j n n' a e e' ha hb => ?_⟩, fun a ⟨i, n, e, ha⟩ => ?_⟩
    · rw [get_map] at e
      cases i with
      | zero =>
        cases e
        exact ⟨v, rfl, q⟩
      | succ i =>
        obtain ⟨w, e1, e2⟩ := ok.slot i n (by rw [get_map]; simpa using e)
        exact ⟨w, by simpa using e1, e2⟩
    · cases i with
      | zero => exact hn'.1
      | succ i => exact ok.nd i n (by rw [get_map] at e ⊢; simpa using e)
    · rw [get_map] at e e'
      cases i with
      | zero =>
        cases j with
        | zero => rfl
        | succ j => exact absurd rfl (hn'.2.2 a ha a (sc (by rw [get_map]; simpa using e') a hb))
      | succ i =>
        cases j with
        | zero => exact absurd rfl (hn'.2.2 a hb a (sc (by rw [get_map]; simpa using e) a ha))
        | succ j => rw [ok.dj i j n n' a (by rw [get_map]; simpa using e) (by rw [get_map]; simpa using e') ha hb]
    · rw [get_map] at e
      cases i with
      | zero => exact List.mem_append_left _ ha
      | succ i => exact List.mem_append_right _ (sc (by rw [get_map]; simpa using e) a ha)
end
/-- a call whose arguments are no slots that the callee changes -/
def callP (io : List Bool) (f : Fn) : En → List M → Option M := fun env ms => match slotsL ms with
  | [] => match shutZ io ms with
    | some cs => match f cs with
      | some (r, _) => some r
      | none => none
    | none => none
  | _ => match dats env ms with
    | some ds => match f (ds.map .fz) with
      | some (r, _) => if sLf r then some r else none
      | none => none
    | none => none
section
variable {K : PySem.W.Frag}
theorem s_call {io : List Bool} {f : Fn} {E : XK} : OpS K (callP io f) (fun vs H Q => SpI K f vs H Q E) := by
  intro σ env F H fp ms vs A m Q ok hO hn dj e q
  unfold callP at e
  split at e
  · rename_i hs
    split at e
    · rename_i cs hc
      split at e
      · rename_i r cs' hf
        cases e
        obtain ⟨A', h1, h2⟩ := shutZ_ok hO hn hc
        obtain ⟨f1, f2, f3⟩ := fr_frz2 (A := A) ok.sub fun a ha => (hO.at _ _ _ a (h1.subset ha)).1
        obtain ⟨fpc, okc, on⟩ := envOf f2 (h2 _ f1) (hn.sublist h1)
        refine ⟨cs, m, cs', _, fpc, hf, okc, fun v F' H' fp' B g o n a b => q v F' H' B ⟨f1.1.trans g.fr, fun c u e z => g.keep c u e (fun w => z (h1.subset (on c w))) (by simp), g.stay, g.ok.sub, fun c z => ?_, g.lok⟩ (o.mono (.refl _) (fun _ _ _ z => z.elim) _ _ _ fun c hc => ⟨(o.at _ _ _ c hc).1, fun _ z => z⟩) n fun c hc => ?_⟩
        · rcases g.nw c z with w | w | w | w
          · rcases f3 c w with w | w
            · exact .inl w
            · exact .inr (.inr w.1)
          · exact .inr (.inl w)
          · exact .inr (.inr (h1.subset (on c w)))
          · cases w
        · rcases a c hc with w | w
          · exact .inl w
          · exact .inr (h1.subset (on c w))
      · cases e
    · cases e
  · split at e
    · rename_i ds hd
      split at e
      · rename_i r cs' hf
        split at e
        · rename_i hr
          cases e
          have rl : RepL K H ds vs := ok.dataL hO hd
          obtain ⟨fpc, okc, on⟩ := envOf (.refl H) (ownL_fz (br := noBr) (H := H) rl) .nil
          refine ⟨ds.map .fz, m, cs', H, fpc, hf, okc, fun v F' H' fp' B g o n a b => ?_⟩
          have noc : ∀ c, ¬ Ond ((ds.map M.fz).map some) fpc c := fun c w => by cases on c w
          have hB : ∀ c ∈ B, F c = none := fun c hc => ok.sub.free (g.fr.free (o.at _ _ _ c hc).1)
          refine q v F H' B ⟨.refl _, fun c u e _ => g.keep c u e (noc c) (by simp), g.stay, ok.sub.trans (g.fr.trans g.ok.sub), fun c z => .inl z, g.lok⟩ (own_scal m v B o hr hB) n fun c hc => ?_
          rcases a c hc with w | w
          · exact .inl w
          · exact absurd w (noc c)
        · cases e
      · cases e
    · cases e
/-- a call that changes the slot that its first argument is -/
def callI (io : List Bool) (f : Fn) (gs : En → Option (List M × En)) : En → Option (M × En) := fun env => match gs env with
  | some (.bp i [] :: rest, e1) => match slotsL rest with
    | [] => match e1.get i, shutZ io.tail rest with
      | some n, some cs => match f (n :: cs) with
        | some (r, n' :: _) => some (r, e1.put i n')
        | _ => none
      | _, _ => none
    | _ => none
  | _ => none
theorem tXA.mutc {io : List Bool} {f : Fn} {E : XK} {gs : En → Option (List M × En)} {σ : L2.St} {H : Hp} {Q : VK} (h : tX K (callI io f gs) σ H Q) : tXA K gs σ H fun vs H1 => SpI K f vs H1 Q E := by
  obtain ⟨env, m, env', F, fp, e, ok, q⟩ := h
  unfold callI at e
  split at e
  · rename_i i rest e1 h1
    split at e
    · rename_i hs
      split at e
      · rename_i n cs hn hc
        split at e
        · rename_i r n' tl hf
          cases e
          refine ⟨env, _, e1, F, fp, h1, ok, fun vs F1 H1 fp1 A g o nd a b => ?_⟩
          simp only [OwnL] at o
          obtain ⟨v, ws, B0, C, rfl, rfl, o1, o2⟩ := o
          simp only [Own] at o1
          obtain ⟨rfl, w, hw, hv, _⟩ := o1
          have hv : v = w := hv
          subst hv
          rw [List.nil_append] at nd a b
          obtain ⟨u, k1, k2⟩ := g.ok.slot i n hn
          rw [hw] at k1
          cases k1
          have hlt := En.get_lt hn
          obtain ⟨C', c1, c2⟩ := shutZ_ok o2 nd hc
          obtain ⟨f1, f2, f3⟩ := fr_frz2 (A := C) g.ok.sub fun x hx => (o2.at _ _ _ x (c1.subset hx)).1
          have kk : ∀ {j x}, (∃ y, e1.get j = some y) → x ∈ fp1 j → x ∉ C := fun {j x} ⟨y, hy⟩ hx z => b x z ⟨j, y, hy, hx⟩
          have k2' : Own K noBr (frz2 F1 H1 C C') H1 n v (fp1 i) := k2.mono f1.1 (fun _ _ _ z => z) _ _ _ fun x hx => ⟨by
            unfold frz2
            rw [if_neg fun z => kk ⟨n, hn⟩ hx z.1]
            exact (k2.at _ _ _ x hx).1, fun _ z => z⟩
          have oc : OwnL K noBr (frz2 F1 H1 C C') H1 (n :: cs) (v :: ws) (fp1 i ++ C') := by
            simp only [OwnL]
            exact ⟨v, ws, fp1 i, C', rfl, rfl, k2', c2 _ f1⟩
          have ndc : (fp1 i ++ C').Nodup := List.nodup_append.mpr ⟨g.ok.nd i n hn, nd.sublist c1, fun x hx y hy e => kk ⟨n, hn⟩ hx (c1.subset (e ▸ hy))⟩
          obtain ⟨fpc, okc, on⟩ := envOf f2 oc ndc
          refine ⟨n :: cs, m, n' :: tl, _, fpc, hf, okc, fun v' F' H' fp' B g' o' n'' a' b' => ?_⟩
          have onc : ∀ x, Ond ((n :: cs).map some) fpc x → x ∈ fp1 i ∨ x ∈ C := fun x z => (List.mem_append.mp (on x z)).imp id fun z => c1.subset z
          have h0 : En.get ((n' :: tl).map some) 0 = some n' := rfl
          have c0 : ∀ x, x ∈ fp' 0 → H1 x = none ∨ x ∈ fp1 i ∨ x ∈ C := fun x hx => (g'.ond ⟨0, n', h0, hx⟩).imp id (onc x)
          have go2 : Go K C σ e1 fp1 F1 H1 σ (e1.put i n') (fun k => if k = i then fp' 0 else fp1 k) F' H' := by
            refine ⟨f1.1.trans g'.fr, fun x u e no nC => g'.keep x u e (fun z => ?_) (by simp), g'.stay, fun x z => ?_, fun x ⟨j, y, hj, hx⟩ => ?_, ?_, g'.lok⟩
            · rcases onc x z with z | z
              · exact no ⟨i, n, hn, z⟩
              · exact nC z
            · rcases g'.nw x z with z | z | z | z
              · rcases f3 x z with z | z
                · exact .inl z
                · exact .inr (.inr (.inr z.1))
              · exact .inr (.inl z)
              · rcases onc x z with z | z
                · exact .inr (.inr (.inl ⟨i, n, hn, z⟩))
                · exact .inr (.inr (.inr z))
              · cases z
            · by_cases hj' : j = i
              · simp only [if_pos hj'] at hx
                rcases c0 x hx with z | z | z
                · exact .inl z
                · exact .inr (.inl ⟨i, n, hn, z⟩)
                · exact .inr (.inr z)
              · simp only [if_neg hj'] at hx
                rw [En.get_put hlt, if_neg hj'] at hj
                exact .inr (.inl ⟨j, y, hj, hx⟩)
            · -- other slots' nodes
              have other : ∀ j y, j ≠ i → e1.get j = some y → ∀ x ∈ fp1 j, (∃ o, H1 x = some o) ∧ F1 x = none ∧ x ∉ fp1 i ∧ x ∉ C := fun j y hj hy x hx => by
                obtain ⟨w', _, q'⟩ := g.ok.slot j y hy
                obtain ⟨z1, z2⟩ := q'.at _ _ _ x hx
                exact ⟨z2, z1, fun z => hj (g.ok.dj j i y n x hy hn hx z), kk ⟨y, hy⟩ hx⟩
              refine ⟨by unfold En.put; rw [List.length_set]; exact g.ok.len, g'.ok.sub, fun j y hj => ?_, fun j y hj => ?_, fun j k y y' x hj hk hx hx' => ?_⟩
              · rw [En.get_put hlt] at hj
                by_cases hj' : j = i
                · subst hj'
                  rw [if_pos rfl] at hj
                  cases hj
                  obtain ⟨w', z1, z2⟩ := g'.ok.slot 0 n' h0
                  simp only [List.map_cons, List.getElem?_cons_zero, Option.some.injEq] at z1
                  subst z1
                  refine ⟨v, hw, ?_⟩
                  simp only [if_pos]
                  exact z2
                · rw [if_neg hj'] at hj
                  obtain ⟨w', z1, z2⟩ := g.ok.slot j y hj
                  refine ⟨w', z1, ?_⟩
                  simp only [if_neg hj']
                  refine z2.mono (f1.1.trans g'.fr) (fun _ _ _ z => z) _ _ _ fun x hx => ?_
                  obtain ⟨⟨o, y1⟩, y2, y3, y4⟩ := other j y hj' hj x hx
                  have nO : ¬ Ond ((n :: cs).map some) fpc x := fun z => (onc x z).elim y3 y4
                  refine ⟨?_, fun u e => g'.keep x u e nO (by simp)⟩
                  cases z : F' x with
                  | none => rfl
                  | some u =>
                    rcases g'.nw x (by rw [z]; simp) with z | z | z | z
                    · rcases f3 x z with z | z
                      · exact absurd y2 z
                      · exact absurd z.1 y4
                    · rw [y1] at z
                      cases z
                    · exact absurd z nO
                    · cases z
              · rw [En.get_put hlt] at hj
                by_cases hj' : j = i
                · simp only [if_pos hj']
                  exact g'.ok.nd 0 n' h0
                · rw [if_neg hj'] at hj
                  simp only [if_neg hj']
                  exact g.ok.nd j y hj
              · have cross : ∀ k y, k ≠ i → e1.get k = some y → ∀ x, x ∈ fp' 0 → x ∈ fp1 k → False := fun k y hk hy x h1 h2 => by
                  obtain ⟨⟨o, y1⟩, y2, y3, y4⟩ := other k y hk hy x h2
                  rcases c0 x h1 with z | z | z
                  · rw [y1] at z
                    cases z
                  · exact y3 z
                  · exact y4 z
                rw [En.get_put hlt] at hj hk
                by_cases hj' : j = i
                · simp only [if_pos hj'] at hx
                  by_cases hk' : k = i
                  · rw [hj', hk']
                  · rw [if_neg hk'] at hk
                    simp only [if_neg hk'] at hx'
                    exact (cross k y' hk' hk x hx hx').elim
                · rw [if_neg hj'] at hj
                  simp only [if_neg hj'] at hx
                  by_cases hk' : k = i
                  · simp only [if_pos hk'] at hx'
                    exact (cross j y hj' hj x hx' hx).elim
                  · rw [if_neg hk'] at hk
                    simp only [if_neg hk'] at hx'
                    exact g.ok.dj j k y y' x hj hk hx hx'
          refine q v' F' H' _ B (g.trans go2 a) (o'.mono (.refl _) (fun _ _ _ z => z.elim) _ _ _ fun c hc => ⟨(o'.at _ _ _ c hc).1, fun _ z => z⟩) n'' (fun c hc => ?_) fun c hc ⟨j, y, hj, hx⟩ => ?_
          · rcases a' c hc with z | z
            · exact .inl (g.stay c z)
            · rcases onc c z with z | z
              · exact g.ond ⟨i, n, hn, z⟩
              · exact a c z
          · rw [En.get_put hlt] at hj
            by_cases hj' : j = i
            · simp only [if_pos hj'] at hx
              exact b' c hc ⟨0, n', h0, hx⟩
            · rw [if_neg hj'] at hj
              simp only [if_neg hj'] at hx
              obtain ⟨w', _, q'⟩ := g.ok.slot j y hj
              obtain ⟨_, o, z2⟩ := q'.at _ _ _ c hx
              rcases a' c hc with z | z
              · rw [z2] at z
                cases z
              · rcases onc c z with z | z
                · exact hj' (g.ok.dj j i y n c hj hn hx z)
                · exact kk ⟨y, hj⟩ hx z
        · cases e
      · cases e
    · cases e
  · cases e
end
section
variable {X : Cx} {k : Nat} {fa : Addr} {fd : FuncData} {ps : List Str} {fn : Fn} {x : Str} {p pos : Pos} {e : Expr} {es : List Expr} {io : List Bool} {fs : En → Option (List M)} {gs : En → Option (List M × En)} {E : XK}
theorem sp_nil {sp : Sp} {vs : List V} {H : Hp} {Q : VK} (h : sp vs H Q E) : sp (vs ++ []) H Q E := by rw [List.append_nil]; exact h
theorem pd_call (io : List Bool) (F : FnG X.prog X.w X.K X.mg X.base CX0 k fa fd ps (SpI X.K fn)) (hr : RoomG k X.A) (hg : Gl X x) (hm : X.mg x = some (.ref fa)) (hk : PySem.W.keepIn X.K (.ref fa) = true) (hb : Binds X.K fd ps [])
    (ha : PDA X (e :: es) fs) (hdb : (x == ("__debug__" : Str)) = false := by decide) (he : starEach (e :: es) X.env = (false, eval e X.env) :: starEach es X.env := by rfl) (hpl : (backTo pos (starEach es X.env)).any (·.1) = false := by rfl) :
    PD X (.Call (.Name x p) (e :: es) [] pos) (opr (callP io fn) fs) :=
  PE.imp (pe_callG (dvs := []) (E := E0) F hr hg hm hk hb .nil pass0 ha hdb he hpl) fun σ H Q q => by
    obtain ⟨env, ms, F, fp, e, ok, q'⟩ := tDA.op (s_call (E := E0)) q
    exact ⟨env, ms, F, fp, e, ok, fun vs F' H' A a b c d => sp_nil (q' vs F' H' A a b c d)⟩
theorem px_callI (io : List Bool) (F : FnG X.prog X.w X.K X.mg X.base CX0 k fa fd ps (SpI X.K fn)) (hr : RoomG k X.A) (hg : Gl X x) (hm : X.mg x = some (.ref fa)) (hk : PySem.W.keepIn X.K (.ref fa) = true) (hb : Binds X.K fd ps [])
    (ha : PXA X (e :: es) gs) (hdb : (x == ("__debug__" : Str)) = false := by decide) (he : starEach (e :: es) X.env = (false, eval e X.env) :: starEach es X.env := by rfl) (hpl : (backTo pos (starEach es X.env)).any (·.1) = false := by rfl) :
    PX X (.Call (.Name x p) (e :: es) [] pos) (callI io fn gs) :=
  PE.imp (pe_callG (dvs := []) (E := E0) F hr hg hm hk hb .nil pass0 ha hdb he hpl) fun σ H Q q => (tXA.mutc (E := E0) q).mono fun vs H1 h => sp_nil h
end
/-- a def of the text: where it stands, its promise -/
structure Df (P : Program) (w : World) (K : PySem.W.Frag) (mg : Str → Option Value) (base : Heap) (x : Str) (k : Nat) (ps : List Str) (fn : Fn) : Prop where
  ex : ∃ (f : Addr) (fd : FuncData), mg x = some (.ref f) ∧ PySem.W.keepIn K (.ref f) = true ∧ Binds K fd ps [] ∧ FnG P w K mg base CX0 k f fd ps (SpI K fn)
/-- a law's def keeps what is asked -/
theorem law_sp {K : PySem.W.Frag} {f : Fn} (h : ∀ ns : List Int, ns.length ≤ 63 → (∀ z ∈ ns, Builtin.Int.intBits z ≤ 1048576) → ∃ ms, f [.fz (.scr ns)] = some (.fz (.bl true), ms)) {H : Hp} {a : Addr} {ns : List Int} (hl : ns.length ≤ 63) (hb : ∀ z ∈ ns, Builtin.Int.intBits z ≤ 1048576) (hS : SqL K H a (ns.map V.int)) :
    SpI K f [.ref a] H (fun v _ => v = .bl true) fun _ _ _ => False := by
  obtain ⟨ms, e⟩ := h ns hl hb
  have r : RepL K H [D.scr ns] [V.ref a] := by
    simp only [RepL, Rep]
    exact ⟨_, [], rfl, ⟨a, rfl, hS⟩, rfl⟩
  obtain ⟨fp, ok, _⟩ := envOf (.refl H) (ownL_fz (br := noBr) (H := H) r) .nil
  exact ⟨_, _, ms, H, fp, e, ok, fun v F' H' fp' B g o n a b => by simpa only [Own, Rep] using o.2⟩
end T2
end
section
set_option Elab.async false
set_option linter.all false
set_option maxRecDepth 100000
namespace T2
open PySem PySem.Spec PyProof.Rows L2
section
variable {K : PySem.W.Frag}
theorem OwnL.split {F H : Hp} : ∀ {ms : List M} {vs : List V} {A : List Addr} {k : Nat} {n : M}, OwnL K noBr F H ms vs A → ms[k]? = some n → ∃ X Y B v, A = X ++ B ++ Y ∧ vs[k]? = some v ∧ Own K noBr F H n v B ∧
    ∀ F' H' n' B', Same F F' → (∀ x ∈ X ++ Y, F' x = none ∧ ∀ o, H x = some o → H' x = some o) → Own K noBr F' H' n' v B' → OwnL K noBr F' H' (ms.set k n') vs (X ++ B' ++ Y)
  | [], vs, A, k, n, h, e => by cases e
  | m :: ms, vs, A, 0, n, h, e => by
    simp only [OwnL] at h
    obtain ⟨v, r, B, C, rfl, rfl, q, q2⟩ := h
    cases e
    refine ⟨[], C, B, v, rfl, rfl, q, fun F' H' n' B' s k h => ?_⟩
    simp only [List.set_cons_zero, OwnL]
    exact ⟨v, r, B', C, rfl, rfl, h, q2.mono s (fun _ _ _ z => z) _ _ _ k⟩
  | m :: ms, vs, A, k + 1, n, h, e => by
    simp only [OwnL] at h
    obtain ⟨v, r, B, C, rfl, rfl, q, q2⟩ := h
    obtain ⟨X, Y, D, w, rfl, e1, e2, e3⟩ := OwnL.split (k := k) q2 (by simpa using e)
    refine ⟨B ++ X, Y, D, w, by simp only [List.append_assoc], by simpa using e1, e2, fun F' H' n' B' s k h => ?_⟩
    simp only [List.set_cons_succ, OwnL]
    exact ⟨v, r, B, X ++ B' ++ Y, rfl, by simp only [List.append_assoc], q.mono s (fun _ _ _ z => z) _ _ _ fun a ha => k a (by simp [ha]), e3 F' H' n' B' s (fun a ha => k a (by
      rcases List.mem_append.mp ha with z | z <;> simp [z])) h⟩
theorem OwnF.split {F H : Hp} : ∀ {ms : List (Str × M)} {vs : List (Str × V)} {A : List Addr} {f : Str} {n : M}, OwnF K noBr F H ms vs A → getF ms f = some n → ∃ X Y B v, A = X ++ B ++ Y ∧ vs.lookup f = some v ∧ Own K noBr F H n v B ∧
    ∀ F' H' n' B', Same F F' → (∀ x ∈ X ++ Y, F' x = none ∧ ∀ o, H x = some o → H' x = some o) → Own K noBr F' H' n' v B' → OwnF K noBr F' H' (setF ms f n') vs (X ++ B' ++ Y)
  | [], vs, A, k, n, h, e => by cases e
  | m :: ms, vs, A, f, n, h, e => by
    simp only [OwnF] at h
    obtain ⟨v, r, B, C, rfl, rfl, q, q2⟩ := h
    unfold getF at e
    by_cases hf : m.1 = f
    · rw [if_pos hf] at e
      cases e
      refine ⟨[], C, B, v, rfl, by rw [List.lookup_cons, hf]; simp, q, fun F' H' n' B' s k h => ?_⟩
      unfold setF
      rw [if_pos hf]
      simp only [OwnF]
      exact ⟨v, r, B', C, by rw [hf], rfl, h, q2.mono s (fun _ _ _ z => z) _ _ _ k⟩
    · rw [if_neg hf] at e
      obtain ⟨X, Y, D, w, rfl, e1, e2, e3⟩ := OwnF.split q2 e
      refine ⟨B ++ X, Y, D, w, by simp only [List.append_assoc], ?_, e2, fun F' H' n' B' s k h => ?_⟩
      · rw [List.lookup_cons]
        have : (f == m.1) = false := by simpa using fun z => hf z.symm
        simp only [this, e1]
      · unfold setF
        rw [if_neg hf]
        simp only [OwnF]
        exact ⟨v, r, B, X ++ B' ++ Y, rfl, by simp only [List.append_assoc], q.mono s (fun _ _ _ z => z) _ _ _ fun a ha => k a (by simp [ha]), e3 F' H' n' B' s (fun a ha => k a (by
          rcases List.mem_append.mp ha with z | z <;> simp [z])) h⟩
theorem getP_nil (m : M) : getP m [] = some m := by cases m <;> rfl
theorem setP_nil (m n : M) : setP m [] n = some n := by cases m <;> rfl
/-- a list node of a tree, and the tree with another one in its place -/
theorem Own.node {F H : Hp} : ∀ {p : List Pa} {m : M} {w : V} {A : List Addr} {a : Addr} {ms : List M}, Own K noBr F H m w A → getP m p = some (.ol ms) → ValP H w p (.ref a) →
    ∃ X Y C vs, A = X ++ (a :: C) ++ Y ∧ H a = some (.lst vs) ∧ OwnL K noBr F H ms vs C ∧
      ∀ F' H' ms' vs' C', Same F F' → (∀ x ∈ X ++ Y, F' x = none ∧ ∀ o, H x = some o → H' x = some o) → F' a = none → H' a = some (.lst vs') → OwnL K noBr F' H' ms' vs' C' → ∃ m', setP m p (.ol ms') = some m' ∧ Own K noBr F' H' m' w (X ++ (a :: C') ++ Y)
  | [], m, w, A, a, ms, h, e, q => by
    rw [getP_nil] at e
    cases e
    have q : V.ref a = w := q
    subst q
    simp only [Own] at h
    obtain ⟨p, vs, B, e1, rfl, f, g, r⟩ := h
    cases e1
    refine ⟨[], [], B, vs, by simp, g, r, fun F' H' ms' vs' C' s k f' g' o => ⟨_, setP_nil _ _, ?_⟩⟩
    simp only [Own]
    exact ⟨a, vs', C', rfl, by simp, f', g', o⟩
  | .ix kk :: r, m, w, A, a, ms, h, e, q => by
    obtain ⟨b, us, u, rfl, q, g, q2⟩ := q
    cases m with
    | ol xs =>
      simp only [Own] at h
      obtain ⟨p, vs', B, e1, rfl, f, q3, h⟩ := h
      cases e1
      have : us = vs' := by rcases q with q | q <;> rw [q3] at q <;> cases q <;> rfl
      subst this
      simp only [getP] at e
      split at e
      · rename_i m' hm
        obtain ⟨X, Y, D, v, rfl, e1, e2, e3⟩ := OwnL.split h hm
        rw [g] at e1
        cases e1
        obtain ⟨X', Y', C, vs, rfl, c1, c2, c3⟩ := Own.node e2 e q2
        refine ⟨b :: X ++ X', Y' ++ Y, C, vs, by simp, c1, c2, fun F' H' ms' vs' C' s k f' g' o => ?_⟩
        obtain ⟨n', s1, s2⟩ := c3 F' H' ms' vs' C' s (fun x hx => k x (by
          rcases List.mem_append.mp hx with z | z <;> simp [z])) f' g' o
        refine ⟨.ol (xs.set kk n'), by simp only [setP, hm, s1, Option.map_some], ?_⟩
        simp only [Own]
        have kb := k b (by simp)
        exact ⟨b, us, X ++ (X' ++ a :: C' ++ Y') ++ Y, rfl, by simp, kb.1, kb.2 _ q3, e3 F' H' n' _ s (fun x hx => k x (by
          rcases List.mem_append.mp hx with z | z <;> simp [z])) s2⟩
      · cases e
    | ot xs =>
      simp only [Own] at h
      obtain ⟨p, vs', B, e1, rfl, f, q3, h⟩ := h
      cases e1
      have : us = vs' := by rcases q with q | q <;> rw [q3] at q <;> cases q <;> rfl
      subst this
      simp only [getP] at e
      split at e
      · rename_i m' hm
        obtain ⟨X, Y, D, v, rfl, e1, e2, e3⟩ := OwnL.split h hm
        rw [g] at e1
        cases e1
        obtain ⟨X', Y', C, vs, rfl, c1, c2, c3⟩ := Own.node e2 e q2
        refine ⟨b :: X ++ X', Y' ++ Y, C, vs, by simp, c1, c2, fun F' H' ms' vs' C' s k f' g' o => ?_⟩
        obtain ⟨n', s1, s2⟩ := c3 F' H' ms' vs' C' s (fun x hx => k x (by
          rcases List.mem_append.mp hx with z | z <;> simp [z])) f' g' o
        refine ⟨.ot (xs.set kk n'), by simp only [setP, hm, s1, Option.map_some], ?_⟩
        simp only [Own]
        have kb := k b (by simp)
        exact ⟨b, us, X ++ (X' ++ a :: C' ++ Y') ++ Y, rfl, by simp, kb.1, kb.2 _ q3, e3 F' H' n' _ s (fun x hx => k x (by
          rcases List.mem_append.mp hx with z | z <;> simp [z])) s2⟩
      · cases e
    | fz d => cases e
    | bp i p => cases e
    | oi C fs => cases e
    | od _ _ => cases e
    | odt _ => cases e
  | .fd f :: r, m, w, A, a, ms, h, e, q => by
    obtain ⟨b, C0, dx0, gs0, u, rfl, q, g, q2⟩ := q
    cases m with
    | oi C xs =>
      simp only [Own] at h
      obtain ⟨p, dx, gs, B, e1, rfl, f1, f2, q3, q4, h⟩ := h
      cases e1
      rw [q3] at q
      cases q
      simp only [getP] at e
      split at e
      · rename_i m' hm
        obtain ⟨X, Y, D, v, rfl, e1, e2, e3⟩ := OwnF.split h hm
        rw [g] at e1
        cases e1
        obtain ⟨X', Y', C', vs, rfl, c1, c2, c3⟩ := Own.node e2 e q2
        refine ⟨b :: dx0 :: X ++ X', Y' ++ Y, C', vs, by simp, c1, c2, fun F' H' ms' vs' C'' s k f' g' o => ?_⟩
        obtain ⟨n', s1, s2⟩ := c3 F' H' ms' vs' C'' s (fun x hx => k x (by
          rcases List.mem_append.mp hx with z | z <;> simp [z])) f' g' o
        refine ⟨.oi C0 (setF xs f n'), by simp only [setP, hm, s1, Option.map_some], ?_⟩
        simp only [Own]
        have kb := k b (by simp)
        have kd := k dx0 (by simp)
        exact ⟨b, dx0, gs0, X ++ (X' ++ a :: C'' ++ Y') ++ Y, rfl, by simp, kb.1, kd.1, kb.2 _ q3, kd.2 _ q4, e3 F' H' n' _ s (fun x hx => k x (by
          rcases List.mem_append.mp hx with z | z <;> simp [z])) s2⟩
      · cases e
    | fz d => cases e
    | bp i p => cases e
    | ol ms => cases e
    | ot ms => cases e
    | od _ _ => cases e
    | odt _ => cases e
end
def setE (env : En) (i : Nat) (p : List Pa) (n : M) : Option En := match env.get i with
  | some m => (setP m p n).map (env.put i)
  | none => none
section
variable {K : PySem.W.Frag} {F H F' H' : Hp} {σ σ' : L2.St} {env env' : En} {fp fp' : Nat → List Addr} {A B : List Addr}
theorem mut_ok (ok : EnvOk K F H σ env fp) {i : Nat} {p : List Pa} {a : Addr} {ms : List M} (hpl : env.place i p = some (.ol ms)) (hv : plc H σ env i p (.ref a)) :
    ∃ C vs, H a = some (.lst vs) ∧ F a = none ∧ Ond env fp a ∧ OwnL K noBr F H ms vs C ∧ C.Nodup ∧ (∀ c ∈ C, Ond env fp c) ∧ a ∉ C ∧
      ∀ ms' vs' C', OwnL K noBr F H ms' vs' C' → C'.Nodup → (∀ c ∈ C', c ∈ C ∨ ¬ Ond env fp c) → ∃ env' fp', setE env i p (.ol ms') = some env' ∧ Go K C' σ env fp F H σ env' fp' F (upd H a (.lst vs')) ∧ ∀ x, Ond env' fp' x → x ∈ C' ∨ (Ond env fp x ∧ x ∉ C) := by
  obtain ⟨w, hw, hval, _⟩ := hv
  unfold En.place at hpl
  split at hpl
  · rename_i m hm
    obtain ⟨w', k1, k2⟩ := ok.slot i m hm
    rw [hw] at k1
    cases k1
    obtain ⟨X, Y, C, vs, eA, c1, c2, c3⟩ := k2.node hpl hval
    have nd := ok.nd i m hm
    rw [eA] at nd
    have hlt := En.get_lt hm
    have inA : ∀ x, x ∈ X ++ (a :: C) ++ Y → x ∈ fp i := fun x hx => by rw [eA]; exact hx
    have ha : a ∈ fp i := inA a (by simp)
    have nd1 := List.nodup_append.mp nd
    have nd2 := List.nodup_append.mp nd1.1
    have nd3 := List.nodup_cons.mp nd2.2.1
    have sep : ∀ x ∈ X ++ Y, x ≠ a ∧ x ∉ C := fun x hx => by
      rcases List.mem_append.mp hx with z | z
      · exact ⟨fun e => nd2.2.2 x z a List.mem_cons_self e, fun h => nd2.2.2 x z x (List.mem_cons_of_mem _ h) rfl⟩
      · exact ⟨fun e => nd1.2.2 a (by simp) x z e.symm, fun h => nd1.2.2 x (by simp [h]) x z rfl⟩
    refine ⟨C, vs, c1, (k2.at _ _ _ a ha).1, ⟨i, m, hm, ha⟩, c2, nd3.2, fun c hc => ⟨i, m, hm, inA c (by simp [hc])⟩, nd3.1, fun ms' vs' C' o n sC => ?_⟩
    have aC : a ∉ C' := fun z => (sC a z).elim nd3.1 fun h => h ⟨i, m, hm, ha⟩
    have up : ∀ x o, x ≠ a → H x = some o → (upd H a (.lst vs')) x = some o := fun x o ne e => by rw [upd_ne ne]; exact e
    have F0 : ∀ x ∈ fp i, F x = none := fun x hx => (k2.at _ _ _ x hx).1
    obtain ⟨m', s1, s2⟩ := c3 F (upd H a (.lst vs')) ms' vs' C' (.refl _) (fun x hx => ⟨F0 x (inA x (by rcases List.mem_append.mp hx with z | z <;> simp [z])), fun o => up x o (sep x hx).1⟩) (F0 a ha) upd_same
      (o.mono (.refl _) (fun _ _ _ z => z) _ _ _ fun x hx => ⟨(o.at _ _ _ x hx).1, fun u => up x u fun z => aC (z ▸ hx)⟩)
    have inN : ∀ x, x ∈ X ++ (a :: C') ++ Y → x ∈ C' ∨ (x ∈ fp i ∧ x ∉ C) := fun x hx => by
      simp only [List.mem_append, List.mem_cons] at hx
      rcases hx with (z | z | z) | z
      · exact .inr ⟨inA x (by simp [z]), (sep x (by simp [z])).2⟩
      · subst z
        exact .inr ⟨ha, nd3.1⟩
      · exact .inl z
      · exact .inr ⟨inA x (by simp [z]), (sep x (by simp [z])).2⟩
    have onN : ∀ x, Ond (env.put i m') (fun j => if j = i then X ++ (a :: C') ++ Y else fp j) x → x ∈ C' ∨ (Ond env fp x ∧ x ∉ C) := fun x ⟨j, y, hj, hx⟩ => by
      by_cases h : j = i
      · simp only [if_pos h] at hx
        rcases inN x hx with z | z
        · exact .inl z
        · exact .inr ⟨⟨i, m, hm, z.1⟩, z.2⟩
      · simp only [if_neg h] at hx
        rw [En.get_put hlt, if_neg h] at hj
        exact .inr ⟨⟨j, y, hj, hx⟩, fun z => h (ok.dj j i y m x hj hm hx (inA x (by simp [z])))⟩
    have ne' : ∀ {j y x}, j ≠ i → env.get j = some y → x ∈ fp j → x ≠ a ∧ x ∉ C' := fun {j y x} hj hy hx => by
      refine ⟨fun e => hj (ok.dj j i y m x hy hm hx (e ▸ ha)), fun z => ?_⟩
      rcases sC x z with w | w
      · exact hj (ok.dj j i y m x hy hm hx (inA x (by simp [w])))
      · exact w ⟨j, y, hy, hx⟩
    refine ⟨env.put i m', _, by unfold setE; simp only [hm, s1, Option.map_some], ⟨.refl _, fun x o e no _ => up x o (fun z => no (z ▸ ⟨i, m, hm, ha⟩)) e, fun x e => ?_, fun x z => .inl z, fun x z => ?_, ?_, fun x od u e => by rw [upd_ne fun z => by rw [z, c1] at e; cases e]; exact e⟩, onN⟩
    · by_cases h : x = a
      · subst h
        rw [upd_same] at e
        cases e
      · rw [upd_ne h] at e
        exact e
    · rcases onN x z with z | z
      · exact .inr (.inr z)
      · exact .inr (.inl z.1)
    · refine ⟨by unfold En.put; rw [List.length_set]; exact ok.len, fun x o e => ?_, fun j y hj => ?_, fun j y hj => ?_, fun j k y y' x hj hk hx hx' => ?_⟩
      · rw [upd_ne fun z => by rw [z, F0 a ha] at e; cases e]
        exact ok.sub _ _ e
      · rw [En.get_put hlt] at hj
        by_cases h : j = i
        · subst h
          rw [if_pos rfl] at hj
          cases hj
          refine ⟨w, hw, ?_⟩
          simp only [if_pos]
          exact s2
        · rw [if_neg h] at hj
          obtain ⟨w', z1, z2⟩ := ok.slot j y hj
          refine ⟨w', z1, ?_⟩
          simp only [if_neg h]
          exact z2.mono (.refl _) (fun _ _ _ z => z) _ _ _ fun x hx => ⟨(z2.at _ _ _ x hx).1, fun u => up x u (ne' h hj hx).1⟩
      · rw [En.get_put hlt] at hj
        by_cases h : j = i
        · simp only [if_pos h]
          have d1 : ∀ x ∈ C', x ∉ X ++ Y := fun x hx hz => by
            rcases sC x hx with w | w
            · exact (sep x hz).2 w
            · exact w ⟨i, m, hm, inA x (by rcases List.mem_append.mp hz with z | z <;> simp [z])⟩
          refine List.nodup_append.mpr ⟨List.nodup_append.mpr ⟨nd2.1, List.nodup_cons.mpr ⟨aC, n⟩, fun x hx y hy e => ?_⟩, nd1.2.1, fun x hx y hy e => ?_⟩
          · subst e
            rcases List.mem_cons.mp hy with z | z
            · exact (sep x (by simp [hx])).1 z
            · exact d1 x z (by simp [hx])
          · subst e
            simp only [List.mem_append, List.mem_cons] at hx
            rcases hx with z | z | z
            · exact nd1.2.2 x (by simp [z]) x hy rfl
            · exact (sep x (by simp [hy])).1 z
            · exact d1 x z (by simp [hy])
        · rw [if_neg h] at hj
          simp only [if_neg h]
          exact ok.nd j y hj
      · have cross : ∀ k y, k ≠ i → env.get k = some y → ∀ x, x ∈ X ++ (a :: C') ++ Y → x ∈ fp k → False := fun k y hk hy x h1 h2 => by
          rcases inN x h1 with z | z
          · exact (ne' hk hy h2).2 z
          · exact hk (ok.dj k i y m x hy hm h2 z.1)
        rw [En.get_put hlt] at hj hk
        by_cases hj' : j = i
        · simp only [if_pos hj'] at hx
          by_cases hk' : k = i
          · rw [hj', hk']
          · rw [if_neg hk'] at hk
            simp only [if_neg hk'] at hx'
            exact (cross k y' hk' hk x hx hx').elim
        · rw [if_neg hj'] at hj
          simp only [if_neg hj'] at hx
          by_cases hk' : k = i
          · simp only [if_pos hk'] at hx'
            exact (cross j y hj' hj x hx' hx).elim
          · rw [if_neg hk'] at hk
            simp only [if_neg hk'] at hx'
            exact ok.dj j k y y' x hj hk hx hx'
  · cases hpl
end
/-- a method that changes a list: its items and its arguments give the new items and the result -/
def MutS (K : PySem.W.Frag) (mu : List M → List M → Option (List M × M)) (r : V → List V → Hp → VK → Prop) : Prop :=
  ∀ (F H : Hp) (a : Addr) (vs : List V) (C : List Addr) (ms as : List M) (ws : List V) (B : List Addr) (ms' : List M) (res : M) (Q : VK), Same F H → H a = some (.lst vs) → OwnL K noBr F H ms vs C → OwnL K noBr F H as ws B → (C ++ B).Nodup → mu ms as = some (ms', res) →
    (∀ vs' C' v R, OwnL K noBr F H ms' vs' C' → Own K noBr F H res v R → (C' ++ R).Sublist (C ++ B) ∨ ((C' ++ R).Nodup ∧ ∀ x ∈ C' ++ R, x ∈ C ++ B) → Q v (upd H a (.lst vs'))) → r (.ref a) ws H Q
def stowA (k : Nat) (env : En) : List M → Option (List M × En)
  | [] => some ([], env)
  | [m] => match stow k env m with
    | some (n, e) => some ([n], e)
    | none => none
  | [.fz d, m] => match stow k env m with
    | some (n, e) => some ([.fz d, n], e)
    | none => none
  | _ => none
def isOl : Option M → Bool
  | some (.ol _) => true
  | _ => false
def xMut (k : Nat) (fo : En → Option M) (gs : En → Option (List M × En)) (mu : List M → List M → Option (List M × M)) : En → Option (M × En) := fun env => match fo env with
  | some (.bp i p) => match gs env with
    | some (as, e1) => if alv e1 (.bp i p) = true ∧ isOl (env.place i p) = true then (match stowA k e1 as with
      | some (bs, e2) => match e2.place i p with
        | some (.ol ms) => match mu ms bs with
          | some (ms', res) => match setE e2 i p (.ol ms') with
            | some e3 => some (res, e3)
            | none => none
          | none => none
        | _ => none
      | none => none) else none
    | none => none
  | _ => none
/-- the same, the arguments changing nothing -/
def xMutP (k : Nat) (fo : En → Option M) (fs : En → Option (List M)) (mu : List M → List M → Option (List M × M)) : En → Option (M × En) := fun env => match fo env with
  | some (.bp i p) => match fs env with
    | some as => if isOl (env.place i p) = true then (match stowA k env as with
      | some (bs, e2) => match e2.place i p with
        | some (.ol ms) => match mu ms bs with
          | some (ms', res) => match setE e2 i p (.ol ms') with
            | some e3 => some (res, e3)
            | none => none
          | none => none
        | _ => none
      | none => none) else none
    | none => none
  | _ => none
section
variable {K : PySem.W.Frag} {F H F' H' F1 H1 : Hp} {σ σ' : L2.St} {env env' env1 : En} {fp fp' fp1 : Nat → List Addr} {A B : List Addr}
theorem stow_goF {k : Nat} {m m' : M} {v : V} {env2 : En} (g : Go K [] σ env fp F H σ env1 fp1 F1 H1) (o : Own K (plc H1 σ env1) F1 H1 m v A) (n : A.Nodup) (a : ∀ a ∈ A, H a = none ∨ Ond env fp a) (b : ∀ a ∈ A, ¬ Ond env1 fp1 a) (e : stow k env1 m = some (m', env2)) :
    ∃ F2 fp2 A', Go K [] σ env fp F H σ env2 fp2 F2 H1 ∧ Own K noBr F2 H1 m' v A' ∧ A'.Nodup ∧ (∀ a ∈ A', H a = none ∨ Ond env fp a) ∧ (∀ a ∈ A', ¬ Ond env2 fp2 a) ∧ Same F1 F2 := by
  obtain ⟨F2, fp2, A', g2, o2, s2, k2⟩ := stow_ok g.ok o n b e
  exact ⟨F2, fp2, A', g.trans g2 a, o2, n.sublist s2, fun c hc => a c (s2.subset hc), fun c hc z => b c (s2.subset hc) (k2 c z), g2.fr⟩
theorem stowA_ok {k : Nat} {ms ms' : List M} {vs : List V} {env2 : En} (g : Go K [] σ env fp F H σ env1 fp1 F1 H1) (o : OwnL K (plc H1 σ env1) F1 H1 ms vs A) (n : A.Nodup) (a : ∀ a ∈ A, H a = none ∨ Ond env fp a) (b : ∀ a ∈ A, ¬ Ond env1 fp1 a) (e : stowA k env1 ms = some (ms', env2)) :
    ∃ F2 fp2 A', Go K [] σ env fp F H σ env2 fp2 F2 H1 ∧ OwnL K noBr F2 H1 ms' vs A' ∧ A'.Nodup ∧ (∀ a ∈ A', H a = none ∨ Ond env fp a) ∧ (∀ a ∈ A', ¬ Ond env2 fp2 a) := by
  unfold stowA at e
  split at e
  · cases e
    simp only [OwnL] at o
    obtain ⟨rfl, rfl⟩ := o
    exact ⟨F1, fp1, [], g, ownL_nil, .nil, (fun a z => by cases z), fun a z => by cases z⟩
  · rename_i m
    split at e
    · rename_i n' e' hs
      cases e
      obtain ⟨v, rfl, o1⟩ := ownL1 o
      obtain ⟨F2, fp2, A', g2, o2, n2, a2, b2⟩ := stow_go g o1 n a b hs
      refine ⟨F2, fp2, A', g2, ?_, n2, a2, b2⟩
      simp only [OwnL]
      exact ⟨v, [], A', [], rfl, by rw [List.append_nil], o2, rfl, rfl⟩
    · cases e
  · rename_i d m
    split at e
    · rename_i n' e' hs
      cases e
      obtain ⟨v, w, B, C, rfl, rfl, o1, o2⟩ := ownL2 o
      simp only [Own] at o1
      obtain ⟨rfl, r⟩ := o1
      rw [List.nil_append] at n a b
      obtain ⟨F2, fp2, A', g2, o3, n2, a2, b2, s12⟩ := stow_goF g o2 n a b hs
      refine ⟨F2, fp2, A', g2, ?_, n2, a2, b2⟩
      simp only [OwnL]
      exact ⟨v, [w], [], A', rfl, rfl, own_fz (Rep.mono s12 _ _ r), w, [], A', [], rfl, by rw [List.append_nil], o3, rfl, rfl⟩
    · cases e
  · cases e
/-- behind the receiver and the arguments: the change -/
theorem mut_fin {mu : List M → List M → Option (List M × M)} {r : V → List V → Hp → VK → Prop} {i : Nat} {p : List Pa} {bs ms ms' : List M} {ws : List V} {x : V} {res : M} {e2 e3 : En} {F2 : Hp} {fp2 : Nat → List Addr} {A' : List Addr} {Q : VK} (hm : MutS K mu r)
    (g2 : Go K [] σ env fp F H σ e2 fp2 F2 H1) (o2 : OwnL K noBr F2 H1 bs ws A') (n2 : A'.Nodup) (a2 : ∀ a ∈ A', H a = none ∨ Ond env fp a) (b2 : ∀ a ∈ A', ¬ Ond e2 fp2 a)
    (hx : ∃ w, σ[i]? = some (some w) ∧ ValP H1 w p x) (h2 : e2.place i p = some (.ol ms)) (h3 : mu ms bs = some (ms', res)) (h4 : setE e2 i p (.ol ms') = some e3)
    (q : ∀ v F' H' fp' A, Go K [] σ env fp F H σ e3 fp' F' H' → Own K (plc H' σ e3) F' H' res v A → A.Nodup → (∀ a ∈ A, H a = none ∨ Ond env fp a) → (∀ a ∈ A, ¬ Ond e3 fp' a) → Q v H') : r x ws H1 Q := by
  obtain ⟨w, hw, hv⟩ := hx
  have h2' := h2
  unfold En.place at h2
  split at h2
  · rename_i m hmi
    obtain ⟨w', k1, k2⟩ := g2.ok.slot i m hmi
    rw [hw] at k1
    cases k1
    obtain ⟨B0, hB, _⟩ := k2.path h2 hv
    simp only [Own] at hB
    obtain ⟨c, us, _, rfl, _, _, _, _⟩ := hB
    obtain ⟨C, vs, c1, c2, c3, c4, c5, c6, c7, c8⟩ := mut_ok g2.ok h2' ⟨w, hw, hv, _, h2'⟩
    have dCA : ∀ x ∈ C, x ∉ A' := fun x hx z => b2 x z (c6 x hx)
    have nd : (C ++ A').Nodup := List.nodup_append.mpr ⟨c5, n2, fun x hx y hy e => dCA x hx (e ▸ hy)⟩
    refine hm F2 H1 c vs C ms bs ws A' ms' res Q g2.ok.sub c1 c4 o2 nd h3 fun vs' C' v R o3 o4 hs => ?_
    have hs' : (C' ++ R).Nodup ∧ ∀ x ∈ C' ++ R, x ∈ C ++ A' := by
      rcases hs with z | z
      · exact ⟨nd.sublist z, fun x hx => z.subset hx⟩
      · exact z
    have nd' := List.nodup_append.mp hs'.1
    obtain ⟨e4, fp4, s1, s2, s3⟩ := c8 ms' vs' C' o3 nd'.1 fun x hx => (List.mem_append.mp (hs'.2 x (List.mem_append_left _ hx))).imp id fun z => b2 x z
    rw [h4] at s1
    cases s1
    have tC : ∀ x ∈ C', H x = none ∨ Ond env fp x := fun x hx => by
      rcases List.mem_append.mp (hs'.2 x (List.mem_append_left _ hx)) with z | z
      · exact g2.ond (c6 x z)
      · exact a2 x z
    have rne : ∀ x ∈ R, x ≠ c := fun x hx e => by
      subst e
      rcases List.mem_append.mp (hs'.2 x (List.mem_append_right _ hx)) with z | z
      · exact c7 z
      · exact b2 x z c3
    refine q v F2 _ fp4 R (g2.trans s2 tC) (o4.mono (.refl _) (fun _ _ _ z => z.elim) _ _ _ fun x hx => ⟨(o4.at _ _ _ x hx).1, fun u e => by rw [upd_ne (rne x hx)]; exact e⟩) nd'.2.1 (fun x hx => ?_) fun x hx z => ?_
    · rcases List.mem_append.mp (hs'.2 x (List.mem_append_right _ hx)) with z | z
      · exact g2.ond (c6 x z)
      · exact a2 x z
    · rcases s3 x z with z | z
      · exact nd'.2.2 x z x hx rfl
      · rcases List.mem_append.mp (hs'.2 x (List.mem_append_right _ hx)) with w | w
        · exact z.2 w
        · exact b2 x w z.1
  · cases h2
theorem mut_end {k : Nat} {mu : List M → List M → Option (List M × M)} {r : V → List V → Hp → VK → Prop} {i : Nat} {p : List Pa} {as bs ms ms' : List M} {ws : List V} {x : V} {res : M} {e2 e3 : En} {Q : VK} (hm : MutS K mu r)
    (g : Go K [] σ env fp F H σ env1 fp1 F1 H1) (o : OwnL K (plc H1 σ env1) F1 H1 as ws A) (n : A.Nodup) (a : ∀ a ∈ A, H a = none ∨ Ond env fp a) (b : ∀ a ∈ A, ¬ Ond env1 fp1 a)
    (hx : ∃ w, σ[i]? = some (some w) ∧ ValP H1 w p x) (h1 : stowA k env1 as = some (bs, e2)) (h2 : e2.place i p = some (.ol ms)) (h3 : mu ms bs = some (ms', res)) (h4 : setE e2 i p (.ol ms') = some e3)
    (q : ∀ v F' H' fp' A, Go K [] σ env fp F H σ e3 fp' F' H' → Own K (plc H' σ e3) F' H' res v A → A.Nodup → (∀ a ∈ A, H a = none ∨ Ond env fp a) → (∀ a ∈ A, ¬ Ond e3 fp' a) → Q v H') : r x ws H1 Q := by
  obtain ⟨F2, fp2, A', g2, o2, n2, a2, b2⟩ := stowA_ok g o n a b h1
  exact mut_fin hm g2 o2 n2 a2 b2 hx h2 h3 h4 q
theorem isOl_at (ok : EnvOk K F H σ env fp) {i : Nat} {p : List Pa} {w x : V} (hw : σ[i]? = some (some w)) (hv : ValP H w p x) (h : isOl (env.place i p) = true) : ∃ a xs, x = .ref a ∧ H a = some (.lst xs) := by
  cases e : env.place i p with
  | none => rw [e] at h; cases h
  | some n =>
    rw [e] at h
    cases n with
    | ol ms =>
      unfold En.place at e
      split at e
      · rename_i m hm
        obtain ⟨w', k1, k2⟩ := ok.slot i m hm
        rw [hw] at k1
        cases k1
        obtain ⟨B0, hB, _⟩ := k2.path e hv
        simp only [Own] at hB
        obtain ⟨c, us, _, rfl, _, _, h1, _⟩ := hB
        exact ⟨c, us, rfl, h1⟩
      · cases e
    | fz _ => cases h
    | bp _ _ => cases h
    | ot _ => cases h
    | oi _ _ => cases h
    | od _ _ => cases h
    | odt _ => cases h
theorem tX.mutP {k : Nat} {fo : En → Option M} {fs : En → Option (List M)} {mu : List M → List M → Option (List M × M)} {r : V → List V → Hp → VK → Prop} {Q : VK} (hm : MutS K mu r) (h : tX K (xMutP k fo fs mu) σ H Q) :
    tD K fo σ H fun x H1 => (∃ a xs, x = .ref a ∧ H1 a = some (.lst xs)) ∧ tDA K fs σ H1 fun ws H2 => r x ws H2 Q := by
  obtain ⟨env, m, env', F, fp, e, ok, q⟩ := h
  unfold xMutP at e
  split at e
  · rename_i i p h1
    split at e
    · rename_i as h2
      split at e
      · rename_i hol
        split at e
        · rename_i bs e2 h3
          split at e
          · rename_i ms h4
            split at e
            · rename_i ms' res h5
              split at e
              · rename_i e3 h6
                cases e
                refine ⟨env, _, F, fp, h1, ok, fun x F1 H1 A1 s1 o1 n1 a1 => ?_⟩
                simp only [Own] at o1
                obtain ⟨rfl, w, hw, hv, mi, hmi⟩ := o1
                have ok1 := ok.step s1 fun a z => by cases z
                refine ⟨isOl_at ok1 hw hv hol, env, as, F1, fp, h2, ok1, fun ws F2 H2 A2 s2 o2 n2 a2 => ?_⟩
                have s12 := s1.trans s2 fun a z => by cases z
                refine mut_end hm (s12.go ok fun a z => by cases z) o2 n2 (fun c hc => .inl (s1.stay c (a2 c hc))) (fun c hc z => ?_) ⟨w, hw, hv.mono s2.hp⟩ h3 h4 h5 h6 q
                obtain ⟨_, o, z'⟩ := ok1.at z
                rw [a2 c hc] at z'
                cases z'
              · cases e
            · cases e
          · cases e
        · cases e
      · cases e
    · cases e
  · cases e
end
def mAppend : List M → List M → Option (List M × M) := fun ms as => match as with
  | [m] => if ms.length < sizeLine then some (ms ++ [m], .fz .non) else none
  | _ => none
def mExtend : List M → List M → Option (List M × M) := fun ms as => match as with
  | [.fz (.lst ds)] => if ms.length + ds.length ≤ sizeLine then some (ms ++ ds.map .fz, .fz .non) else none
  | _ => none
def mClear : List M → List M → Option (List M × M) := fun _ as => match as with
  | [] => some ([], .fz .non)
  | _ => none
section
variable {K : PySem.W.Frag}
theorem m_append : MutS K mAppend rAppend := by
  intro F H a vs C ms as ws B ms' res Q s ha hms has nd e q
  unfold mAppend at e
  split at e
  · rename_i m
    split at e
    · rename_i hl
      cases e
      obtain ⟨v, rfl, o⟩ := ownL1 has
      exact ⟨a, vs, v, rfl, rfl, ha, by rw [← hms.len]; exact hl, q _ (C ++ B) .non [] (hms.append has) (own_fz (by simp only [Rep])) (.inl (by rw [List.append_nil]; exact List.Sublist.refl _))⟩
    · cases e
  · cases e
end
section
variable {X : Cx} {o e : Expr} {es : List Expr} {fo : En → Option M} {gs : En → Option (List M × En)} {fs : En → Option (List M)} {k : Nat} {mu : List M → List M → Option (List M × M)} {r : V → List V → Hp → VK → Prop} {id : String} {name : Str} {pos apos : Pos}
theorem tyL {K : PySem.W.Frag} {x : V} {H : Hp} (h : ∃ a xs, x = .ref a ∧ H a = some (.lst xs)) : tyV K "list" x H := by
  obtain ⟨a, xs, rfl, h⟩ := h
  exact .inl ⟨rfl, _, .inl (.inl h)⟩
theorem px_mutP (k : Nat) (slot : Slot "list" name id) (hty : typeOf (.builtin id) = pure (.type "method_descriptor")) (hm : MtM X id r) (mS : MutS X.K mu r) (ho : PD X o fo) (ha : PDA X (e :: es) fs)
    (hbase : attributeBase o name X.env (eval o X.env) = eval o X.env := by rfl)
    (hfew : ((backTo pos (starEach (e :: es) X.env)).all (fun x => !x.1) && (backToKw pos (keywordEach [] X.env)).all (fun x => x.1.isSome)
      && decide ((e :: es).length + ([] : List Keyword).length + (if ([] : List Keyword).isEmpty then 0 else 1) < 30)) = true := by rfl)
    (hline : (apos.endLine == pos.line) = true := by rfl) (hs : starEach (e :: es) X.env = (false, eval e X.env) :: starEach es X.env := by rfl) (hplain : (backTo pos (starEach es X.env)).any (·.1) = false := by rfl) :
    PX X (.Call (.Attribute o name apos) (e :: es) [] pos) (xMutP k fo fs mu) :=
  PE.imp (pe_bm PySem.F.plainAttrs_list slot hty hm ho ha hbase hfew hline hs hplain) fun σ H Q q => (tX.mutP mS q).mono fun v H1 ⟨h1, h2⟩ => ⟨tyL h1, h2⟩
end
def mSet : List M → List M → Option (List M × M) := fun ms as => match as with
  | [.fz (.int i), m] => match ixN ms.length i with
    | some j => some (ms.set j m, .fz .non)
    | none => none
  | _ => none
section
variable {K : PySem.W.Frag} {F H F' H' F1 H1 : Hp} {σ σ' : L2.St} {env env' env1 : En} {fp fp' fp1 : Nat → List Addr} {A B : List Addr}
theorem OwnL.put {br : Nat → List Pa → V → Prop} : ∀ {ms : List M} {vs : List V} {A : List Addr} {k : Nat} {m : M} {v : V} {B : List Addr}, OwnL K br F H ms vs A → k < ms.length → Own K br F H m v B → ∃ X Y C, A = X ++ C ++ Y ∧ OwnL K br F H (ms.set k m) (vs.set k v) (X ++ B ++ Y)
  | [], vs, A, k, m, v, B, h, e, o => by cases e
  | n :: ms, vs, A, 0, m, v, B, h, e, o => by
    simp only [OwnL] at h
    obtain ⟨w, r, D, C, rfl, rfl, q, q2⟩ := h
    refine ⟨[], C, D, rfl, ?_⟩
    simp only [List.set_cons_zero, OwnL]
    exact ⟨v, r, B, C, rfl, rfl, o, q2⟩
  | n :: ms, vs, A, k + 1, m, v, B, h, e, o => by
    simp only [OwnL] at h
    obtain ⟨w, r, D, C, rfl, rfl, q, q2⟩ := h
    obtain ⟨X, Y, E, rfl, e1⟩ := OwnL.put (k := k) q2 (by simpa using e) o
    refine ⟨D ++ X, Y, E, by simp only [List.append_assoc], ?_⟩
    simp only [List.set_cons_succ, OwnL]
    exact ⟨w, r.set k v, D, X ++ B ++ Y, rfl, by simp only [List.append_assoc], q, e1⟩
/-- o[i] = e: by a rule on values whose arguments are the index and the value -/
theorem m_set : MutS K mSet (fun x ws H Q => ∃ i v, ws = [i, v] ∧ rSetL x i v H fun H' => Q .non H') := by
  intro F H a vs C ms as ws B ms' res Q s ha hms has nd e q
  unfold mSet at e
  split at e
  · rename_i i m
    split at e
    · rename_i j hj
      cases e
      obtain ⟨x, v, B1, B2, rfl, rfl, o1, o2⟩ := ownL2 has
      simp only [Own, Rep] at o1
      obtain ⟨rfl, rfl⟩ := o1
      rw [List.nil_append] at nd q
      have hlt : j < ms.length := (ixN_seq hj).2.1
      obtain ⟨X, Y, E, rfl, o3⟩ := hms.put hlt o2
      refine ⟨_, _, rfl, a, vs, i, j, rfl, rfl, ha, by rw [← hms.len]; exact hj, q _ (X ++ B2 ++ Y) .non [] o3 (own_fz (by simp only [Rep])) (.inr ?_)⟩
      have h1 := List.nodup_append.mp nd
      have h2 := List.nodup_append.mp h1.1
      have h3 := List.nodup_append.mp h2.1
      rw [List.append_nil]
      refine ⟨List.nodup_append.mpr ⟨List.nodup_append.mpr ⟨h3.1, h1.2.1, fun x hx y hy => h1.2.2 x (by simp [hx]) y hy⟩, h2.2.1, fun x hx y hy e => ?_⟩, fun x hx => ?_⟩
      · subst e
        rcases List.mem_append.mp hx with z | z
        · exact h2.2.2 x (by simp [z]) x hy rfl
        · exact h1.2.2 x (by simp [hy]) x z rfl
      · simp only [List.mem_append] at hx ⊢
        rcases hx with (z | z) | z
        · exact .inl (.inl (.inl z))
        · exact .inr z
        · exact .inl (.inr z)
    · cases e
  · cases e
end
/-- o[i] = e -/
def sSet (k : Nat) (fo fi : En → Option M) (g : En → Option (M × En)) : En → Option Fl := fun env => match g env with
  | some (m, e1) => match stow k e1 m with
    | some (m', e2) => match fo e2, fi e2 with
      | some (.bp i p), some (.fz (.int j)) => match e2.place i p with
        | some (.ol ms) => match mSet ms [.fz (.int j), m'] with
          | some (ms', _) => match setE e2 i p (.ol ms') with
            | some e3 => some (.nx e3)
            | none => none
          | none => none
        | _ => none
      | _, _ => none
    | none => none
  | none => none
/-- o[i] op= e, of ints -/
def sAugI (op : Int → Int → Int) (fo fi fe : En → Option M) : En → Option Fl := fun env => match fo env, fi env, fe env with
  | some (.bp i p), some (.fz (.int j)), some (.fz (.int b)) => match env.place i p with
    | some (.ol ms) => match atI ms j with
      | some (.fz (.int a)) => match mSet ms [.fz (.int j), .fz (.int (op a b))] with
        | some (ms', _) => match setE env i p (.ol ms') with
          | some e3 => some (.nx e3)
          | none => none
        | none => none
      | _ => none
    | _ => none
  | _, _, _ => none
/-- name op= e, of ints -/
def sAugN (lk : Nat → Bool) (op : Int → Int → Int) (i : Nat) (g : En → Option (M × En)) : En → Option Fl := fun env => match env.get i with
  | some (.fz (.int a)) => match g env with
    | some (.fz (.int b), e1) => if lk i = false ∧ i < e1.length then some (.nx (e1.put i (.fz (.int (op a b))))) else none
    | _ => none
  | _ => none
section
variable {X : Cx} {lk : Nat → Bool} {o ix e : Expr} {fo fi fe : En → Option M} {g : En → Option (M × En)} {k : Nat} {pos tpos : Pos}
theorem pds_setI (k : Nat) (he : PX X e g) (ho : PD X o fo) (hi : PD X ix fi) (hs : swapsWithSole [.Subscript o ix tpos] e pos.line X.env = pure false := by rfl) (hw : swappedStores [.Subscript o ix tpos] e X.env = pure none := by rfl)
    (h1 : (assignEach [.Subscript o ix tpos] X.env).map (·.2) = [assign (.Subscript o ix tpos) X.env] := by rfl)
    (ha : ∀ v, assign (.Subscript o ix tpos) X.env v = (do
      let ov ← holding [v] (eval o X.env)
      let iv ← holding [v, ov] (eval ix X.env)
      standAt tpos
      holding [v, ov, iv] (setItem ov iv v)
      release [v, ov, iv] []) := by intro _; rfl) : PDS X lk (.Assign [.Subscript o ix tpos] e pos) (sSet k fo fi g) := by
  refine PS.imp (ps_asg he (pg_sub ho hi set_list ha) hs hw h1) fun D σ H h => ?_
  obtain ⟨env, r, F, fp, e, ok, q⟩ := h
  unfold sSet at e
  split at e
  · rename_i m e1 h1
    split at e
    · rename_i m' e2 h2
      split at e
      · rename_i i p j h3 h4
        split at e
        · rename_i ms h5
          split at e
          · rename_i ms' rr h6
            split at e
            · rename_i e3 h7
              cases e
              refine ⟨env, m, e1, F, fp, h1, ok, fun v F1 H1 fp1 A g1 o1 n1 a1 b1 => ?_⟩
              obtain ⟨F2, fp2, A', g2, o2, n2, a2, b2⟩ := stow_go g1 o1 n1 a1 b1 h2
              refine ⟨e2, _, F2, fp2, h3, g2.ok, fun x F3 H3 A3 s3 o3 n3 a3 => ?_⟩
              simp only [Own] at o3
              obtain ⟨rfl, w, hw, hv, _⟩ := o3
              refine ⟨e2, _, F3, fp2, h4, g2.ok.step s3 (fun a z => by cases z), fun y F4 H4 A4 s4 o4 n4 a4 => ?_⟩
              simp only [Own, Rep] at o4
              obtain ⟨rfl, rfl⟩ := o4
              have s34 := s3.trans s4 fun a z => by cases z
              have g4 := g2.trans (s34.go g2.ok fun a z => by cases z) (fun a z => by cases z)
              have noA : ∀ c ∈ A', ¬ Ond e2 fp2 c := b2
              have z1 : Own X.K noBr F4 H4 m' v A' := o2.mono s34.fr (fun _ _ _ z => z) _ _ _ fun c hc => by
                obtain ⟨z1, u, z2⟩ := o2.at _ _ _ c hc
                refine ⟨?_, s34.hp c⟩
                cases z : F4 c with
                | none => rfl
                | some u' =>
                  rcases s34.nw c (by rw [z]; simp) with w | w | w
                  · exact absurd z1 w
                  · rw [z2] at w
                    cases w
                  · cases w
              have o2' : OwnL X.K noBr F4 H4 [.fz (.int j), m'] [.int j, v] A' := by
                simp only [OwnL]
                exact ⟨.int j, [v], [], A', rfl, rfl, own_fz (by simp only [Rep]), v, [], A', [], rfl, by rw [List.append_nil], z1, rfl, rfl⟩
              have := mut_fin (r := fun x ws H Q => ∃ i v, ws = [i, v] ∧ rSetL x i v H fun H' => Q .non H') (Q := fun _ H' => D.nx σ H') m_set g4 o2' n2 a2 b2 ⟨w, hw, hv.mono s4.hp⟩ h5 h6 h7 fun v' F' H' fp' A g o n a b => q σ F' H' fp' g fun _ _ => rfl
              obtain ⟨_, _, ee, this⟩ := this
              cases ee
              exact this
            · cases e
          · cases e
        · cases e
      · cases e
    · cases e
  · cases e
end
end T2
end
section
set_option Elab.async false
set_option linter.all false
set_option maxRecDepth 100000
namespace T2
open PySem PySem.Spec PyProof.Rows L2
section
variable {K : PySem.W.Frag}
def gLen : List D → Option D
  | [.lst ds] => some (.int ds.length)
  | [.tup ds] => some (.int ds.length)
  | [.scr ns] => some (.int ns.length)
  | [.str x] => if decide (x.length ≤ sizeLine) then some (.int x.length) else none
  | _ => none
abbrev rLen (K : PySem.W.Frag) : List V → Hp → VK → Prop := fun xs H Q => (∃ p ys, xs = [.ref p] ∧ (SqL K H p ys ∨ SqT K H p ys) ∧ Q (.int ys.length) H) ∨ (∃ z, xs = [.str z] ∧ z.length ≤ sizeLine ∧ Q (.int z.length) H)
theorem call_len' {X : Cx} : CallR X (.builtin "len") (rLen X.K) := call_len_seq.or call_len_str
theorem s_len : OpS K (sop gLen) (rLen K) := scalS fun H ds vs d Q h e hs q => by
  unfold gLen at e
  split at e
  · cases e
    obtain ⟨v, rfl, q1⟩ := repL1 h
    simp only [Rep] at q1
    obtain ⟨a, ys, rfl, h1, h2⟩ := q1
    exact .inl ⟨a, ys, rfl, .inl (SqL.of h1), by rw [← h2.len]; exact q⟩
  · cases e
    obtain ⟨v, rfl, q1⟩ := repL1 h
    simp only [Rep] at q1
    obtain ⟨a, ys, rfl, h1, h2⟩ := q1
    exact .inl ⟨a, ys, rfl, .inr (SqT.of h1), by rw [← h2.len]; exact q⟩
  · cases e
    obtain ⟨v, rfl, q1⟩ := repL1 h
    simp only [Rep] at q1
    obtain ⟨a, rfl, h1⟩ := q1
    exact .inl ⟨a, _, rfl, .inl h1, by rw [List.length_map]; exact q⟩
  · split at e
    · rename_i hl
      cases e
      obtain ⟨v, rfl, q1⟩ := repL1 h
      simp only [Rep] at q1
      exact .inr ⟨_, by rw [q1], of_decide_eq_true hl, q⟩
    · cases e
  · cases e
def intsOf : List D → Option (List Int)
  | [] => some []
  | .int i :: ds => match intsOf ds with
    | some ns => some (i :: ns)
    | none => none
  | _ :: _ => none
def gSum : List D → Option D
  | [.lst ds] => match intsOf ds with
    | some ns => some (.int ns.sum)
    | none => none
  | _ => none
/-- the greatest, the least of a list -/
def lMax : List Int → Option Int
  | [] => none
  | n :: ns => some (ns.foldl (fun a b => if b > a then b else a) n)
def lMin : List Int → Option Int
  | [] => none
  | n :: ns => some (ns.foldl (fun a b => if b < a then b else a) n)
def gMax : List D → Option D
  | [.lst ds] => match intsOf ds with
    | some ns => (lMax ns).map .int
    | none => none
  | _ => none
def gMin : List D → Option D
  | [.lst ds] => match intsOf ds with
    | some ns => (lMin ns).map .int
    | none => none
  | _ => none
def gAbs : List D → Option D
  | [.int i] => some (.int (if i < 0 then -i else i))
  | _ => none
theorem s_abs : OpS K (sop gAbs) (fun xs H Q => ∃ i, xs = [.int i] ∧ Q (.int (if i < 0 then -i else i)) H) := scalS fun H ds vs d Q h e hs q => by
  unfold gAbs at e
  split at e
  · cases e
    obtain ⟨v, rfl, q1⟩ := repL1 h
    simp only [Rep] at q1
    exact ⟨_, by rw [q1], q⟩
  · cases e
def gInt : List D → Option D
  | [.int i] => some (.int i)
  | [.bl k] => some (.int (if k then 1 else 0))
  | _ => none
theorem s_int : OpS K (sop gInt) (fun xs H Q => (∃ i, xs = [.int i] ∧ Q (.int i) H) ∨ ∃ k, xs = [.bl k] ∧ Q (.int (if k then 1 else 0)) H) := scalS fun H ds vs d Q h e hs q => by
  unfold gInt at e
  split at e
  · cases e
    obtain ⟨v, rfl, q1⟩ := repL1 h
    simp only [Rep] at q1
    exact .inl ⟨_, by rw [q1], q⟩
  · cases e
    obtain ⟨v, rfl, q1⟩ := repL1 h
    simp only [Rep] at q1
    exact .inr ⟨_, by rw [q1], q⟩
  · cases e
def gMax2 := gII (fun _ _ => true) fun i j => if j > i then j else i
def gMin2 := gII (fun _ _ => true) fun i j => if j < i then j else i
def oMax := oOr (sop gMax2) (sop gMax)
def oMin := oOr (sop gMin2) (sop gMin)
/-- list(x) -/
def oListOf : En → List M → Option M := fun env ms => match ms with
  | [.fz (.scr ns)] => some (.ol (ns.map fun n => .fz (.int n)))
  | [m] => match elems env m with
    | some (_, xs) => some (.ol xs)
    | none => none
  | _ => none
theorem map_fz_int (ns : List Int) : (ns.map fun n => M.fz (.int n)) = (ns.map D.int).map M.fz := by rw [List.map_map]; rfl
end
section
variable {X : Cx} {a b : Expr} {f g : En → Option M} {p pos rp rpos : Pos}
theorem PRg.imp {e : Expr} {t u : L2.St → Hp → (Int → Int → Hp → Prop) → Prop} (h : PRg X e t) (i : ∀ σ H R, u σ H R → t σ H R) : PRg X e u := fun pins s σ H Q I q => h pins s σ H Q I (i _ _ _ q)
end
def tyN : D → Option String
  | .non => some "NoneType"
  | .bl _ => some "bool"
  | .int _ => some "int"
  | .str _ => some "str"
  | .lst _ => some "list"
  | .tup _ => some "tuple"
  | _ => none
/-- isinstance(x, T) -/
def oIsi (kit : String → Option Bool) (f : En → Option M) : En → Option M := fun env => match f env with
  | some m => match dat env m with
    | some d => match tyN d with
      | some n => match kit n with
        | some b => some (.fz (.bl b))
        | none => none
      | none => none
    | none => none
  | none => none
def kitT (T : String) : String → Option Bool := fun n => if n = T then some true else if T = "int" ∧ n = "bool" then some true else if n ∈ ["NoneType", "bool", "int", "str", "list", "tuple"] ∧ T ∈ ["bool", "int", "str", "list", "tuple"] then some false else none
def enD : Nat → List D → List D
  | _, [] => []
  | k, d :: ds => .tup [.int (k : Nat), d] :: enD (k + 1) ds
def zipD : List D → List D → List D
  | a :: as, b :: bs => .tup [a, b] :: zipD as bs
  | _, _ => []
theorem enD_get : ∀ {ds : List D} {k i : Nat} {d : D}, (enD k ds)[i]? = some d → ∃ e, ds[i]? = some e ∧ d = .tup [.int ((k + i : Nat) : Int), e]
  | [], k, i, d, h => by cases h
  | e :: ds, k, 0, d, h => by
    cases h
    exact ⟨e, rfl, rfl⟩
  | e :: ds, k, i + 1, d, h => by
    obtain ⟨e', h1, h2⟩ := enD_get (ds := ds) (k := k + 1) (i := i) (by simpa [enD] using h)
    exact ⟨e', by simpa using h1, by rw [h2, Nat.add_assoc, Nat.add_comm 1 i]⟩
theorem enD_len : ∀ (ds : List D) (k : Nat), (enD k ds).length = ds.length
  | [], k => rfl
  | e :: ds, k => by simp only [enD, List.length_cons, enD_len ds]
section
variable {K : PySem.W.Frag} {F H G : Hp}
/-- a new frozen tuple -/
theorem step_tup {F1 H1 : Hp} {T : Addr} {ds : List D} {vs : List V} (s2 : Same F1 H1) (hT : H1 T = none) (r : RepL K F1 ds vs) : Step [] F1 H1 (upd F1 T (.tup vs)) (upd H1 T (.tup vs)) ∧ Rep K (upd F1 T (.tup vs)) (.tup ds) (.ref T) := by
  have fT : F1 T = none := s2.free hT
  have sF : Same F1 (upd F1 T (.tup vs)) := fun b o e => by rw [upd_ne (ne_of_none e fT)]; exact e
  refine ⟨.mk' sF (fun b o e => by rw [upd_ne (ne_of_none e hT)]; exact e) (fun b o e => ?_) fun a z => ?_, ?_⟩
  · by_cases hb : b = T
    · subst hb
      rw [upd_same] at e ⊢
      exact e
    · rw [upd_ne hb] at e ⊢
      exact s2 _ _ e
  · by_cases hb : a = T
    · subst hb
      exact .inr (.inl hT)
    · rw [upd_ne hb] at z
      exact .inl z
  · simp only [Rep]
    exact ⟨T, vs, rfl, upd_same, RepL.mono sF _ _ r⟩
theorem it_enum {a : Addr} {vs : List V} {ds : List D} (h : SqL K G a vs) (r : RepL K F ds vs) : ItOk K (Ite K a) F G (enD 0 ds) := by
  refine ⟨fun i F1 H1 d s1 sg s2 hd => ?_, fun i F1 H1 s1 sg s2 hl => ⟨vs, sg.seq h, by rw [enD_len] at hl; rw [← r.len]; exact hl⟩⟩
  obtain ⟨e, he, rfl⟩ := enD_get hd
  have q : SqL K H1 a vs := sg.seq h
  obtain ⟨v, hv, rv⟩ := r.get he
  refine ⟨⟨vs, v, q, hv⟩, fun x H2 ⟨T, y, e1, hT, e2, e3⟩ => ?_⟩
  subst e1 e2
  have e4 := e3 vs q
  rw [hv] at e4
  cases e4
  obtain ⟨z1, z2⟩ := step_tup (ds := [.int ((0 + i : Nat) : Int), e]) (vs := [.int (i : Nat), v]) s2 hT (by
    simp only [RepL, Rep]
    exact ⟨_, _, rfl, by rw [Nat.zero_add], v, [], rfl, Rep.mono s1 _ _ rv, rfl⟩)
  exact ⟨_, z1, z2⟩
end
def lstD (d : D) : Option (List D) := if isLst d then itemsD d else none
/-- all results freeze -/
def frzX (gs : En → Option (List M × En)) : En → Option (List D × En) := fun env => match gs env with
  | some (ms, e1) => match dats e1 ms, frS (slotsL ms) e1 with
    | some ds, some e2 => some (ds, e2)
    | _, _ => none
  | none => none
def itEnX (gs : En → Option (List M × En)) : En → Option (List D × En) := fun env => match frzX gs env with
  | some ([d], e2) => match lstD d with
    | some ds => some (enD 0 ds, e2)
    | none => none
  | _ => none
def itemsL (env : En) : List M → Option (List D)
  | [] => some []
  | m :: ms => match items env m, itemsL env ms with
    | some d, some ds => some (d :: ds)
    | _, _ => none
def itEnP (fs : En → Option (List M)) : En → Option (List D) := fun env => match fs env with
  | some ms => match itemsL env ms with
    | some [d] => match lstD d with
      | some ds => some (enD 0 ds)
      | none => none
    | _ => none
  | none => none
def itZipP (fs : En → Option (List M)) : En → Option (List D) := fun env => match fs env with
  | some ms => match itemsL env ms with
    | some [d, d'] => match lstD d, lstD d' with
      | some ds, some es => some (zipD ds es)
      | _, _ => none
    | _ => none
  | none => none
section
variable {K : PySem.W.Frag} {F H F' H' : Hp} {σ : L2.St} {env : En} {fp : Nat → List Addr} {A : List Addr}
theorem lstD_ok {d : D} {v : V} {ds : List D} (s : Same F H) (r : Rep K F d v) (e : lstD d = some ds) : ∃ p vs, v = .ref p ∧ SqL K F p vs ∧ RepL K F ds vs := by
  unfold lstD at e
  split at e
  · rename_i hb
    cases d with
    | lst xs =>
      cases e
      simp only [Rep] at r
      obtain ⟨a, vs, rfl, h1, h2⟩ := r
      exact ⟨a, vs, rfl, SqL.of h1, h2⟩
    | scr ns =>
      cases e
      simp only [Rep] at r
      obtain ⟨a, rfl, h1⟩ := r
      exact ⟨a, _, rfl, h1, repL_ints ns⟩
    | non => cases hb
    | bl _ => cases hb
    | int _ => cases hb
    | str _ => cases hb
    | tup _ => cases hb
    | ins _ _ => cases hb
    | dic _ _ => cases hb
    | any => cases hb
    | exc _ _ _ => cases hb
  · cases e
theorem frzX_ok {gs : En → Option (List M × En)} {R : List V → Hp → Prop} {f : List D → Option (List D)} (h : ∃ env ds ds' env' F fp, frzX gs env = some (ds, env') ∧ f ds = some ds' ∧ EnvOk K F H σ env fp ∧ ∀ vs F' H' fp', Go K [] σ env fp F H σ env' fp' F' H' → RepL K F' ds vs → R vs H') : tXA K gs σ H R := by
  obtain ⟨env, ds, ds', env', F, fp, e, _, ok, q⟩ := h
  unfold frzX at e
  split at e
  · rename_i ms e1 h1
    split at e
    · rename_i ds' e2 h2 h3
      cases e
      refine ⟨env, ms, e1, F, fp, h1, ok, fun vs F1 H1 fp1 A g o n a b => ?_⟩
      obtain ⟨F2, fp2, g2, r, _⟩ := frL_ok g.ok o b h2 h3
      exact q vs F2 H1 fp2 (g.trans g2 a) r
    · cases e
  · cases e
end
section
variable {X : Cx} {e e2 : Expr} {gs : En → Option (List M × En)} {fs : En → Option (List M)} {p pos tpos : Pos} {elts : List Expr} {kk : Nat}
theorem pdi_enum (hg : Gl X "enumerate") (hm : X.mg "enumerate" = none) (ha : PXA X [e] gs) (hs : starEach [e] X.env = [(false, eval e X.env)] := by rfl) : PDI X (.Tuple elts kk tpos) (.Call (.Name "enumerate" p) [e] [] pos) (itEnX gs) :=
  PI.imp (pi_enum hg hm ha hs) fun σ H R h => by
    obtain ⟨env, ds, env', F, fp, e, ok, q⟩ := h
    unfold itEnX at e
    split at e
    · rename_i d e2 h1
      split at e
      · rename_i ds' h2
        cases e
        refine frzX_ok (f := fun _ => some []) ⟨env, [d], [], env', F, fp, h1, rfl, ok, fun vs F' H' fp' g r => ?_⟩
        obtain ⟨v, rfl, r1⟩ := repL1 r
        obtain ⟨p, us, rfl, r2, r3⟩ := lstD_ok g.ok.sub r1 h2
        exact ⟨p, us, rfl, g.ok.sub.seq r2, q _ F' H' fp' g (it_enum r2 r3)⟩
      · cases e
    · cases e
end
end T2
end
section
set_option Elab.async false
set_option linter.all false
set_option maxRecDepth 100000
namespace T2
open PySem PySem.Spec PyProof.Rows L2
def oRep : En → List M → Option M := fun env ms => match ms with
  | [m, .fz (.int k)] => match elems env m with
    | some (true, xs) => match allFz xs with
      | some ds => if decide (-(2 ^ 63) ≤ k ∧ k < 2 ^ 63 ∧ ds.length * k.toNat ≤ sizeLine) then some (.ol ((List.replicate k.toNat ds).flatten.map .fz)) else none
      | none => none
    | _ => none
  | _ => none
theorem repL_append {K : PySem.W.Frag} {F : Hp} : ∀ {as bs : List D} {vs ws : List V}, RepL K F as vs → RepL K F bs ws → RepL K F (as ++ bs) (vs ++ ws)
  | [], bs, vs, ws, h, h' => by
    simp only [RepL] at h
    subst h
    exact h'
  | a :: as, bs, vs, ws, h, h' => by
    simp only [RepL] at h
    obtain ⟨v, r, rfl, q, q2⟩ := h
    simp only [List.cons_append, RepL]
    exact ⟨v, r ++ ws, rfl, q, repL_append q2 h'⟩
theorem repL_rep {K : PySem.W.Frag} {F : Hp} {ds : List D} {vs : List V} (h : RepL K F ds vs) : ∀ k : Nat, RepL K F (List.replicate k ds).flatten (List.replicate k vs).flatten
  | 0 => by simp only [List.replicate_zero, List.flatten_nil, RepL]
  | k + 1 => by
    simp only [List.replicate_succ, List.flatten_cons]
    exact repL_append h (repL_rep h k)
section
variable {K : PySem.W.Frag}
theorem s_rep : OpS K oRep (r2L rRep) := by
  intro σ env F H fp ms vs A m Q ok hO hn dj e q
  unfold oRep at e
  split at e
  · rename_i x k
    split at e
    · rename_i xs hx
      split at e
      · rename_i ds hd
        split at e
        · rename_i hk
          cases e
          have hk := of_decide_eq_true hk
          obtain ⟨v, w, B, C, rfl, rfl, h1, h2⟩ := ownL2 hO
          simp only [Own, Rep] at h2
          obtain ⟨rfl, rfl⟩ := h2
          obtain ⟨a, us, D, rfl, l1, _, h3, _⟩ := elems_ok ok h1 hx
          obtain ⟨r, _⟩ := allFz_ok h3 hd
          exact ⟨_, _, rfl, a, k, us, rfl, rfl, l1 rfl, hk.1, hk.2.1, by rw [← r.len]; exact hk.2.2, fun p hp => newL ok (ownL_fz (repL_rep r _)) (List.nil_sublist _) hn hp q⟩
        · cases e
      · cases e
    · cases e
  · cases e
def oAdd := oOr (sop iAdd) (oOr (sop gStr) oCat)
def oMul := oOr (sop iMul) oRep
abbrev rAdd : R2 := fun x y H Q => rI0 (fun i j => .int (i + j)) x y H Q ∨ (fun x y H Q => ∃ i j, x = V.str i ∧ y = V.str j ∧ i.length + j.length ≤ sizeLine ∧ Q (.str (i ++ j)) H) x y H Q ∨ rCat x y H Q
abbrev rMulA : R2 := fun x y H Q => rI CMulX (fun i j => .int (i * j)) x y H Q ∨ rRep x y H Q
theorem op_addA {X : Cx} : OpR X (binaryOp .Add) rAdd := op_add.or (op_add_str.or op_cat)
theorem op_mulA {X : Cx} : OpR X (binaryOp .Mult) rMulA := op_mulX.or op_rep
theorem s_addA : OpS K oAdd (r2L rAdd) := s_add.or2 (s_addS.or2 s_cat)
theorem s_mulA : OpS K oMul (r2L rMulA) := s_mul.or2 s_rep
def gInL (neg : Bool) : List D → Option D
  | [a, .lst ds] => match pyD a, pyDL ds with
    | some x, some xs => if SeqAt.shaped x && SeqAt.shaped (.list xs) then some (.bl (if neg then !xs.any (fun z => PyData.eqv z x) else xs.any fun z => PyData.eqv z x)) else none
    | _, _ => none
  | _ => none
def gInT (neg : Bool) : List D → Option D
  | [a, .tup ds] => if scal a && ds.all scal && flatV (toV a) && (ds.map toV).all flatV then some (.bl (if neg then !inV (toV a) (ds.map toV) else inV (toV a) (ds.map toV))) else none
  | _ => none
def gInS (neg : Bool) : List D → Option D
  | [.str i, .str j] => some (.bl (if neg then !(!(Builtin.Str.occurrences j i 0 j.length 1).isEmpty) else !(Builtin.Str.occurrences j i 0 j.length 1).isEmpty))
  | _ => none
theorem repL_sc {F : Hp} : ∀ {ds : List D} {vs : List V}, RepL K F ds vs → ds.all scal = true → vs = ds.map toV
  | [], vs, h, e => by
    simp only [RepL] at h
    exact h
  | d :: ds, vs, h, e => by
    simp only [RepL] at h
    obtain ⟨v, r, rfl, q, q2⟩ := h
    simp only [List.all_cons, Bool.and_eq_true] at e
    rw [(rep_sc e.1).mp q, repL_sc q2 e.2]
    rfl
theorem s_inL : OpS K (sop (gInL false)) (r2L (rInD K)) := scalS fun H ds vs d Q h e hs q => by
  unfold gInL at e
  split at e
  · rename_i a xs
    split at e
    · rename_i x ys e1 e2
      split at e
      · rename_i hh
        cases e
        obtain ⟨v, w, rfl, q1, q2⟩ := repL2 h
        have hh := Bool.and_eq_true_iff.mp hh
        exact ⟨v, w, rfl, x, ys, pyD_ok a v x q1 e1, pyD_ok (.lst xs) w _ q2 (by simp only [pyD, e2, Option.map_some]), hh.1, hh.2, q⟩
      · cases e
    · cases e
  · cases e
theorem s_inT {neg : Bool} : OpS K (sop (gInT neg)) (r2L (rIn K neg)) := scalS fun H ds vs d Q h e hs q => by
  unfold gInT at e
  split at e
  · rename_i a xs
    split at e
    · rename_i hh
      cases e
      simp only [Bool.and_eq_true] at hh
      obtain ⟨⟨⟨h1, h2⟩, h3⟩, h4⟩ := hh
      obtain ⟨v, w, rfl, q1, q2⟩ := repL2 h
      simp only [Rep] at q2
      obtain ⟨p, us, rfl, z1, z2⟩ := q2
      have := repL_sc z2 h2
      subst this
      have := (rep_sc h1).mp q1
      subst this
      exact ⟨_, _, rfl, p, _, rfl, .inr (SqT.of z1), h3, h4, q⟩
    · cases e
  · cases e
theorem s_inS : OpS K (sop (gInS false)) (r2L fun x y H Q => ∃ i j, x = .str i ∧ y = .str j ∧ Q (.bl (!(Builtin.Str.occurrences j i 0 j.length 1).isEmpty)) H) := scalS fun H ds vs d Q h e hs q => by
  unfold gInS at e
  split at e
  · cases e
    obtain ⟨v, w, rfl, q1, q2⟩ := repL2 h
    simp only [Rep] at q1 q2
    exact ⟨v, w, rfl, _, _, q1, q2, q⟩
  · cases e
def oIn := oOr (sop (gInL false)) (oOr (sop (gInT false)) (sop (gInS false)))
def oNin := oOr (sop (gInL true)) (oOr (sop (gInT true)) (sop (gInS true)))
abbrev rInA (K : PySem.W.Frag) : R2 := fun x y H Q => rInD K x y H Q ∨ rIn K false x y H Q ∨ (fun x y H Q => ∃ i j, x = V.str i ∧ y = V.str j ∧ Q (.bl (!(Builtin.Str.occurrences j i 0 j.length 1).isEmpty)) H) x y H Q
theorem op_inA {X : Cx} (hu : X.A.units + 65 < cLine) : OpR X (compareOp .In) (rInA X.K) := (op_inD hu).or (op_in_seq.or op_in_str)
theorem s_inA : OpS K oIn (r2L (rInA K)) := s_inL.or2 (s_inT.or2 s_inS)
theorem hu65 {k : Nat} {A : Around} (r : RoomG k A) : A.units + 65 < cLine := by have := r.rm.un; omega
end
def sPart (o : Option (En → Option M)) : En → Option (Option Int) := fun env => match o with
  | none => some none
  | some f => match f env with
    | some (.fz (.int i)) => some (some i)
    | _ => none
def cutM {α : Type} (xs : List α) (lo hi : Option Int) : List α := (xs.drop (HT.sIx xs.length 0 lo)).take (HT.sIx xs.length xs.length hi - HT.sIx xs.length 0 lo)
def slM (env : En) (l h : Option Int) (m : M) : Option M := match m with
    | .fz (.str z) => if decide (z.length ≤ sizeLine) then some (.fz (.str (cutS z l h))) else none
    | .fz (.scr ns) => some (.ol ((cutM ns l h).map fun n => .fz (.int n)))
    | m => match elems env m with
      | some (true, xs) => some (.ol (cutM xs l h))
      | some (false, xs) => if HT.sIx xs.length 0 l = 0 ∧ HT.sIx xs.length xs.length h = xs.length then none else some (mkT (cutM xs l h))
      | none => none
def oSl (f : En → Option M) (lo hi : Option (En → Option M)) : En → Option M := fun env => match f env, sPart lo env, sPart hi env with
  | some m, some l, some h => slM env l h m
  | _, _, _ => none
section
variable {X : Cx} {a : Expr} {f : En → Option M}
def tDO (K : PySem.W.Frag) (f : En → Option (Option Int)) : TO := fun σ H Q => ∃ env i F fp, f env = some i ∧ EnvOk K F H σ env fp ∧ ∀ F' H', Step [] F H F' H' → Q i H'
def PDO (X : Cx) (e : Option Expr) (o : Option (En → Option M)) : Prop := PO X e (tDO X.K (sPart o))
theorem PO.imp {e : Option Expr} {t u : TO} (h : PO X e t) (i : ∀ σ H Q, u σ H Q → t σ H Q) : PO X e u := ⟨fun pins s σ H Q I q => h.run pins s σ H Q I (i _ _ _ q)⟩
theorem pdo_none : PDO X none none := PO.imp po_none fun σ H Q h => by
  obtain ⟨env, i, F, fp, e, ok, q⟩ := h
  cases e
  exact q F H (.refl ok.sub)
theorem pdo_some (h : PD X a f) : PDO X (some a) (some f) := PO.imp (po_some h) fun σ H Q h => by
  obtain ⟨env, i, F, fp, e, ok, q⟩ := h
  unfold sPart at e
  dsimp only at e
  split at e
  · rename_i j hj
    cases e
    refine ⟨env, .fz (.int j), F, fp, hj, ok, fun v F' H' A s o n aa => ?_⟩
    simp only [Own, Rep] at o
    exact ⟨j, o.2, q F' H' s⟩
  · cases e
theorem cut_own {K : PySem.W.Frag} {br : Nat → List Pa → V → Prop} {F H : Hp} {ms : List M} {vs : List V} {A : List Addr} (h : OwnL K br F H ms vs A) (lo hi : Option Int) : ∃ B, OwnL K br F H (cutM ms lo hi) (cutV vs lo hi) B ∧ B.Sublist A := by
  unfold cutM cutV
  rw [h.len]
  obtain ⟨B, h1, h2⟩ := h.drop (HT.sIx vs.length 0 lo)
  obtain ⟨C, h3, h4⟩ := h1.take (HT.sIx vs.length vs.length hi - HT.sIx vs.length 0 lo)
  exact ⟨C, h3, h4.trans h2⟩
theorem cut_map {α : Type} {β : Type} (g : α → β) (xs : List α) (lo hi : Option Int) : cutM (xs.map g) lo hi = (cutM xs lo hi).map g := by
  unfold cutM
  rw [List.length_map, List.map_take, List.map_drop]
theorem cut_V (xs : List V) (lo hi : Option Int) : cutV xs lo hi = cutM xs lo hi := rfl
abbrev rSlA (K : PySem.W.Frag) : V → Option Int → Option Int → Hp → VK → Prop := fun x lo hi H Q => rSlL K x lo hi H Q ∨ (fun x lo hi H Q => rSlT K x lo hi H Q ∨ rSlS x lo hi H Q) x lo hi H Q
theorem sl_any : SlR X (rSlA X.K) := sl_list.or (sl_tup.or sl_str)
theorem s_sl {K : PySem.W.Frag} {σ : L2.St} {env : En} {F H : Hp} {fp : Nat → List Addr} {m : M} {v : V} {A : List Addr} {l h : Option Int} {n : M} {Q : VK} (ok : EnvOk K F H σ env fp) (o : Own K (plc H σ env) F H m v A) (hn : A.Nodup)
    (e : slM env l h m = some n)
    (q : ∀ v F' H' B, Step A F H F' H' → Own K (plc H' σ env) F' H' n v B → B.Nodup → (∀ a ∈ B, H a = none ∨ a ∈ A) → Q v H') : rSlA K v l h H Q := by
  unfold slM at e
  split at e
  · rename_i z
    split at e
    · rename_i hz
      cases e
      simp only [Own, Rep] at o
      exact .inr (.inr ⟨z, o.2, of_decide_eq_true hz, keepS ok (own_fz (by simp only [Rep])) (List.nil_sublist _) hn q⟩)
    · cases e
  · rename_i ns
    cases e
    simp only [Own, Rep] at o
    obtain ⟨rfl, a, rfl, o⟩ := o
    refine .inl ⟨a, _, rfl, ok.sub.seq o, fun p hp => ?_⟩
    rw [map_fz_int] at q
    have r : RepL K F ((cutM ns l h).map D.int) (cutV (ns.map V.int) l h) := by
      rw [cut_V, cut_map]
      exact repL_ints _
    exact newL ok (ownL_fz r) (List.Sublist.refl _) hn hp q
  · split at e
    · rename_i xs hx
      cases e
      obtain ⟨a, us, D, rfl, l1, _, h3, s1⟩ := elems_ok ok o hx
      obtain ⟨B, c1, c2⟩ := cut_own h3 l h
      exact .inl ⟨a, us, rfl, SqL.of (l1 rfl), fun p hp => newL ok c1 (c2.trans s1) hn hp q⟩
    · rename_i xs hx
      split at e
      · cases e
      · rename_i hw
        cases e
        obtain ⟨a, us, D, rfl, _, l1, h3, s1⟩ := elems_ok ok o hx
        obtain ⟨B, c1, c2⟩ := cut_own h3 l h
        exact .inr (.inl ⟨a, us, rfl, SqT.of (l1 rfl), by rw [← h3.len]; exact hw, fun p hp => newT ok c1 (c2.trans s1) hn hp q⟩)
    · cases e
theorem pd_slice {lo hi : Option Expr} {fl fh : Option (En → Option M)} {pos p2 : Pos} (ha : PD X a f) (hl : PDO X lo fl) (hh : PDO X hi fh) : PD X (.Subscript a (.Slice lo hi none p2) pos) (oSl f fl fh) :=
  PE.imp (pe_slice sl_any ha hl hh) fun σ H Q h => by
    obtain ⟨env, n, F, fp, e, ok, q⟩ := h
    unfold oSl at e
    split at e
    · rename_i m l h h1 h2 h3
      refine ⟨env, m, F, fp, h1, ok, fun v F1 H1 A s1 o1 n1 a1 => ?_⟩
      have ok1 := ok.step s1 fun a z => by cases z
      refine ⟨env, l, F1, fp, h2, ok1, fun F2 H2 s2 => ?_⟩
      have ok2 := ok1.step s2 fun a z => by cases z
      refine ⟨env, h, F2, fp, h3, ok2, fun F3 H3 s3 => ?_⟩
      have ok3 := ok2.step s3 fun a z => by cases z
      refine s_sl ok3 ((o1.step s2).step s3) n1 e fun v F' H' B s o nd a => ?_
      have s123 := (s1.trans s2 fun a z => by cases z).trans s3 fun a z => by cases z
      refine q v F' H' B (s123.trans s fun c hc => a1 c hc) o nd fun c hc => ?_
      rcases a c hc with z | z
      · exact s123.stay c z
      · exact a1 c z
    · cases e
end
end T2
end
section
set_option Elab.async false
set_option linter.all false
set_option maxRecDepth 100000
namespace T2
open PySem
theorem get_z {m : Option M} {r : En} : En.get (m :: r) 0 = m := by unfold En.get; cases m <;> rfl
theorem get_s {m : Option M} {r : En} {i : Nat} : En.get (m :: r) (i + 1) = En.get r i := id rfl
theorem put_z {m : Option M} {r : En} {n : M} : En.put (m :: r) 0 n = some n :: r := id rfl
theorem put_s {m : Option M} {r : En} {i : Nat} {n : M} : En.put (m :: r) (i + 1) n = m :: En.put r i n := id rfl
def namM (i : Nat) : Option M → Option M
  | some (.fz d) => some (.fz d)
  | some _ => some (.bp i [])
  | none => none
theorem e_nam {i : Nat} {env : En} : nam i env = namM i (env.get i) := id rfl
theorem namM_fz {i : Nat} {d : D} : namM i (some (.fz d)) = some (.fz d) := id rfl
theorem e_cst {d : D} {env : En} : cst d env = some (.fz d) := id rfl
def o2 (o : En → List M → Option M) (env : En) : Option M → Option M → Option M
  | some a, some b => o env [a, b]
  | _, _ => none
def o1 (o : En → List M → Option M) (env : En) : Option M → Option M
  | some a => o env [a]
  | _ => none
theorem e_bin {o : En → List M → Option M} {f g : En → Option M} {env : En} : T2.bin o f g env = o2 o env (f env) (g env) := by
  unfold T2.bin opr aCons aNil o2
  cases f env <;> cases g env <;> rfl
theorem e_una {o : En → List M → Option M} {f : En → Option M} {env : En} : T2.una o f env = o1 o env (f env) := by
  unfold T2.una opr aCons aNil o1
  cases f env <;> rfl
theorem o2_s {o : En → List M → Option M} {env : En} {a b : M} : o2 o env (some a) (some b) = o env [a, b] := id rfl
theorem o1_s {o : En → List M → Option M} {env : En} {a : M} : o1 o env (some a) = o env [a] := id rfl
theorem e_acons {f : En → Option M} {fs : En → Option (List M)} {env : En} : aCons f fs env = (match f env, fs env with
  | some m, some ms => some (m :: ms)
  | _, _ => none) := id rfl
theorem e_anil {env : En} : aNil env = some [] := id rfl
theorem e_opr {op : En → List M → Option M} {fs : En → Option (List M)} {env : En} : opr op fs env = (match fs env with
  | some ms => op env ms
  | none => none) := id rfl
section
variable {env : En} {i j : Int} {x y : Str} {a b : Bool}
theorem k_add : oAdd env [.fz (.int i), .fz (.int j)] = some (.fz (.int (i + j))) := id rfl
theorem k_sub : sop iSub env [.fz (.int i), .fz (.int j)] = some (.fz (.int (i - j))) := id rfl
theorem sop_ii {c : Int → Int → Bool} {f : Int → Int → Int} (h : c i j = true) : sop (gII c f) env [.fz (.int i), .fz (.int j)] = some (.fz (.int (f i j))) := by
  show (match (match (if c i j then some (D.int (f i j)) else none) with
    | some d => if scal d then some (M.fz d) else none
    | none => none) with | r => r) = _
  rw [if_pos h]
  rfl
theorem k_mul (h : cMul i j = true) : oMul env [.fz (.int i), .fz (.int j)] = some (.fz (.int (i * j))) := by
  unfold oMul oOr
  rw [show sop iMul env [.fz (.int i), .fz (.int j)] = _ from sop_ii h]
theorem k_mod (h : 0 < j) : sop iMod env [.fz (.int i), .fz (.int j)] = some (.fz (.int (i % j))) := sop_ii (decide_eq_true h)
theorem k_div (h : 0 < j) (h' : j.natAbs.log2 < 9000) : sop iDiv env [.fz (.int i), .fz (.int j)] = some (.fz (.int (i / j))) := sop_ii (decide_eq_true ⟨h, h'⟩)
theorem k_pow (h : 0 ≤ j) (h' : j ≤ 1000000) (h'' : i.natAbs < 2 ^ 64) : sop iPow env [.fz (.int i), .fz (.int j)] = some (.fz (.int (i ^ j.toNat))) := sop_ii (decide_eq_true ⟨h, h', h''⟩)
theorem k_shl (h : 0 ≤ j) (h' : j ≤ 1000000) (h'' : i.natAbs < 2 ^ 64) : sop iShl env [.fz (.int i), .fz (.int j)] = some (.fz (.int (i * 2 ^ j.toNat))) := sop_ii (decide_eq_true ⟨h, h', h''⟩)
theorem k_shr (h : 0 ≤ j) : sop iShr env [.fz (.int i), .fz (.int j)] = some (.fz (.int (i / 2 ^ j.toNat))) := sop_ii (decide_eq_true h)
theorem k_and : sop iAnd env [.fz (.int i), .fz (.int j)] = some (.fz (.int (Builtin.bitAnd i j))) := id rfl
theorem k_or : sop iOr env [.fz (.int i), .fz (.int j)] = some (.fz (.int (Builtin.bitOr i j))) := id rfl
theorem k_lt : sop iLt env [.fz (.int i), .fz (.int j)] = some (.fz (.bl (decide (i < j)))) := id rfl
theorem k_le : sop iLe env [.fz (.int i), .fz (.int j)] = some (.fz (.bl (decide (i ≤ j)))) := id rfl
theorem k_gt : sop iGt env [.fz (.int i), .fz (.int j)] = some (.fz (.bl (decide (j < i)))) := id rfl
theorem k_ge : sop iGe env [.fz (.int i), .fz (.int j)] = some (.fz (.bl (decide (j ≤ i)))) := id rfl
theorem k_neg : sop (gU fun i => -i) env [.fz (.int i)] = some (.fz (.int (-i))) := id rfl
theorem k_abs : sop gAbs env [.fz (.int i)] = some (.fz (.int (if i < 0 then -i else i))) := id rfl
theorem k_intb : sop gInt env [.fz (.bl a)] = some (.fz (.int (if a then 1 else 0))) := id rfl
theorem k_inti : sop gInt env [.fz (.int i)] = some (.fz (.int i)) := id rfl
end
theorem e_seq {f g : En → Option Fl} {env : En} : sSeq f g env = (match f env with
  | some (.nx e) => g e
  | r => r) := id rfl
def asgM (lk : Nat → Bool) (i k : Nat) (env : En) : Option M → Option Fl
  | some m => match stow k env m with
    | some (m', e2) => if lk i = false ∧ i < e2.length then some (.nx (e2.put i m')) else none
    | none => none
  | none => none
theorem e_asg {lk : Nat → Bool} {i k : Nat} {f : En → Option M} {env : En} : sAsg lk i k (lif f) env = asgM lk i k env (f env) := by
  unfold sAsg lif asgM
  cases f env <;> rfl
theorem asgM_fz {lk : Nat → Bool} {i k : Nat} {env : En} {d : D} (h : lk i = false) (h' : i < env.length) : asgM lk i k env (some (.fz d)) = some (.nx (env.put i (.fz d))) := by
  unfold asgM stow
  simp only [slots]
  cases k <;> simp only [shut, Option.map_some, h, h', and_self, if_true]
def retM (lk : Nat → Bool) (env : En) (m : Option M) : Option Fl := sRet lk (fun e => match m with | some m => some (m, e) | none => none) env
theorem e_ret {lk : Nat → Bool} {f : En → Option M} {env : En} : sRet lk (lif f) env = retM lk env (f env) := id rfl
theorem retM_fz {lk : Nat → Bool} {env : En} {d : D} : retM lk env (some (.fz d)) = some (.rt (.fz d) env) := id rfl
theorem retM_bp {lk : Nat → Bool} {env : En} {i : Nat} {m : M} (h : env.get i = some m) (h' : lk i = false) : retM lk env (some (.bp i [])) = some (.rt m (env.kill i)) := by
  unfold retM sRet
  simp only [h, h', if_true]
def ifM (f g : En → Option Fl) (env : En) : Option Bool → Option Fl
  | some true => f env
  | some false => g env
  | none => none
theorem e_if {t : En → Option Bool} {f g : En → Option Fl} {env : En} : sIf (lifT t) f g env = ifM f g env (t env) := by
  unfold sIf lifT ifM
  cases t env with
  | none => rfl
  | some b => cases b <;> rfl
theorem ifM_t {f g : En → Option Fl} {env : En} : ifM f g env (some true) = f env := id rfl
theorem ifM_f {f g : En → Option Fl} {env : En} : ifM f g env (some false) = g env := id rfl
def tstM : Option M → Option Bool
  | some (.fz (.bl b)) => some b
  | _ => none
theorem e_tst {f : En → Option M} {env : En} : tst f env = tstM (f env) := by
  unfold tst tstM
  cases f env with
  | none => rfl
  | some m => cases m <;> rfl
theorem e_nil {env : En} : sNil env = some (.nx env) := id rfl
theorem run_rt {n p : Nat} {lk : Nat → Bool} {fS : En → Option Fl} {ms : List M} {env : En} {m : M} {e : En} {ns : List M} (h1 : ms.length = p) (h2 : okA lk 0 ms = true) (he : ms.map some ++ List.replicate (n - p) none = env) (h : fS env = some (.rt m e)) (h3 : outs lk e 0 ms = some ns) : runD n p lk fS ms = some (m, ns) := by
  unfold runD
  rw [if_pos ⟨h1, h2⟩, he, h]
  simp only [h3]
theorem run_nx {n p : Nat} {lk : Nat → Bool} {fS : En → Option Fl} {ms : List M} {env : En} {e : En} {ns : List M} (h1 : ms.length = p) (h2 : okA lk 0 ms = true) (he : ms.map some ++ List.replicate (n - p) none = env) (h : fS env = some (.nx e)) (h3 : outs lk e 0 ms = some ns) : runD n p lk fS ms = some (.fz .non, ns) := by
  unfold runD
  rw [if_pos ⟨h1, h2⟩, he, h]
  simp only [h3]
section
variable {env e1 e2 : En} {f g : En → Option M} {fs : En → Option (List M)} {m a b r : M} {ms cs cs' : List M} {d : D} {o : En → List M → Option M} {S T : En → Option Fl} {R : Option Fl}
theorem acons_of (h : f env = some m) (h' : fs env = some ms) : aCons f fs env = some (m :: ms) := by rw [e_acons, h, h']
theorem opr_of {op : En → List M → Option M} (h : fs env = some ms) (h' : op env ms = some r) : opr op fs env = some r := by rw [e_opr, h]; exact h'
theorem bin_of (h : f env = some a) (h' : g env = some b) (h'' : o env [a, b] = some r) : T2.bin o f g env = some r := by rw [e_bin, h, h', o2_s]; exact h''
theorem una_of (h : f env = some a) (h'' : o env [a] = some r) : T2.una o f env = some r := by rw [e_una, h, o1_s]; exact h''
theorem callP_of {io : List Bool} {F : Fn} (h : slotsL ms = []) (h' : shutZ io ms = some cs) (h'' : F cs = some (r, cs')) : callP io F env ms = some r := by
  unfold callP
  rw [h]
  simp only [h', h'']
theorem callI_of {io : List Bool} {F : Fn} {gs : En → Option (List M × En)} {i : Nat} {rest tl : List M} {n n' : M} (h1 : gs env = some (.bp i [] :: rest, e1)) (h2 : slotsL rest = []) (h3 : e1.get i = some n) (h4 : shutZ io.tail rest = some cs) (h5 : F (n :: cs) = some (r, n' :: tl)) : callI io F gs env = some (r, e1.put i n') := by
  unfold callI
  rw [h1]
  simp only [h2, h3, h4, h5]
theorem nam_fz {i : Nat} (h : env.get i = some (.fz d)) : nam i env = some (.fz d) := by rw [e_nam, h]; rfl
theorem lif_of (h : f env = some m) : lif f env = some (m, env) := by unfold lif; rw [h]
theorem lifA_of (h : fs env = some ms) : lifA fs env = some (ms, env) := by unfold lifA; rw [h]
theorem seq_of (h : S env = some (.nx e1)) (h' : T e1 = R) : sSeq S T env = R := by rw [e_seq, h]; exact h'
theorem seq_rt (h : S env = some (.rt m e1)) : sSeq S T env = some (.rt m e1) := by rw [e_seq, h]
theorem tst_of {c : Bool} (h : f env = some (.fz (.bl c))) : tst f env = some c := by rw [e_tst, h]; rfl
theorem if_t {t : En → Option Bool} (h : t env = some true) (h' : S env = R) : sIf (lifT t) S T env = R := by rw [e_if, h, ifM_t]; exact h'
theorem if_f {t : En → Option Bool} (h : t env = some false) (h' : T env = R) : sIf (lifT t) S T env = R := by rw [e_if, h, ifM_f]; exact h'
theorem asg_of {lk : Nat → Bool} {i k : Nat} (h : f env = some (.fz d)) (hl : lk i = false) (hi : i < env.length) : sAsg lk i k (lif f) env = some (.nx (env.put i (.fz d))) := by rw [e_asg, h]; exact asgM_fz hl hi
theorem asgX_of {lk : Nat → Bool} {i k : Nat} {G : En → Option (M × En)} {m' : M} (h : G env = some (m, e1)) (hs : stow k e1 m = some (m', e2)) (hl : lk i = false) (hi : i < e2.length) : sAsg lk i k G env = some (.nx (e2.put i m')) := by
  unfold sAsg
  rw [h]
  simp only [hs, hl, hi, and_self, if_true]
theorem ret_of {lk : Nat → Bool} (h : f env = some (.fz d)) : sRet lk (lif f) env = some (.rt (.fz d) env) := by rw [e_ret, h]; rfl
theorem exp_of {G : En → Option (M × En)} (h : G env = some (m, e1)) : sExp G env = some (.nx e1) := by unfold sExp; rw [h]
theorem for_of {lk : Nat → Bool} {t : Tg} {it : En → Option (List D × En)} {ds : List D} (h : it env = some (ds, e1)) (h' : lpF lk t S ds e1 = R) : sFor lk t it S env = R := by unfold sFor; rw [h]; exact h'
theorem lp_nil {lk : Nat → Bool} {t : Tg} : lpF lk t S [] env = some (.nx env) := by unfold lpF; rfl
theorem lp_cons {lk : Nat → Bool} {t : Tg} {ds : List D} (h : asT lk t d env = some e1) (h' : S e1 = some (.nx e2)) (h'' : lpF lk t S ds e2 = R) : lpF lk t S (d :: ds) env = R := by
  unfold lpF
  rw [h]
  simp only [h']
  exact h''
end
end T2
end
section
set_option Elab.async false
set_option linter.all false
set_option maxRecDepth 100000
namespace T2
open PySem
theorem cMul_ok {i j : Int} (a b : Nat) (hi : i.natAbs < 2 ^ a) (hj : j.natAbs < 2 ^ b) (h : a + b ≤ 134217728) : cMul i j = true := by
  unfold cMul
  have x := PyProof.Rows.intBits_le hi
  have y := PyProof.Rows.intBits_le hj
  exact decide_eq_true (by omega)
abbrev I (i : Int) : M := .fz (.int i)
theorem k_lst {env : En} {ms : List M} (h : ms.length ≤ sizeLine) : oLst env ms = some (.ol ms) := by
  unfold oLst
  rw [if_pos h]
theorem k_scr {env : En} {ns : List Int} {i n : Int} (h : L2.atI ns i = some n) : oIdx env [.fz (.scr ns), .fz (.int i)] = some (.fz (.int n)) := by
  show oOr (oIx true) (oOr (oIx false) (oOr (sop gIxS) (sop gIxR))) env [.fz (.scr ns), .fz (.int i)] = _
  have h1 : sop gIxR env [.fz (.scr ns), .fz (.int i)] = some (.fz (.int n)) := by
    show (match gIxR [.scr ns, .int i] with
      | some d => if scal d then some (.fz d) else none
      | none => none : Option M) = _
    have : gIxR [.scr ns, .int i] = some (.int n) := by simp only [gIxR, h]
    rw [this]
    rfl
  have h2 : ∀ b, oIx b env [.fz (.scr ns), .fz (.int i)] = none := fun _ => id rfl
  have h3 : sop gIxS env [.fz (.scr ns), .fz (.int i)] = none := id rfl
  unfold oOr
  rw [h2, h2, h3, h1]
theorem cMul_le {i j : Int} (a b : Nat) (hi : Builtin.Int.intBits i ≤ a) (hj : Builtin.Int.intBits j ≤ b) (h : a + b ≤ 134217728) : cMul i j = true := by
  unfold cMul
  exact decide_eq_true (by omega)
theorem pyDL_ints : ∀ ns : List Int, pyDL (ns.map .int) = some (ns.map .int)
  | [] => id rfl
  | n :: ns => by
    show (match pyD (.int n), pyDL (ns.map .int) with
      | some x, some xs => some (x :: xs)
      | _, _ => none) = _
    rw [pyDL_ints ns]
    rfl
theorem eqvAll_ints : ∀ xs ys : List Int, PyData.eqvAll (xs.map .int) (ys.map .int) = (xs == ys)
  | [], [] => by rfl
  | [], y :: ys => by rfl
  | x :: xs, [] => by rfl
  | x :: xs, y :: ys => by
    show (PyData.eqv (.int x) (.int y) && PyData.eqvAll (xs.map .int) (ys.map .int)) = _
    rw [eqvAll_ints xs ys]
    rfl
theorem canLay_ints : ∀ ns : List Int, PyData.canLayAll0 (ns.map .int) = true
  | [] => by rfl
  | n :: ns => by
    show (PyData.canLay0 (.int n) && PyData.canLayAll0 (ns.map .int)) = true
    rw [canLay_ints ns]
    rfl
theorem depth_ints : ∀ ns : List Int, PyData.depthAll (ns.map .int) ≤ 1
  | [] => by decide
  | n :: ns => by
    show max (PyData.depth (.int n)) (PyData.depthAll (ns.map .int)) ≤ 1
    exact Nat.max_le.mpr ⟨by rw [show PyData.depth (.int n) = 0 by rfl]; omega, depth_ints ns⟩
theorem shaped_ints (ns : List Int) : SeqAt.shaped (.list (ns.map .int)) = true := by
  show ((PyData.canLay0 (.list (ns.map .int))) && decide (PyData.depth (.list (ns.map .int)) ≤ 64)) = true
  rw [show PyData.canLay0 (.list (ns.map .int)) = PyData.canLayAll0 (ns.map .int) by rfl, canLay_ints]
  have : PyData.depth (.list (ns.map .int)) = PyData.depthAll (ns.map .int) + 1 := by rfl
  have h := depth_ints ns
  rw [this]
  simp
  omega
theorem gEq_ints (neg : Bool) (xs ys : List Int) : gEq neg [.lst (xs.map .int), .lst (ys.map .int)] = some (.bl (if neg then !(xs == ys) else xs == ys)) := by
  have px : ∀ xs : List Int, pyD (.lst (xs.map .int)) = some (.list (xs.map .int)) := fun xs => by
    show (pyDL (xs.map .int)).map PyData.list = _
    rw [pyDL_ints]
    rfl
  show (match pyD (.lst (xs.map .int)), pyD (.lst (ys.map .int)) with
    | some x, some y => if SeqAt.shaped x && SeqAt.shaped y then some (.bl (if neg then !PyData.eqv x y else PyData.eqv x y)) else none
    | _, _ => none : Option D) = _
  rw [px, px]
  simp only [shaped_ints, Bool.and_self, if_true]
  rw [show PyData.eqv (.list (xs.map .int)) (.list (ys.map .int)) = PyData.eqvAll (xs.map .int) (ys.map .int) by rfl, eqvAll_ints]
theorem sop_of {g : List D → Option D} {env : En} {ms : List M} {ds : List D} {d : D} (h : dats env ms = some ds) (h' : g ds = some d) (h'' : scal d = true) : sop g env ms = some (.fz d) := by
  unfold sop
  rw [h]
  simp only [h', h'', if_true]
section
variable {env e1 e2 : En} {f g : En → Option Bool} {b c : Bool}
theorem or_t (h : f env = some true) : dOr f g env = some true := by unfold dOr; rw [h]
theorem and_f (h : f env = some false) : dAnd f g env = some false := by unfold dAnd; rw [h]
theorem and_t (h : f env = some true) (h' : g env = some c) : dAnd f g env = some c := by unfold dAnd; rw [h]; exact h'
theorem not_of (h : f env = some b) : dNot f env = some (!b) := by unfold dNot; rw [h]
end
section
variable {env e1 e2 e3 : En} {G J : En → Option (M × En)} {gs : En → Option (List M × En)} {a b r m : M} {ms : List M} {o : En → List M → Option M}
theorem xcons_of (h : G env = some (m, e1)) (h' : gs e1 = some (ms, e2)) (h'' : alv e2 m = true) : xCons G gs env = some (m :: ms, e2) := by
  unfold xCons
  rw [h]
  simp only [h', h'', if_true]
theorem xop_of (h : gs env = some (ms, e1)) (h' : o e1 ms = some r) : xop o gs env = some (r, e1) := by
  unfold xop
  rw [h]
  simp only [h']
theorem xbin_of (h : G env = some (a, e1)) (h' : J e1 = some (b, e2)) (h1 : alv e2 a = true) (h2 : alv e2 b = true) (h'' : o e2 [a, b] = some r) : xbin o G J env = some (r, e2) :=
  xop_of (xcons_of h (xcons_of h' rfl h2) h1) h''
end
section
variable {vs : List Nat} {t : Tg} {cond : En → Option Bool} {elt : En → Option M} {env : En}
theorem lcF_of {it : En → Option (List D)} {ds : List D} {ms : List M} (h : it env = some ds) (h' : lcL vs t cond elt env ds = some ms) (h'' : ms.length ≤ sizeLine) : lcF vs t it cond elt env = some (.ol ms) := by
  unfold lcF
  rw [h]
  simp only [h', h'', if_true]
end
abbrev oD (ds : List D) : M := .ol (ds.map .fz)
abbrev oI (L : List Int) : M := oD (L.map .int)
abbrev lI (L : List Int) : D := .lst (L.map .int)
theorem datWL_fz {bp : Nat → List Pa → Option D} : ∀ ds : List D, datWL bp (ds.map .fz) = some ds
  | [] => by rfl
  | d :: ds => by
    show (match datW bp (.fz d), datWL bp (ds.map .fz) with
      | some d, some ds => some (d :: ds)
      | _, _ => none) = _
    rw [datWL_fz ds]
    rfl
theorem datW_oD {bp : Nat → List Pa → Option D} (ds : List D) : datW bp (oD ds) = some (.lst ds) := by
  show (datWL bp (ds.map .fz)).map D.lst = _
  rw [datWL_fz]
  rfl
theorem slotsL_fz : ∀ ds : List D, slotsL (ds.map .fz) = []
  | [] => by rfl
  | d :: ds => by
    show slots (.fz d) ++ slotsL (ds.map .fz) = []
    rw [slotsL_fz ds]
    rfl
theorem shutL_fz {k : Nat} : ∀ ds : List D, shutL k (ds.map .fz) = some (ds.map .fz)
  | [] => by cases k <;> rfl
  | d :: ds => by
    have h : shut k (.fz d) = some (.fz d) := by cases k <;> rfl
    show (match shut k (.fz d), shutL k (ds.map .fz) with
      | some n, some ns => some (n :: ns)
      | _, _ => none) = _
    rw [shutL_fz ds, h]
    rfl
theorem stow_z {env : En} (ds : List D) : stow 0 env (oD ds) = some (.fz (.lst ds), env) := by
  unfold stow
  rw [show slots (oD ds) = [] from slotsL_fz ds]
  show (shut 0 (oD ds)).map _ = _
  rw [show shut 0 (oD ds) = (dat0 (oD ds)).map .fz by rfl, show dat0 (oD ds) = some (.lst ds) from datW_oD ds]
  rfl
theorem stow_s {env : En} {k : Nat} (ds : List D) : stow (k + 1) env (oD ds) = some (oD ds, env) := by
  unfold stow
  rw [show slots (oD ds) = [] from slotsL_fz ds]
  show (shut (k + 1) (oD ds)).map _ = _
  rw [show shut (k + 1) (oD ds) = (shutL k (ds.map .fz)).map .ol by rfl, shutL_fz]
  rfl
theorem dat_bp {env : En} {i : Nat} {ds : List D} (h : env.get i = some (oD ds)) : plD env i [] = some (.lst ds) := by
  have : env.place i [] = some (oD ds) := by
    show (match env.get i with
      | some m => getP m []
      | none => none) = _
    rw [h]
    rfl
  unfold plD
  rw [this]
  exact datW_oD ds
theorem sLfL_ints : ∀ L : List Int, sLfL ((L.map D.int).map .fz) = true
  | [] => by rfl
  | d :: ds => by
    show (sLf (.fz (.int d)) && sLfL ((ds.map D.int).map .fz)) = true
    rw [sLfL_ints ds]
    rfl
theorem sLf_oI (L : List Int) : sLf (oI L) = true := sLfL_ints L
theorem nam_oD {env : En} {i : Nat} {ds : List D} (h : env.get i = some (oD ds)) : nam i env = some (.bp i []) := by rw [e_nam, h]; rfl
theorem shutZ_f {b : Bool} {bs : List Bool} {d : D} {ms cs : List M} (h : shutZ bs ms = some cs) : shutZ (b :: bs) (.fz d :: ms) = some (.fz d :: cs) := by
  show (match shut (if b then 9 else 0) (.fz d), shutZ bs ms with
    | some n, some ns => some (n :: ns)
    | _, _ => none) = _
  rw [h, show shut (if b then 9 else 0) (.fz d) = some (.fz d) by cases b <;> rfl]
theorem shutZ_z {bs : List Bool} {ds : List D} {ms cs : List M} (h : shutZ bs ms = some cs) : shutZ (false :: bs) (oD ds :: ms) = some (.fz (.lst ds) :: cs) := by
  show (match shut 0 (oD ds), shutZ bs ms with
    | some n, some ns => some (n :: ns)
    | _, _ => none) = _
  rw [h, show shut 0 (oD ds) = (dat0 (oD ds)).map .fz by rfl, show dat0 (oD ds) = some (.lst ds) from datW_oD ds]
  rfl
theorem shutZ_s {bs : List Bool} {ds : List D} {ms cs : List M} (h : shutZ bs ms = some cs) : shutZ (true :: bs) (oD ds :: ms) = some (oD ds :: cs) := by
  show (match shut 9 (oD ds), shutZ bs ms with
    | some n, some ns => some (n :: ns)
    | _, _ => none) = _
  rw [h, show shut 9 (oD ds) = (shutL 8 (ds.map .fz)).map .ol by rfl, shutL_fz]
  rfl
theorem dats_f {env : En} {d : D} {ms : List M} {cs : List D} (h : dats env ms = some cs) : dats env (.fz d :: ms) = some (d :: cs) := by
  show (match datW (plD env) (.fz d), datWL (plD env) ms with
    | some d, some ds => some (d :: ds)
    | _, _ => none) = _
  rw [show datWL (plD env) ms = some cs from h]
  rfl
theorem dats_o {env : En} {ds : List D} {ms : List M} {cs : List D} (h : dats env ms = some cs) : dats env (oD ds :: ms) = some (.lst ds :: cs) := by
  show (match datW (plD env) (oD ds), datWL (plD env) ms with
    | some d, some ds => some (d :: ds)
    | _, _ => none) = _
  rw [show datWL (plD env) ms = some cs from h, datW_oD]
theorem dats_b {env : En} {i : Nat} {ds : List D} {ms : List M} {cs : List D} (h0 : env.get i = some (oD ds)) (h : dats env ms = some cs) : dats env (.bp i [] :: ms) = some (.lst ds :: cs) := by
  show (match datW (plD env) (.bp i []), datWL (plD env) ms with
    | some d, some ds => some (d :: ds)
    | _, _ => none) = _
  rw [show datWL (plD env) ms = some cs from h, show datW (plD env) (.bp i []) = plD env i [] by rfl, dat_bp h0]
theorem dats_n {env : En} : dats env [] = some [] := by rfl
/-- a call with arguments that a slot holds -/
theorem callB_of {io : List Bool} {F : Fn} {env : En} {ms : List M} {ds : List D} {r : M} {cs : List M} {i : Nat} {l : List Nat} (h : slotsL ms = i :: l) (h1 : dats env ms = some ds) (h2 : F (ds.map .fz) = some (r, cs)) (h3 : sLf r = true) : callP io F env ms = some r := by
  unfold callP
  rw [h]
  simp only [h1, h2, h3, if_true]
section
variable {env e1 e2 e3 : En} {fo fi fe : En → Option M} {fs : En → Option (List M)} {gs : En → Option (List M × En)} {G : En → Option (M × En)} {mu : List M → List M → Option (List M × M)} {i k : Nat} {ms ms' as bs : List M} {res m m' r2 : M} {j : Int}
theorem place_z (h : env.get i = some m) : env.place i [] = some m := by
  unfold En.place
  rw [h]
  rfl
theorem setE_z (h : env.get i = some m) : setE env i [] m' = some (env.put i m') := by
  unfold setE
  rw [h]
  rfl
theorem mutX_of (h1 : fo env = some (.bp i [])) (h2 : gs env = some (as, e1)) (h0 : alv e1 (.bp i []) = true ∧ isOl (env.place i []) = true) (h3 : stowA k e1 as = some (bs, e2)) (h4 : e2.get i = some (.ol ms)) (h5 : mu ms bs = some (ms', res)) : xMut k fo gs mu env = some (res, e2.put i (.ol ms')) := by
  unfold xMut
  rw [h1]
  simp only [h2]
  rw [if_pos h0]
  simp only [h3, place_z h4, h5, setE_z h4]
theorem set_of (h1 : G env = some (m, e1)) (h2 : stow k e1 m = some (m', e2)) (h3 : fo e2 = some (.bp i [])) (h4 : fi e2 = some (.fz (.int j))) (h5 : e2.get i = some (.ol ms)) (h6 : mSet ms [.fz (.int j), m'] = some (ms', r2)) : sSet k fo fi G env = some (.nx (e2.put i (.ol ms'))) := by
  unfold sSet
  rw [h1]
  simp only [h2, h3, h4, place_z h5, h6, setE_z h5]
theorem append_fz {ms : List M} {d : D} (h : ms.length < sizeLine) : mAppend ms [.fz d] = some (ms ++ [.fz d], .fz .non) := by
  unfold mAppend
  simp only [h, if_true]
end
theorem intsOf_ints : ∀ L : List Int, intsOf (L.map .int) = some L
  | [] => by rfl
  | x :: L => by
    show (match intsOf (L.map .int) with
      | some ns => some (x :: ns)
      | none => none) = _
    rw [intsOf_ints L]
theorem allFz_fz : ∀ ds : List D, allFz (ds.map .fz) = some ds
  | [] => by rfl
  | d :: ds => by
    show (match allFz (ds.map .fz) with
      | some ds => some (d :: ds)
      | none => none) = _
    rw [allFz_fz ds]
theorem items_f {env : En} {d : D} : items env (.fz d) = some d := by rfl
theorem items_o {env : En} {ds : List D} : items env (oD ds) = some (.lst ds) := by
  unfold items
  rw [show slots (oD ds) = [] from slotsL_fz ds]
  exact datW_oD ds
theorem kid_fz {i : Nat} {p : List Pa} : ∀ (ds : List D) (k : Nat), kid i p k (ds.map .fz) = ds.map .fz
  | [], _ => by rfl
  | d :: ds, k => by
    show M.fz d :: kid i p (k + 1) (ds.map .fz) = _
    rw [kid_fz ds]
    rfl
theorem elems_b {env : En} {i : Nat} {ds : List D} (h : env.get i = some (oD ds)) : elems env (.bp i []) = some (true, ds.map .fz) := by
  unfold elems
  simp only [place_z h, kid_fz]
theorem items_b {env : En} {i : Nat} {ds : List D} (h : env.get i = some (oD ds)) : items env (.bp i []) = some (.lst ds) := by
  unfold items
  rw [show slots (.bp i []) = [i] by rfl, elems_b h]
  show (allFz (ds.map .fz)).map _ = _
  rw [allFz_fz]
  rfl
theorem sum_of {env : En} {e : En → Option M} {a : M} {L : List Int} (h : e env = some a) (ha : dats env [a] = some [lI L]) : opr (sop gSum) (aCons e aNil) env = some (.fz (.int L.sum)) := by
  refine opr_of (acons_of h e_anil) (sop_of ha (d := .int L.sum) ?_ rfl)
  show (match intsOf (L.map .int) with
    | some ns => some (D.int ns.sum)
    | none => none) = _
  rw [intsOf_ints]
theorem retM_oI {lk : Nat → Bool} {env : En} (ds : List D) : retM lk env (some (oD ds)) = some (.rt (oD ds) env) := by
  unfold retM sRet
  show (match stow 9 env (oD ds) with
    | some (m', e2) => some (Fl.rt m' e2)
    | none => none) = _
  rw [stow_s (k := 8)]
theorem dat_of {env : En} {m : M} {d : D} (h : dats env [m] = some [d]) : dat env m = some d := by
  have e : dats env [m] = (match datW (plD env) m, some [] with
    | some d, some ds => some (d :: ds)
    | _, _ => none : Option (List D)) := by rfl
  rw [e] at h
  show datW (plD env) m = _
  cases hm : datW (plD env) m with
  | none => rw [hm] at h; cases h
  | some d' => rw [hm] at h; cases h; rfl
theorem len_b {env : En} {f : En → Option M} {m : M} {ds : List D} (h : f env = some m) (hd : dats env [m] = some [.lst ds]) : opr (sop gLen) (aCons f aNil) env = some (.fz (.int ds.length)) :=
  opr_of (acons_of h e_anil) (sop_of hd (show gLen [.lst ds] = some (.int ds.length) from rfl) rfl)
theorem k_eq {neg : Bool} {env : En} {i j : Int} : sop (gEq neg) env [.fz (.int i), .fz (.int j)] = some (.fz (.bl (if neg then !(i == j) else i == j))) := by
  refine sop_of rfl (d := .bl (if neg then !(i == j) else i == j)) ?_ rfl
  rfl
theorem idx_f {env : En} {ds : List D} {i : Int} {d : D} (h : L2.atI ds i = some d) : oIdx env [.fz (.lst ds), .fz (.int i)] = some (.fz d) := by
  have h1 : oIx true env [.fz (.lst ds), .fz (.int i)] = some (.fz d) := by
    show L2.atI (ds.map M.fz) i = _
    exact atI_map h
  show oOr (oIx true) _ env _ = _
  unfold oOr
  rw [h1]
theorem atI_nat {α : Type} {xs : List α} {i : Nat} {x : α} (h : xs[i]? = some x) : L2.atI xs (i : Int) = some x := by
  have hlt := (List.getElem?_eq_some_iff.mp h).1
  unfold L2.atI L2.ixN
  rw [if_pos (by omega), if_pos (by exact_mod_cast hlt)]
  exact h
theorem listOf_b {env : En} {i : Nat} {ds : List D} (h : env.get i = some (oD ds)) : oListOf env [.bp i []] = some (oD ds) := by
  unfold oListOf
  simp only [elems_b h]
theorem itX_of {b : Bool} {g : En → Option (M × En)} {env e1 e2 : En} {m : M} {d : D} {ds : List D} (h : g env = some (m, e1)) (h1 : stow 0 e1 m = some (.fz d, e2)) (h2 : isLst d = b) (h3 : itemsD d = some ds) : itX b g env = some (ds, e2) := by
  unfold itX
  rw [h]
  simp only [h1, h2, h3, if_true]
theorem k_andN {env : En} {a b : Nat} : sop iAnd env [.fz (.int a), .fz (.int b)] = some (.fz (.int ((a &&& b : Nat) : Int))) := k_and
theorem bitOrN (a b : Nat) : Builtin.bitOr (a : Int) (b : Int) = ((a ||| b : Nat) : Int) := by
  have h1 : ¬ (0 : Int) ≤ Builtin.bitNot (a : Int) := by unfold Builtin.bitNot; omega
  have h2 : ¬ (0 : Int) ≤ Builtin.bitNot (b : Int) := by unfold Builtin.bitNot; omega
  have h3 : ∀ x : Int, Builtin.bitNot (Builtin.bitNot x) = x := fun x => by unfold Builtin.bitNot; omega
  unfold Builtin.bitOr Builtin.bitAnd
  rw [decide_eq_false h1, decide_eq_false h2]
  simp only [h3, Int.toNat_natCast]
theorem k_orN {env : En} {a b : Nat} : sop iOr env [.fz (.int a), .fz (.int b)] = some (.fz (.int ((a ||| b : Nat) : Int))) := k_or.trans (by rw [bitOrN])
theorem augI_of {env : En} {op : Int → Int → Int} {fo fi fe : En → Option M} {i : Nat} {j b a : Int} {ms ms' : List M} {r : M} (h1 : fo env = some (.bp i [])) (h2 : fi env = some (.fz (.int j))) (h3 : fe env = some (.fz (.int b))) (h4 : env.get i = some (.ol ms)) (h5 : L2.atI ms j = some (.fz (.int a))) (h6 : mSet ms [.fz (.int j), .fz (.int (op a b))] = some (ms', r)) : sAugI op fo fi fe env = some (.nx (env.put i (.ol ms'))) := by
  unfold sAugI
  rw [h1, h2, h3]
  simp only [place_z h4, h5, h6, setE_z h4]
theorem mSet_nat {L : List Int} {i : Nat} {x : Int} (h : i < L.length) : mSet ((L.map D.int).map .fz) [.fz (.int (i : Int)), .fz (.int x)] = some (((L.set i x).map D.int).map .fz, .fz .non) := by
  have hx : L2.ixN L.length (i : Int) = some i := by
    unfold L2.ixN
    rw [if_pos (by omega), if_pos (by exact_mod_cast h), Int.toNat_natCast]
  unfold mSet
  simp only [List.length_map, hx]
  simp [List.map_set]
theorem atI_ints {L : List Int} {i : Nat} (h : i < L.length) : L2.atI ((L.map D.int).map M.fz) (i : Int) = some (.fz (.int L[i])) := by
  refine atI_nat ?_
  simp [h]
theorem elems_o {env : En} {ms : List M} : elems env (.ol ms) = some (true, ms) := by rfl
theorem cat_oo {env : En} {xs ys : List D} (h : xs.length + ys.length ≤ sizeLine) : oAdd env [oD xs, oD ys] = some (oD (xs ++ ys)) := by
  have h1 : sop iAdd env [oD xs, oD ys] = none := by
    unfold sop
    rw [dats_o (dats_o dats_n)]
    rfl
  have h2 : sop gStr env [oD xs, oD ys] = none := by
    unfold sop
    rw [dats_o (dats_o dats_n)]
    rfl
  have h3 : oCat env [oD xs, oD ys] = some (oD (xs ++ ys)) := by
    unfold oCat
    simp only [elems_o, List.length_map]
    rw [if_pos h]
    show _ = some (M.ol ((xs ++ ys).map M.fz))
    rw [List.map_append]
  show oOr (sop iAdd) (oOr (sop gStr) oCat) env _ = _
  unfold oOr
  rw [h1, h2, h3]
theorem idx_b {env : En} {i : Nat} {L : List Int} {k : Nat} (h : env.get i = some (oI L)) (hk : k < L.length) : oIdx env [.bp i [], .fz (.int (k : Int))] = some (.fz (.int L[k])) := by
  have h1 : oIx true env [.bp i [], .fz (.int (k : Int))] = some (.fz (.int L[k])) := by
    show (match elems env (.bp i []) with
      | some (c, xs) => if c = true then L2.atI xs (k : Int) else none
      | none => none) = _
    rw [elems_b h]
    exact atI_ints hk
  show oOr (oIx true) _ env _ = _
  unfold oOr
  rw [h1]
theorem idx_i {env : En} {L : List Int} {k : Nat} (hk : k < L.length) : oIdx env [.fz (lI L), .fz (.int (k : Int))] = some (.fz (.int L[k])) :=
  idx_f (atI_nat (by simp [hk]))
theorem append_ints {L : List Int} {x : Int} (h : L.length < sizeLine) : mAppend ((L.map D.int).map .fz) [.fz (.int x)] = some (((L ++ [x]).map D.int).map .fz, .fz .non) := by
  rw [append_fz (by simpa using h), List.map_append, List.map_append]
  rfl
theorem k_eqF {env : En} {i j : Int} : sop (gEq false) env [.fz (.int i), .fz (.int j)] = some (.fz (.bl (i == j))) := k_eq.trans (by simp)
theorem k_eqT {env : En} {i j : Int} : sop (gEq true) env [.fz (.int i), .fz (.int j)] = some (.fz (.bl (!(i == j)))) := k_eq.trans (by simp)
theorem lifI_of {it : En → Option (List D)} {env : En} {ds : List D} (h : it env = some ds) : lifI it env = some (ds, env) := by
  unfold lifI
  rw [h]
end T2
end
section
set_option Elab.async false
set_option linter.all false
set_option maxRecDepth 100000
namespace T2
open PySem PySem.Spec PyProof.Rows L2
/-- own slots as they were, the others as they are -/
def En.back : List Nat → En → En → En
  | [], _, e => e
  | v :: vs, o, e => (En.back vs o e).set v (o.get v)
/-- own slots hold nothing that changes -/
def okV (env : En) : List Nat → Bool
  | [] => true
  | v :: vs => (match env.get v with
    | none => true
    | some (.fz _) => true
    | _ => false) && okV env vs
section
variable {K : PySem.W.Frag} {F H F' H' F1 H1 F2 H2 : Hp} {σ σ' σ1 σ2 : L2.St} {env env' e1 e2 o : En} {fp fp' fp1 fp2 : Nat → List Addr} {vs : List Nat}
theorem En.back_len : (En.back vs o e2).length = e2.length := by
  induction vs with
  | nil => rfl
  | cons v vs ih => simp only [En.back, List.length_set]; exact ih
theorem En.get_back {i : Nat} (hl : o.length = e2.length) : (En.back vs o e2).get i = if i ∈ vs then o.get i else e2.get i := by
  induction vs with
  | nil => simp [En.back]
  | cons v vs ih =>
    simp only [En.back]
    by_cases h : i = v
    · subst h
      by_cases hi : i < e2.length
      · have : En.get ((En.back vs o e2).set i (o.get i)) i = o.get i := by
          unfold En.get
          rw [List.getElem?_set_self (by rw [En.back_len]; exact hi)]
          cases o[i]? with
          | none => rfl
          | some x => cases x <;> rfl
        rw [this]
        simp
      · have h1 : En.get ((En.back vs o e2).set i (o.get i)) i = none := by
          unfold En.get
          rw [List.getElem?_eq_none (by rw [List.length_set, En.back_len]; omega)]
        have h2 : o.get i = none := by
          unfold En.get
          rw [List.getElem?_eq_none (by omega)]
        rw [h1, h2]
        simp
    · have : En.get ((En.back vs o e2).set v (o.get v)) i = (En.back vs o e2).get i := by
        unfold En.get
        rw [List.getElem?_set_ne (Ne.symm h)]
      rw [this, ih]
      by_cases hm : i ∈ vs <;> simp [hm, h]
theorem okV_get : ∀ {vs : List Nat} {i : Nat} {m : M}, okV env vs = true → i ∈ vs → env.get i = some m → ∃ d, m = .fz d
  | v :: vs, i, m, h, hi, e => by
    simp only [okV, Bool.and_eq_true] at h
    rcases List.mem_cons.mp hi with rfl | hi
    · have := h.1
      rw [e] at this
      cases m with
      | fz d => exact ⟨d, rfl⟩
      | bp => cases this
      | ol => cases this
      | ot => cases this
      | oi => cases this
      | od => cases this
      | odt _ => cases this
    · exact okV_get h.2 hi e
theorem ond_wipe {a : Addr} (h : Ond (env.wipe vs) fp a) : Ond env fp a := by
  obtain ⟨i, m, e, ha⟩ := h
  exact ⟨i, m, (En.get_wipe e).1, ha⟩
theorem Go.frame (g : Go K [] (L2.wipe σ vs) (env.wipe vs) fp F H σ2 e2 fp2 F2 H2) (ok : EnvOk K F H σ env fp) (hs : L2.wipe σ2 vs = L2.wipe σ vs) (hl : σ2.length = σ.length) (hv : okV env vs = true) :
    Go K [] σ env fp F H σ (En.back vs env e2) (fun i => if i ∈ vs then [] else fp2 i) F2 H2 := by
  have hel : env.length = e2.length := by rw [g.ok.len, hl, ok.len]
  have hon : ∀ a, Ond (En.back vs env e2) (fun i => if i ∈ vs then [] else fp2 i) a → Ond e2 fp2 a := fun a ⟨i, m, e, ha⟩ => by
    by_cases hi : i ∈ vs
    · simp only [hi, if_true] at ha
      cases ha
    · simp only [hi, if_false] at ha
      rw [En.get_back hel, if_neg hi] at e
      exact ⟨i, m, e, ha⟩
  refine ⟨g.fr, fun a o e no z => g.keep a o e (fun w => no (ond_wipe w)) z, g.stay, fun a z => ?_, fun a z => ?_, ?_, g.lok⟩
  · rcases g.nw a z with z | z | z | z
    · exact .inl z
    · exact .inr (.inl z)
    · exact .inr (.inr (.inl (ond_wipe z)))
    · cases z
  · rcases g.nf a (hon a z) with z | z | z
    · exact .inl z
    · exact .inr (.inl (ond_wipe z))
    · cases z
  · refine ⟨by rw [En.back_len, ← hel]; exact ok.len, g.ok.sub, fun i m e => ?_, fun i m e => ?_, fun i j m n a e e' ha hb => ?_⟩
    · rw [En.get_back hel] at e
      by_cases hi : i ∈ vs
      · rw [if_pos hi] at e
        obtain ⟨d, rfl⟩ := okV_get hv hi e
        obtain ⟨v, h1, h2⟩ := ok.slot i _ e
        refine ⟨v, h1, ?_⟩
        simp only [hi, if_true]
        simp only [Own] at h2 ⊢
        exact ⟨trivial, Rep.mono g.fr _ _ h2.2⟩
      · rw [if_neg hi] at e
        obtain ⟨v, h1, h2⟩ := g.ok.slot i m e
        refine ⟨v, ?_, by simp only [hi, if_false]; exact h2⟩
        rw [← wipe_get (σ := σ) hi, ← hs, wipe_get hi]
        exact h1
    · by_cases hi : i ∈ vs
      · simp only [hi, if_true]
        exact List.nodup_nil
      · rw [En.get_back hel, if_neg hi] at e
        simp only [hi, if_false]
        exact g.ok.nd i m e
    · by_cases hi : i ∈ vs
      · simp only [hi, if_true] at ha
        cases ha
      · by_cases hj : j ∈ vs
        · simp only [hj, if_true] at hb
          cases hb
        · rw [En.get_back hel, if_neg hi] at e
          rw [En.get_back hel, if_neg hj] at e'
          simp only [hi, if_false] at ha
          simp only [hj, if_false] at hb
          exact g.ok.dj i j m n a e e' ha hb
end
/-- the items, the outer slots going along -/
def lcLX (vs : List Nat) (t : Tg) (cond : En → Option Bool) (elt : En → Option (M × En)) : List D → En → Option (List M × En)
  | [], env => some ([], env)
  | d :: ds, env => match asT (lkOf vs) t d (env.wipe vs) with
    | some e1 => match cond e1 with
      | some true => match elt e1 with
        | some (m, e2) => if (slots m).isEmpty && okV env vs then (match lcLX vs t cond elt ds (En.back vs env e2) with
          | some (ms, e3) => some (m :: ms, e3)
          | none => none) else none
        | none => none
      | some false => lcLX vs t cond elt ds env
      | none => none
    | none => none
def lcX (vs : List Nat) (t : Tg) (it : En → Option (List D × En)) (cond : En → Option Bool) (elt : En → Option (M × En)) : En → Option (M × En) := fun env => match it env with
  | some (ds, e1) => match lcLX vs t cond elt ds e1 with
    | some (ms, e2) => if ms.length ≤ sizeLine then some (.ol ms, e2) else none
    | none => none
  | none => none
def itR1X (gs : En → Option (List M × En)) : En → Option (List D × En) := fun env => match gs env with
  | some ([.fz (.int j)], e1) => if inR j then some (rngD 0 j.toNat, e1) else none
  | _ => none
section
variable {X : Cx} {tg a b : Expr} {gs : En → Option (List M × En)} {p pos : Pos}
theorem pdi_range1X (hg : Gl X "range") (hm : X.mg "range" = none) (ha : PXA X [a] gs) (hs : starEach [a] X.env = [(false, eval a X.env)] := by rfl) : PDI X tg (.Call (.Name "range" p) [a] [] pos) (itR1X gs) :=
  PI.imp (pi_range1 hg hm ha hs) fun σ H R h => by
    obtain ⟨env, ds, env', F, fp, e, ok, q⟩ := h
    unfold itR1X at e
    split at e
    · rename_i j e1 hj
      split at e
      · rename_i hr
        cases e
        refine ⟨env, [.fz (.int j)], _, F, fp, hj, ok, fun vs F1 H1 fp1 A g o n a' b' => ?_⟩
        obtain ⟨v, rfl, o1⟩ := ownL1 o
        simp only [Own, Rep] at o1
        unfold inR at hr
        have hr := of_decide_eq_true hr
        exact ⟨j, by rw [o1.2], hr.1, hr.2, q _ F1 H1 fp1 g it_rng⟩
      · cases e
    · cases e
end
end T2
end
section
set_option Elab.async false
set_option linter.all false
set_option maxRecDepth 100000
namespace T2
open PySem
section
variable {env e1 e2 e3 : En} {f g t : En → Option M} {fs : En → Option (List M)} {a b r m m' : M} {ms bs as : List M} {o : En → List M → Option M} {d : D} {i k : Nat} {S T : En → Option Fl} {R : Option Fl} {c c' : Bool}
theorem x_nam {i : Nat} (h : env.get i = some m) (h' : namM i (some m) = some r) : nam i env = some r := by rw [e_nam, h, h']
theorem x_lifT {t : En → Option Bool} (h : t env = some c) : lifT t env = some (c, env) := by unfold lifT; rw [h]
theorem x_if {t : En → Option (Bool × En)} (h : t env = some (c, e1)) (h' : (if c = true then S e1 else T e1) = R) : sIf t S T env = R := by
  unfold sIf
  rw [h]
  cases c
  · simpa using h'
  · simpa using h'
theorem x_or {f g : En → Option Bool} (h : f env = some c) (h' : g env = some c') : dOr f g env = some (c || c') := by
  unfold dOr; rw [h]
  cases c
  · simpa using h'
  · rfl
theorem x_and {f g : En → Option Bool} (h : f env = some c) (h' : g env = some c') : dAnd f g env = some (c && c') := by
  unfold dAnd; rw [h]
  cases c
  · rfl
  · simpa using h'
theorem x_vand (h : f env = some (.fz (.bl c))) (h' : g env = some (.fz (.bl c'))) : vAnd f g env = some (.fz (.bl (c && c'))) := by
  unfold vAnd; rw [h]
  cases c
  · rfl
  · simpa using h'
theorem x_vor (h : f env = some (.fz (.bl c))) (h' : g env = some (.fz (.bl c'))) : vOr f g env = some (.fz (.bl (c || c'))) := by
  unfold vOr; rw [h]
  cases c
  · simpa using h'
  · rfl
theorem x_dif {t : En → Option Bool} (h : t env = some c) (h' : f env = some a) (h'' : g env = some b) : dIf t f g env = some (if c = true then a else b) := by
  unfold dIf; rw [h]
  cases c
  · simpa using h''
  · simpa using h'
theorem x_val {t : En → Option Bool} (h : t env = some c) : val t env = some (.fz (.bl c)) := by unfold val; rw [h]
/-- name = value -/
theorem x_asg {lk : Nat → Bool} {i k : Nat} {G : En → Option (M × En)} {m2 : M} (hl : lk i = false) (h : G env = some (m, e1)) (hs : stow k e1 m = some (m', e2)) (hm : m' = m2) (hi : Nat.ble (i + 1) e2.length = true) (he : e2.put i m2 = e3) : sAsg lk i k G env = some (.nx e3) := by
  subst hm he
  exact asgX_of h hs hl (Nat.le_of_ble_eq_true hi)
theorem nrm_I {v w : Int} (h : v = w) : (M.fz (.int v)) = .fz (.int w) := by rw [h]
theorem nrm_B {v w : Bool} (h : v = w) : (M.fz (.bl v)) = .fz (.bl w) := by rw [h]
theorem nrm_O {v w : List Int} (h : v = w) : oI v = oI w := by rw [h]
theorem nrm_L {v w : List Int} (h : v = w) : (M.fz (lI v)) = .fz (lI w) := by rw [h]
theorem x_ret {lk : Nat → Bool} {G : En → Option (M × En)} {m2 : M} (h : G env = some (m, e1)) (hm : m = m2) (hs : retM lk e1 (some m2) = R) : sRet lk G env = R := by
  subst hm
  unfold retM sRet at hs
  unfold sRet
  rw [h]
  exact hs
theorem stow_f {k : Nat} : stow k env (.fz d) = some (.fz d, env) := by cases k <;> rfl
theorem x_mutP {fo : En → Option M} {mu : List M → List M → Option (List M × M)} {ms' : List M} {res : M} {p : List Pa} (h1 : fo env = some (.bp i p)) (h2 : fs env = some as) (h0 : isOl (env.place i p) = true) (h3 : stowA k env as = some (bs, e2)) (h4 : e2.place i p = some (.ol ms)) (h5 : mu ms bs = some (ms', res)) (h6 : setE e2 i p (.ol ms') = some e3) : xMutP k fo fs mu env = some (res, e3) := by
  unfold xMutP
  rw [h1]
  simp only [h2, h0, h3, if_true, h4, h5, h6]
theorem setE_put {m0 : M} (h : env.get i = some m0) (he : env.put i m = e1) : setE env i [] m = some e1 := by subst he; exact setE_z h
theorem x_mut {fo : En → Option M} {gs : En → Option (List M × En)} {mu : List M → List M → Option (List M × M)} {ms' : List M} {res : M} (h1 : fo env = some (.bp i [])) (h2 : gs env = some (as, e1)) (h0 : alv e1 (.bp i []) = true ∧ isOl (env.place i []) = true) (h3 : stowA k e1 as = some (bs, e2)) (h4 : e2.get i = some (.ol ms)) (h5 : mu ms bs = some (ms', res)) (he : e2.put i (.ol ms') = e3) : xMut k fo gs mu env = some (res, e3) := by
  subst he
  exact mutX_of h1 h2 h0 h3 h4 h5
theorem x_callI {io : List Bool} {F : Fn} {gs : En → Option (List M × En)} {i : Nat} {rest tl cs : List M} {n n' : M} (h1 : gs env = some (.bp i [] :: rest, e1)) (h2 : slotsL rest = []) (h3 : e1.get i = some n) (h4 : shutZ io.tail rest = some cs) (h5 : F (n :: cs) = some (r, n' :: tl)) (he : e1.put i n' = e2) : callI io F gs env = some (r, e2) := by
  subst he
  exact callI_of h1 h2 h3 h4 h5
theorem x_set {fo fi : En → Option M} {G : En → Option (M × En)} {ms' : List M} {r2 : M} {j : Int} (h1 : G env = some (m, e1)) (h2 : stow k e1 m = some (m', e2)) (h3 : fo e2 = some (.bp i [])) (h4 : fi e2 = some (.fz (.int j))) (h5 : e2.get i = some (.ol ms)) (h6 : mSet ms [.fz (.int j), m'] = some (ms', r2)) (he : e2.put i (.ol ms') = e3) : sSet k fo fi G env = some (.nx e3) := by
  subst he
  exact set_of h1 h2 h3 h4 h5 h6
theorem x_augN {lk : Nat → Bool} {op : Int → Int → Int} {i : Nat} {G : En → Option (M × En)} {x y : Int} (h : env.get i = some (.fz (.int x))) (h' : G env = some (.fz (.int y), e1)) (hl : lk i = false) (hi : Nat.ble (i + 1) e1.length = true) (he : e1.put i (.fz (.int (op x y))) = e2) : sAugN lk op i G env = some (.nx e2) := by
  subst he
  unfold sAugN
  rw [h]
  simp only [h']
  rw [if_pos ⟨hl, Nat.le_of_ble_eq_true hi⟩]
theorem x_for {lk : Nat → Bool} {t : Tg} {it : En → Option (List D × En)} {ds : List D} (h : it env = some (ds, e1)) (h' : lpF lk t S ds e1 = R) : sFor lk t it S env = R := for_of h h'
/-- ranges -/
theorem x_rng1 {j : Int} (h : fs env = some [.fz (.int j)]) (h' : inR j = true) : itR1 fs env = some (rngD 0 j.toNat) := by
  unfold itR1
  rw [h]
  simp only [h', if_true]
theorem x_rng2 {i j : Int} (h : fs env = some [.fz (.int i), .fz (.int j)]) (h' : inR i = true) (h'' : inR j = true) : itR2 fs env = some (rngD i (j - i).toNat) := by
  unfold itR2
  rw [h]
  simp only [h', h'', Bool.and_self, if_true]
theorem rngD0 (n : Nat) : rngD 0 n = (List.range n).map fun k : Nat => D.int k := by unfold rngD; simp
theorem inR_of {j : Int} (h : -(2 ^ 62) ≤ j) (h' : j < 2 ^ 62) : inR j = true := by unfold inR; exact decide_eq_true ⟨h, h'⟩
theorem x_xop {gs : En → Option (List M × En)} (h : gs env = some (ms, e1)) (h' : o e1 ms = some r) : xop o gs env = some (r, e1) := xop_of h h'
theorem isi_int {x : Int} (h : f env = some (.fz (.int x))) : oIsi (kitT "int") f env = some (.fz (.bl true)) := by
  unfold oIsi; rw [h]; rfl
theorem isi_nbool {x : Int} (h : f env = some (.fz (.int x))) : oIsi (kitT "bool") f env = some (.fz (.bl false)) := by
  unfold oIsi; rw [h]; rfl
theorem items_lst {ds : List D} (h : f env = some m) (h' : items env m = some (.lst ds)) : itP true f env = some ds := by
  unfold itP
  rw [h]
  simp only [h']
  rfl
def at1 (L : List Int) (j : Int) : Int := L.getD j.toNat 0
theorem at1_nat {L : List Int} {k : Nat} (h : k < L.length) : at1 L k = L[k] := by unfold at1; simp [h]
theorem x_idxF {L : List Int} {j : Int} (h0 : 0 ≤ j) (h1 : j < L.length) : oIdx env [.fz (lI L), .fz (.int j)] = some (.fz (.int (at1 L j))) := by
  obtain ⟨k, rfl⟩ : ∃ k : Nat, j = k := ⟨j.toNat, by omega⟩
  have hk : k < L.length := by omega
  rw [at1_nat hk]
  exact idx_i hk
theorem x_idxB {i : Nat} {L : List Int} {j : Int} (h : env.get i = some (oI L)) (h0 : 0 ≤ j) (h1 : j < L.length) : oIdx env [.bp i [], .fz (.int j)] = some (.fz (.int (at1 L j))) := by
  obtain ⟨k, rfl⟩ : ∃ k : Nat, j = k := ⟨j.toNat, by omega⟩
  have hk : k < L.length := by omega
  rw [at1_nat hk]
  exact idx_b h hk
theorem x_idxO {L : List Int} {j : Int} (h0 : 0 ≤ j) (h1 : j < L.length) : oIdx env [oI L, .fz (.int j)] = some (.fz (.int (at1 L j))) := by
  obtain ⟨k, rfl⟩ : ∃ k : Nat, j = k := ⟨j.toNat, by omega⟩
  have hk : k < L.length := by omega
  rw [at1_nat hk]
  have h1 : oIx true env [oI L, .fz (.int (k : Int))] = some (.fz (.int L[k])) := by
    show L2.atI ((L.map D.int).map M.fz) (k : Int) = _
    exact atI_ints hk
  show oOr (oIx true) _ env _ = _
  unfold oOr
  rw [h1]
theorem x_lenI {L : List Int} (h : f env = some m) (hd : dats env [m] = some [lI L]) : opr (sop gLen) (aCons f aNil) env = some (.fz (.int L.length)) := by
  have := len_b h hd
  rwa [List.length_map] at this
theorem x_lenS {ns : List Int} (h : f env = some (.fz (.scr ns))) : opr (sop gLen) (aCons f aNil) env = some (.fz (.int ns.length)) :=
  opr_of (acons_of h e_anil) (sop_of (dats_f dats_n) (show gLen [.scr ns] = some (.int ns.length) from rfl) rfl)
theorem x_sumI {L : List Int} (h : f env = some a) (ha : dats env [a] = some [lI L]) : opr (sop gSum) (aCons f aNil) env = some (.fz (.int L.sum)) := sum_of h ha
theorem x_append {L : List Int} {x : Int} (h : (L.length : Int) < 16777216) : mAppend ((L.map D.int).map .fz) [.fz (.int x)] = some (((L ++ [x]).map D.int).map .fz, .fz .non) := append_ints (by simp only [sizeLine]; omega)
theorem x_mset {L : List Int} {j x : Int} (h0 : 0 ≤ j) (h1 : j < L.length) : mSet ((L.map D.int).map .fz) [.fz (.int j), .fz (.int x)] = some (((L.set j.toNat x).map D.int).map .fz, .fz .non) := by
  obtain ⟨k, rfl⟩ : ∃ k : Nat, j = k := ⟨j.toNat, by omega⟩
  rw [mSet_nat (by omega), Int.toNat_natCast]
theorem x_sl {lo hi : Option (En → Option M)} {l h : Option Int} (h0 : f env = some m) (hl : sPart lo env = some l) (hh : sPart hi env = some h) (hs : slM env l h m = some r) : oSl f lo hi env = some r := by
  unfold oSl
  rw [h0, hl, hh]
  exact hs
theorem part_n : sPart none env = some none := by rfl
theorem part_s {j : Int} (h : f env = some (.fz (.int j))) : sPart (some f) env = some (some j) := by
  simp only [sPart, h]
theorem slM_b {i : Nat} {L : List Int} {l h : Option Int} (h0 : env.get i = some (oI L)) : slM env l h (.bp i []) = some (oI (cutM L l h)) := by
  unfold slM
  simp only [elems_b h0, cut_map]
theorem slM_s {ns : List Int} {l h : Option Int} : slM env l h (.fz (.scr ns)) = some (oI (cutM ns l h)) := by
  show some (M.ol ((cutM ns l h).map fun n => .fz (.int n))) = _
  show _ = some (M.ol (((cutM ns l h).map D.int).map M.fz))
  rw [List.map_map]
  rfl
theorem slM_f {L : List Int} {l h : Option Int} : slM env l h (.fz (lI L)) = some (oI (cutM L l h)) := by
  show some (M.ol ((cutM ((L.map D.int).map M.fz) l h))) = _
  rw [cut_map, cut_map]
theorem x_cat {xs ys : List Int} (h : xs.length + ys.length ≤ sizeLine) : oAdd env [oI xs, oI ys] = some (oI (xs ++ ys)) := by
  have := cat_oo (env := env) (xs := xs.map .int) (ys := ys.map .int) (by simpa using h)
  rw [this]
  show some (oD _) = some (oD _)
  rw [List.map_append]
theorem k_lstI1 {x : Int} : oLst env [.fz (.int x)] = some (oI [x]) := k_lst (by simp [sizeLine])
theorem k_lstI0 : oLst env [] = some (oI []) := k_lst (by simp [sizeLine])
def rngI (n : Int) : List Int := (List.range n.toNat).map fun k : Nat => (k : Int)
def rngI2 (i j : Int) : List Int := (List.range (j - i).toNat).map fun k : Nat => i + (k : Int)
theorem mem_rngI {n x : Int} : x ∈ rngI n ↔ 0 ≤ x ∧ x < n := by
  unfold rngI
  simp only [List.mem_map, List.mem_range]
  constructor
  · rintro ⟨k, hk, rfl⟩
    omega
  · rintro ⟨h, h'⟩
    exact ⟨x.toNat, by omega, by omega⟩
theorem mem_rngI2 {i j x : Int} : x ∈ rngI2 i j ↔ i ≤ x ∧ x < j := by
  unfold rngI2
  simp only [List.mem_map, List.mem_range]
  constructor
  · rintro ⟨k, hk, rfl⟩
    omega
  · rintro ⟨h, h'⟩
    exact ⟨(x - i).toNat, by omega, by omega⟩
theorem rngI_len {n : Int} : (rngI n).length = n.toNat := by unfold rngI; simp
theorem rngI2_len {i j : Int} : (rngI2 i j).length = (j - i).toNat := by unfold rngI2; simp
theorem x_rI1 {j : Int} (h : fs env = some [.fz (.int j)]) (h' : inR j = true) : itR1 fs env = some ((rngI j).map .int) := by
  rw [x_rng1 h h', rngD0]
  unfold rngI
  rw [List.map_map]
  rfl
theorem x_rI2 {i j : Int} (h : fs env = some [.fz (.int i), .fz (.int j)]) (h' : inR i = true) (h'' : inR j = true) : itR2 fs env = some ((rngI2 i j).map .int) := by
  rw [x_rng2 h h' h'']
  unfold rngI2 rngD
  rw [List.map_map]
  rfl
theorem asT_nm {lk : Nat → Bool} {i : Nat} (h : lk i = false) (h' : Nat.ble (i + 1) env.length = true) (he : env.put i (.fz d) = e1) : asT lk (.nm i) d env = some e1 := by
  subst he
  unfold asT
  rw [if_pos ⟨h, Nat.le_of_ble_eq_true h'⟩]
theorem lp_inv {lk : Nat → Bool} {t : Tg} {B : En → Option Fl} (Inv : List D → En → Prop) (ts : List D) (hs : ∀ pre d post, pre ++ d :: post = ts → ∀ e, Inv pre e → ∃ e1 e2, asT lk t d e = some e1 ∧ B e1 = some (.nx e2) ∧ Inv (pre ++ [d]) e2) {e : En} (h0 : Inv [] e) :
    ∃ e', lpF lk t B ts e = some (.nx e') ∧ Inv ts e' := by
  suffices ∀ (post pre : List D) (e : En), pre ++ post = ts → Inv pre e → ∃ e', lpF lk t B post e = some (.nx e') ∧ Inv ts e' from this ts [] e rfl h0
  intro post
  induction post with
  | nil =>
    intro pre e hp h
    rw [List.append_nil] at hp
    subst hp
    exact ⟨e, lp_nil, h⟩
  | cons d post ih =>
    intro pre e hp h
    obtain ⟨e1, e2, h1, h2, h3⟩ := hs pre d post hp e h
    obtain ⟨e', h4, h5⟩ := ih (pre ++ [d]) e2 (by rw [List.append_assoc]; exact hp) h3
    exact ⟨e', lp_cons h1 h2 h4, h5⟩
/-- over range(n): the turn's number -/
theorem lp_rng {lk : Nat → Bool} {t : Tg} {B : En → Option Fl} (Inv : Nat → En → Prop) (n : Int) (hs : ∀ k : Nat, (k : Int) < n → ∀ e, Inv k e → ∃ e1 e2, asT lk t (.int k) e = some e1 ∧ B e1 = some (.nx e2) ∧ Inv (k + 1) e2) {e : En} (h0 : Inv 0 e) :
    ∃ e', lpF lk t B ((rngI n).map .int) e = some (.nx e') ∧ Inv n.toNat e' := by
  obtain ⟨e', h1, h2⟩ := lp_inv (lk := lk) (t := t) (B := B) (fun pre e => Inv pre.length e) ((rngI n).map .int) (fun pre d post hp e h => by
    have hd : ((rngI n).map D.int)[pre.length]? = some d := by rw [← hp]; simp
    have hlen : pre.length < ((rngI n).map D.int).length := by rw [← hp]; simp
    rw [List.length_map, rngI_len] at hlen
    have : d = .int pre.length := by
      unfold rngI at hd
      rw [List.map_map, List.getElem?_map, List.getElem?_range hlen] at hd
      cases hd
      rfl
    subst this
    obtain ⟨e1, e2, g1, g2, g3⟩ := hs pre.length (by omega) e h
    exact ⟨e1, e2, g1, g2, by simpa using g3⟩) h0
  rw [List.length_map, rngI_len] at h2
  exact ⟨e', h1, h2⟩
theorem k_eqLF {xs ys : List Int} (hd : dats env [a, b] = some [lI xs, lI ys]) : sop (gEq false) env [a, b] = some (.fz (.bl (xs == ys))) := (sop_of hd (gEq_ints false xs ys) rfl).trans (by simp)
theorem k_eqLT {xs ys : List Int} (hd : dats env [a, b] = some [lI xs, lI ys]) : sop (gEq true) env [a, b] = some (.fz (.bl (!(xs == ys)))) := (sop_of hd (gEq_ints true xs ys) rfl).trans (by simp)
theorem g_get {i : Nat} (h : En.get env i = some m) : En.get env i = some m := h
theorem g_place {i : Nat} {p : List Pa} (h : En.place env i p = some m) : En.place env i p = some m := h
theorem g_isOl {q : Option M} (h : isOl q = true) : isOl q = true := h
theorem g_alv (h : alv env m = true) : alv env m = true := h
theorem g_alv2 {q : Prop} (h : alv env m = true) (h' : q) : alv env m = true ∧ q := ⟨h, h'⟩
theorem g_stow {k : Nat} {q : Option (M × En)} (h : stow k env m = q) : stow k env m = q := h
theorem g_slots {l : List Nat} (h : slotsL ms = l) : slotsL ms = l := h
theorem g_ble {x y : Nat} (h : Nat.ble x y = true) : Nat.ble x y = true := h
theorem g_put {i : Nat} (h : En.put env i m = e1) : En.put env i m = e1 := h
theorem g_retM {lk : Nat → Bool} {q : Option M} (h : retM lk env q = R) : retM lk env q = R := h
theorem g_outs {lk : Nat → Bool} {j : Nat} {q : Option (List M)} (h : outs lk env j ms = q) : outs lk env j ms = q := h
theorem g_shut {io : List Bool} {q : Option (List M)} (h : shutZ io ms = q) : shutZ io ms = q := h
theorem slotsL_n : slotsL [] = [] := rfl
theorem slotsL_cf (h : slotsL ms = []) : slotsL (.fz d :: ms) = [] := h
theorem slotsL_co {ds : List D} (h : slotsL ms = []) : slotsL (oD ds :: ms) = [] := by
  show slotsL (ds.map .fz) ++ slotsL ms = []
  rw [slotsL_fz, h]
  rfl
theorem shutZ_n : shutZ [] [] = some [] := rfl
theorem stowA_n {k : Nat} : stowA k env [] = some ([], env) := rfl
theorem stowA_1 {k : Nat} (h : stow k env m = some (m', e1)) : stowA k env [m] = some ([m'], e1) := by
  unfold stowA
  simp only [h]
theorem stowA_2 {k : Nat} (h : stow k env m = some (m', e1)) : stowA k env [.fz d, m] = some ([.fz d, m'], e1) := by
  unfold stowA
  simp only [h]
theorem g_eq {A : Type} {x : Option A} {y : A} (h : x = some y) : x = some y := h
theorem g_prop {p : Prop} (h : p) : p := h
theorem x_augI {op : Int → Int → Int} {fo fi fe : En → Option M} {i : Nat} {j b : Int} {L : List Int} (h1 : fo env = some (.bp i [])) (h2 : fi env = some (.fz (.int j))) (h3 : fe env = some (.fz (.int b))) (h4 : env.get i = some (oI L)) (h5 : 0 ≤ j) (h6 : j < L.length) (he : env.put i (oI (L.set j.toNat (op (at1 L j) b))) = e1) : sAugI op fo fi fe env = some (.nx e1) := by
  subst he
  have h7 : L2.atI ((L.map D.int).map M.fz) j = some (.fz (.int (at1 L j))) := by
    obtain ⟨k, rfl⟩ : ∃ k : Nat, j = k := ⟨j.toNat, by omega⟩
    rw [at1_nat (by omega)]
    exact atI_ints (by omega)
  exact augI_of h1 h2 h3 h4 h7 (x_mset h5 h6)
theorem setE_p1 {i k : Nat} {p : List Pa} {ms ms' : List M} {x n : M} (hp : p = [.ix k]) (h : env.get i = some (.ol ms)) (hk : ms[k]? = some x) (hs : ms.set k n = ms') (he : env.put i (.ol ms') = e1) : setE env i p n = some e1 := by
  subst hs he hp
  unfold setE
  rw [h]
  have : setP (.ol ms) [.ix k] n = some (.ol (ms.set k n)) := by
    show (match ms[k]? with
      | some m => (setP m [] n).map fun m' => M.ol (ms.set k m')
      | none => none) = _
    rw [hk]
    simp only [setP_nil, Option.map_some]
  simp only [this, Option.map_some]
theorem g_set {ms ms' : List M} {k : Nat} {n : M} (h : ms.set k n = ms') : ms.set k n = ms' := h
theorem x_unp {lk : Nat → Bool} {t : Tg} {G : En → Option (M × En)} (h : G env = some (m, e1)) (hs : stow 0 e1 m = some (.fz d, e2)) (ha : asT lk t d e2 = some e3) : sUnp lk t G env = some (.nx e3) := by
  unfold sUnp
  rw [h]
  simp only [hs, ha]
theorem asT_tp {lk : Nat → Bool} {ts : List Tg} {ds : List D} (h : ts.length = ds.length) (h' : asTs lk ts ds env = some e1) : asT lk (.tp ts) (.tup ds) env = some e1 := by
  unfold asT
  rw [if_pos h]
  exact h'
theorem asT_tl {lk : Nat → Bool} {ts : List Tg} {ds : List D} (h : ts.length = ds.length) (h' : asTs lk ts ds env = some e1) : asT lk (.tp ts) (.lst ds) env = some e1 := by
  unfold asT
  rw [if_pos h]
  exact h'
theorem asTs_n {lk : Nat → Bool} : asTs lk [] [] env = some env := by unfold asTs; rfl
theorem asTs_c {lk : Nat → Bool} {t : Tg} {ts : List Tg} {ds : List D} (h : asT lk t d env = some e1) (h' : asTs lk ts ds e1 = some e2) : asTs lk (t :: ts) (d :: ds) env = some e2 := by
  unfold asTs
  rw [h]
  exact h'
theorem x_wh {n : Nat} {c : En → Option (Bool × En)} (h : lpW c S n env = R) : sWh n c S env = R := h
theorem g_lp {lk : Nat → Bool} {t : Tg} {ts : List D} (h : lpF lk t S ts env = R) : lpF lk t S ts env = R := h
theorem g_lw {n : Nat} {c : En → Option (Bool × En)} (h : lpW c S n env = R) : lpW c S n env = R := h
theorem shut_f {k : Nat} : shut k (.fz d) = some (.fz d) := by cases k <;> rfl
theorem shut_s {k : Nat} {ds : List D} : shut (k + 1) (oD ds) = some (oD ds) := by
  show (shutL k (ds.map .fz)).map M.ol = _
  rw [shutL_fz]
  rfl
theorem shut_ol {k : Nat} {ms ms' : List M} (h : shutL k ms = some ms') : shut (k + 1) (.ol ms) = some (.ol ms') := by
  show (shutL k ms).map M.ol = _
  rw [h]
  rfl
theorem shut_ot {k : Nat} {ms ms' : List M} (h : shutL k ms = some ms') : shut (k + 1) (.ot ms) = some (.ot ms') := by
  show (shutL k ms).map M.ot = _
  rw [h]
  rfl
theorem shutL_n {k : Nat} : shutL k [] = some [] := by cases k <;> rfl
theorem shutL_c {k : Nat} {ms ms' : List M} (h : shut k m = some m') (h' : shutL k ms = some ms') : shutL k (m :: ms) = some (m' :: ms') := by
  show (match shut k m, shutL k ms with
    | some n, some ns => some (n :: ns)
    | _, _ => none) = _
  rw [h, h']
theorem stow_ol {k : Nat} {ms ms' : List M} (h : slotsL ms = []) (h' : shutL k ms = some ms') : stow (k + 1) env (.ol ms) = some (.ol ms', env) := by
  unfold stow
  rw [show slots (.ol ms) = [] from h]
  show (shut (k + 1) (.ol ms)).map _ = _
  rw [shut_ol h']
  rfl
theorem stow_ot {k : Nat} {ms ms' : List M} (h : slotsL ms = []) (h' : shutL k ms = some ms') : stow (k + 1) env (.ot ms) = some (.ot ms', env) := by
  unfold stow
  rw [show slots (.ot ms) = [] from h]
  show (shut (k + 1) (.ot ms)).map _ = _
  rw [shut_ot h']
  rfl
theorem slotsL_cl {ns : List M} (h : slotsL ns = []) (h' : slotsL ms = []) : slotsL (.ol ns :: ms) = [] := by
  show slotsL ns ++ slotsL ms = []
  rw [h, h']
  rfl
theorem slotsL_ct {ns : List M} (h : slotsL ns = []) (h' : slotsL ms = []) : slotsL (.ot ns :: ms) = [] := by
  show slotsL ns ++ slotsL ms = []
  rw [h, h']
  rfl
theorem g_meq {m m' : M} (h : m = m') : m = m' := h
end
end T2
end
section
set_option Elab.async false
set_option linter.all false
set_option maxRecDepth 100000
namespace T2
open PySem PySem.Spec PyProof.Rows L2
def lpO (x : Nat) (body : En → Option Fl) : List M → En → Option (List M × En)
  | [], env => some ([], env)
  | m :: ms, env => match body (env.put x m) with
    | some (.nx e2) => match e2.get x with
      | some m' => match lpO x body ms (e2.kill x) with
        | some (ms', e3) => some (m' :: ms', e3)
        | none => none
      | none => none
    | _ => none
def sForO (lk : Nat → Bool) (i x : Nat) (body : En → Option Fl) : En → Option Fl := fun env => match env.get i with
  | some (.ol ms) => if lk x = false ∧ x < env.length ∧ i ≠ x then (match lpO x body ms ((env.kill i).kill x) with
    | some (ms', e) => some (.nx (e.put i (.ol ms')))
    | none => none) else none
  | _ => none
def froz : Option M → Option M
  | some m => (dat0 m).map .fz
  | none => none
def frzT (f : En → Option Bool) : En → Option Bool := fun env => f (env.map froz)
def frzE (f : En → Option M) : En → Option M := fun env => match f (env.map froz) with
  | some r => if sLf r then some r else none
  | none => none
theorem froz_n : froz none = none := rfl
theorem froz_f {d : D} : froz (some (.fz d)) = some (.fz d) := rfl
theorem froz_o {ds : List D} : froz (some (oD ds)) = some (.fz (.lst ds)) := by
  show (datW (fun _ _ => none) (oD ds)).map M.fz = _
  rw [datW_oD]
  rfl
theorem dat0_f {d : D} : dat0 (.fz d) = some d := rfl
theorem dat0_o {ds : List D} : dat0 (oD ds) = some (.lst ds) := datW_oD ds
def datL0 (ms : List M) : Option (List D) := datWL (fun _ _ => none) ms
theorem datL0_n : datL0 [] = some [] := rfl
theorem datL0_c {m : M} {ms : List M} {d : D} {ds : List D} (h : dat0 m = some d) (h' : datL0 ms = some ds) : datL0 (m :: ms) = some (d :: ds) := by
  show (match datW (fun _ _ => none) m, datWL (fun _ _ => none) ms with
    | some d, some ds => some (d :: ds)
    | _, _ => none) = _
  rw [show datW (fun _ _ => none) m = some d from h, show datWL (fun _ _ => none) ms = some ds from h']
theorem dat0_l {ms : List M} {ds : List D} (h : datL0 ms = some ds) : dat0 (.ol ms) = some (.lst ds) := by
  show (datWL (fun _ _ => none) ms).map D.lst = _
  rw [show datWL (fun _ _ => none) ms = some ds from h]
  rfl
theorem dat0_t {ms : List M} {ds : List D} (h : datL0 ms = some ds) : dat0 (.ot ms) = some (.tup ds) := by
  show (datWL (fun _ _ => none) ms).map D.tup = _
  rw [show datWL (fun _ _ => none) ms = some ds from h]
  rfl
theorem froz_m {m : M} {d : D} (h : dat0 m = some d) : froz (some m) = some (.fz d) := by
  show (dat0 m).map M.fz = _
  rw [h]
  rfl
def frozL (env : En) : En := env.map froz
theorem frozL_n : frozL [] = [] := rfl
theorem frozL_c {o o' : Option M} {env env' : En} (h : froz o = o') (h' : frozL env = env') : frozL (o :: env) = o' :: env' := by
  subst h h'
  rfl
theorem x_frzT {f : En → Option Bool} {env env' : En} {b : Bool} (h : frozL env = env') (h' : f env' = some b) : frzT f env = some b := by
  subst h
  exact h'
theorem x_frzE {f : En → Option M} {env env' : En} {r : M} (h : frozL env = env') (h' : f env' = some r) (h'' : sLf r = true) : frzE f env = some r := by
  subst h
  unfold frzE
  rw [show env.map froz = frozL env from rfl, h']
  simp only [h'', if_true]
theorem stow_zl {env : En} {ms : List M} {ds : List D} (h : slotsL ms = []) (h' : datL0 ms = some ds) : stow 0 env (.ol ms) = some (.fz (.lst ds), env) := by
  unfold stow
  rw [show slots (.ol ms) = [] from h]
  show (shut 0 (.ol ms)).map _ = _
  rw [show shut 0 (.ol ms) = (dat0 (.ol ms)).map .fz by rfl, dat0_l h']
  rfl
theorem stow_zt {env : En} {ms : List M} {ds : List D} (h : slotsL ms = []) (h' : datL0 ms = some ds) : stow 0 env (.ot ms) = some (.fz (.tup ds), env) := by
  unfold stow
  rw [show slots (.ot ms) = [] from h]
  show (shut 0 (.ot ms)).map _ = _
  rw [show shut 0 (.ot ms) = (dat0 (.ot ms)).map .fz by rfl, dat0_t h']
  rfl
theorem sLf_ol {L : List Int} : sLf (oI L) = true := sLf_oI L
theorem sLf_nil : sLf (.ol []) = true := rfl
theorem lpO_n {x : Nat} {B : En → Option Fl} {env : En} : lpO x B [] env = some ([], env) := rfl
theorem lpO_c {x : Nat} {B : En → Option Fl} {env e1 e2 e3 e4 : En} {m m' : M} {ms ms' : List M} (he : env.put x m = e1) (h : B e1 = some (.nx e2)) (h' : e2.get x = some m') (hk : e2.kill x = e3) (h'' : lpO x B ms e3 = some (ms', e4)) : lpO x B (m :: ms) env = some (m' :: ms', e4) := by
  subst he hk
  unfold lpO
  rw [h]
  simp only [h', h'']
theorem x_forO {lk : Nat → Bool} {i x : Nat} {B : En → Option Fl} {env e1 e2 e3 : En} {ms ms' : List M} (hl : lk x = false) (hx : Nat.ble (x + 1) env.length = true) (hi : i ≠ x) (h : env.get i = some (.ol ms)) (he : (env.kill i).kill x = e1) (h' : lpO x B ms e1 = some (ms', e2)) (he' : e2.put i (.ol ms') = e3) : sForO lk i x B env = some (.nx e3) := by
  subst he he'
  unfold sForO
  rw [h]
  simp only [h']
  rw [if_pos ⟨hl, Nat.le_of_ble_eq_true hx, hi⟩]
end T2
end
section
set_option Elab.async false
set_option linter.all false
set_option maxRecDepth 100000
namespace T2
open PySem
mutual
/-- as Python has it -/
def eqD : D → D → Bool
  | .non, .non => true
  | .bl a, .bl b => a == b
  | .bl a, .int j => (if a then 1 else 0) == j
  | .int i, .bl b => i == (if b then 1 else 0)
  | .int i, .int j => i == j
  | .str x, .str y => x == y
  | .lst xs, .lst ys => eqDL xs ys
  | .tup xs, .tup ys => eqDL xs ys
  | _, _ => false
def eqDL : List D → List D → Bool
  | [], [] => true
  | x :: xs, y :: ys => eqD x y && eqDL xs ys
  | _, _ => false
end
mutual
/-- data that is compared: no deeper than k, its texts plain -/
def gd : Nat → D → Bool
  | _, .non => true
  | _, .bl _ => true
  | _, .int _ => true
  | _, .str x => PyData.strOk x
  | k + 1, .lst xs => gdL k xs
  | k + 1, .tup xs => gdL k xs
  | _, _ => false
def gdL : Nat → List D → Bool
  | _, [] => true
  | k, x :: xs => gd k x && gdL k xs
end
mutual
theorem gd_ok : ∀ (k : Nat) (d : D), gd k d = true → ∃ x, pyD d = some x ∧ PyData.canLay0 x = true ∧ PyData.depth x ≤ k
  | k, .non, _ => ⟨.none, rfl, rfl, Nat.zero_le _⟩
  | k, .bl b, _ => ⟨.bool b, rfl, rfl, Nat.zero_le _⟩
  | k, .int i, _ => ⟨.int i, rfl, rfl, Nat.zero_le _⟩
  | k, .str x, h => ⟨.str x, rfl, by simpa [gd, PyData.canLay0] using h, Nat.zero_le _⟩
  | k + 1, .lst xs, h => by
    obtain ⟨ys, h1, h2, h3⟩ := gdL_ok k xs (by simpa [gd] using h)
    exact ⟨.list ys, by simp [pyD, h1], by simpa [PyData.canLay0] using h2, by simpa [PyData.depth] using h3⟩
  | k + 1, .tup xs, h => by
    obtain ⟨ys, h1, h2, h3⟩ := gdL_ok k xs (by simpa [gd] using h)
    exact ⟨.tuple ys, by simp [pyD, h1], by simpa [PyData.canLay0] using h2, by simpa [PyData.depth] using h3⟩
  | 0, .lst xs, h => by simp [gd] at h
  | 0, .tup xs, h => by simp [gd] at h
  | k, .ins _ _, h => by cases k <;> simp [gd] at h
  | k, .dic _ _, h => by cases k <;> simp [gd] at h
  | k, .any, h => by cases k <;> simp [gd] at h
  | k, .exc _ _ _, h => by cases k <;> simp [gd] at h
  | k, .scr _, h => by cases k <;> simp [gd] at h
theorem gdL_ok : ∀ (k : Nat) (ds : List D), gdL k ds = true → ∃ xs, pyDL ds = some xs ∧ PyData.canLayAll0 xs = true ∧ PyData.depthAll xs ≤ k
  | k, [], _ => ⟨[], rfl, rfl, Nat.zero_le _⟩
  | k, d :: ds, h => by
    simp only [gdL, Bool.and_eq_true] at h
    obtain ⟨x, h1, h2, h3⟩ := gd_ok k d h.1
    obtain ⟨xs, h4, h5, h6⟩ := gdL_ok k ds h.2
    exact ⟨x :: xs, by simp [pyDL, h1, h4], by simp [PyData.canLayAll0, h2, h5], by simp only [PyData.depthAll]; exact Nat.max_le.mpr ⟨h3, h6⟩⟩
end
mutual
theorem eqD_ok : ∀ (d e : D) (x y : PyData), (∃ k, gd k d = true) → (∃ k, gd k e = true) → pyD d = some x → pyD e = some y → PyData.eqv x y = eqD d e
  | d, e, x, y, hd, he, h, h' => by
    cases d with
    | ins _ _ => obtain ⟨k, hk⟩ := hd; cases k <;> simp [gd] at hk
    | scr _ => obtain ⟨k, hk⟩ := hd; cases k <;> simp [gd] at hk
    | dic _ _ => obtain ⟨k, hk⟩ := hd; cases k <;> simp [gd] at hk
    | any => obtain ⟨k, hk⟩ := hd; cases k <;> simp [gd] at hk
    | exc _ _ _ => obtain ⟨k, hk⟩ := hd; cases k <;> simp [gd] at hk
    | lst xs =>
      cases e with
      | ins _ _ => obtain ⟨k, hk⟩ := he; cases k <;> simp [gd] at hk
      | scr _ => obtain ⟨k, hk⟩ := he; cases k <;> simp [gd] at hk
      | dic _ _ => obtain ⟨k, hk⟩ := he; cases k <;> simp [gd] at hk
      | any => obtain ⟨k, hk⟩ := he; cases k <;> simp [gd] at hk
      | exc _ _ _ => obtain ⟨k, hk⟩ := he; cases k <;> simp [gd] at hk
      | lst ys =>
        simp only [pyD, Option.map_eq_some_iff] at h h'
        obtain ⟨us, h1, rfl⟩ := h
        obtain ⟨vs, h2, rfl⟩ := h'
        obtain ⟨k, hk⟩ := hd
        obtain ⟨j, hj⟩ := he
        cases k with
        | zero => simp [gd] at hk
        | succ k =>
          cases j with
          | zero => simp [gd] at hj
          | succ j => simpa [PyData.eqv, eqD] using eqDL_ok xs ys us vs ⟨k, by simpa [gd] using hk⟩ ⟨j, by simpa [gd] using hj⟩ h1 h2
      | tup ys =>
        simp only [pyD, Option.map_eq_some_iff] at h h'
        obtain ⟨us, h1, rfl⟩ := h
        obtain ⟨vs, h2, rfl⟩ := h'
        simp [PyData.eqv, eqD]
      | _ => simp only [pyD, Option.map_eq_some_iff] at h; obtain ⟨us, h1, rfl⟩ := h; simp only [pyD, Option.some.injEq] at h'; subst h'; simp [PyData.eqv, eqD]
    | tup xs =>
      cases e with
      | ins _ _ => obtain ⟨k, hk⟩ := he; cases k <;> simp [gd] at hk
      | scr _ => obtain ⟨k, hk⟩ := he; cases k <;> simp [gd] at hk
      | dic _ _ => obtain ⟨k, hk⟩ := he; cases k <;> simp [gd] at hk
      | any => obtain ⟨k, hk⟩ := he; cases k <;> simp [gd] at hk
      | exc _ _ _ => obtain ⟨k, hk⟩ := he; cases k <;> simp [gd] at hk
      | tup ys =>
        simp only [pyD, Option.map_eq_some_iff] at h h'
        obtain ⟨us, h1, rfl⟩ := h
        obtain ⟨vs, h2, rfl⟩ := h'
        obtain ⟨k, hk⟩ := hd
        obtain ⟨j, hj⟩ := he
        cases k with
        | zero => simp [gd] at hk
        | succ k =>
          cases j with
          | zero => simp [gd] at hj
          | succ j => simpa [PyData.eqv, eqD] using eqDL_ok xs ys us vs ⟨k, by simpa [gd] using hk⟩ ⟨j, by simpa [gd] using hj⟩ h1 h2
      | lst ys =>
        simp only [pyD, Option.map_eq_some_iff] at h h'
        obtain ⟨us, h1, rfl⟩ := h
        obtain ⟨vs, h2, rfl⟩ := h'
        simp [PyData.eqv, eqD]
      | _ => simp only [pyD, Option.map_eq_some_iff] at h; obtain ⟨us, h1, rfl⟩ := h; simp only [pyD, Option.some.injEq] at h'; subst h'; simp [PyData.eqv, eqD]
    | _ =>
      cases e with
      | ins _ _ => obtain ⟨k, hk⟩ := he; cases k <;> simp [gd] at hk
      | scr _ => obtain ⟨k, hk⟩ := he; cases k <;> simp [gd] at hk
      | dic _ _ => obtain ⟨k, hk⟩ := he; cases k <;> simp [gd] at hk
      | any => obtain ⟨k, hk⟩ := he; cases k <;> simp [gd] at hk
      | exc _ _ _ => obtain ⟨k, hk⟩ := he; cases k <;> simp [gd] at hk
      | lst ys => simp only [pyD, Option.map_eq_some_iff] at h'; obtain ⟨us, h1, rfl⟩ := h'; simp only [pyD, Option.some.injEq] at h; subst h; simp [PyData.eqv, eqD]
      | tup ys => simp only [pyD, Option.map_eq_some_iff] at h'; obtain ⟨us, h1, rfl⟩ := h'; simp only [pyD, Option.some.injEq] at h; subst h; simp [PyData.eqv, eqD]
      | _ => simp only [pyD, Option.some.injEq] at h h'; subst h h'; simp [PyData.eqv, eqD]
theorem eqDL_ok : ∀ (ds es : List D) (xs ys : List PyData), (∃ k, gdL k ds = true) → (∃ k, gdL k es = true) → pyDL ds = some xs → pyDL es = some ys → PyData.eqvAll xs ys = eqDL ds es
  | [], [], xs, ys, _, _, h, h' => by cases h; cases h'; rfl
  | [], e :: es, xs, ys, _, _, h, h' => by
    simp only [pyDL] at h h'
    cases h
    split at h'
    · cases h'; rfl
    · cases h'
  | d :: ds, [], xs, ys, _, _, h, h' => by
    simp only [pyDL] at h h'
    cases h'
    split at h
    · cases h; rfl
    · cases h
  | d :: ds, e :: es, xs, ys, ⟨k, hk⟩, ⟨j, hj⟩, h, h' => by
    simp only [pyDL] at h h'
    simp only [gdL, Bool.and_eq_true] at hk hj
    split at h
    · rename_i x xs' h1 h2
      cases h
      split at h'
      · rename_i y ys' h3 h4
        cases h'
        simp only [PyData.eqvAll, eqDL]
        rw [eqD_ok d e x y ⟨k, hk.1⟩ ⟨j, hj.1⟩ h1 h3, eqDL_ok ds es xs' ys' ⟨k, hk.2⟩ ⟨j, hj.2⟩ h2 h4]
      · cases h'
    · cases h
end
theorem gEq_gen {neg : Bool} {d e : D} (hd : gd 64 d = true) (he : gd 64 e = true) : gEq neg [d, e] = some (.bl (if neg then !eqD d e else eqD d e)) := by
  obtain ⟨x, h1, h2, h3⟩ := gd_ok 64 d hd
  obtain ⟨y, h4, h5, h6⟩ := gd_ok 64 e he
  unfold gEq
  simp only [h1, h4]
  have sx : SeqAt.shaped x = true := by unfold SeqAt.shaped; simp [h2, h3]
  have sy : SeqAt.shaped y = true := by unfold SeqAt.shaped; simp [h5, h6]
  rw [sx, sy, eqD_ok d e x y ⟨_, hd⟩ ⟨_, he⟩ h1 h4]
  rfl
theorem k_eqGT {env : En} {a b : M} {d e : D} (h : dats env [a, b] = some [d, e]) (hd : gd 64 d = true) (he : gd 64 e = true) : sop (gEq true) env [a, b] = some (.fz (.bl (!eqD d e))) := (sop_of h (gEq_gen hd he) rfl).trans (by simp)
theorem k_eqGF {env : En} {a b : M} {d e : D} (h : dats env [a, b] = some [d, e]) (hd : gd 64 d = true) (he : gd 64 e = true) : sop (gEq false) env [a, b] = some (.fz (.bl (eqD d e))) := (sop_of h (gEq_gen hd he) rfl).trans (by simp)
theorem gd_int {k : Nat} {i : Int} : gd k (.int i) = true := by cases k <;> rfl
theorem gd_bl {k : Nat} {i : Bool} : gd k (.bl i) = true := by cases k <;> rfl
theorem gd_non {k : Nat} : gd k .non = true := by cases k <;> rfl
theorem gd_lst {k : Nat} {ds : List D} (h : gdL k ds = true) : gd (k + 1) (.lst ds) = true := h
theorem gd_tup {k : Nat} {ds : List D} (h : gdL k ds = true) : gd (k + 1) (.tup ds) = true := h
theorem gdL_n {k : Nat} : gdL k [] = true := by cases k <;> rfl
theorem gdL_c {k : Nat} {d : D} {ds : List D} (h : gd k d = true) (h' : gdL k ds = true) : gdL k (d :: ds) = true := by
  show (gd k d && gdL k ds) = true
  rw [h, h']
  rfl
theorem gdL_all {k : Nat} : ∀ {ds : List D}, (∀ d ∈ ds, gd k d = true) → gdL k ds = true
  | [], _ => gdL_n
  | d :: ds, h => gdL_c (h d (List.mem_cons_self ..)) (gdL_all fun e he => h e (List.mem_cons_of_mem _ he))
theorem gdL_map {α : Type} {k : Nat} {f : α → D} {xs : List α} (h : ∀ x ∈ xs, gd k (f x) = true) : gdL k (xs.map f) = true := gdL_all fun d hd => by
  obtain ⟨x, hx, rfl⟩ := List.mem_map.mp hd
  exact h x hx
theorem gdL_ints {k : Nat} {L : List Int} : gdL k (L.map .int) = true := gdL_map fun _ _ => gd_int
theorem gd_lI {k : Nat} {L : List Int} : gd (k + 1) (lI L) = true := gd_lst gdL_ints
mutual
theorem eqD_self : ∀ (k : Nat) (d : D), gd k d = true → eqD d d = true
  | k, .non, _ => rfl
  | k, .bl b, _ => by simp [eqD]
  | k, .int i, _ => by simp [eqD]
  | k, .str x, h => by simp [eqD]
  | k + 1, .lst xs, h => by simpa [eqD] using eqDL_self k xs (by simpa [gd] using h)
  | k + 1, .tup xs, h => by simpa [eqD] using eqDL_self k xs (by simpa [gd] using h)
  | 0, .lst xs, h => by simp [gd] at h
  | 0, .tup xs, h => by simp [gd] at h
  | k, .ins _ _, h => by cases k <;> simp [gd] at h
  | k, .dic _ _, h => by cases k <;> simp [gd] at h
  | k, .any, h => by cases k <;> simp [gd] at h
  | k, .exc _ _ _, h => by cases k <;> simp [gd] at h
  | k, .scr _, h => by cases k <;> simp [gd] at h
theorem eqDL_self : ∀ (k : Nat) (ds : List D), gdL k ds = true → eqDL ds ds = true
  | k, [], _ => rfl
  | k, d :: ds, h => by
    simp only [gdL, Bool.and_eq_true] at h
    simp only [eqDL, eqD_self k d h.1, eqDL_self k ds h.2, Bool.and_self]
end
theorem k_eqST {env : En} {a b : M} {d : D} (h : dats env [a, b] = some [d, d]) (hd : gd 64 d = true) : sop (gEq true) env [a, b] = some (.fz (.bl false)) := (k_eqGT h hd hd).trans (by rw [eqD_self 64 d hd]; rfl)
theorem k_eqSF {env : En} {a b : M} {d : D} (h : dats env [a, b] = some [d, d]) (hd : gd 64 d = true) : sop (gEq false) env [a, b] = some (.fz (.bl true)) := (k_eqGF h hd hd).trans (by rw [eqD_self 64 d hd])
theorem dats_e {env : En} {ms : List M} {cs : List D} (h : dats env ms = some cs) : dats env (.ol [] :: ms) = some (lI [] :: cs) := dats_o (ds := []) h
theorem dats_m {env : En} {i : Nat} {m : M} {d : D} {ms : List M} {cs : List D} (h0 : env.get i = some m) (hd : dat0 m = some d) (h : dats env ms = some cs) : dats env (.bp i [] :: ms) = some (d :: cs) := by
  have hp : plD env i [] = some d := by
    unfold plD
    rw [place_z h0]
    exact hd
  show (match datW (plD env) (.bp i []), datWL (plD env) ms with
    | some d, some ds => some (d :: ds)
    | _, _ => none) = _
  rw [show datWL (plD env) ms = some cs from h, show datW (plD env) (.bp i []) = plD env i [] by rfl, hp]
section
variable {vs : List Nat} {t : Tg} {cond : En → Option Bool} {elt : En → Option M} {env e1 : En} {d : D} {ds : List D} {ms : List M} {m : M}
theorem lcL_n : lcL vs t cond elt env [] = some [] := by unfold lcL; rfl
theorem lcL_s (hT : asT (lkOf vs) t d (env.wipe vs) = some e1) {c : Bool} (hC : cond e1 = some c) (hc : c = false) (h : lcL vs t cond elt env ds = some ms) : lcL vs t cond elt env (d :: ds) = some ms := by
  subst hc
  unfold lcL
  rw [hT]
  simp only [hC, h]
theorem lcL_t (hT : asT (lkOf vs) t d (env.wipe vs) = some e1) {c : Bool} (hC : cond e1 = some c) (hc : c = true) (hE : elt e1 = some m) (hs : slotsL [m] = []) (h : lcL vs t cond elt env ds = some ms) : lcL vs t cond elt env (d :: ds) = some (m :: ms) := by
  subst hc
  have hs' : slots m = [] := by
    have : slotsL [m] = slots m ++ [] := rfl
    rw [this, List.append_nil] at hs
    exact hs
  unfold lcL
  rw [hT]
  simp only [hC, hE, h, hs', List.isEmpty_nil, if_true]
theorem x_lc {it : En → Option (List D)} (h : it env = some ds) (h' : lcL vs t cond elt env ds = some ms) (hl : ms.length ≤ sizeLine) : lcF vs t it cond elt env = some (.ol ms) := lcF_of h h' hl
theorem x_yes : cYes env = some true := rfl
end
theorem x_isi {env : En} {f : En → Option M} {m : M} {d : D} {T n : String} {b : Bool} (h : f env = some m) (hd : dats env [m] = some [d]) (hn : tyN d = some n) (hk : kitT T n = some b) : oIsi (kitT T) f env = some (.fz (.bl b)) := by
  unfold oIsi
  rw [h]
  simp only [dat_of hd, hn, hk]
theorem x_lcX {vs : List Nat} {t : Tg} {cond : En → Option Bool} {it : En → Option (List D × En)} {elt : En → Option (M × En)} {env e1 e2 : En} {ds : List D} {ms : List M} (h : it env = some (ds, e1)) (h' : lcLX vs t cond elt ds e1 = some (ms, e2)) (hl : ms.length ≤ sizeLine) : lcX vs t it cond elt env = some (.ol ms, e2) := by
  unfold lcX
  rw [h]
  simp only [h', hl, if_true]
theorem e_xnil {env : En} : xNil env = some ([], env) := rfl
theorem k_lstI2 {env : En} {x y : Int} : oLst env [.fz (.int x), .fz (.int y)] = some (oI [x, y]) := k_lst (by simp [sizeLine])
theorem k_lstI3 {env : En} {x y z : Int} : oLst env [.fz (.int x), .fz (.int y), .fz (.int z)] = some (oI [x, y, z]) := k_lst (by simp [sizeLine])
theorem k_lstI4 {env : En} {x y z u : Int} : oLst env [.fz (.int x), .fz (.int y), .fz (.int z), .fz (.int u)] = some (oI [x, y, z, u]) := k_lst (by simp [sizeLine])
theorem k_lstI5 {env : En} {x y z u v : Int} : oLst env [.fz (.int x), .fz (.int y), .fz (.int z), .fz (.int u), .fz (.int v)] = some (oI [x, y, z, u, v]) := k_lst (by simp [sizeLine])
theorem k_lstI6 {env : En} {x y z u v w : Int} : oLst env [.fz (.int x), .fz (.int y), .fz (.int z), .fz (.int u), .fz (.int v), .fz (.int w)] = some (oI [x, y, z, u, v, w]) := k_lst (by simp [sizeLine])
end T2
end
section
set_option Elab.async false
set_option linter.all false
set_option maxRecDepth 100000
namespace T2
open PySem PySem.Spec PyProof.Rows L2
def okR3 (i j c : Int) : Bool := decide (c ≠ 0) && decide (c.natAbs < 1073741824) && Builtin.Range.small i j c
def rszN (i j c : Int) : Nat := (Builtin.Range.rangeSize i j c).toNat
def rngS (i j c : Int) : List Int := (List.range (rszN i j c)).map fun k : Nat => i + (k : Int) * c
def itR3 (fs : En → Option (List M)) : En → Option (List D) := fun env => match fs env with
  | some [.fz (.int i), .fz (.int j), .fz (.int c)] => if okR3 i j c then some ((rngS i j c).map .int) else none
  | _ => none
def blsOf : List D → Option (List Bool)
  | [] => some []
  | .bl b :: ds => (blsOf ds).map (b :: ·)
  | _ => none
def gAny : List D → Option D
  | [.lst ds] => match blsOf ds with
    | some bs => some (.bl (bs.any id))
    | none => none
  | _ => none
def gAll : List D → Option D
  | [.lst ds] => match blsOf ds with
    | some bs => some (.bl (bs.all id))
    | none => none
  | _ => none
def chS (o o' : En → List M → Option M) (f g h : En → Option M) : En → Option Bool := fun env => match f env, g env with
  | some a, some (.fz d) => if scal d then (match o env [a, .fz d] with
    | some (.fz (.bl true)) => match h env with
      | some c => match o' env [.fz d, c] with
        | some (.fz (.bl r)) => some r
        | _ => none
      | none => none
    | some (.fz (.bl false)) => some false
    | _ => none) else none
  | _, _ => none
section
variable {X : Cx} {tg a b c e : Expr} {fs : En → Option (List M)} {p pos rp rpos : Pos} {ta : TA}
def oListR3 (fs : En → Option (List M)) : En → Option M := fun env => match fs env with
  | some [.fz (.int i), .fz (.int j), .fz (.int c)] => if okR3 i j c && decide (rszN i j c ≤ 16777216) then some (oI (rngS i j c)) else none
  | _ => none
/-- xs[::-1] of a list of data -/
def oRev (f : En → Option M) : En → Option M := fun env => match f env with
  | some (.fz (.scr ns)) => some (oI ns.reverse)
  | some m => match elems env m with
    | some (true, ms) => match allFz ms with
      | some ds => some (oD ds.reverse)
      | none => none
    | _ => none
  | none => none
theorem RepL.reverse {K : PySem.W.Frag} {F : Hp} : ∀ {ds : List D} {vs : List V}, RepL K F ds vs → RepL K F ds.reverse vs.reverse
  | [], vs, h => by
    simp only [RepL] at h
    subst h
    simp only [List.reverse_nil, RepL]
  | d :: ds, vs, h => by
    simp only [RepL] at h
    obtain ⟨v, r, rfl, h1, h2⟩ := h
    rw [List.reverse_cons, List.reverse_cons]
    refine repL_append (RepL.reverse h2) ?_
    simp only [RepL]
    exact ⟨v, [], rfl, h1, rfl⟩
end
section
variable {env : En} {f g h : En → Option M} {fs : En → Option (List M)} {m a b c : M} {L : List Int} {o o' : En → List M → Option M} {d : D}
theorem x_rI3 {i j k : Int} (h : fs env = some [.fz (.int i), .fz (.int j), .fz (.int k)]) (h' : okR3 i j k = true) : itR3 fs env = some ((rngS i j k).map .int) := by
  unfold itR3
  rw [h]
  simp only [h', if_true]
theorem x_listR3 {i j k : Int} (h : fs env = some [.fz (.int i), .fz (.int j), .fz (.int k)]) (h' : okR3 i j k = true) (h'' : rszN i j k ≤ 16777216) : oListR3 fs env = some (oI (rngS i j k)) := by
  unfold oListR3
  rw [h]
  simp only [h', h'', decide_true, Bool.and_self, if_true]
theorem x_revB {i : Nat} (h : f env = some (.bp i [])) (h0 : env.get i = some (oI L)) : oRev f env = some (oI L.reverse) := by
  unfold oRev
  rw [h]
  simp only [elems_b h0, allFz_fz]
  show some (oD (L.map D.int).reverse) = some (oD (L.reverse.map D.int))
  rw [← List.map_reverse]
theorem x_revF (h : f env = some (.fz (lI L))) : oRev f env = some (oI L.reverse) := by
  unfold oRev
  rw [h]
  show (match allFz ((L.map D.int).map .fz) with
    | some ds => some (oD ds.reverse)
    | none => none) = _
  rw [allFz_fz]
  show some (oD (L.map D.int).reverse) = some (oD (L.reverse.map D.int))
  rw [← List.map_reverse]
theorem blsOf_map (bs : List Bool) : blsOf (bs.map .bl) = some bs := by
  induction bs with
  | nil => rfl
  | cons b bs ih =>
    show (blsOf (bs.map .bl)).map (b :: ·) = _
    rw [ih]
    rfl
abbrev lB (bs : List Bool) : D := .lst (bs.map .bl)
theorem x_anyB {bs : List Bool} (h : f env = some m) (hd : dats env [m] = some [lB bs]) : opr (sop gAny) (aCons f aNil) env = some (.fz (.bl (bs.any id))) :=
  opr_of (acons_of h e_anil) (sop_of hd (by show (match blsOf (bs.map .bl) with
    | some bs => some (D.bl (bs.any id))
    | none => none) = _
                                            rw [blsOf_map]) rfl)
theorem x_allB {bs : List Bool} (h : f env = some m) (hd : dats env [m] = some [lB bs]) : opr (sop gAll) (aCons f aNil) env = some (.fz (.bl (bs.all id))) :=
  opr_of (acons_of h e_anil) (sop_of hd (by show (match blsOf (bs.map .bl) with
    | some bs => some (D.bl (bs.all id))
    | none => none) = _
                                            rw [blsOf_map]) rfl)
theorem x_ch {k r : Bool} (hf : f env = some a) (hg : g env = some (.fz d)) (hs : scal d = true) (h1 : o env [a, .fz d] = some (.fz (.bl k))) (hh : h env = some c) (h2 : o' env [.fz d, c] = some (.fz (.bl r))) : chS o o' f g h env = some (k && r) := by
  unfold chS
  rw [hf, hg]
  simp only [hs, h1, if_true]
  cases k
  · rfl
  · simp only [hh, h2, Bool.true_and]
end
theorem anyEqv : ∀ (ds : List D) (d : D) (xs : List PyData) (x : PyData), (∃ k, gdL k ds = true) → (∃ k, gd k d = true) → pyDL ds = some xs → pyD d = some x → (xs.any fun z => PyData.eqv z x) = ds.any fun z => eqD z d
  | [], d, xs, x, _, _, h, _ => by cases h; rfl
  | e :: ds, d, xs, x, ⟨k, hk⟩, hd, h, h' => by
    simp only [pyDL] at h
    simp only [gdL, Bool.and_eq_true] at hk
    split at h
    · rename_i y ys h1 h2
      cases h
      simp only [List.any_cons]
      rw [eqD_ok e d y x ⟨k, hk.1⟩ hd h1 h', anyEqv ds d ys x ⟨k, hk.2⟩ hd h2 h']
    · cases h
theorem gInL_gen {neg : Bool} {d : D} {ds : List D} (hd : gd 64 d = true) (he : gdL 63 ds = true) : gInL neg [d, .lst ds] = some (.bl (if neg then !(ds.any fun z => eqD z d) else ds.any fun z => eqD z d)) := by
  obtain ⟨x, h1, h2, h3⟩ := gd_ok 64 d hd
  obtain ⟨xs, h4, h5, h6⟩ := gdL_ok 63 ds he
  unfold gInL
  simp only [h1, h4]
  have sx : SeqAt.shaped x = true := by unfold SeqAt.shaped; simp [h2, h3]
  have sy : SeqAt.shaped (.list xs) = true := by
    unfold SeqAt.shaped
    have : PyData.canLay0 (.list xs) = true := by simpa [PyData.canLay0] using h5
    have h7 : PyData.depth (.list xs) ≤ 64 := by simp only [PyData.depth]; omega
    simp [this, h7]
  rw [sx, sy, anyEqv ds d xs x ⟨_, he⟩ ⟨_, hd⟩ h4 h1]
  rfl
section
variable {env : En} {a b : M} {L : List Int} {x : Int} {bs : List Bool}
theorem k_inG {d : D} {ds : List D} (h : dats env [a, b] = some [d, .lst ds]) (hd : gd 64 d = true) (he : gdL 63 ds = true) : oIn env [a, b] = some (.fz (.bl (ds.any fun z => eqD z d))) := by
  show oOr (sop (gInL false)) _ env _ = _
  unfold oOr
  rw [sop_of h (gInL_gen hd he) rfl]
  rfl
theorem k_ninG {d : D} {ds : List D} (h : dats env [a, b] = some [d, .lst ds]) (hd : gd 64 d = true) (he : gdL 63 ds = true) : oNin env [a, b] = some (.fz (.bl (!(ds.any fun z => eqD z d)))) := by
  show oOr (sop (gInL true)) _ env _ = _
  unfold oOr
  rw [sop_of h (gInL_gen hd he) rfl]
  rfl
theorem any_ints : (L.map D.int).any (fun z => eqD z (.int x)) = L.contains x := by
  induction L with
  | nil => rfl
  | cons y L ih =>
    rw [List.map_cons, List.any_cons, ih, List.contains_cons]
    show (y == x || _) = _
    rw [BEq.comm]
theorem k_inI (h : dats env [a, b] = some [.int x, lI L]) : oIn env [a, b] = some (.fz (.bl (L.contains x))) := (k_inG h gd_int gdL_ints).trans (by rw [any_ints])
theorem k_ninI (h : dats env [a, b] = some [.int x, lI L]) : oNin env [a, b] = some (.fz (.bl (!(L.contains x)))) := (k_ninG h gd_int gdL_ints).trans (by rw [any_ints])
theorem any_bls {y : Bool} : (bs.map D.bl).any (fun z => eqD z (.bl y)) = bs.contains y := by
  induction bs with
  | nil => rfl
  | cons z L ih =>
    rw [List.map_cons, List.any_cons, ih, List.contains_cons]
    show (z == y || _) = _
    rw [BEq.comm]
theorem k_inB {y : Bool} (h : dats env [a, b] = some [.bl y, lB bs]) : oIn env [a, b] = some (.fz (.bl (bs.contains y))) := (k_inG h gd_bl (gdL_map fun _ _ => gd_bl)).trans (by rw [any_bls])
theorem k_ninB {y : Bool} (h : dats env [a, b] = some [.bl y, lB bs]) : oNin env [a, b] = some (.fz (.bl (!(bs.contains y)))) := (k_ninG h gd_bl (gdL_map fun _ _ => gd_bl)).trans (by rw [any_bls])
theorem listOf_f {ds : List D} : oListOf env [.fz (.lst ds)] = some (oD ds) := by rfl
theorem listOf_o {ds : List D} : oListOf env [oD ds] = some (oD ds) := by rfl
theorem listOf_s {ns : List Int} : oListOf env [.fz (.scr ns)] = some (oI ns) := by
  show some (M.ol (ns.map fun n => .fz (.int n))) = _
  rw [map_fz_int]
theorem x_catBB {i j : Nat} {xs ys : List Int} (h : env.get i = some (oI xs)) (h' : env.get j = some (oI ys)) (hl : xs.length + ys.length ≤ sizeLine) : oAdd env [.bp i [], .bp j []] = some (oI (xs ++ ys)) := by
  have h1 : sop iAdd env [.bp i [], .bp j []] = none := by
    unfold sop
    rw [dats_b h (dats_b h' dats_n)]
    rfl
  have h2 : sop gStr env [.bp i [], .bp j []] = none := by
    unfold sop
    rw [dats_b h (dats_b h' dats_n)]
    rfl
  have h3 : oCat env [.bp i [], .bp j []] = some (oI (xs ++ ys)) := by
    unfold oCat
    simp only [elems_b h, elems_b h', List.length_map]
    rw [if_pos hl]
    show some (M.ol _) = some (M.ol (((xs ++ ys).map D.int).map M.fz))
    rw [List.map_append, List.map_append]
  show oOr (sop iAdd) (oOr (sop gStr) oCat) env _ = _
  unfold oOr
  rw [h1, h2, h3]
theorem x_catBO {i : Nat} {xs ys : List Int} (h : env.get i = some (oI xs)) (hl : xs.length + ys.length ≤ sizeLine) : oAdd env [.bp i [], oI ys] = some (oI (xs ++ ys)) := by
  have h1 : sop iAdd env [.bp i [], oI ys] = none := by
    unfold sop
    rw [dats_b h (dats_o dats_n)]
    rfl
  have h2 : sop gStr env [.bp i [], oI ys] = none := by
    unfold sop
    rw [dats_b h (dats_o dats_n)]
    rfl
  have h3 : oCat env [.bp i [], oI ys] = some (oI (xs ++ ys)) := by
    unfold oCat
    simp only [elems_b h, elems_o, List.length_map]
    rw [if_pos hl]
    show some (M.ol _) = some (M.ol (((xs ++ ys).map D.int).map M.fz))
    rw [List.map_append, List.map_append]
  show oOr (sop iAdd) (oOr (sop gStr) oCat) env _ = _
  unfold oOr
  rw [h1, h2, h3]
theorem elems_f {ds : List D} : elems env (.fz (.lst ds)) = some (true, ds.map .fz) := rfl
theorem x_catFO {xs ys : List Int} (hl : xs.length + ys.length ≤ sizeLine) : oAdd env [.fz (lI xs), oI ys] = some (oI (xs ++ ys)) := by
  have h1 : sop iAdd env [.fz (lI xs), oI ys] = none := by
    unfold sop
    rw [dats_f (dats_o dats_n)]
    rfl
  have h2 : sop gStr env [.fz (lI xs), oI ys] = none := by
    unfold sop
    rw [dats_f (dats_o dats_n)]
    rfl
  have h3 : oCat env [.fz (lI xs), oI ys] = some (oI (xs ++ ys)) := by
    unfold oCat
    simp only [elems_f, elems_o, List.length_map]
    rw [if_pos hl]
    show some (M.ol _) = some (M.ol (((xs ++ ys).map D.int).map M.fz))
    rw [List.map_append, List.map_append]
  show oOr (sop iAdd) (oOr (sop gStr) oCat) env _ = _
  unfold oOr
  rw [h1, h2, h3]
theorem x_catFF {xs ys : List Int} (hl : xs.length + ys.length ≤ sizeLine) : oAdd env [.fz (lI xs), .fz (lI ys)] = some (oI (xs ++ ys)) := by
  have h1 : sop iAdd env [.fz (lI xs), .fz (lI ys)] = none := by
    unfold sop
    rw [dats_f (dats_f dats_n)]
    rfl
  have h2 : sop gStr env [.fz (lI xs), .fz (lI ys)] = none := by
    unfold sop
    rw [dats_f (dats_f dats_n)]
    rfl
  have h3 : oCat env [.fz (lI xs), .fz (lI ys)] = some (oI (xs ++ ys)) := by
    unfold oCat
    simp only [elems_f, List.length_map]
    rw [if_pos hl]
    show some (M.ol _) = some (M.ol (((xs ++ ys).map D.int).map M.fz))
    rw [List.map_append, List.map_append]
  show oOr (sop iAdd) (oOr (sop gStr) oCat) env _ = _
  unfold oOr
  rw [h1, h2, h3]
theorem x_clear {ms : List M} : mClear ms [] = some ([], .fz .non) := rfl
end
section
variable {lk : Nat → Bool} {env : En}
theorem retM_oIe {L L' : List Int} (h : L = L') : retM lk env (some (oI L)) = some (.rt (oI L') env) := by subst h; exact retM_oI _
theorem retM_Ie {x y : Int} (h : x = y) : retM lk env (some (.fz (.int x))) = some (.rt (.fz (.int y)) env) := by subst h; exact retM_fz
theorem retM_Be {x y : Bool} (h : x = y) : retM lk env (some (.fz (.bl x))) = some (.rt (.fz (.bl y)) env) := by subst h; exact retM_fz
end
theorem bitAndN (a b : Nat) : Builtin.bitAnd (a : Int) (b : Int) = ((a &&& b : Nat) : Int) := rfl
end T2
end
section
set_option Elab.async false
set_option linter.all false
set_option maxRecDepth 100000
namespace T2
open PySem
section
variable {env e1 e2 : En} {f g : En → Option M} {fs : En → Option (List M)} {a b r m m' : M} {d : D} {ds : List D} {α β : Type}
theorem stow_b0 {i : Nat} (h : env.get i = some (oD ds)) (he : env.put i (.fz (.lst ds)) = e1) : stow 0 env (.bp i []) = some (.fz (.lst ds), e1) := by
  subst he
  have h1 : dat env (.bp i []) = some (.lst ds) := dat_of (dats_b h dats_n)
  unfold stow
  show (match dat env (.bp i []), frS [i] env with
    | some d, some env' => some (M.fz d, env')
    | _, _ => none) = _
  rw [h1]
  have h2 : frS [i] env = some (env.put i (.fz (.lst ds))) := by
    unfold frS
    rw [h]
    show (match dat0 (oD ds) with
      | some d => frS [] (env.put i (.fz d))
      | none => none) = _
    rw [dat0_o]
    rfl
  rw [h2]
theorem stow_bm {i : Nat} (h : env.get i = some m) (hm : dat0 m = some d) (he : env.put i (.fz d) = e1) : stow 0 env (.bp i []) = some (.fz d, e1) := by
  subst he
  have h1 : dat env (.bp i []) = some d := dat_of (dats_m h hm dats_n)
  unfold stow
  show (match dat env (.bp i []), frS [i] env with
    | some d, some env' => some (M.fz d, env')
    | _, _ => none) = _
  rw [h1]
  have h2 : frS [i] env = some (env.put i (.fz d)) := by
    unfold frS
    rw [h]
    show (match dat0 m with
      | some d => frS [] (env.put i (.fz d))
      | none => none) = _
    rw [hm]
    rfl
  rw [h2]
theorem x_idxM [Inhabited α] {F : α → D} {xs : List α} {j : Int} (h0 : 0 ≤ j) (h1 : j < xs.length) : oIdx env [.fz (.lst (xs.map F)), .fz (.int j)] = some (.fz (F (xs.getD j.toNat default))) := by
  obtain ⟨k, rfl⟩ : ∃ k : Nat, j = k := ⟨j.toNat, by omega⟩
  have hk : k < xs.length := by omega
  refine idx_f (atI_nat ?_)
  rw [List.getElem?_map, List.getElem?_eq_getElem hk]
  simp [List.getD, hk]
theorem x_lenM {F : α → D} {xs : List α} (h : f env = some m) (hd : dats env [m] = some [.lst (xs.map F)]) : opr (sop gLen) (aCons f aNil) env = some (.fz (.int xs.length)) := by
  have := len_b h hd
  rwa [List.length_map] at this
theorem x_lenG (h : f env = some m) (hd : dats env [m] = some [.lst ds]) : opr (sop gLen) (aCons f aNil) env = some (.fz (.int ds.length)) := len_b h hd
theorem x_lenT (h : f env = some m) (hd : dats env [m] = some [.tup ds]) : opr (sop gLen) (aCons f aNil) env = some (.fz (.int ds.length)) :=
  opr_of (acons_of h e_anil) (sop_of hd (show gLen [.tup ds] = some (.int ds.length) from rfl) rfl)
/-- a comprehension over anything -/
theorem lcL_map {vs : List Nat} {t : Tg} {elt : En → Option M} {F : α → D} {w : α → M} {e1 : α → En} : ∀ (xs : List α) (hT : ∀ x ∈ xs, asT (lkOf vs) t (F x) (env.wipe vs) = some (e1 x)) (hE : ∀ x ∈ xs, elt (e1 x) = some (w x)) (hs : ∀ x ∈ xs, slotsL [w x] = []), lcL vs t cYes elt env (xs.map F) = some (xs.map w)
  | [], _, _, _ => lcL_n
  | x :: xs, hT, hE, hs => lcL_t (hT x (List.mem_cons_self ..)) x_yes rfl (hE x (List.mem_cons_self ..)) (hs x (List.mem_cons_self ..)) (lcL_map xs (fun y hy => hT y (List.mem_cons_of_mem _ hy)) (fun y hy => hE y (List.mem_cons_of_mem _ hy)) (fun y hy => hs y (List.mem_cons_of_mem _ hy)))
theorem x_lcMM {vs : List Nat} {t : Tg} {elt : En → Option M} {it : En → Option (List D)} {F : α → D} {xs : List α} {w : α → M} {e1 : α → En} (h : it env = some (xs.map F)) (hT : ∀ x ∈ xs, asT (lkOf vs) t (F x) (env.wipe vs) = some (e1 x)) (hE : ∀ x ∈ xs, elt (e1 x) = some (w x)) (hs : ∀ x ∈ xs, slotsL [w x] = []) (hl : xs.length ≤ sizeLine) : lcF vs t it cYes elt env = some (.ol (xs.map w)) :=
  lcF_of h (lcL_map xs hT hE hs) (by simpa using hl)
theorem datL0_map {w : α → M} {v : α → D} : ∀ (xs : List α) (h : ∀ x ∈ xs, dat0 (w x) = some (v x)), datL0 (xs.map w) = some (xs.map v)
  | [], _ => datL0_n
  | x :: xs, h => datL0_c (h x (List.mem_cons_self ..)) (datL0_map xs fun y hy => h y (List.mem_cons_of_mem _ hy))
theorem dat0_map {w : α → M} {v : α → D} {xs : List α} (h : ∀ x ∈ xs, dat0 (w x) = some (v x)) : dat0 (.ol (xs.map w)) = some (.lst (xs.map v)) := dat0_l (datL0_map xs h)
theorem slotsL_map {w : α → M} : ∀ (xs : List α) (h : ∀ x ∈ xs, slotsL [w x] = []), slotsL (xs.map w) = []
  | [], _ => rfl
  | x :: xs, h => by
    show slots (w x) ++ slotsL (xs.map w) = []
    rw [slotsL_map xs fun y hy => h y (List.mem_cons_of_mem _ hy)]
    exact h x (List.mem_cons_self ..)
theorem slotsL_m {w : α → M} {xs : List α} {ms : List M} (h : ∀ x ∈ xs, slotsL [w x] = []) (h' : slotsL ms = []) : slotsL (.ol (xs.map w) :: ms) = [] := slotsL_cl (slotsL_map xs h) h'
theorem shutL_map {k : Nat} {w w' : α → M} : ∀ (xs : List α) (h : ∀ x ∈ xs, shut k (w x) = some (w' x)), shutL k (xs.map w) = some (xs.map w')
  | [], _ => shutL_n
  | x :: xs, h => shutL_c (h x (List.mem_cons_self ..)) (shutL_map xs fun y hy => h y (List.mem_cons_of_mem _ hy))
theorem shut_m {k : Nat} {w w' : α → M} {xs : List α} (h : ∀ x ∈ xs, shut k (w x) = some (w' x)) : shut (k + 1) (.ol (xs.map w)) = some (.ol (xs.map w')) := shut_ol (shutL_map xs h)
theorem shut_z {m : M} (h : dat0 m = some d) : shut 0 m = some (.fz d) := by
  have : shut 0 m = (dat0 m).map .fz := by cases m <;> rfl
  rw [this, h]
  rfl
/-- a call's argument as data -/
theorem shutZ_d {bs : List Bool} {ms cs : List M} (hd : dat0 m = some d) (h : shutZ bs ms = some cs) : shutZ (false :: bs) (m :: ms) = some (.fz d :: cs) := by
  show (match shut 0 m, shutZ bs ms with
    | some n, some ns => some (n :: ns)
    | _, _ => none) = _
  rw [h, shut_z hd]
theorem datWL_map {bp : Nat → List Pa → Option D} {w : α → M} {v : α → D} : ∀ (xs : List α) (h : ∀ x ∈ xs, datW bp (w x) = some (v x)), datWL bp (xs.map w) = some (xs.map v)
  | [], _ => rfl
  | x :: xs, h => by
    show (match datW bp (w x), datWL bp (xs.map w) with
      | some d, some ds => some (d :: ds)
      | _, _ => none) = _
    rw [h x (List.mem_cons_self ..), datWL_map xs fun y hy => h y (List.mem_cons_of_mem _ hy)]
    rfl
theorem x_extend {ms : List M} (h : ms.length + ds.length ≤ sizeLine) : mExtend ms [.fz (.lst ds)] = some (ms ++ ds.map .fz, .fz .non) := by
  unfold mExtend
  simp only [h, if_true]
theorem x_appD {es : List D} (h : (es.length : Int) < 16777216) : mAppend (es.map .fz) [.fz d] = some ((es ++ [d]).map .fz, .fz .non) := by
  rw [append_fz (by simp only [List.length_map, sizeLine]; omega), List.map_append]
  rfl
theorem k_tup2 {d e : D} : oTup env [.fz d, .fz e] = some (.fz (.tup [d, e])) := rfl
theorem k_tup3 {d e f : D} : oTup env [.fz d, .fz e, .fz f] = some (.fz (.tup [d, e, f])) := rfl
theorem k_tup4 {d e f g : D} : oTup env [.fz d, .fz e, .fz f, .fz g] = some (.fz (.tup [d, e, f, g])) := rfl
theorem k_tup1 {d : D} : oTup env [.fz d] = some (.fz (.tup [d])) := rfl
theorem k_tupOl2 {d : D} {ms : List M} : oTup env [.fz d, .ol ms] = some (.ot [.fz d, .ol ms]) := rfl
theorem k_tupOl2' {d : D} {ms : List M} : oTup env [.ol ms, .fz d] = some (.ot [.ol ms, .fz d]) := rfl
theorem pow2_pos {k : Nat} : (0 : Int) < 1 * 2 ^ k := by
  have : (0 : Int) < 2 ^ k := Int.pow_pos (by decide)
  omega
theorem pow2_log {k : Nat} (h : k < 9000) : ((1 : Int) * 2 ^ k).natAbs.log2 < 9000 := by
  rw [Int.one_mul, Int.natAbs_pow]
  show (2 ^ k).log2 < 9000
  rw [Nat.log2_two_pow]
  exact h
theorem lp_map {lk : Nat → Bool} {t : Tg} {B : En → Option Fl} {F : α → D} (Inv : List α → En → Prop) (ts : List α) (hs : ∀ pre x post, pre ++ x :: post = ts → ∀ e, Inv pre e → ∃ e1 e2, asT lk t (F x) e = some e1 ∧ B e1 = some (.nx e2) ∧ Inv (pre ++ [x]) e2) {e : En} (h0 : Inv [] e) :
    ∃ e', lpF lk t B (ts.map F) e = some (.nx e') ∧ Inv ts e' := by
  suffices ∀ (post pre : List α) (e : En), pre ++ post = ts → Inv pre e → ∃ e', lpF lk t B (post.map F) e = some (.nx e') ∧ Inv ts e' from this ts [] e rfl h0
  intro post
  induction post with
  | nil =>
    intro pre e hp h
    rw [List.append_nil] at hp
    subst hp
    exact ⟨e, lp_nil, h⟩
  | cons d post ih =>
    intro pre e hp h
    obtain ⟨e1, e2, h1, h2, h3⟩ := hs pre d post hp e h
    obtain ⟨e', h4, h5⟩ := ih (pre ++ [d]) e2 (by rw [List.append_assoc]; exact hp) h3
    exact ⟨e', lp_cons h1 h2 h4, h5⟩
theorem x_lcG {vs : List Nat} {t : Tg} {elt : En → Option M} {it : En → Option (List D)} {F : α → D} {xs : List α} {w : α → M} {e1 : α → En} (h : it env = some (xs.map F)) (hT : ∀ x ∈ xs, asT (lkOf vs) t (F x) (env.wipe vs) = some (e1 x)) (hE : ∀ x ∈ xs, elt (e1 x) = some (w x)) (hs : ∀ x ∈ xs, slotsL [w x] = []) (hl : xs.length ≤ sizeLine) (hr : M.ol (xs.map w) = r) : lcF vs t it cYes elt env = some r := by
  subst hr
  exact x_lcMM h hT hE hs hl
theorem lcL_mapg {vs : List Nat} {t : Tg} {cond : En → Option Bool} {elt : En → Option M} {F : α → D} {c : α → Bool} {w : α → M} {e1 : α → En} : ∀ (xs : List α) (hT : ∀ x ∈ xs, asT (lkOf vs) t (F x) (env.wipe vs) = some (e1 x)) (hC : ∀ x ∈ xs, cond (e1 x) = some (c x)) (hE : ∀ x ∈ xs, c x = true → elt (e1 x) = some (w x)) (hs : ∀ x ∈ xs, slotsL [w x] = []), lcL vs t cond elt env (xs.map F) = some ((xs.filter c).map w)
  | [], _, _, _, _ => lcL_n
  | x :: xs, hT, hC, hE, hs => by
    have ih := lcL_mapg xs (fun y hy => hT y (List.mem_cons_of_mem _ hy)) (fun y hy => hC y (List.mem_cons_of_mem _ hy)) (fun y hy => hE y (List.mem_cons_of_mem _ hy)) (fun y hy => hs y (List.mem_cons_of_mem _ hy))
    cases hc : c x with
    | false =>
      rw [List.filter_cons_of_neg (by rw [hc]; simp)]
      exact lcL_s (hT x (List.mem_cons_self ..)) (hC x (List.mem_cons_self ..)) hc ih
    | true =>
      rw [List.filter_cons_of_pos hc]
      exact lcL_t (hT x (List.mem_cons_self ..)) (hC x (List.mem_cons_self ..)) hc (hE x (List.mem_cons_self ..) hc) (hs x (List.mem_cons_self ..)) ih
theorem x_lcGf {vs : List Nat} {t : Tg} {cond : En → Option Bool} {elt : En → Option M} {it : En → Option (List D)} {F : α → D} {xs : List α} {c : α → Bool} {w : α → M} {e1 : α → En} (h : it env = some (xs.map F)) (hT : ∀ x ∈ xs, asT (lkOf vs) t (F x) (env.wipe vs) = some (e1 x)) (hC : ∀ x ∈ xs, cond (e1 x) = some (c x)) (hE : ∀ x ∈ xs, c x = true → elt (e1 x) = some (w x)) (hs : ∀ x ∈ xs, slotsL [w x] = []) (hl : xs.length ≤ sizeLine) (hr : M.ol ((xs.filter c).map w) = r) : lcF vs t it cond elt env = some r := by
  subst hr
  exact lcF_of h (lcL_mapg xs hT hC hE hs) (by simp only [List.length_map]; exact Nat.le_trans (List.length_filter_le _ _) hl)
theorem nlc_I {xs : List α} {v : α → Int} : M.ol (xs.map fun x => .fz (.int (v x))) = oI (xs.map v) := by
  show _ = M.ol (((xs.map v).map D.int).map M.fz)
  rw [List.map_map, List.map_map]
  rfl
theorem nlc_B {xs : List α} {v : α → Bool} : M.ol (xs.map fun x => .fz (.bl (v x))) = oD ((xs.map v).map .bl) := by
  show _ = M.ol (((xs.map v).map D.bl).map M.fz)
  rw [List.map_map, List.map_map]
  rfl
theorem nlc_D {xs : List α} {v : α → D} : M.ol (xs.map fun x => .fz (v x)) = oD (xs.map v) := by
  show _ = M.ol ((xs.map v).map M.fz)
  rw [List.map_map]
  rfl
theorem zipIdx_en {F : α → D} : ∀ (xs : List α) (k : Nat), enD k (xs.map F) = (xs.zipIdx k).map fun p => D.tup [.int (p.2 : Nat), F p.1]
  | [], k => rfl
  | x :: xs, k => by
    show D.tup [.int (k : Nat), F x] :: enD (k + 1) (xs.map F) = _
    rw [zipIdx_en xs (k + 1)]
    rfl
theorem x_enP {F : α → D} {xs : List α} (h : fs env = some [a]) (ha : items env a = some (.lst (xs.map F))) : itEnP fs env = some (xs.zipIdx.map fun p => .tup [.int (p.2 : Nat), F p.1]) := by
  have e : itemsL env [a] = some [.lst (xs.map F)] := by
    show (match items env a, some [] with
      | some d, some ds => some (d :: ds)
      | _, _ => none : Option (List D)) = _
    rw [ha]
  unfold itEnP
  rw [h]
  simp only [e]
  show (some (enD 0 (xs.map F)) : Option (List D)) = _
  rw [zipIdx_en]
theorem zipD_map {F : α → D} {G : β → D} : ∀ (xs : List α) (ys : List β), zipD (xs.map F) (ys.map G) = (xs.zip ys).map fun p => D.tup [F p.1, G p.2]
  | [], ys => by cases ys <;> rfl
  | x :: xs, [] => rfl
  | x :: xs, y :: ys => by
    show D.tup [F x, G y] :: zipD (xs.map F) (ys.map G) = _
    rw [zipD_map xs ys]
    rfl
theorem x_zipP {F : α → D} {G : β → D} {xs : List α} {ys : List β} (h : fs env = some [a, b]) (ha : items env a = some (.lst (xs.map F))) (hb : items env b = some (.lst (ys.map G))) : itZipP fs env = some ((xs.zip ys).map fun p => .tup [F p.1, G p.2]) := by
  have e : itemsL env [a, b] = some [.lst (xs.map F), .lst (ys.map G)] := by
    show (match items env a, (match items env b, some [] with
      | some d, some ds => some (d :: ds)
      | _, _ => none : Option (List D)) with
      | some d, some ds => some (d :: ds)
      | _, _ => none) = _
    rw [ha, hb]
  unfold itZipP
  rw [h]
  simp only [e]
  show (some (zipD (xs.map F) (ys.map G)) : Option (List D)) = _
  rw [zipD_map]
theorem datW_m {bp : Nat → List Pa → Option D} {w : α → M} {v : α → D} {xs : List α} (h : ∀ x ∈ xs, datW bp (w x) = some (v x)) : datW bp (.ol (xs.map w)) = some (.lst (xs.map v)) := by
  show (datWL bp (xs.map w)).map D.lst = _
  rw [datWL_map xs h]
  rfl
theorem datW_f {bp : Nat → List Pa → Option D} : datW bp (.fz d) = some d := rfl
theorem dats_w {ms : List M} {cs : List D} (hx : datW (plD env) m = some d) (h : dats env ms = some cs) : dats env (m :: ms) = some (d :: cs) := by
  show (match datW (plD env) m, datWL (plD env) ms with
    | some d, some ds => some (d :: ds)
    | _, _ => none) = _
  rw [show datWL (plD env) ms = some cs from h, hx]
theorem datW_t {bp : Nat → List Pa → Option D} {ms : List M} {ds : List D} (h : datWL bp ms = some ds) : datW bp (.ot ms) = some (.tup ds) := by
  show (datWL bp ms).map D.tup = _
  rw [h]
  rfl
theorem datW_l {bp : Nat → List Pa → Option D} {ms : List M} {ds : List D} (h : datWL bp ms = some ds) : datW bp (.ol ms) = some (.lst ds) := by
  show (datWL bp ms).map D.lst = _
  rw [h]
  rfl
theorem datWL_n {bp : Nat → List Pa → Option D} : datWL bp [] = some [] := rfl
theorem datWL_c {bp : Nat → List Pa → Option D} {ms : List M} {ds : List D} (h : datW bp m = some d) (h' : datWL bp ms = some ds) : datWL bp (m :: ms) = some (d :: ds) := by
  show (match datW bp m, datWL bp ms with
    | some d, some ds => some (d :: ds)
    | _, _ => none) = _
  rw [h, h']
theorem rng_nat {n x : Int} {b : Nat} (h : x ∈ rngI n) (hn : n ≤ b) : x.toNat < b := by
  have := mem_rngI.mp h
  omega
theorem rng_nat2 {m n x : Int} {b : Nat} (h : x ∈ rngI2 m n) (h0 : 0 ≤ m) (hn : n ≤ b) : x.toNat < b := by
  have := mem_rngI2.mp h
  omega
theorem k_tupBp2 {i : Nat} {p : List Pa} : oTup env [.fz d, .bp i p] = some (.ot [.fz d, .bp i p]) := rfl
theorem retM_t1 {lk : Nat → Bool} {i : Nat} {d d' : D} (h : env.get i = some m) (hm : dat0 m = some d') : retM lk env (some (.ot [.fz d, .bp i []])) = some (.rt (.fz (.tup [d, d'])) (env.put i (.fz d'))) := by
  have h1 : dat env (.ot [.fz d, .bp i []]) = some (.tup [d, d']) := by
    show (datWL (plD env) [.fz d, .bp i []]).map D.tup = _
    rw [show datWL (plD env) [.fz d, .bp i []] = some [d, d'] from dats_f (dats_m h hm dats_n)]
    rfl
  have h2 : frS [i] env = some (env.put i (.fz d')) := by
    unfold frS
    rw [h]
    show (match dat0 m with
      | some d => frS [] (env.put i (.fz d))
      | none => none) = _
    rw [hm]
    rfl
  have h3 : stow 9 env (.ot [.fz d, .bp i []]) = some (.fz (.tup [d, d']), env.put i (.fz d')) := by
    unfold stow
    show (match dat env (.ot [.fz d, .bp i []]), frS [i] env with
      | some d, some env' => some (M.fz d, env')
      | _, _ => none) = _
    rw [h1, h2]
  unfold retM sRet
  show (match stow 9 env (.ot [.fz d, .bp i []]) with
    | some (m', e2) => some (Fl.rt m' e2)
    | none => none) = _
  rw [h3]
theorem retM_ol {lk : Nat → Bool} {ms ms' : List M} (h : slotsL ms = []) (h' : shutL 8 ms = some ms') : retM lk env (some (.ol ms)) = some (.rt (.ol ms') env) := by
  unfold retM sRet
  show (match stow 9 env (.ol ms) with
    | some (m', e2) => some (Fl.rt m' e2)
    | none => none) = _
  rw [stow_ol (k := 8) h h']
theorem retM_ot {lk : Nat → Bool} {ms ms' : List M} (h : slotsL ms = []) (h' : shutL 8 ms = some ms') : retM lk env (some (.ot ms)) = some (.rt (.ot ms') env) := by
  unfold retM sRet
  show (match stow 9 env (.ot ms) with
    | some (m', e2) => some (Fl.rt m' e2)
    | none => none) = _
  rw [stow_ot (k := 8) h h']
theorem slotsL_f {xs : List D} : slotsL (xs.map .fz) = [] := slotsL_fz xs
theorem shutL_f {k : Nat} {xs : List D} : shutL k (xs.map .fz) = some (xs.map .fz) := shutL_fz xs
theorem gd_str {k : Nat} {x : Str} (h : PyData.strOk x = true) : gd k (.str x) = true := by cases k <;> exact h
theorem idx_t {ds : List D} {i : Int} {d : D} (h : L2.atI ds i = some d) : oIdx env [.fz (.tup ds), .fz (.int i)] = some (.fz d) := by
  have h0 : oIx true env [.fz (.tup ds), .fz (.int i)] = none := rfl
  have h1 : oIx false env [.fz (.tup ds), .fz (.int i)] = some (.fz d) := by
    show L2.atI (ds.map M.fz) i = _
    exact atI_map h
  show oOr (oIx true) (oOr (oIx false) _) env _ = _
  unfold oOr
  rw [h0, h1]
theorem k_idxT0 {a0 : D} {ds : List D} : oIdx env [.fz (.tup (a0 :: ds)), .fz (.int 0)] = some (.fz a0) := idx_t (atI_nat (i := 0) rfl)
theorem k_idxL0 {a0 : D} {ds : List D} : oIdx env [.fz (.lst (a0 :: ds)), .fz (.int 0)] = some (.fz a0) := idx_f (atI_nat (i := 0) rfl)
theorem k_idxT1 {a0 a1 : D} {ds : List D} : oIdx env [.fz (.tup (a0 :: a1 :: ds)), .fz (.int 1)] = some (.fz a1) := idx_t (atI_nat (i := 1) rfl)
theorem k_idxL1 {a0 a1 : D} {ds : List D} : oIdx env [.fz (.lst (a0 :: a1 :: ds)), .fz (.int 1)] = some (.fz a1) := idx_f (atI_nat (i := 1) rfl)
theorem k_idxT2 {a0 a1 a2 : D} {ds : List D} : oIdx env [.fz (.tup (a0 :: a1 :: a2 :: ds)), .fz (.int 2)] = some (.fz a2) := idx_t (atI_nat (i := 2) rfl)
theorem k_idxL2 {a0 a1 a2 : D} {ds : List D} : oIdx env [.fz (.lst (a0 :: a1 :: a2 :: ds)), .fz (.int 2)] = some (.fz a2) := idx_f (atI_nat (i := 2) rfl)
theorem k_idxT3 {a0 a1 a2 a3 : D} {ds : List D} : oIdx env [.fz (.tup (a0 :: a1 :: a2 :: a3 :: ds)), .fz (.int 3)] = some (.fz a3) := idx_t (atI_nat (i := 3) rfl)
theorem k_idxL3 {a0 a1 a2 a3 : D} {ds : List D} : oIdx env [.fz (.lst (a0 :: a1 :: a2 :: a3 :: ds)), .fz (.int 3)] = some (.fz a3) := idx_f (atI_nat (i := 3) rfl)
theorem k_idxT4 {a0 a1 a2 a3 a4 : D} {ds : List D} : oIdx env [.fz (.tup (a0 :: a1 :: a2 :: a3 :: a4 :: ds)), .fz (.int 4)] = some (.fz a4) := idx_t (atI_nat (i := 4) rfl)
theorem k_idxL4 {a0 a1 a2 a3 a4 : D} {ds : List D} : oIdx env [.fz (.lst (a0 :: a1 :: a2 :: a3 :: a4 :: ds)), .fz (.int 4)] = some (.fz a4) := idx_f (atI_nat (i := 4) rfl)
theorem g_idxB {i : Nat} {p : List Pa} {j : Int} (h : oIdx env [.bp i p, .fz (.int j)] = some r) : oIdx env [.bp i p, .fz (.int j)] = some r := h
theorem g_lt {x y : Int} (h : x < y) : x < y := h
theorem g_le {x y : Int} (h : x ≤ y) : x ≤ y := h
theorem g_ltN {x y : Nat} (h : x < y) : x < y := h
theorem g_leN {x y : Nat} (h : x ≤ y) : x ≤ y := h
theorem x_extendD {es : List D} (h : es.length + ds.length ≤ sizeLine) : mExtend (es.map .fz) [.fz (.lst ds)] = some ((es ++ ds).map .fz, .fz .non) := by
  rw [x_extend (by simpa using h), List.map_append]
theorem k_min2 {i j : Int} : oMin env [.fz (.int i), .fz (.int j)] = some (.fz (.int (if j < i then j else i))) := rfl
theorem k_max2 {i j : Int} : oMax env [.fz (.int i), .fz (.int j)] = some (.fz (.int (if j > i then j else i))) := rfl
theorem k_xor {i j : Int} : sop iXor env [.fz (.int i), .fz (.int j)] = some (.fz (.int (Builtin.bitXor i j))) := rfl
theorem or_xor_and : ∀ (n a b : Nat), a < 2 ^ n → b < 2 ^ n → a ||| b = (a ^^^ b) + (a &&& b)
  | 0, a, b, ha, hb => by
    have : a = 0 := by simp at ha; exact ha
    have : b = 0 := by simp at hb; exact hb
    subst a b
    rfl
  | n + 1, a, b, ha, hb => by
    have ih := or_xor_and n (a / 2) (b / 2) (by rw [Nat.pow_succ] at ha; omega) (by rw [Nat.pow_succ] at hb; omega)
    have e1 : (a ||| b) / 2 = a / 2 ||| b / 2 := Nat.or_div_two ..
    have e2 : (a ^^^ b) / 2 = a / 2 ^^^ b / 2 := Nat.xor_div_two ..
    have e3 : (a &&& b) / 2 = a / 2 &&& b / 2 := Nat.and_div_two ..
    have m1 : (a ||| b) % 2 = 1 ↔ a % 2 = 1 ∨ b % 2 = 1 := Nat.or_mod_two_eq_one
    have m2 : (a ^^^ b) % 2 = 1 ↔ ¬ (a % 2 = 1 ↔ b % 2 = 1) := Nat.xor_mod_two_eq_one
    have m3 : (a &&& b) % 2 = 1 ↔ a % 2 = 1 ∧ b % 2 = 1 := Nat.and_mod_two_eq_one
    rw [← e1, ← e2, ← e3] at ih
    generalize a ||| b = p at *
    generalize a ^^^ b = q at *
    generalize a &&& b = r at *
    clear e1 e2 e3
    rcases Nat.mod_two_eq_zero_or_one a with h1 | h1 <;> rcases Nat.mod_two_eq_zero_or_one b with h2 | h2 <;> rw [h1, h2] at m1 m2 m3 <;> simp at m1 m2 m3 <;> omega
theorem bitXorN (a b : Nat) : Builtin.bitXor (a : Int) (b : Int) = ((a ^^^ b : Nat) : Int) := by
  have h : a ||| b = (a ^^^ b) + (a &&& b) := by
    have h1 := Nat.lt_two_pow_self (n := a)
    have h2 := Nat.lt_two_pow_self (n := b)
    refine or_xor_and (a + b) a b (Nat.lt_of_lt_of_le h1 (Nat.pow_le_pow_right (by decide) (by omega))) (Nat.lt_of_lt_of_le h2 (Nat.pow_le_pow_right (by decide) (by omega)))
  unfold Builtin.bitXor
  rw [bitOrN, bitAndN, h]
  omega
theorem k_xorN {a b : Nat} : sop iXor env [.fz (.int a), .fz (.int b)] = some (.fz (.int ((a ^^^ b : Nat) : Int))) := by rw [k_xor, bitXorN]
theorem k_minN {a b : Nat} : oMin env [.fz (.int a), .fz (.int b)] = some (.fz (.int ((min a b : Nat) : Int))) := by
  rw [k_min2]
  have : (if (b : Int) < (a : Int) then (b : Int) else (a : Int)) = ((min a b : Nat) : Int) := by
    split <;> omega
  rw [this]
theorem x_andF {f g : En → Option Bool} {c : Bool} (h : f env = some c) (hc : c = false) : dAnd f g env = some false := by
  subst hc
  unfold dAnd
  rw [h]
theorem x_orT {f g : En → Option Bool} {c : Bool} (h : f env = some c) (hc : c = true) : dOr f g env = some true := by
  subst hc
  unfold dOr
  rw [h]
theorem x_ifT {c : Bool} {x y R : Option Fl} (h : c = true) (h' : x = R) : (if c = true then x else y) = R := by rw [if_pos h]; exact h'
theorem x_ifF {c : Bool} {x y R : Option Fl} (h : c = false) (h' : y = R) : (if c = true then x else y) = R := by subst h; simpa using h'
theorem gInT_ints {neg : Bool} {x : Int} : ∀ L : List Int, gInT neg [.int x, .tup (L.map .int)] = some (.bl (if neg then !L.contains x else L.contains x)) := fun L => by
  have h1 : (L.map D.int).all scal = true := by
    rw [List.all_map]
    exact List.all_eq_true.mpr fun _ _ => rfl
  have h2 : ((L.map D.int).map toV).all L2.flatV = true := by
    rw [List.map_map, List.all_map]
    exact List.all_eq_true.mpr fun _ _ => rfl
  have h3 : L2.inV (.int x) ((L.map D.int).map toV) = L.contains x := by
    unfold L2.inV
    rw [List.map_map]
    induction L with
    | nil => rfl
    | cons y L ih =>
      rw [List.map_cons, List.any_cons, List.contains_cons, ih (by
        rw [List.all_map]
        exact List.all_eq_true.mpr fun _ _ => rfl) (by
        rw [List.map_map, List.all_map]
        exact List.all_eq_true.mpr fun _ _ => rfl)]
      show (y == x || _) = (x == y || _)
      rw [BEq.comm]
  have h4 : (scal (.int x) && (L.map D.int).all scal && L2.flatV (toV (.int x)) && ((L.map D.int).map toV).all L2.flatV) = true := by
    rw [h1, h2]
    rfl
  show (if (scal (.int x) && (L.map D.int).all scal && L2.flatV (toV (.int x)) && ((L.map D.int).map toV).all L2.flatV) = true then some (D.bl (if neg = true then !L2.inV (.int x) ((L.map D.int).map toV) else L2.inV (.int x) ((L.map D.int).map toV))) else none) = _
  rw [if_pos h4, h3]
theorem k_inTI {x : Int} {L : List Int} : oIn env [.fz (.int x), .fz (.tup (L.map .int))] = some (.fz (.bl (L.contains x))) := by
  show oOr (sop (gInL false)) (oOr (sop (gInT false)) (sop (gInS false))) env _ = _
  have h1 : sop (gInL false) env [.fz (.int x), .fz (.tup (L.map .int))] = none := rfl
  unfold oOr
  rw [h1]
  simp only
  rw [sop_of (dats_f (dats_f dats_n)) (gInT_ints L) rfl]
  rfl
theorem k_inT2 {x a b : Int} : oIn env [.fz (.int x), .fz (.tup [.int a, .int b])] = some (.fz (.bl ([a, b].contains x))) := k_inTI (L := [a, b])
theorem k_inT3 {x a b c : Int} : oIn env [.fz (.int x), .fz (.tup [.int a, .int b, .int c])] = some (.fz (.bl ([a, b, c].contains x))) := k_inTI (L := [a, b, c])
theorem k_inT4 {x a b c d : Int} : oIn env [.fz (.int x), .fz (.tup [.int a, .int b, .int c, .int d])] = some (.fz (.bl ([a, b, c, d].contains x))) := k_inTI (L := [a, b, c, d])
theorem x_minL {L : List Int} {i : Int} (h : f env = some a) (ha : dats env [a] = some [lI L]) (hm : lMin L = some i) : opr oMin (aCons f aNil) env = some (.fz (.int i)) := by
  refine opr_of (acons_of h e_anil) ?_
  have h1 : sop gMin2 env [a] = none := by
    unfold sop
    rw [ha]
    rfl
  have h2 : gMin [lI L] = some (.int i) := by
    show (match intsOf (L.map .int) with
      | some ns => (lMin ns).map D.int
      | none => none) = _
    rw [intsOf_ints]
    show (lMin L).map D.int = _
    rw [hm]
    rfl
  show oOr (sop gMin2) (sop gMin) env [a] = _
  unfold oOr
  rw [h1, sop_of ha h2 rfl]
theorem x_catOF {xs ys : List Int} (hl : xs.length + ys.length ≤ sizeLine) : oAdd env [oI xs, .fz (lI ys)] = some (oI (xs ++ ys)) := by
  have h1 : sop iAdd env [oI xs, .fz (lI ys)] = none := by
    unfold sop
    rw [dats_o (dats_f dats_n)]
    rfl
  have h2 : sop gStr env [oI xs, .fz (lI ys)] = none := by
    unfold sop
    rw [dats_o (dats_f dats_n)]
    rfl
  have h3 : oCat env [oI xs, .fz (lI ys)] = some (oI (xs ++ ys)) := by
    unfold oCat
    simp only [elems_f, elems_o, List.length_map]
    rw [if_pos hl]
    show some (M.ol _) = some (M.ol (((xs ++ ys).map D.int).map M.fz))
    rw [List.map_append, List.map_append]
  show oOr (sop iAdd) (oOr (sop gStr) oCat) env _ = _
  unfold oOr
  rw [h1, h2, h3]
end
end T2
end
section
set_option Elab.async false
set_option linter.all false
set_option maxRecDepth 100000
namespace T2
open PySem PySem.Spec PyProof.Rows L2
/-- where the text's classes stand -/
class ClsA where
  at_ : Nat → Addr
end T2
end
section
set_option Elab.async false
set_option linter.all false
set_option maxRecDepth 100000
namespace T2
open PySem PySem.Spec PyProof.Rows L2
def keyD : D → Option Key
  | .int i => some (.inl i)
  | .str s => some (.inr s)
  | _ => none
def kD : Key → D
  | .inl i => .int i
  | .inr s => .str s
def getK (kvs : List (Key × D)) (k : Key) : Option D := (kvs.find? fun kv => decide (kv.1 = k)).map (·.2)
def putD (kvs : List (Key × D)) (k : Key) (d : D) : List (Key × D) := if (kvs.any fun kv => decide (kv.1 = k)) = true then kvs.map fun kv => if kv.1 = k then (kv.1, d) else kv else kvs ++ [(k, d)]
/-- a dict that is no part of a slot, or stands at a place -/
def dicO (env : En) : M → Option (List (Key × D))
  | .od _ kvs => some kvs
  | .fz (.dic ks ds) => some (ks.zip ds)
  | .bp i p => match env.place i p with
    | some (.od _ kvs) => some kvs
    | _ => none
  | _ => none
/-- .. that is not locked -/
def dicU (env : En) : M → Option (List (Key × D))
  | .od false kvs => some kvs
  | .bp i p => match env.place i p with
    | some (.od false kvs) => some kvs
    | _ => none
  | _ => none
def oDG : En → List M → Option M := fun env ms => match ms with
  | [m, .fz kd] => match dicO env m, keyD kd with
    | some kvs, some k => (getK kvs k).map .fz
    | _, _ => none
  | _ => none
def oDLen : En → List M → Option M := fun env ms => match ms with
  | [m] => match dicU env m with
    | some kvs => some (.fz (.int kvs.length))
    | _ => none
  | _ => none
def lookD : List (Str × D) → Str → Option D
  | [], _ => none
  | p :: r, f => if p.1 = f then some p.2 else lookD r f
theorem RepF.get {K : PySem.W.Frag} {F : Hp} {f : Str} : ∀ {fs : List (Str × D)} {gs : List (Str × V)} {d : D}, RepF K F fs gs → lookD fs f = some d → ∃ v, gs.lookup f = some v ∧ Rep K F d v
  | [], gs, d, h, e => by cases e
  | p :: fs, gs, d, h, e => by
    simp only [RepF] at h
    obtain ⟨v, r, rfl, q, q2⟩ := h
    unfold lookD at e
    split at e
    · rename_i hf
      cases e
      exact ⟨v, by rw [List.lookup_cons, hf]; simp, q⟩
    · rename_i hf
      obtain ⟨w, e1, e2⟩ := RepF.get q2 e
      refine ⟨w, ?_, e2⟩
      rw [List.lookup_cons]
      have : (f == p.1) = false := by simpa using fun z => hf z.symm
      simp only [this, e1]
section
variable [ca : ClsA]
/-- o.f, o an instance of the text's class number n -/
def oFld (n : Nat) (f : Str) : En → List M → Option M := fun env ms => match ms with
  | [.oi C fs] => if C = ca.at_ n then getF fs f else none
  | [.fz (.ins C fs)] => if C = ca.at_ n then (lookD fs f).map .fz else none
  | [.bp i p] => match env.place i p with
    | some (.oi C fs) => if C = ca.at_ n then (match getF fs f with
      | some (.fz d) => some (.fz d)
      | some _ => some (.bp i (p ++ [.fd f]))
      | none => none) else none
    | _ => none
  | _ => none
end
/-- x.bit_length() -/
def iBits := gU fun i => (Builtin.Int.intBits i : Nat)
end T2
end
section
set_option Elab.async false
set_option linter.all false
set_option maxRecDepth 100000
namespace T2
open PySem PySem.Spec PyProof.Rows L2
section
variable {K : PySem.W.Frag} {F H F' H' : Hp} {σ : L2.St} {env : En} {fp : Nat → List Addr} {A B : List Addr} {br : Nat → List Pa → V → Prop}
theorem OwnF.len : ∀ {ms : List (Str × M)} {vs : List (Str × V)} {A : List Addr}, OwnF K br F H ms vs A → ms.length = vs.length
  | [], vs, A, h => by
    simp only [OwnF] at h
    rw [h.1]
    rfl
  | n :: ms, vs, A, h => by
    simp only [OwnF] at h
    obtain ⟨v, r, B, C, rfl, rfl, q, q2⟩ := h
    simp only [List.length_cons, OwnF.len q2]
theorem OwnF.put {f : Str} {m : M} {v : V} (hm : Own K br F H m v A) : ∀ {fs : List (Str × M)} {gs : List (Str × V)} {B : List Addr}, OwnF K br F H fs gs B → (B ++ A).Nodup → ∃ B2, OwnF K br F H (setF fs f m) (putF f v gs) B2 ∧ B2.Nodup ∧ ∀ x ∈ B2, x ∈ B ++ A
  | [], gs, B, h, n => by
    simp only [OwnF] at h
    obtain ⟨rfl, rfl⟩ := h
    refine ⟨A, ?_, by simpa using n, fun x hx => by simpa using hx⟩
    simp only [setF, OwnF]
    exact ⟨v, [], A, [], rfl, by simp, hm, rfl, rfl⟩
  | m0 :: fs, gs, B, h, n => by
    simp only [OwnF] at h
    obtain ⟨v0, r, B0, C, rfl, rfl, q, q2⟩ := h
    have n1 := List.nodup_append.mp n
    have n2 := List.nodup_append.mp n1.1
    by_cases hf : m0.1 = f
    · refine ⟨A ++ C, ?_, List.nodup_append.mpr ⟨n1.2.1, n2.2.1, fun x hx y hy e => n1.2.2 y (by simp [hy]) x hx e.symm⟩, fun x hx => ?_⟩
      · have e1 : setF (m0 :: fs) f m = (f, m) :: fs := by unfold setF; rw [if_pos hf]
        have e2 : putF f v ((m0.1, v0) :: r) = (f, v) :: r := by unfold putF; rw [if_pos hf, hf]
        rw [e1, e2]
        simp only [OwnF]
        exact ⟨v, r, A, C, rfl, rfl, hm, q2⟩
      · rcases List.mem_append.mp hx with z | z <;> simp [z]
    · have n3 : (C ++ A).Nodup := List.nodup_append.mpr ⟨n2.2.1, n1.2.1, fun x hx y hy => n1.2.2 x (by simp [hx]) y hy⟩
      obtain ⟨B2, h1, h2, h3⟩ := OwnF.put hm q2 n3
      refine ⟨B0 ++ B2, ?_, List.nodup_append.mpr ⟨n2.1, h2, fun x hx y hy e => ?_⟩, fun x hx => ?_⟩
      · have e1 : setF (m0 :: fs) f m = m0 :: setF fs f m := by
          show (if m0.1 = f then (f, m) :: fs else m0 :: setF fs f m) = _
          rw [if_neg hf]
        have e2 : putF f v ((m0.1, v0) :: r) = (m0.1, v0) :: putF f v r := by
          show (if m0.1 = f then (m0.1, v) :: r else (m0.1, v0) :: putF f v r) = _
          rw [if_neg hf]
        rw [e1, e2]
        simp only [OwnF]
        exact ⟨v0, _, B0, B2, rfl, rfl, q, h1⟩
      · subst e
        rcases List.mem_append.mp (h3 x hy) with z | z
        · exact n2.2.2 x hx x z rfl
        · exact n1.2.2 x (by simp [hx]) x z rfl
      · rcases List.mem_append.mp hx with z | z
        · simp [z]
        · rcases List.mem_append.mp (h3 x z) with w | w <;> simp [w]
/-- temporary nodes stay in a step -/
theorem Own.tmp {m : M} {v : V} (h : Own K noBr F H m v A) (s : Step [] F H F' H') : Own K noBr F' H' m v A := h.mono s.fr (fun _ _ _ z => z) _ _ _ fun c hc => by
  obtain ⟨z1, u, z2⟩ := h.at _ _ _ c hc
  refine ⟨?_, s.hp c⟩
  cases z : F' c with
  | none => rfl
  | some u' =>
    rcases s.nw c (by rw [z]; simp) with w | w | w
    · exact absurd z1 w
    · rw [z2] at w
      cases w
    · cases w
end
/-- d[k] = e -/
def sDSet (fo fi : En → Option M) (g : En → Option (M × En)) : En → Option Fl := fun env => match g env with
  | some (m, e1) => match stow 0 e1 m with
    | some (.fz d, e2) => match fo e2, fi e2 with
      | some (.bp i p), some (.fz kd) => match e2.place i p, keyD kd with
        | some (.od false kvs), some k => if kvs.length < sizeLine then (match setE e2 i p (.od false (putD kvs k d)) with
          | some e3 => some (.nx e3)
          | none => none) else none
        | _, _ => none
      | _, _ => none
    | _ => none
  | none => none
end T2
end
section
set_option Elab.async false
set_option linter.all false
set_option maxRecDepth 100000
namespace T2
open PySem PySem.Spec PyProof.Rows L2
/-- list(d.keys()) -/
def oKeys : En → List M → Option M := fun env ms => match ms with
  | [m] => match dicO env m with
    | some kvs => some (oD (kvs.map fun kv => kD kv.1))
    | none => none
  | _ => none
end T2
end
section
set_option Elab.async false
set_option linter.all false
set_option maxRecDepth 100000
namespace T2
open PySem PySem.Spec PyProof.Rows L2
theorem ValP.inj {H : Hp} : ∀ {p : List Pa} {w v v' : V}, ValP H w p v → ValP H w p v' → v = v'
  | [], w, v, v', h, h' => Eq.trans h (Eq.symm h')
  | .ix k :: r, w, v, v', h, h' => by
    obtain ⟨a, vs, u, rfl, q, g, h⟩ := h
    obtain ⟨a', vs', u', e, q', g', h'⟩ := h'
    cases e
    have : vs = vs' := by rcases q with q | q <;> rcases q' with q' | q' <;> rw [q] at q' <;> cases q' <;> rfl
    subst this
    rw [g] at g'
    cases g'
    exact ValP.inj h h'
  | .fd f :: r, w, v, v', h, h' => by
    obtain ⟨a, C, dx, gs, u, rfl, q, g, h⟩ := h
    obtain ⟨a', C', dx', gs', u', e, q', g', h'⟩ := h'
    cases e
    rw [q] at q'
    cases q'
    rw [g] at g'
    cases g'
    exact ValP.inj h h'
end T2
end
section
set_option Elab.async false
set_option linter.all false
set_option maxRecDepth 100000
namespace T2
open PySem PySem.Spec PyProof.Rows L2
section
variable [ca : ClsA]
section
variable {K : PySem.W.Frag}
theorem OwnF.none {br : Nat → List Pa → V → Prop} {F H : Hp} {f : Str} : ∀ {fs : List (Str × M)} {gs : List (Str × V)} {A : List Addr}, OwnF K br F H fs gs A → getF fs f = none → gs.lookup f = none
  | [], gs, A, h, e => by
    simp only [OwnF] at h
    rw [h.1]
    rfl
  | p :: fs, gs, A, h, e => by
    simp only [OwnF] at h
    obtain ⟨v, r, B, C, rfl, rfl, q, q2⟩ := h
    unfold getF at e
    split at e
    · cases e
    · rename_i hf
      rw [List.lookup_cons]
      have : (f == p.1) = false := by simpa using fun z => hf z.symm
      simp only [this]
      exact OwnF.none q2 e
end
end
end T2
end
section
set_option Elab.async false
set_option linter.all false
set_option maxRecDepth 100000
namespace T2
open PySem PySem.Spec PyProof.Rows L2
theorem fnOk_imp {P : Program} {w : World} {K : PySem.W.Frag} {mg : Str → Option Value} {base : Heap} {CX : CXT} {k : Nat} {f : Addr} {fd : FuncData} {ps : List Str} {sp sp' : Sp} (F : FnG P w K mg base CX k f fd ps sp) (i : ∀ vs H Q E, sp' vs H Q E → sp vs H Q E) : FnG P w K mg base CX k f fd ps sp' :=
  F.imp i
end T2
end
section
set_option Elab.async false
set_option linter.all false
set_option maxRecDepth 100000
namespace T2
open PySem PySem.Spec PyProof.Rows L2
theorem getF_1 {f : Str} {m : M} {fs : List (Str × M)} : getF ((f, m) :: fs) f = some m := if_pos rfl
theorem lookD_1 {f : Str} {d : D} {fs : List (Str × D)} : lookD ((f, d) :: fs) f = some d := if_pos rfl
def notFz : M → Bool
  | .fz _ => false
  | _ => true
section
variable [ca : ClsA] {n : Nat} {f : Str} {env e1 e2 e3 : En} {i : Nat} {p : List Pa} {fs : List (Str × M)} {m m' : M} {d : D}
theorem k_fldP (h : env.get i = some (.oi (ca.at_ n) fs)) (h' : getF fs f = some m) (hn : notFz m = true) : oFld n f env [.bp i []] = some (.bp i [.fd f]) := by
  have hp : env.place i [] = some (.oi (ca.at_ n) fs) := by
    unfold En.place
    rw [h]
    rfl
  unfold oFld
  simp only [hp, if_true, h']
  cases m with
  | fz d => cases hn
  | _ => rfl
theorem k_fldF {ds : List (Str × D)} (h : lookD ds f = some d) : oFld n f env [.fz (.ins (ca.at_ n) ds)] = some (.fz d) := by
  unfold oFld
  simp only [if_true, h, Option.map_some]
theorem k_fldO (h : getF fs f = some m) : oFld n f env [.oi (ca.at_ n) fs] = some m := by
  unfold oFld
  simp only [if_true, h]
end
section
variable {env e1 e2 e3 : En} {i : Nat} {p : List Pa} {m m' : M} {d kd : D} {b : Bool} {kvs : List (Key × D)}
theorem k_dgP {k : Key} (h : env.place i p = some (.od b kvs)) (hk : keyD kd = some k) (h' : getK kvs k = some d) : oDG env [.bp i p, .fz kd] = some (.fz d) := by
  unfold oDG dicO
  simp only [h, hk, h', Option.map_some]
theorem k_dgF {ks : List Key} {ds : List D} {k : Key} (hk : keyD kd = some k) (h' : getK (ks.zip ds) k = some d) : oDG env [.fz (.dic ks ds), .fz kd] = some (.fz d) := by
  unfold oDG dicO
  simp only [hk, h', Option.map_some]
theorem k_keysP (h : env.place i p = some (.od b kvs)) : oKeys env [.bp i p] = some (oD (kvs.map fun kv => kD kv.1)) := by
  unfold oKeys dicO
  simp only [h]
theorem k_dlenO : oDLen env [.od false kvs] = some (.fz (.int kvs.length)) := rfl
theorem k_bits {j : Int} : sop iBits env [.fz (.int j)] = some (.fz (.int (Builtin.Int.intBits j : Nat))) := id rfl
theorem x_dset {fo fi : En → Option M} {g : En → Option (M × En)} {k : Key} (h1 : g env = some (m, e1)) (h2 : stow 0 e1 m = some (.fz d, e2)) (h3 : fo e2 = some (.bp i p)) (h4 : fi e2 = some (.fz kd)) (h5 : e2.place i p = some (.od false kvs)) (h6 : keyD kd = some k) (hl : kvs.length < sizeLine) (h7 : setE e2 i p (.od false (putD kvs k d)) = some e3) : sDSet fo fi g env = some (.nx e3) := by
  unfold sDSet
  simp only [h1, h2, h3, h4, h5, h6, h7]
  rw [if_pos hl]
end
end T2
end
section
set_option Elab.async false
set_option linter.all false
set_option maxRecDepth 100000
namespace T2
open PySem PySem.Spec PyProof.Rows L2
def gIsB (neg : Bool) : List D → Option D
  | [.bl a, .bl b] => some (.bl (if neg then !decide (a = b) else decide (a = b)))
  | _ => none
theorem k_isB {env : En} {a b : Bool} : sop (gIsB false) env [.fz (.bl a), .fz (.bl b)] = some (.fz (.bl (decide (a = b)))) := id rfl
theorem k_notB {env : En} {a b : Bool} : sop (gIsB true) env [.fz (.bl a), .fz (.bl b)] = some (.fz (.bl (!decide (a = b)))) := id rfl
end T2
end
section
set_option Elab.async false
set_option linter.all false
set_option maxRecDepth 100000
namespace T2
open PySem PySem.Spec PyProof.Rows L2
section
variable {env e1 : En} {m : M} {d : D}
theorem idx_ot {ms : List M} {i : Int} (h : L2.atI ms i = some m) : oIdx env [.ot ms, .fz (.int i)] = some m := by
  have h0 : oIx true env [.ot ms, .fz (.int i)] = none := rfl
  have h1 : oIx false env [.ot ms, .fz (.int i)] = some m := h
  show oOr (oIx true) (oOr (oIx false) _) env _ = _
  unfold oOr
  rw [h0, h1]
theorem k_idxO0 {ms : List M} : oIdx env [.ot (m :: ms), .fz (.int 0)] = some m := idx_ot (atI_nat (i := 0) rfl)
theorem k_idxO1 {ms : List M} {n : M} : oIdx env [.ot (n :: m :: ms), .fz (.int 1)] = some m := idx_ot (atI_nat (i := 1) rfl)
theorem k_idxO2 {ms : List M} {n o : M} : oIdx env [.ot (n :: o :: m :: ms), .fz (.int 2)] = some m := idx_ot (atI_nat (i := 2) rfl)
end
end T2
end
section
set_option Elab.async false
set_option linter.all false
set_option maxRecDepth 100000
namespace T2
open PySem PySem.Spec PyProof.Rows L2
/-- slots' trees go into a tuple -/
def movL (lk : Nat → Bool) : List M → En → Option (List M × En)
  | [], env => some ([], env)
  | m :: ms, env => match m with
    | .bp i p => match p, env.get i with
      | [], some n => if lk i = false then (match movL lk ms (env.kill i) with
        | some (ns, e2) => some (n :: ns, e2)
        | none => none) else none
      | _, _ => none
    | m => if slots m = [] then (match movL lk ms env with
      | some (ns, e2) => some (m :: ns, e2)
      | none => none) else none
/-- return of a tuple whose trees are the caller's -/
def sRetO (lk : Nat → Bool) (g : En → Option (M × En)) : En → Option Fl := fun env => match g env with
  | some (.ot ms, e1) => match movL lk ms e1 with
    | some (ns, e2) => some (.rt (.ot ns) e2)
    | none => none
  | some (.fz d, e1) => some (.rt (.fz d) e1)
  | _ => none
section
variable {lk : Nat → Bool} {env e1 e2 : En} {m n : M} {ms ns : List M} {d : D}
theorem movL_n : movL lk [] env = some ([], env) := rfl
theorem movL_f (h : movL lk ms env = some (ns, e2)) : movL lk (.fz d :: ms) env = some (.fz d :: ns, e2) := by
  unfold movL
  simp only [slots, if_true, h]
theorem movL_b {i : Nat} (hg : env.get i = some n) (hl : lk i = false) (hk : env.kill i = e1) (h : movL lk ms e1 = some (ns, e2)) : movL lk (.bp i [] :: ms) env = some (n :: ns, e2) := by
  subst hk
  unfold movL
  simp only [hg, hl, if_true, h]
theorem movL_l {xs : List M} (hs : slotsL [.ol xs] = []) (h : movL lk ms env = some (ns, e2)) : movL lk (.ol xs :: ms) env = some (.ol xs :: ns, e2) := by
  have hs : slots (.ol xs) = [] := by
    simp only [slotsL, List.append_nil] at hs
    exact hs
  unfold movL
  simp only [hs, if_true, h]
theorem x_retO {g : En → Option (M × En)} (h : g env = some (.ot ms, e1)) (h' : movL lk ms e1 = some (ns, e2)) : sRetO lk g env = some (.rt (.ot ns) e2) := by
  unfold sRetO
  rw [h]
  simp only [h']
end
end T2
end
section
set_option Elab.async false
set_option linter.all false
set_option maxRecDepth 100000
namespace T2
open PySem PySem.Spec PyProof.Rows L2
section
variable {env e1 e2 e3 : En} {m m' r r2 : M} {d : D} {ms ms' ns cs : List M} {ds : List D}
theorem callB_x {io : List Bool} {F : Fn} {i : Nat} {l : List Nat} (h : slotsL ms = i :: l) (h1 : dats env ms = some ds) (hm : ds.map .fz = ns) (h2 : F ns = some (r, cs)) (h3 : sLf r = true) : callP io F env ms = some r := by
  subst hm
  exact callB_of h h1 h2 h3
theorem slM_fD {l h : Option Int} : slM env l h (.fz (.lst ds)) = some (oD (cutM ds l h)) := by
  have key : slM env l h (.fz (.lst ds)) = some (.ol (cutM (ds.map .fz) l h)) := rfl
  rw [key]
  show _ = some (M.ol ((cutM ds l h).map .fz))
  unfold cutM
  rw [List.map_take, List.map_drop, List.length_map]
end
end T2
end
section
set_option Elab.async false
set_option linter.all false
set_option maxRecDepth 100000
namespace T2
open PySem PySem.Spec PyProof.Rows L2
end T2
end
section
set_option Elab.async false
set_option linter.all false
set_option maxRecDepth 100000
namespace T2
open PySem PySem.Spec PyProof.Rows L2
end T2
end
section
set_option Elab.async false
set_option linter.all false
set_option maxRecDepth 100000
namespace T2
open PySem PySem.Spec PyProof.Rows L2
end T2
end
section
set_option Elab.async false
set_option linter.all false
set_option maxRecDepth 100000
namespace T2
open PySem PySem.Spec PyProof.Rows L2
end T2
end
section
set_option Elab.async false
set_option linter.all false
set_option maxRecDepth 100000
namespace T2
open PySem PySem.Spec PyProof.Rows L2
end T2
end
section
set_option Elab.async false
set_option linter.all false
set_option maxRecDepth 100000
namespace T2
open PySem PySem.Spec PyProof.Rows L2
section
variable {a b c d e f x : M}
abbrev F1 (a : M) : List (Str × M) := [("many", a)]
abbrev F2 (a b : M) : List (Str × M) := [("many", a), ("signs", b)]
abbrev F3 (a b c : M) : List (Str × M) := [("many", a), ("signs", b), ("rows", c)]
abbrev F4 (a b c d : M) : List (Str × M) := [("many", a), ("signs", b), ("rows", c), ("basis", d)]
abbrev F5 (a b c d e : M) : List (Str × M) := [("many", a), ("signs", b), ("rows", c), ("basis", d), ("below", e)]
end
def gI (L : List Int) (k : Nat) : Int := L.getD k 0
end T2
end
section
set_option Elab.async false
set_option linter.all false
set_option maxRecDepth 100000
set_option maxHeartbeats 4000000
namespace T2
open PySem PySem.Spec PyProof.Rows L2
/-- a call that changes the slot that its second argument is; its first one is data -/
def callJ (io : List Bool) (f : Fn) (gs : En → Option (List M × En)) : En → Option (M × En) := fun env => match gs env with
  | some (.fz d :: .bp i [] :: rest, e1) => match slotsL rest with
    | [] => match e1.get i, shutZ io.tail.tail rest with
      | some n, some cs => match f (.fz d :: n :: cs) with
        | some (r, _ :: n' :: _) => some (r, e1.put i n')
        | _ => none
      | _, _ => none
    | _ => none
  | _ => none
section
variable {K : PySem.W.Frag}
theorem tXA.mutj {io : List Bool} {f : Fn} {E : XK} {gs : En → Option (List M × En)} {σ : L2.St} {H : Hp} {Q : VK} (h : tX K (callJ io f gs) σ H Q) : tXA K gs σ H fun vs H1 => SpI K f vs H1 Q E := by
  obtain ⟨env, m, env', F, fp, e, ok, q⟩ := h
  unfold callJ at e
  split at e
  · rename_i d i rest e1 h1
    split at e
    · rename_i hs
      split at e
      · rename_i n cs hn hc
        split at e
        · rename_i r d' n' tl hf
          cases e
          refine ⟨env, _, e1, F, fp, h1, ok, fun vs F1 H1 fp1 A g o nd a b => ?_⟩
          simp only [OwnL] at o
          obtain ⟨v0, ws0, B00, C0, rfl, rfl, o0, v, ws, B0, C, rfl, rfl, o1, o2⟩ := o
          simp only [Own] at o0
          obtain ⟨rfl, r0⟩ := o0
          simp only [Own] at o1
          obtain ⟨rfl, w, hw, hv, _⟩ := o1
          have hv : v = w := hv
          subst hv
          rw [List.nil_append, List.nil_append] at nd a b
          obtain ⟨u, k1, k2⟩ := g.ok.slot i n hn
          rw [hw] at k1
          cases k1
          have hlt := En.get_lt hn
          obtain ⟨C', c1, c2⟩ := shutZ_ok o2 nd hc
          obtain ⟨f1, f2, f3⟩ := fr_frz2 (A := C) g.ok.sub fun x hx => (o2.at _ _ _ x (c1.subset hx)).1
          have kk : ∀ {j x}, (∃ y, e1.get j = some y) → x ∈ fp1 j → x ∉ C := fun {j x} ⟨y, hy⟩ hx z => b x z ⟨j, y, hy, hx⟩
          have k2' : Own K noBr (frz2 F1 H1 C C') H1 n v (fp1 i) := k2.mono f1.1 (fun _ _ _ z => z) _ _ _ fun x hx => ⟨by
            unfold frz2
            rw [if_neg fun z => kk ⟨n, hn⟩ hx z.1]
            exact (k2.at _ _ _ x hx).1, fun _ z => z⟩
          have oc : OwnL K noBr (frz2 F1 H1 C C') H1 (.fz d :: n :: cs) (v0 :: v :: ws) ([] ++ (fp1 i ++ C')) := by
            simp only [OwnL]
            exact ⟨v0, _, [], _, rfl, rfl, own_fz (Rep.mono f1.1 _ _ r0), v, ws, fp1 i, C', rfl, rfl, k2', c2 _ f1⟩
          have ndc : ([] ++ (fp1 i ++ C')).Nodup := by
            rw [List.nil_append]
            exact List.nodup_append.mpr ⟨g.ok.nd i n hn, nd.sublist c1, fun x hx y hy e => kk ⟨n, hn⟩ hx (c1.subset (e ▸ hy))⟩
          obtain ⟨fpc, okc, on⟩ := envOf f2 oc ndc
          refine ⟨.fz d :: n :: cs, m, d' :: n' :: tl, _, fpc, hf, okc, fun v' F' H' fp' B g' o' n'' a' b' => ?_⟩
          have onc : ∀ x, Ond ((M.fz d :: n :: cs).map some) fpc x → x ∈ fp1 i ∨ x ∈ C := fun x z => (List.mem_append.mp (by have := on x z; rwa [List.nil_append] at this)).imp id fun z => c1.subset z
          have h0 : En.get ((d' :: n' :: tl).map some) 1 = some n' := rfl
          have c0 : ∀ x, x ∈ fp' 1 → H1 x = none ∨ x ∈ fp1 i ∨ x ∈ C := fun x hx => (g'.ond ⟨1, n', h0, hx⟩).imp id (onc x)
          have go2 : Go K C σ e1 fp1 F1 H1 σ (e1.put i n') (fun k => if k = i then fp' 1 else fp1 k) F' H' := by
            refine ⟨f1.1.trans g'.fr, fun x u e no nC => g'.keep x u e (fun z => ?_) (by simp), g'.stay, fun x z => ?_, fun x ⟨j, y, hj, hx⟩ => ?_, ?_, g'.lok⟩
            · rcases onc x z with z | z
              · exact no ⟨i, n, hn, z⟩
              · exact nC z
            · rcases g'.nw x z with z | z | z | z
              · rcases f3 x z with z | z
                · exact .inl z
                · exact .inr (.inr (.inr z.1))
              · exact .inr (.inl z)
              · rcases onc x z with z | z
                · exact .inr (.inr (.inl ⟨i, n, hn, z⟩))
                · exact .inr (.inr (.inr z))
              · cases z
            · by_cases hj' : j = i
              · simp only [if_pos hj'] at hx
                rcases c0 x hx with z | z | z
                · exact .inl z
                · exact .inr (.inl ⟨i, n, hn, z⟩)
                · exact .inr (.inr z)
              · simp only [if_neg hj'] at hx
                rw [En.get_put hlt, if_neg hj'] at hj
                exact .inr (.inl ⟨j, y, hj, hx⟩)
            · -- other slots' nodes
              have other : ∀ j y, j ≠ i → e1.get j = some y → ∀ x ∈ fp1 j, (∃ o, H1 x = some o) ∧ F1 x = none ∧ x ∉ fp1 i ∧ x ∉ C := fun j y hj hy x hx => by
                obtain ⟨w', _, q'⟩ := g.ok.slot j y hy
                obtain ⟨z1, z2⟩ := q'.at _ _ _ x hx
                exact ⟨z2, z1, fun z => hj (g.ok.dj j i y n x hy hn hx z), kk ⟨y, hy⟩ hx⟩
              refine ⟨by unfold En.put; rw [List.length_set]; exact g.ok.len, g'.ok.sub, fun j y hj => ?_, fun j y hj => ?_, fun j k y y' x hj hk hx hx' => ?_⟩
              · rw [En.get_put hlt] at hj
                by_cases hj' : j = i
                · subst hj'
                  rw [if_pos rfl] at hj
                  cases hj
                  obtain ⟨w', z1, z2⟩ := g'.ok.slot 1 n' h0
                  simp only [List.map_cons, List.getElem?_cons_succ, List.getElem?_cons_zero, Option.some.injEq] at z1
                  subst z1
                  refine ⟨v, hw, ?_⟩
                  simp only [if_pos]
                  exact z2
                · rw [if_neg hj'] at hj
                  obtain ⟨w', z1, z2⟩ := g.ok.slot j y hj
                  refine ⟨w', z1, ?_⟩
                  simp only [if_neg hj']
                  refine z2.mono (f1.1.trans g'.fr) (fun _ _ _ z => z) _ _ _ fun x hx => ?_
                  obtain ⟨⟨o, y1⟩, y2, y3, y4⟩ := other j y hj' hj x hx
                  have nO : ¬ Ond ((M.fz d :: n :: cs).map some) fpc x := fun z => (onc x z).elim y3 y4
                  refine ⟨?_, fun u e => g'.keep x u e nO (by simp)⟩
                  cases z : F' x with
                  | none => rfl
                  | some u =>
                    rcases g'.nw x (by rw [z]; simp) with z | z | z | z
                    · rcases f3 x z with z | z
                      · exact absurd y2 z
                      · exact absurd z.1 y4
                    · rw [y1] at z
                      cases z
                    · exact absurd z nO
                    · cases z
              · rw [En.get_put hlt] at hj
                by_cases hj' : j = i
                · simp only [if_pos hj']
                  exact g'.ok.nd 1 n' h0
                · rw [if_neg hj'] at hj
                  simp only [if_neg hj']
                  exact g.ok.nd j y hj
              · have cross : ∀ k y, k ≠ i → e1.get k = some y → ∀ x, x ∈ fp' 1 → x ∈ fp1 k → False := fun k y hk hy x h1 h2 => by
                  obtain ⟨⟨o, y1⟩, y2, y3, y4⟩ := other k y hk hy x h2
                  rcases c0 x h1 with z | z | z
                  · rw [y1] at z
                    cases z
                  · exact y3 z
                  · exact y4 z
                rw [En.get_put hlt] at hj hk
                by_cases hj' : j = i
                · simp only [if_pos hj'] at hx
                  by_cases hk' : k = i
                  · rw [hj', hk']
                  · rw [if_neg hk'] at hk
                    simp only [if_neg hk'] at hx'
                    exact (cross k y' hk' hk x hx hx').elim
                · rw [if_neg hj'] at hj
                  simp only [if_neg hj'] at hx
                  by_cases hk' : k = i
                  · simp only [if_pos hk'] at hx'
                    exact (cross j y hj' hj x hx' hx).elim
                  · rw [if_neg hk'] at hk
                    simp only [if_neg hk'] at hx'
                    exact g.ok.dj j k y y' x hj hk hx hx'
          refine q v' F' H' _ B (g.trans go2 a) (o'.mono (.refl _) (fun _ _ _ z => z.elim) _ _ _ fun c hc => ⟨(o'.at _ _ _ c hc).1, fun _ z => z⟩) n'' (fun c hc => ?_) fun c hc ⟨j, y, hj, hx⟩ => ?_
          · rcases a' c hc with z | z
            · exact .inl (g.stay c z)
            · rcases onc c z with z | z
              · exact g.ond ⟨i, n, hn, z⟩
              · exact a c z
          · rw [En.get_put hlt] at hj
            by_cases hj' : j = i
            · simp only [if_pos hj'] at hx
              exact b' c hc ⟨1, n', h0, hx⟩
            · rw [if_neg hj'] at hj
              simp only [if_neg hj'] at hx
              obtain ⟨w', _, q'⟩ := g.ok.slot j y hj
              obtain ⟨_, o, z2⟩ := q'.at _ _ _ c hx
              rcases a' c hc with z | z
              · rw [z2] at z
                cases z
              · rcases onc c z with z | z
                · exact hj' (g.ok.dj j i y n c hj hn hx z)
                · exact kk ⟨y, hj⟩ hx z
        · cases e
      · cases e
    · cases e
  · cases e
end
theorem px_callJ {X : Cx} {k : Nat} {fa : Addr} {fd : FuncData} {ps : List Str} {fn : Fn} {x : Str} {p pos : Pos} {e : Expr} {es : List Expr} {gs : En → Option (List M × En)} (io : List Bool) (F : FnG X.prog X.w X.K X.mg X.base CX0 k fa fd ps (SpI X.K fn)) (hr : RoomG k X.A) (hg : Gl X x) (hm : X.mg x = some (.ref fa)) (hk : PySem.W.keepIn X.K (.ref fa) = true) (hb : Binds X.K fd ps [])
    (ha : PXA X (e :: es) gs) (hdb : (x == ("__debug__" : Str)) = false := by decide) (he : starEach (e :: es) X.env = (false, eval e X.env) :: starEach es X.env := by rfl) (hpl : (backTo pos (starEach es X.env)).any (·.1) = false := by rfl) :
    PX X (.Call (.Name x p) (e :: es) [] pos) (callJ io fn gs) :=
  PE.imp (pe_callG (dvs := []) (E := E0) F hr hg hm hk hb .nil pass0 ha hdb he hpl) fun σ H Q q => (tXA.mutj (E := E0) q).mono fun vs H1 h => sp_nil h
theorem x_callJ {io : List Bool} {F : Fn} {gs : En → Option (List M × En)} {env e1 e2 : En} {i : Nat} {d : D} {rest tl cs : List M} {n n' r m0 : M} (h1 : gs env = some (.fz d :: .bp i [] :: rest, e1)) (h2 : slotsL rest = []) (h3 : e1.get i = some n) (h4 : shutZ io.tail.tail rest = some cs) (h5 : F (.fz d :: n :: cs) = some (r, m0 :: n' :: tl)) (h6 : e1.put i n' = e2) : callJ io F gs env = some (r, e2) := by
  subst h6
  unfold callJ
  rw [h1]
  simp only [h2, h3, h4, h5]
section
variable {X : Cx} {lk : Nat → Bool} {es : List Expr} {is : List Nat}
theorem Go.and {K : PySem.W.Frag} {σ σ1 σ2 : L2.St} {env e1 e2 : En} {fp fp1 fp2 : Nat → List Addr} {F H : Hp} {B C : List Addr} (g : Go K B σ env fp F H σ1 e1 fp1 F H) (h : Go K C σ1 e1 fp1 F H σ2 e2 fp2 F H) : Go K (B ++ C) σ env fp F H σ2 e2 fp2 F H :=
  ⟨.refl _, fun _ _ e _ _ => e, fun _ e => e, fun _ e => .inl e, fun a z => by
    rcases h.nf a z with u | u | u
    · exact .inl u
    · rcases g.nf a u with w | w | w
      · exact .inl w
      · exact .inr (.inl w)
      · exact .inr (.inr (List.mem_append_left _ w))
    · exact .inr (.inr (List.mem_append_right _ u)), h.ok, fun _ _ _ e => e⟩
end
end T2
end
section
set_option Elab.async false
set_option linter.all false
set_option maxRecDepth 100000
namespace T2
open PySem PySem.Spec PyProof.Rows L2
end T2
end
section
set_option Elab.async false
set_option linter.all false
set_option maxRecDepth 100000
namespace T2
open PySem PySem.Spec PyProof.Rows L2
section
variable {X : Cx} {tg e a b : Expr} {f g : En → Option M} {p pos rp rpos apos : Pos}
def encD (d : D) : PyData := (pyD d).getD .none
def tupC : PyData → Bool
  | .tuple (_ :: _) => true
  | _ => false
def othC : PyData → Bool
  | .none => false
  | .tuple _ => false
  | _ => true
def okS (ds : List D) : Bool := (ds.all fun d => (pyD d).isSome && decide ((encD d).depth ≤ 60)) && (ds.all fun d => ds.all fun e => PySem.W.alike (encD d) (encD e)) && (ds.all (fun d => tupC (encD d)) || ds.all fun d => othC (encD d)) && decide (ds.length ≤ sizeLine)
end
end T2
end
section
set_option Elab.async false
set_option linter.all false
set_option maxRecDepth 100000
namespace T2
open PySem PySem.Spec PyProof.Rows L2
end T2
end
section
set_option Elab.async false
set_option linter.all false
set_option maxRecDepth 100000
namespace T2
open PySem PySem.Spec PyProof.Rows L2
end T2
end
section
set_option Elab.async false
set_option linter.all false
set_option maxRecDepth 100000
namespace T2
open PySem PySem.Spec PyProof.Rows L2
end T2
end
section
set_option Elab.async false
set_option linter.all false
set_option maxRecDepth 100000
namespace T2
open PySem PySem.Spec PyProof.Rows L2
end T2
end
section
set_option Elab.async false
set_option linter.all false
set_option maxRecDepth 100000
namespace T2
open PySem PySem.Spec PyProof.Rows L2 PySem.W PySem.Calls
end T2
end
section
set_option Elab.async false
set_option linter.all false
set_option maxRecDepth 100000
namespace T2
open PySem PySem.Spec PyProof.Rows L2
/-- the done part of the list, with the rest of the tree -/
def PR (K : PySem.W.Frag) (AR : List Addr) (H1 : Hp) (F' H' : Hp) (ms : List M) (vs : List V) (A1 : List Addr) : Prop :=
  ∃ A0, A1 = AR ++ A0 ∧ OwnL K noBr F' H' ms vs A0 ∧ ∀ x ∈ AR, F' x = none ∧ (∃ o, H1 x = some o) ∧ ∀ o, H1 x = some o → H' x = some o
section
variable {K : PySem.W.Frag} {AR : List Addr} {H1 F H F' H' : Hp} {ms ms' : List M} {vs vs' : List V} {A B : List Addr}
theorem PR.at (h : PR K AR H1 F H ms vs A) : ∀ a ∈ A, F a = none ∧ ∃ o, H a = some o := by
  obtain ⟨A0, rfl, h1, h2⟩ := h
  intro a ha
  rcases List.mem_append.mp ha with ha | ha
  · obtain ⟨z1, ⟨o, z2⟩, z3⟩ := h2 a ha
    exact ⟨z1, o, z3 o z2⟩
  · exact h1.at _ _ _ a ha
theorem PR.mono (h : PR K AR H1 F H ms vs A) (s : Same F F') (k : ∀ a ∈ A, F' a = none ∧ ∀ o, H a = some o → H' a = some o) : PR K AR H1 F' H' ms vs A := by
  obtain ⟨A0, rfl, h1, h2⟩ := h
  exact ⟨A0, rfl, h1.mono s (fun _ _ _ z => z) _ _ _ fun a ha => k a (by simp [ha]), fun x hx => ⟨(k x (by simp [hx])).1, (h2 x hx).2.1, fun o e => (k x (by simp [hx])).2 o ((h2 x hx).2.2 o e)⟩⟩
end
end T2
end
section
set_option Elab.async false
set_option linter.all false
set_option maxRecDepth 100000
namespace T2
open PySem PySem.Spec PyProof.Rows L2
end T2
end
section
set_option Elab.async false
set_option linter.all false
set_option maxRecDepth 100000
namespace T2
open PySem PySem.Spec PyProof.Rows L2
end T2
end
section
set_option Elab.async false
set_option linter.all false
set_option maxRecDepth 100000
namespace T2
open PySem PySem.Spec PyProof.Rows L2
end T2
end
section
set_option Elab.async false
set_option linter.all false
set_option maxRecDepth 100000
namespace T2
open PySem PySem.Spec PyProof.Rows L2
end T2
end
section
set_option Elab.async false
set_option linter.all false
set_option maxRecDepth 100000
namespace T2
open PySem PySem.Spec PyProof.Rows L2
end T2
end
section
set_option Elab.async false
set_option linter.all false
set_option maxRecDepth 100000
namespace T2
open PySem PySem.Spec PyProof.Rows L2
end T2
end
section
set_option Elab.async false
set_option linter.all false
set_option maxRecDepth 100000
namespace T2
open PySem PySem.Spec PyProof.Rows L2
end T2
end
section
set_option Elab.async false
set_option linter.all false
set_option maxRecDepth 100000
namespace T2
open PySem PySem.Spec PyProof.Rows L2
end T2
end
section
set_option Elab.async false
set_option linter.all false
set_option maxRecDepth 100000
namespace T2
open PySem PySem.Spec PyProof.Rows L2
theorem roomG_of {k : Nat} (r : Room k callerA) : RoomG k callerA := ⟨r, rfl⟩
/-- the law's def is called on the script -/
theorem call_g {P : Program} {w : World} {K : PySem.W.Frag} {mg mb : Str → Option Value} {k : Nat} {fa a : Addr} {d : FuncData} {x : Str} {sp : Sp} {s : Shared} {us : List Value} {ns : List Int}
    (KX : K.In s.heap) (nm : s.heap.Ns mainGlobals mg) (nb : s.heap.Ns builtinsNs mb) (ob : ∀ x : Str, x ≠ "__name__" → mb x = bootBuiltins x) (lim : s.heap.NoLimit) (hg : s.gens = #[])
    (ha : s.heap.get? a = some { cls := .type "list", data := .seq us.toArray }) (hi : IntsAre us ns) (hl : ns.length ≤ sizeLine) (hr : Room k callerA)
    (F : ∀ base : Heap, K.In base → base.Ns mainGlobals mg → FnG P w K mg base CX0 k fa d [x] sp) (bd : ∀ (s : Shared) (u : Value), BindsTo s d ⟨[u], []⟩ [(x, u)])
    (hsp : ∀ H : Hp, SqL K H a (ns.map V.int) → sp [.ref a] H (fun v _ => v = .bl true) fun _ _ _ => False) :
    codeAny (model P w) callerA (.call (.ref fa) ⟨[.ref a], []⟩) (fun r t => r = .ok (.ret (.bool true)) ∧ OldK s.heap t.heap ∧ t.os = s.os ∧ AllBare t.gens) s := by
  have rv := vals_ints hi
  have go : ∀ H : Hp, Only H → SqL K H a (ns.map V.int) → HOk P w H s.heap → (∀ b, H b ≠ none → b = a ∧ K.lookup a = none) →
      codeAny (model P w) callerA (.call (.ref fa) ⟨[.ref a], []⟩) (fun r t => r = .ok (.ret (.bool true)) ∧ OldK s.heap t.heap ∧ t.os = s.os ∧ AllBare t.gens) s := by
    intro H hO hS hok hA
    have plain : ∀ {b : Addr} {o : Obj}, s.heap.get? b = some o → (∀ vs n, o.data ≠ .seq vs n) → H b = none := fun {b o} e h1 => by
      refine Classical.byContradiction fun h2 => ?_
      obtain ⟨rfl, _⟩ := hA b h2
      rw [ha] at e
      cases e
      exact h1 _ _ rfl
    have ns' : ∀ {b : Addr} {m : Str → Option Value}, s.heap.Ns b m → (hidT s.heap H).Ns b m := fun {b m} ⟨o, es, ep, e, dd, r⟩ => ⟨o, es, ep, hidT_get e (plain e fun vs n z => by rw [dd] at z; cases z), dd, r⟩
    have kin : K.In (hidT s.heap H) := fun b o e => hidT_get (KX b o e) (Classical.byContradiction fun h2 => by
      obtain ⟨rfl, h3⟩ := hA b h2
      rw [e] at h3
      cases h3)
    obtain ⟨mc, l1, l2⟩ := lim
    have e0 : Env0 P w K mg (hidT s.heap H) callerA [] s H :=
      ⟨rfl, ⟨kin, ns' nm, ⟨mb, ns' nb, ob⟩, mc, ns' l1, l2⟩, fun _ _ e => of_hidT e, Nat.le_of_eq (hidT_size _ _), trivial, (fun _ z => by cases z), hok, .of_eq hg⟩
    refine codeAny_mono ((F _ kin (ns' nm)).runs (us := [.ref a]) (zs := [.ref a]) (roomG_of hr) e0 (bd s (.ref a)) (.cons rfl .nil) (hsp H hS)) fun r t h => ?_
    rcases r with u | fl
    · exact (show False from h).elim
    · rcases fl with u | u | u | u
      all_goals first
      | exact (show False from h).elim
      | (obtain ⟨v, H', os, bare, un, hok', rr, q⟩ := h
         obtain rfl : v = .bl true := q
         obtain rfl : u = Value.bool true := rr
         refine ⟨rfl, OldK.of_keep fun b o e => ?_, os, bare⟩
         rcases hO b with z | ⟨o', xs, z⟩
         · exact un.keep b o e z (fun y => by cases y) (by simp)
         · obtain ⟨e1, _⟩ := hok b _ z
           obtain ⟨e2, _⟩ := hok' b _ (un.frzs b o' _ z)
           rw [e] at e1
           cases e1
           exact e2)
  by_cases hk : ∃ o, K.lookup a = some o
  · obtain ⟨o, hk⟩ := hk
    have e := KX a o hk
    rw [ha] at e
    cases e
    exact go (fun _ => none) (fun _ => .inl rfl) (.inr ⟨_, us.toArray, _, hk, rfl, rfl, rfl, by rw [List.size_toArray, hi.length]; exact hl, by simpa using rv⟩) (fun b u z => by cases z) fun b z => absurd rfl z
  · have hk' : K.lookup a = none := Option.eq_none_iff_forall_ne_some.mpr fun o z => hk ⟨o, z⟩
    obtain ⟨H, hH⟩ : ∃ H : Hp, H = fun b => if b = a then some (.frz { cls := .type "list", data := .seq us.toArray } (.lst (ns.map V.int))) else none := ⟨_, rfl⟩
    have at_a : H a = some (.frz { cls := .type "list", data := .seq us.toArray } (.lst (ns.map V.int))) := by rw [hH]; exact if_pos rfl
    have off : ∀ b, b ≠ a → H b = none := fun b hb => by rw [hH]; exact if_neg hb
    refine go H (fun b => ?_) (.inl (.inr ⟨_, at_a⟩)) (fun b u z => ?_) fun b z => ⟨Classical.byContradiction fun h => z (off b h), hk'⟩
    · by_cases h : b = a
      · exact .inr ⟨_, _, by rw [h]; exact at_a⟩
      · exact .inl (off b h)
    · by_cases h : b = a
      · subst h
        rw [at_a] at z
        cases z
        exact ⟨ha, by rw [List.length_map]; exact hl, us, _, rv, ha⟩
      · rw [off b h] at z
        cases z
theorem walk_g {l : PySem.W.OpenLaw} {n k : Nat} {q : Program} {loose : List Str} {XP : (Str → Option Value) → Heap → Prop} {YP : World → Heap → Prop} {r : DefRec} {K : Params → PySem.W.Frag} {sp : World → Sp} {x : Str}
    (hn : l.most = some n) (hz : n ≤ sizeLine) (hdf : r.params.defaults = []) (hr : Room k callerA) (hY : ∀ (w : World) (h : Heap), YP w h → (K w.params).In h)
    (F : ∀ (w : World) (mg : Str → Option Value) (fa : Addr) (h : Heap), (K w.params).In h → h.Ns mainGlobals mg → mg r.name = some (.ref fa) →
      ∃ d : FuncData, (∀ (s : Shared) (u : Value), BindsTo s d ⟨[u], []⟩ [(x, u)]) ∧ ∀ base : Heap, (K w.params).In base → base.Ns mainGlobals mg → FnG l.prog w (K w.params) mg base CX0 k fa d [x] (sp w))
    (hsp : ∀ (w : World) (H : Hp) (a : Addr) (ns : List Int), ns.length ≤ n → (∀ z ∈ ns, Builtin.Int.intBits z ≤ 1048576) → SqL (K w.params) H a (ns.map V.int) → sp w [.ref a] H (fun v _ => v = .bl true) fun _ _ _ => False) :
    PySem.W.WalkO q loose XP YP l.row.toRowW r [] (fun f vs => PySem.call f vs) :=
  Att.attach_callB hn hdf fun w _ s mg mb fa _ _ _ _ a us ns G Y _ _ _ hm ho hi hlen hbits hg => by
    obtain ⟨d, hb, hF⟩ := F w mg fa _ (hY w _ Y) G.T.g hm
    exact call_g (hY w _ Y) G.T.g G.T.b G.T.builtins G.T.nolimit hg ho hi (Nat.le_trans hlen hz) hr hF hb fun H hS => hsp w H a ns hlen hbits hS
/-- str of a datum -/
def textD : PyData → Str
  | .str x => x
  | d => d.shown
def canText : PyData → Bool
  | .int _ => true | .str _ => true | .list _ => true | .tuple _ => true | .none => true | _ => false
def rStrD (K : PySem.W.Frag) : List V → Hp → VK → Prop := fun vs H Q => ∃ v d, vs = [v] ∧ Dp K H v d ∧ canText d = true ∧ d.showable = true ∧ d.hasDict = false ∧ d.depth ≤ 40 ∧ d.shown.length ≤ sizeLine ∧ Q (.str (textD d)) H
section
variable {X : Cx} {k : Nat}
theorem call_strD (hr : RoomG k X.A) : CallR X (.type "str") (rStrD X.K) := by
  intro pins s σ H vs us Q I r h
  obtain ⟨v, d, rfl, hd, hc, h1, h2, h3, h4, q⟩ := h
  have ref : ∀ a, v = .ref a → textD d = d.shown → wpAny (model X.prog X.w) X.A (call (.type "str") us) (EP X pins σ Q) X.xe s := fun a ha ht => by
    obtain ⟨u, rfl, rv⟩ := vals1 r
    obtain ⟨as, hR⟩ := Dp.reads I d v u hd rv
    subst ha
    obtain rfl : u = Value.ref a := rv
    rw [ht] at q
    exact str_of_reads hR h1 (PyData.noDict_hsm h2) hr.gd (by have := hr.rm.un; omega) (fun _ _ e => e) (fun h' u tk kk => ⟨.str d.shown, H, I.kept kk, ⟨_, rfl⟩, q⟩) h4
  cases d with
  | int i =>
    cases hd
    exact call_str_int pins s σ H _ us Q I r ⟨i, rfl, of_decide_eq_true h1, q⟩
  | str x =>
    cases hd
    exact SkE.call_str_str pins s σ H _ us Q I r ⟨x, rfl, q⟩
  | list ds =>
    cases hd with
    | lst a b => exact ref _ rfl rfl
  | tuple ds =>
    cases hd with
    | tup a b => exact ref _ rfl rfl
  | none =>
    cases hd
    obtain ⟨u, rfl, rv⟩ := vals1 r
    obtain rfl : u = Value.none := rv
    exact PySem.P.str_of_none ⟨.str "None", H, I.tok _, ⟨_, rfl⟩, q⟩
  | bool b => cases hc
  | dict kv => cases hc
end
def gStrD : List D → Option D
  | [d] => match pyD d with
    | some x => if canText x && (x.showable && (!x.hasDict && (decide (x.depth ≤ 40) && decide (x.shown.length ≤ sizeLine)))) then some (.str (textD x)) else none
    | none => none
  | _ => none
theorem s_strD {K : PySem.W.Frag} : OpS K (sop gStrD) (rStrD K) := scalS fun H ds vs d Q h e hs q => by
  unfold gStrD at e
  split at e
  · rename_i a
    split at e
    · rename_i x ex
      split at e
      · rename_i hh
        cases e
        simp only [Bool.and_eq_true, Bool.not_eq_true', decide_eq_true_eq] at hh
        simp only [RepL] at h
        obtain ⟨v, r, rfl, hv, rfl⟩ := h
        exact ⟨v, x, rfl, pyD_ok a v x hv ex, hh.1, hh.2.1, hh.2.2.1, hh.2.2.2.1, hh.2.2.2.2, q⟩
      · cases e
    · cases e
  · cases e
/-- texts compared -/
def gEqS (neg : Bool) : List D → Option D
  | [.str a, .str b] => some (.bl (if neg then !decide (a = b) else decide (a = b)))
  | _ => none
theorem s_eqS {K : PySem.W.Frag} : OpS K (sop (gEqS false)) (r2L rEq) := scalS fun H ds vs d Q h e hs q => by
  unfold gEqS at e
  split at e
  · rename_i a b
    cases e
    simp only [RepL, Rep] at h
    obtain ⟨v, r, rfl, rfl, w, t, rfl, rfl, rfl⟩ := h
    have e2 : decide (V.str a = V.str b) = decide (a = b) := by simp
    exact ⟨_, _, rfl, rfl, by rw [e2]; exact q⟩
  · cases e
theorem s_neS {K : PySem.W.Frag} : OpS K (sop (gEqS true)) (r2L rNe) := scalS fun H ds vs d Q h e hs q => by
  unfold gEqS at e
  split at e
  · rename_i a b
    cases e
    simp only [RepL, Rep] at h
    obtain ⟨v, r, rfl, rfl, w, t, rfl, rfl, rfl⟩ := h
    have e2 : decide (V.str a = V.str b) = decide (a = b) := by simp
    exact ⟨_, _, rfl, rfl, by rw [e2]; exact q⟩
  · cases e
mutual
def gT : D → Bool
  | .non => true
  | .bl _ => true
  | .int i => decide (i.natAbs.log2 < 1920)
  | .str x => decide ((reprText x).length ≤ 1921)
  | .lst ds => gTL ds
  | .tup ds => gTL ds
  | _ => false
def gTL : List D → Bool
  | [] => true
  | d :: ds => gT d && gTL ds
end
mutual
/-- how many leaves and brackets -/
def nT : D → Nat
  | .lst ds => 1 + nTL ds
  | .tup ds => 1 + nTL ds
  | _ => 1
def nTL : List D → Nat
  | [] => 0
  | d :: ds => nT d + nTL ds
end
mutual
def dT : D → Nat
  | .lst ds => dTL ds + 1
  | .tup ds => dTL ds + 1
  | _ => 0
def dTL : List D → Nat
  | [] => 0
  | d :: ds => max (dT d) (dTL ds)
end
mutual
theorem gT_ok : ∀ d : D, gT d = true → ∃ x, pyD d = some x ∧ x.showable = true ∧ x.hasDict = false ∧ x.depth = dT d ∧ x.shown.length + 2 ≤ 1930 * nT d
  | .non, _ => ⟨.none, rfl, rfl, rfl, rfl, by decide⟩
  | .bl true, _ => ⟨.bool true, rfl, rfl, rfl, rfl, by decide⟩
  | .bl false, _ => ⟨.bool false, rfl, rfl, rfl, rfl, by decide⟩
  | .int i, h => by
    have h0 : i.natAbs.log2 < 1920 := of_decide_eq_true h
    refine ⟨.int i, rfl, h, rfl, rfl, ?_⟩
    have := PyProof.Rows.int_text_len_1921 h0
    show (Str.ofString (toString i)).length + 2 ≤ 1930 * 1
    omega
  | .str x, h => by
    have h0 : (reprText x).length ≤ 1921 := of_decide_eq_true h
    refine ⟨.str x, rfl, rfl, rfl, rfl, ?_⟩
    show (reprText x).length + 2 ≤ 1930 * 1
    omega
  | .lst ds, h => by
    obtain ⟨xs, e, h1, h2, h3, h4, h5⟩ := gTL_ok ds h
    refine ⟨.list xs, by simp only [pyD, e, Option.map_some], h1, h2, by rw [show PyData.depth (.list xs) = PyData.depthAll xs + 1 from rfl, h3]; rfl, ?_⟩
    have := listText_len_le (PyData.shownAll xs)
    show (listText (PyData.shownAll xs)).length + 2 ≤ 1930 * (1 + nTL ds)
    rw [h5] at this
    omega
  | .tup ds, h => by
    obtain ⟨xs, e, h1, h2, h3, h4, h5⟩ := gTL_ok ds h
    refine ⟨.tuple xs, by simp only [pyD, e, Option.map_some], h1, h2, by rw [show PyData.depth (.tuple xs) = PyData.depthAll xs + 1 from rfl, h3]; rfl, ?_⟩
    have := tupleText_len_le (PyData.shownAll xs)
    show (tupleText (PyData.shownAll xs)).length + 2 ≤ 1930 * (1 + nTL ds)
    rw [h5] at this
    omega
  | .ins _ _, h => by cases h
  | .scr _, h => by cases h
  | .dic _ _, h => by cases h
  | .any, h => by cases h
  | .exc _ _ _, h => by cases h
theorem gTL_ok : ∀ ds : List D, gTL ds = true → ∃ xs, pyDL ds = some xs ∧ PyData.showableAll xs = true ∧ PyData.hasDictAll xs = false ∧ PyData.depthAll xs = dTL ds ∧ ((PyData.shownAll xs).map (·.length)).sum + 2 * xs.length ≤ 1930 * nTL ds ∧ (PyData.shownAll xs).length = xs.length
  | [], _ => ⟨[], rfl, rfl, rfl, rfl, by decide, rfl⟩
  | d :: ds, h => by
    have h' := Bool.and_eq_true_iff.mp h
    obtain ⟨x, e, a1, a2, a3, a4⟩ := gT_ok d h'.1
    obtain ⟨xs, e2, b1, b2, b3, b4, b5⟩ := gTL_ok ds h'.2
    refine ⟨x :: xs, by simp only [pyDL, e, e2], ?_, ?_, ?_, ?_, ?_⟩
    · show (PyData.showable x && PyData.showableAll xs) = true
      rw [a1, b1]; rfl
    · show (PyData.hasDict x || PyData.hasDictAll xs) = false
      rw [a2, b2]; rfl
    · show max (PyData.depth x) (PyData.depthAll xs) = max (dT d) (dTL ds)
      rw [a3, b3]
    · show ((x.shown :: PyData.shownAll xs).map (·.length)).sum + 2 * (xs.length + 1) ≤ 1930 * (nT d + nTL ds)
      rw [List.map_cons, List.sum_cons]
      omega
    · show (x.shown :: PyData.shownAll xs).length = xs.length + 1
      rw [List.length_cons, b5]
end
/-- the text of a datum that can be shown -/
def txD (d : D) : Str := match pyD d with
  | some x => textD x
  | none => ""
theorem k_strD {env : En} {m : M} {d : D} (h : dats env [m] = some [d]) (hg : gT d = true) (hd : dT d ≤ 40) (hn : nT d ≤ 8000) (hc : (match d with | .bl _ => false | _ => true) = true) : sop gStrD env [m] = some (.fz (.str (txD d))) := by
  obtain ⟨x, e, h1, h2, h3, h4⟩ := gT_ok d hg
  refine sop_of h (d := .str (txD d)) ?_ rfl
  have hct : canText x = true := by
    cases d with
    | non => cases e; rfl
    | bl b => cases hc
    | int i => cases e; rfl
    | str y => cases e; rfl
    | lst ds =>
      simp only [pyD, Option.map_eq_some_iff] at e
      obtain ⟨xs, _, rfl⟩ := e
      rfl
    | tup ds =>
      simp only [pyD, Option.map_eq_some_iff] at e
      obtain ⟨xs, _, rfl⟩ := e
      rfl
    | ins C fs => cases hg
    | scr ns => cases hg
    | dic a b => cases hg
    | any => cases hg
    | exc _ _ _ => cases hg
  unfold gStrD txD
  simp only [e]
  rw [if_pos]
  simp only [hct, h1, h2, Bool.not_false, Bool.true_and, Bool.and_eq_true, decide_eq_true_eq]
  exact ⟨by omega, by simp only [sizeLine]; omega⟩
end T2
end
section
namespace T2
open PySem PySem.Spec PyProof.Rows L2
set_option linter.all false
set_option maxHeartbeats 1000000
end T2
end
section
namespace T2
open PySem PySem.Spec PyProof.Rows L2
set_option linter.all false
set_option maxHeartbeats 1000000
section
variable {K : PySem.W.Frag} {F H F' H' : Hp} {σ σ' : L2.St} {env env' : En} {fp fp' : Nat → List Addr} {p : Addr} {o : HO}
theorem go_off (g : Go K [] σ env fp F H σ' env' fp' F' H') (h1 : H p = some o) (h2 : F p = none) (h3 : ¬ Ond env fp p) : H' p = some o ∧ F' p = none ∧ ¬ Ond env' fp' p := by
  refine ⟨g.keep p o h1 h3 (by simp), ?_, fun w => ?_⟩
  · cases z : F' p with
    | none => rfl
    | some w =>
      rcases g.nw p (by rw [z]; simp) with w | w | w | w
      · exact absurd h2 w
      · rw [h1] at w
        cases w
      · exact absurd w h3
      · cases w
  · rcases g.nf p w with z | z | z
    · rw [h1] at z
      cases z
    · exact h3 z
    · cases z
end
end T2
end
section
set_option Elab.async false
set_option linter.all false
set_option maxRecDepth 100000
namespace T2
open PySem PySem.Spec PyProof.Rows L2
set_option maxHeartbeats 1000000
def itS (f : En → Option M) : En → Option (List D) := fun env => match f env with
  | some (.fz (.str x)) => some (x.cps.toList.map fun c => D.str ⟨#[c]⟩)
  | _ => none
theorem it_str {K : PySem.W.Frag} {F G : Hp} {x : Str} : ItOk K (Its x) F G (x.cps.toList.map fun c => D.str ⟨#[c]⟩) := by
  refine ⟨fun i F1 H1 d s1 sg s2 hd => ?_, fun i F1 H1 s1 sg s2 hl => ?_⟩
  · rw [List.getElem?_map] at hd
    obtain ⟨c, hc, rfl⟩ := Option.map_eq_some_iff.mp hd
    rw [Array.getElem?_toList] at hc
    have hlt : i < x.cps.size := (Array.getElem?_eq_some_iff.mp hc).1
    refine ⟨hlt, fun v H2 ⟨e1, c', hc', e2⟩ => ?_⟩
    subst e1 e2
    rw [hc] at hc'
    cases hc'
    exact ⟨F1, .refl s2, by simp only [Rep]⟩
  · rw [List.length_map, Array.length_toList] at hl
    exact hl
section
variable {X : Cx} {e tg : Expr} {f : En → Option M}
theorem pdr_str (h : PD X e f) : PDR X tg e (itS f) := PI.imp (pi_str h) fun σ H R h => by
  obtain ⟨env, ds, F, fp, e, ok, q⟩ := h
  unfold itS at e
  split at e
  · rename_i x hx
    cases e
    refine ⟨env, _, F, fp, hx, ok, fun v F1 H1 A s1 o1 n1 a1 => ?_⟩
    simp only [Own, Rep] at o1
    obtain ⟨rfl, rfl⟩ := o1
    exact ⟨x, rfl, q (Its x) F1 H1 s1 fun G => it_str⟩
  · cases e
end
end T2
end
section
set_option Elab.async false
set_option linter.all false
set_option maxRecDepth 100000
namespace T2
open PySem PySem.Spec PyProof.Rows L2
set_option maxHeartbeats 1000000
/-- a method of a text with one argument -/
def opM (g : Str → En → M → Option M) : En → List M → Option M := fun env ms => match ms with
  | [.fz (.str a), m] => g a env m
  | _ => none
section
variable {X : Cx} {o e : Expr} {fo fe : En → Option M}
theorem pd_m1 {id : String} {name : Str} {apos pos : Pos} {r : V → List V → Hp → VK → Prop} {g : Str → En → M → Option M} (slot : Slot "str" name id) (ty : typeOf (.builtin id) = pure (.type "method_descriptor")) (rule : MtR X id r)
    (ho : OpS X.K (opM g) (r2L fun x y H Q => r x [y] H Q)) (ha : PD X o fo) (hb : PD X e fe)
    (hs : starEach [e] X.env = [(false, eval e X.env)] := by rfl) (hbase : attributeBase o name X.env (eval o X.env) = eval o X.env := by rfl) (hline : (apos.endLine == pos.line) = true := by rfl) :
    PD X (.Call (.Attribute o name apos) [e] [] pos) (bin (opM g) fo fe) :=
  PE.imp (pe_m1 slot ty rule ha hb hs hbase hline) fun σ H Q q => by
    obtain ⟨env, m, F, fp, er, ok, q⟩ := q
    have er : (match (aCons fo (aCons fe aNil)) env with | some ms => opM g env ms | none => none) = some m := er
    split at er
    · rename_i ms hms
      unfold aCons at hms
      split at hms
      · rename_i m1 ms' e1 e2
        cases hms
        split at e2
        · rename_i m2 ms2 e3 e4
          cases e4
          cases e2
          unfold opM at er
          split at er
          · rename_i x a m' hm
            cases hm
            refine ⟨env, .fz (.str a), F, fp, e1, ok, fun v F1 H1 A s1 o1 n1 a1 => ?_⟩
            simp only [Own, Rep] at o1
            obtain ⟨rfl, rfl⟩ := o1
            have ok1 := ok.step s1 fun a z => by cases z
            refine ⟨⟨a, rfl⟩, env, m2, F1, fp, e3, ok1, fun w F2 H2 B s2 o2 n2 a2 => ?_⟩
            have ok2 := ok1.step s2 fun a z => by cases z
            have s12 := s1.trans s2 fun a z => by cases z
            have hO : OwnL X.K (plc H2 σ env) F2 H2 [.fz (.str a), m2] [.str a, w] ([] ++ (B ++ [])) := by
              simp only [OwnL, Own, Rep]
              exact ⟨_, _, _, _, rfl, rfl, ⟨rfl, rfl⟩, _, _, _, _, rfl, rfl, o2, rfl, rfl⟩
            have hB : ([] ++ (B ++ [])) = B := by simp
            rw [hB] at hO
            have dj : ∀ a ∈ B, ∀ i n, env.get i = some n → a ∉ fp i := fun c hc i n hi hin => by
              obtain ⟨_, o', z'⟩ := ok1.at ⟨i, n, hi, hin⟩
              rw [a2 c hc] at z'
              cases z'
            obtain ⟨x', y', ev, hr⟩ := ho σ env F2 H2 fp _ _ B m Q ok2 hO n2 dj (by unfold opM; exact er) fun v F' H' C s o nd ab => by
              refine q v F' H' C (s12.trans s fun c hc => ?_) o nd fun c hc => ?_
              · exact s1.stay c (a2 c hc)
              · rcases ab c hc with z | z
                · exact s12.stay c z
                · exact s1.stay c (a2 c z)
            cases ev
            exact hr
          · cases er
        · cases e2
      · cases hms
    · cases er
end
section
variable {K : PySem.W.Frag}
def strM (ys : List Str) : List M := ys.map fun y => .fz (.str y)
theorem strM_own {br : Nat → List Pa → V → Prop} {F H : Hp} : ∀ ys : List Str, OwnL K br F H (strM ys) (ys.map V.str) []
  | [] => ownL_nil
  | y :: ys => by
    show OwnL K br F H (.fz (.str y) :: strM ys) (.str y :: ys.map V.str) []
    simp only [OwnL, Own, Rep]
    exact ⟨_, _, [], [], rfl, rfl, ⟨rfl, rfl⟩, strM_own ys⟩
def gSplit : Str → En → M → Option M := fun a _ m => match m with
  | .fz (.str b) => if (b.length == 0) = false ∧ a.length + 2 ≤ sizeLine then some (.ol (strM (Txt.split a b))) else none
  | _ => none
abbrev rSplit : V → List V → Hp → VK → Prop := fun x xs H Q => ∃ a b, x = .str a ∧ xs = [.str b] ∧ (b.length == 0) = false ∧ a.length + 2 ≤ sizeLine ∧ rNewStrs (Txt.split a b) H Q
theorem s_split : OpS K (opM gSplit) (r2L fun x y H Q => rSplit x [y] H Q) := by
  intro σ env F H fp ms vs A m Q ok hO hn dj e q
  unfold opM at e
  split at e
  · rename_i a m2
    unfold gSplit at e
    split at e
    · rename_i b
      split at e
      · rename_i hh
        cases e
        obtain ⟨v, w, B, C, rfl, rfl, h1, h2⟩ := ownL2 hO
        simp only [Own, Rep] at h1 h2
        obtain ⟨rfl, rfl⟩ := h1
        obtain ⟨rfl, rfl⟩ := h2
        exact ⟨_, _, rfl, a, b, rfl, rfl, hh.1, hh.2, fun p hp => newL ok (strM_own _) (List.nil_sublist _) hn hp q⟩
      · cases e
    · cases e
  · cases e
def gPart : Str → En → M → Option M := fun a _ m => match m with
  | .fz (.str b) => if (b.length == 0) = false ∧ a.length ≤ sizeLine then some (mkT (strM [(Txt.partition a b).1, (Txt.partition a b).2.1, (Txt.partition a b).2.2])) else none
  | _ => none
abbrev rPart : V → List V → Hp → VK → Prop := fun x xs H Q => ∃ a b, x = .str a ∧ xs = [.str b] ∧ (b.length == 0) = false ∧ a.length ≤ sizeLine ∧ ∀ p, H p = none → Q (.ref p) (upd H p (.tup [.str (Txt.partition a b).1, .str (Txt.partition a b).2.1, .str (Txt.partition a b).2.2]))
theorem s_part : OpS K (opM gPart) (r2L fun x y H Q => rPart x [y] H Q) := by
  intro σ env F H fp ms vs A m Q ok hO hn dj e q
  unfold opM at e
  split at e
  · rename_i a m2
    unfold gPart at e
    split at e
    · rename_i b
      split at e
      · rename_i hh
        cases e
        obtain ⟨v, w, B, C, rfl, rfl, h1, h2⟩ := ownL2 hO
        simp only [Own, Rep] at h1 h2
        obtain ⟨rfl, rfl⟩ := h1
        obtain ⟨rfl, rfl⟩ := h2
        exact ⟨_, _, rfl, a, b, rfl, rfl, hh.1, hh.2, fun p hp => newT ok (strM_own [(Txt.partition a b).1, (Txt.partition a b).2.1, (Txt.partition a b).2.2]) (List.nil_sublist _) hn hp q⟩
      · cases e
    · cases e
  · cases e
def strsD : List D → Option (List Str)
  | [] => some []
  | .str x :: ds => match strsD ds with
    | some xs => some (x :: xs)
    | none => none
  | _ => none
theorem strsD_ok {F : Hp} : ∀ {ds : List D} {ys : List Str} {vs : List V}, RepL K F ds vs → strsD ds = some ys → vs = ys.map V.str
  | [], ys, vs, h, e => by
    cases e
    simp only [RepL] at h
    exact h
  | .str x :: ds, ys, vs, h, e => by
    simp only [strsD] at e
    split at e
    · rename_i xs hx
      cases e
      simp only [RepL, Rep] at h
      obtain ⟨v, r, rfl, rfl, h2⟩ := h
      rw [strsD_ok h2 hx]
      rfl
    · cases e
  | .non :: _, _, _, _, e => by simp only [strsD] at e; cases e
  | .bl _ :: _, _, _, _, e => by simp only [strsD] at e; cases e
  | .int _ :: _, _, _, _, e => by simp only [strsD] at e; cases e
  | .lst _ :: _, _, _, _, e => by simp only [strsD] at e; cases e
  | .tup _ :: _, _, _, _, e => by simp only [strsD] at e; cases e
  | .ins _ _ :: _, _, _, _, e => by simp only [strsD] at e; cases e
  | .scr _ :: _, _, _, _, e => by simp only [strsD] at e; cases e
  | .dic _ _ :: _, _, _, _, e => by simp only [strsD] at e; cases e
  | .any :: _, _, _, _, e => by simp only [strsD] at e; cases e
  | .exc _ _ _ :: _, _, _, _, e => by simp only [strsD] at e; cases e
theorem strsD_map : ∀ ys : List Str, strsD (ys.map .str) = some ys
  | [] => rfl
  | y :: ys => by simp only [List.map_cons, strsD, strsD_map ys]
def gJoin : Str → En → M → Option M := fun a env m => match dat env m with
  | some (.lst ds) => match strsD ds with
    | some ys => if (ys.map (·.length)).sum + ys.length * a.length ≤ 16777216 then some (.fz (.str (Txt.join a ys))) else none
    | none => none
  | _ => none
abbrev rJoin (K : PySem.W.Frag) : V → List V → Hp → VK → Prop := fun x xs H Q => ∃ a p, ∃ ys : List Str, x = .str a ∧ xs = [.ref p] ∧ (SqL K H p (ys.map V.str) ∨ SqT K H p (ys.map V.str)) ∧ (ys.map (·.length)).sum + ys.length * a.length ≤ 16777216 ∧ Q (.str (Txt.join a ys)) H
theorem s_join : OpS K (opM gJoin) (r2L fun x y H Q => rJoin K x [y] H Q) := by
  intro σ env F H fp ms vs A m Q ok hO hn dj e q
  unfold opM at e
  split at e
  · rename_i a m2
    unfold gJoin at e
    split at e
    · rename_i ds hd
      split at e
      · rename_i ys hy
        split at e
        · rename_i hh
          cases e
          obtain ⟨v, w, B, C, rfl, rfl, h1, h2⟩ := ownL2 hO
          simp only [Own, Rep] at h1
          obtain ⟨rfl, rfl⟩ := h1
          have r := ok.data h2 hd
          simp only [Rep] at r
          obtain ⟨p, us, rfl, r1, r2⟩ := r
          rw [strsD_ok r2 hy] at r1
          exact ⟨_, _, rfl, a, p, ys, rfl, rfl, .inl (SqL.of r1), hh, q _ F H [] (.mk' (.refl _) (.refl _) ok.sub fun a h => .inl h) (own_fz (by simp only [Rep])) .nil (fun c hc => by cases hc)⟩
        · cases e
      · cases e
    · cases e
  · cases e
def gSItem : List D → Option D
  | [.str z, .int i] => if 0 ≤ i ∧ i < 2 ^ 63 ∧ i < z.length then (match z.cps[i.toNat]? with
    | some c => some (.str ⟨#[c]⟩)
    | none => none) else none
  | _ => none
abbrev rSItem : R2 := fun x y H Q => ∃ z i c, x = .str z ∧ y = .int i ∧ 0 ≤ i ∧ i < 2 ^ 63 ∧ i < z.length ∧ z.cps[i.toNat]? = some c ∧ Q (.str ⟨#[c]⟩) H
theorem s_sitem : OpS K (sop gSItem) (r2L rSItem) := scalS fun H ds vs d Q h e hs q => by
  unfold gSItem at e
  split at e
  · rename_i z i
    split at e
    · rename_i hh
      split at e
      · rename_i c hc
        cases e
        obtain ⟨v, w, rfl, q1, q2⟩ := repL2 h
        simp only [Rep] at q1 q2
        exact ⟨v, w, rfl, z, i, c, q1, q2, hh.1, hh.2.1, hh.2.2, hc, q⟩
      · cases e
    · cases e
  · cases e
def gIntS : List D → Option D
  | [.str a] => match PySem.intText? a with
    | some n => if a.length ≤ 640 then some (.int n) else none
    | none => none
  | _ => none
theorem s_intS : OpS K (sop gIntS) (fun xs H Q => ∃ a n, xs = [.str a] ∧ PySem.intText? a = some n ∧ a.length ≤ 640 ∧ Q (.int n) H) := scalS fun H ds vs d Q h e hs q => by
  unfold gIntS at e
  split at e
  · rename_i a
    split at e
    · rename_i n hn
      split at e
      · rename_i hl
        cases e
        simp only [RepL, Rep] at h
        obtain ⟨v, r, rfl, rfl, rfl⟩ := h
        exact ⟨a, n, rfl, hn, hl, q⟩
      · cases e
    · cases e
  · cases e
def gInC (neg : Bool) : List D → Option D
  | [.str x, .str z] => match x.cps.toList with
    | [c] => some (.bl (if neg then !decide (c ∈ z.cps.toList) else decide (c ∈ z.cps.toList)))
    | _ => none
  | _ => none
theorem one_sign {x : Str} {c : Nat} (h : x.cps.toList = [c]) : x = ⟨#[c]⟩ := Str.ext' (Array.toList_inj.mp h)
theorem s_inC : OpS K (sop (gInC false)) (r2L fun x y H Q => ∃ (c : Nat) (z : Str), x = .str ⟨#[c]⟩ ∧ y = .str z ∧ Q (.bl (decide (c ∈ z.cps.toList))) H) := scalS fun H ds vs d Q h e hs q => by
  unfold gInC at e
  split at e
  · rename_i x z
    split at e
    · rename_i c hc
      cases e
      obtain ⟨v, w, rfl, q1, q2⟩ := repL2 h
      simp only [Rep] at q1 q2
      exact ⟨v, w, rfl, c, z, by rw [q1, one_sign hc], q2, q⟩
    · cases e
  · cases e
theorem s_ninC : OpS K (sop (gInC true)) (r2L fun x y H Q => ∃ (c : Nat) (z : Str), x = .str ⟨#[c]⟩ ∧ y = .str z ∧ Q (.bl (!decide (c ∈ z.cps.toList))) H) := scalS fun H ds vs d Q h e hs q => by
  unfold gInC at e
  split at e
  · rename_i x z
    split at e
    · rename_i c hc
      cases e
      obtain ⟨v, w, rfl, q1, q2⟩ := repL2 h
      simp only [Rep] at q1 q2
      exact ⟨v, w, rfl, c, z, by rw [q1, one_sign hc], q2, q⟩
    · cases e
  · cases e
end
section
variable {X : Cx} {a b : Expr} {fa fb : En → Option M} {pos : Pos}
theorem pd_sitem (ha : PD X a fa) (hb : PD X b fb) (hs : PlainIxT b) : PD X (.Subscript a b pos) (bin (sop gSItem) fa fb) := pd_op2 (pe_item_str ha hb hs) s_sitem
end
end T2
end
section
set_option Elab.async false
set_option linter.all false
set_option maxRecDepth 100000
namespace T2
open PySem PySem.Spec PyProof.Rows L2
set_option maxHeartbeats 1000000
end T2
end
section
set_option Elab.async false
set_option linter.all false
set_option maxRecDepth 100000
namespace T2
open PySem PySem.Spec PyProof.Rows L2
set_option maxHeartbeats 1000000
end T2
end
section
set_option Elab.async false
set_option linter.all false
set_option maxRecDepth 100000
namespace T2
open PySem PySem.Spec PyProof.Rows L2
end T2
end
section
namespace T2
open PySem PySem.Spec PyProof.Rows L2
set_option linter.all false
set_option maxHeartbeats 1000000
/-- the list as it stands: what is done, what is still to come -/
structure EF (K : PySem.W.Frag) (AR : List Addr) (Hs : Hp) (p : Addr) (vs : List V) (k j : Nat) (ms1 ms2 : List M) (A1 A2 : List Addr) (env : En) (fp : Nat → List Addr) (F H : Hp) : Prop where
  hp : H p = some (.lst vs)
  hf : F p = none
  o1 : PR K AR Hs F H ms1 (vs.take k) A1
  o2 : OwnL K noBr F H ms2 (vs.drop j) A2
  nd : (p :: (A1 ++ A2)).Nodup
  no : ∀ a ∈ p :: (A1 ++ A2), ¬ Ond env fp a
section
variable {K : PySem.W.Frag} {AR A1 A2 : List Addr} {Hs F H F' H' : Hp} {p : Addr} {vs : List V} {k j : Nat} {ms1 ms2 : List M} {env env' : En} {fp fp' : Nat → List Addr} {σ σ' : L2.St}
theorem EF.at (e : EF K AR Hs p vs k j ms1 ms2 A1 A2 env fp F H) : ∀ a ∈ p :: (A1 ++ A2), F a = none ∧ ∃ o, H a = some o := fun a ha => by
  rcases List.mem_cons.mp ha with h | h
  · subst h
    exact ⟨e.hf, _, e.hp⟩
  · rcases List.mem_append.mp h with h | h
    · exact e.o1.at a h
    · exact e.o2.at _ _ _ a h
theorem EF.go (e : EF K AR Hs p vs k j ms1 ms2 A1 A2 env fp F H) (g : Go K [] σ env fp F H σ' env' fp' F' H') : EF K AR Hs p vs k j ms1 ms2 A1 A2 env' fp' F' H' := by
  have off : ∀ a ∈ p :: (A1 ++ A2), F' a = none ∧ (∀ o, H a = some o → H' a = some o) ∧ ¬ Ond env' fp' a := fun a ha => by
    obtain ⟨h1, o, h2⟩ := e.at a ha
    obtain ⟨z1, z2, z3⟩ := go_off g h2 h1 (e.no a ha)
    refine ⟨z2, fun o' h => ?_, z3⟩
    rw [h2] at h
    cases h
    exact z1
  exact ⟨(off p (by simp)).2.1 _ e.hp, (off p (by simp)).1, e.o1.mono g.fr fun a ha => ⟨(off a (by simp [ha])).1, (off a (by simp [ha])).2.1⟩,
    e.o2.mono g.fr (fun _ _ _ z => z) _ _ _ fun a ha => ⟨(off a (by simp [ha])).1, (off a (by simp [ha])).2.1⟩, e.nd, fun a ha => (off a ha).2.2⟩
end
end T2
end
section
namespace T2
open PySem PySem.Spec PyProof.Rows L2
set_option linter.all false
set_option maxHeartbeats 1000000
def rMulSI : R2 := fun x y H Q => ∃ a i, x = .str a ∧ y = .int i ∧ a.length ≤ 16 ∧ -(2 ^ 63 : Int) ≤ i ∧ i ≤ 1048576 ∧ Q (.str (Txt.mul a i)) H
theorem op_mulSI {X : Cx} : OpR X (binaryOp .Mult) rMulSI := by
  intro pins s σ H x y v u Q I rx ry h
  obtain ⟨a, i, rfl, rfl, hl, h1, h2, q⟩ := h
  obtain ⟨t, rfl⟩ := (show ∃ t, v = Value.str a t from rx)
  obtain ⟨t', rfl⟩ := (show ∃ t, u = Value.int i t from ry)
  refine PySem.W.KXi.mul rfl hl h1 h2 fun t2 k _ _ => ?_
  exact ⟨.str (Txt.mul a i), H, I.tok _, ⟨t2, rfl⟩, q⟩
def gMulSI : List D → Option D
  | [.str a, .int i] => if a.length ≤ 16 ∧ 0 ≤ i ∧ i ≤ 1 then some (.str (Txt.mul a i)) else none
  | _ => none
theorem s_mulSI {K : PySem.W.Frag} : OpS K (sop gMulSI) (r2L rMulSI) := scalS fun H ds vs d Q h e hs q => by
  unfold gMulSI at e
  split at e
  · rename_i a i
    split at e
    · rename_i c
      cases e
      simp only [RepL, Rep] at h
      obtain ⟨v, r, rfl, rfl, w, t, rfl, rfl, rfl⟩ := h
      exact ⟨_, _, rfl, a, i, rfl, rfl, c.1, by omega, by omega, q⟩
    · cases e
  · cases e
end T2
end
section
namespace T2
open PySem PySem.Spec PyProof.Rows L2
set_option linter.all false
set_option maxHeartbeats 1000000
end T2
end
section
namespace T2
open PySem PySem.Spec PyProof.Rows L2
set_option linter.all false
set_option maxHeartbeats 2000000
section
variable {X : Cx} {pins : List (Addr × Obj)} {σ : L2.St} {H : Hp} {s : Shared}
/-- an object that is there and is not tracked: it is, from now on -/
theorem Inv.note {a C : Addr} {d : Option Addr} {oe : Obj} {vs : Array Value} (I : Inv X pins σ H s) (na : H a = none) (ha : s.heap.get? a = some oe) (hz : Zc (.ref C) d oe) (hd : oe.data = .fields vs) (n0 : X.s_0.heap.get? a = none) (nL : a ≠ X.env.locals) (nP : ∀ p ∈ X.pn ++ pins, p.1 ≠ a) :
    Inv X pins σ (upd H a (excV a C d)) s where
  ok := I.ok
  os := I.os
  bare := I.bare
  base := ⟨I.base.keep, I.base.slot, fun b o e n hx => by
      rw [upd_ne (fun z => by rw [z, n0] at e; cases e)]
      exact I.base.free b o e n hx, I.base.there, fun b xs e => by
      have h1 := I.base.tups b xs e
      rw [upd_ne (fun z => by rw [z, na] at h1; cases h1)]
      exact h1, fun b o xs e => by
      have h1 := I.base.frzs b o xs e
      rw [upd_ne (fun z => by rw [z, na] at h1; cases h1)]
      exact h1, fun b ps e => by
      obtain ⟨more, h1⟩ := I.base.tbls b ps e
      refine ⟨more, ?_⟩
      rw [upd_ne (fun z => by rw [z, na] at h1; cases h1)]
      exact h1⟩
  loc := I.loc
  cell := I.cell
  free := by rw [upd_ne (Ne.symm nL)]; exact I.free
  freeC := fun y c e => by
    obtain ⟨v, hv⟩ := I.cell y c e
    rw [upd_ne (fun z => ?_)]
    · exact I.freeC y c e
    · subst z
      unfold Heap.IsCell at hv
      first
      | (rw [ha] at hv; cases hv; cases hd; done)
      | (obtain ⟨o, h1, h2⟩ := hv; rw [ha] at h1; cases h1; rw [hd] at h2; cases h2; done)
  pin := fun p hp => by
    obtain ⟨h1, h2, h3⟩ := I.pin p hp
    refine ⟨h1, ?_, h3⟩
    rw [upd_ne (nP p hp)]
    exact h2
  hok := fun b o e => by
    by_cases hb : b = a
    · subst hb
      rw [upd_same] at e
      cases e
      refine ⟨⟨oe, vs, ha, hz.1, hz.2, hd⟩, ⟨oe, ha⟩, fun h1 h2 q k => ?_⟩
      obtain ⟨o1, v1, q1, q2⟩ := q
      exact ⟨o1, v1, k _ q1, q2⟩
    · rw [upd_ne hb] at e
      exact (I.hok b o e).stay (fun _ _ _ z => z) (fun c hc => by rw [upd_ne (ne_of_none hc na)]; exact hc) (fun c xs hc => by rw [upd_ne (ne_of_none hc na)]; exact hc)
  len := I.len
end
/-- what the clause asks: the exception is one of c's, and is in slot j from then on -/
def wKeep (K : PySem.W.Frag) (c : Value) (i j : Nat) (D : Ends) : WX := fun cls d σ H =>
  PySem.W.exmOne K cls c = some true ∧ ∃ C, cls = .ref C ∧ i < σ.length ∧ ∀ a, H a = none → D.nx (((σ.set i (some (.ref a))).set j (some (.ref a))).set i none) (upd H a (excV a C d))
section
variable {X : Cx} {x n y : Str} {c : Value} {i j : Nat} {body : List Stmt} {np pos pos' p2 p3 ap : Pos} {tb : WX → TS}
theorem ps_tryKeep (hstk : X.stack = X.env :: X.outer) (hfrm : X.env.frame = some X.env.locals) (hN : X.N.Nodup) (hi : X.N[i]? = some n) (hln : X.env.kindOf n = some .local) (hj : X.N[j]? = some y) (hy : Loc X.env.scope y) (hyf : X.fn y = true ∨ X.env.scope.names.lookup y = some .local)
    (hv : Vis X.env.scope n) (hdb : (n == ("__debug__" : Str)) = false) (hcd : (n == ("__classdict__" : Str)) = false) (hc : Names X x c) (hex : X.ex = [])
    (hb : ∀ (W : WX) (pn : List (Addr × Obj)) (xe : Value → Shared → Prop), Takes (X.tr pn xe) W → PassesOwn (model X.prog X.w) X.A X.env xe → PSs (X.tr pn xe) body (tb W))
    (hsw : swapsWith (.Name n p3) (some (.Name y p2)) ap.line X.env = pure false := by rfl) :
    PS X (.Try body [.ExceptHandler (some (.Name x np)) (some n) [.Assign [.Name y p2] (.Name n p3) ap] pos'] [] [] pos) (fun D σ H => tb (wKeep X.K c i j D) D σ H) := by
  refine ⟨fun pins s σ H D I h => ?_⟩
  have hOk := I.ok
  have hFr : X.A.frames = some (X.env :: X.outer) := by
    rw [hOk.frames, hstk]
  refine wpAny_Try_except ?_
  have body_run := (hb (wKeep X.K c i j D) (X.pn ++ pins)
    (fun ev s₁ => wpAny (model X.prog X.w) X.A (noteFrame ev X.env)
      (fun _ s₂ => wpAny (model X.prog X.w) X.A (setFlight ev none)
        (fun _ s₃ => wpAny (model X.prog X.w) X.A (handleBy ev X.env [.ExceptHandler (some (.Name x np)) (some n) [.Assign [.Name y p2] (.Name n p3) ap] pos']) (SP X pins D) X.xe s₃) X.xe s₂) X.xe s₁)
    (fun u s' caught => ?_) PassesOwn.looking).run [] s σ H D (I.toTry _) h
  · refine wpAny_mono body_run (fun f s1 hsp => ?_) (fun _ _ z => z)
    cases f with
    | next =>
      obtain ⟨σ', H', J', q⟩ := hsp
      exact wpAny_execs_nil ⟨σ', H', J'.ofTry hOk, q⟩
    | brk => exact Exists.elim hsp fun σ' ⟨H', J', q⟩ => ⟨σ', H', J'.ofTry hOk, q⟩
    | cont => exact Exists.elim hsp fun σ' ⟨H', J', q⟩ => ⟨σ', H', J'.ofTry hOk, q⟩
    | ret u => exact Exists.elim hsp fun v ⟨σ', H', J', r, q⟩ => ⟨v, σ', H', J'.ofTry hOk, r, q⟩
  · obtain ⟨a, B, sI, pins', σ', H', cls, d, rfl, J', nb, up, sky, na, os, ag, hmatch, C, rfl, hil, hD⟩ := caught
    have J : Inv X pins σ' H' sI := J'.ofTry hOk
    rw [show (X.tr (X.pn ++ pins) _).stack = X.env :: X.outer from hstk] at sky
    refine Sky.land Zc.steady hFr hfrm sky fun h3 fl3 up3 => ?_
    have J3 : Inv X pins σ' H' { s' with heap := h3 } := J.landed nb fl3.1 (up.trans up3) os ag
    obtain ⟨o3, v3, g3, z3, d3⟩ := fl3.there
    have offFr : a ∉ frs (X.env :: X.outer) := fun hm => by
      obtain ⟨_, o', e', hnf⟩ := fl3.2.2.1.mem hm
      rw [g3] at e'
      cases e'
      exact hnf _ d3
    have nL : a ≠ X.env.locals := fun z => offFr (List.mem_filterMap.mpr ⟨X.env, List.mem_cons_self, by rw [hfrm, z]⟩)
    have nF : a ∉ X.fs := fun hm => by
      obtain ⟨ev, hev, hq⟩ := List.mem_filterMap.mp hm
      exact offFr (List.mem_filterMap.mpr ⟨ev, List.mem_cons_of_mem _ hev, hq⟩)
    have gI : sI.heap.get? a = none := by
      cases z : sI.heap.get? a with
      | none => rfl
      | some o =>
        have hB := nb a o z (by rw [show (X.tr (X.pn ++ pins) _).stack = X.env :: X.outer from hstk]; exact offFr)
        rw [fl3.2.1] at hB
        cases hB
    have g0 : X.s_0.heap.get? a = none := by
      cases z : X.s_0.heap.get? a with
      | none => rfl
      | some o =>
        obtain ⟨o', h'⟩ := J.base.there a o z (by rw [hex]; simp)
        rw [gI] at h'
        cases h'
    have nPin : ∀ p ∈ X.pn ++ pins, p.1 ≠ a := fun p hp z => by
      have := (J.pin p hp).1
      rw [z, gI] at this
      cases this
    have S3 := J3.suite g3 d3 na nL nF
    refine wpAny_handleBy_cons (codeAny_handlers_test ?_) (by intro q; cases q)
    have LT : PySem.W.Looks (model X.prog X.w) h3 (typeOf (.ref a)) (.ref C) := fun A Q E s k q => wpAny_typeOf_ref (k _ _ g3) (by rw [z3.1]; exact q)
    have LM := PySem.W.exm_one (M := model X.prog X.w) (J3.kIn) LT hmatch
    have test : ∀ {Q E : Value → Shared → Prop}, Q c { s' with heap := h3 } → wpAny (model X.prog X.w) (X.A.mark (some (.ref a))) (eval (.Name x np) X.env) Q E { s' with heap := h3 } := fun {Q E} q => by
      obtain ⟨hg, hdbg, hm | ⟨hm, hbt, hnn⟩⟩ := hc
      · exact ld_glob (X := X.suite a ((a, o3) :: (X.pn ++ pins))) S3 hg hm q hdbg
      · exact ld_blt (X := X.suite a ((a, o3) :: (X.pn ++ pins))) S3 hg hm hbt q hnn hdbg
    refine test (LM.here ?_)
    refine codeAny_handlers_suite_as ?_
    refine HandSPX.lands_againZ fl3 fun h4 fl4 up4 => ?_
    have J4 : Inv X pins σ' H' { s' with heap := h4 } := J.landed nb fl4.1 ((up.trans up3).trans up4) os ag
    obtain ⟨o4, v4, g4, z4, d4⟩ := fl4.there
    have S4 := J4.suite g4 d4 na nL nF
    refine store_ok (X := X.suite a ((a, o4) :: (X.pn ++ pins))) (v := .ref a) S4 hN hi (.inl hln) rfl (fun s5 S5 => ?_) (.inr hln)
    have asg : PSs (X.suite a ((a, o4) :: (X.pn ++ pins))) [.Assign [.Name y p2] (.Name n p3) ap] _ := pss_one (ps_set hN hj hy (pe_var hi hv hdb hcd) hsw hyf)
    refine wpAny_mono (asg.run [] s5 _ H' { nx := fun σ6 H6 => σ6 = (σ'.set i (some (.ref a))).set j (some (.ref a)) ∧ H6 = H', rt := fun _ _ => False, bk := fun _ _ => False, ct := fun _ _ => False } S5 ?_) (fun f s6 hsp => ?_) (fun _ _ z => False.elim z)
    · exact ⟨.ref a, List.getElem?_set_self hil, rfl, rfl⟩
    · cases f with
      | next =>
        obtain ⟨σ6, H6, S6, rfl, rfl⟩ := hsp
        refine gone_ok (X := X.suite a ((a, o4) :: (X.pn ++ pins))) S6 hN hi hln fun s7 S7 => ?_
        have pin := S7.pin (a, o4) (List.mem_append_left _ List.mem_cons_self)
        have J7 : Inv X pins _ H6 s7 := S7.unsuite hOk
        exact ⟨_, _, Inv.note J7 na pin.1 z4 d4 g0 nL nPin, hD a na⟩
      | brk => exact Exists.elim hsp fun _ ⟨_, _, q⟩ => q.elim
      | cont => exact Exists.elim hsp fun _ ⟨_, _, q⟩ => q.elim
      | ret u => exact Exists.elim hsp fun _ ⟨_, _, _, _, q⟩ => q.elim
end
end T2
end
section
namespace T2
open PySem PySem.Spec PyProof.Rows L2
set_option linter.all false
set_option maxHeartbeats 2000000
/-- an exception: its number, its class, its fields -/
structure Exn where
  n : Nat
  C : Addr
  fs : List (Str × D)
def Exn.d (x : Exn) : D := .exc x.n x.C x.fs
/-- class and own dict are those of x; its dict is new over H -/
def ExA (K : PySem.W.Frag) (H F : Hp) (x : Exn) (cls : Value) (d : Option Addr) : Prop :=
  cls = .ref x.C ∧ ∃ gs, (d = none ∨ ∃ dx, d = some dx ∧ H dx = none ∧ F dx = some (.xd gs)) ∧ (d = none → gs = []) ∧ RepF K F x.fs gs
section
variable {K : PySem.W.Frag} {H H' F F' : Hp} {x : Exn} {cls : Value} {d : Option Addr}
theorem ExA.back (h : ExA K H F x cls d) (s : ∀ a, H a = none → H' a = none) : ExA K H' F x cls d := by
  obtain ⟨h1, gs, h2, h3, h4⟩ := h
  exact ⟨h1, gs, h2.imp id (fun ⟨dx, z1, z2, z3⟩ => ⟨dx, z1, s _ z2, z3⟩), h3, h4⟩
end
/-- an expression that lets x out -/
def tRE (K : PySem.W.Frag) (W : WX) (g : En → Option Exn) : TE := fun σ H _ => ∃ env x F fp, g env = some x ∧ EnvOk K F H σ env fp ∧ ∀ cls d F' H', Step [] F H F' H' → ExA K H F' x cls d → W cls d σ H'
def PRE (X : Cx) (W : WX) (e : Expr) (g : En → Option Exn) : Prop := PE X e (tRE X.K W g)
/-- a statement, a block that lets x out, the slots being env' then -/
def tR (K : PySem.W.Frag) (lk : Nat → Bool) (W : WX) (g : En → Option (Exn × En)) : TS := fun _ σ H => ∃ env x env' F fp, g env = some (x, env') ∧ EnvOk K F H σ env fp ∧
  ∀ cls d σ' F' H' fp', Go K [] σ env fp F H σ' env' fp' F' H' → Lk lk σ σ' → ExA K H F' x cls d → W cls d σ' H'
def PRS (X : Cx) (lk : Nat → Bool) (W : WX) (st : Stmt) (g : En → Option (Exn × En)) : Prop := PS X st (tR X.K lk W g)
def PRSs (X : Cx) (lk : Nat → Bool) (W : WX) (sts : List Stmt) (g : En → Option (Exn × En)) : Prop := PSs X sts (tR X.K lk W g)
theorem PS.or {X : Cx} {e : Stmt} {t u : TS} (h : PS X e t) (h' : PS X e u) : PS X e (fun D σ H => t D σ H ∨ u D σ H) := ⟨fun pins s σ H D I q => q.elim (h.run pins s σ H D I) (h'.run pins s σ H D I)⟩
theorem PSs.or {X : Cx} {e : List Stmt} {t u : TS} (h : PSs X e t) (h' : PSs X e u) : PSs X e (fun D σ H => t D σ H ∨ u D σ H) := ⟨fun pins s σ H D I q => q.elim (h.run pins s σ H D I) (h'.run pins s σ H D I)⟩
theorem pss_no {X : Cx} {sts : List Stmt} : PSs X sts (fun _ _ _ => False) := ⟨fun _ _ _ _ _ _ q => q.elim⟩
def sRE (g : En → Option Exn) : En → Option (Exn × En) := fun env => match g env with
  | some x => some (x, env)
  | none => none
section
variable {K : PySem.W.Frag} {lk : Nat → Bool} {W : WX} {F H F' H' F1 H1 : Hp} {σ σ' σ1 : L2.St} {env env' env1 : En} {fp fp' fp1 : Nat → List Addr} {x : Exn}
/-- further on: the promise of the rest -/
theorem tR.after {g : En → Option (Exn × En)} {D : Ends} (e : g env1 = some (x, env')) (q : ∀ cls d σ' F' H' fp', Go K [] σ env fp F H σ' env' fp' F' H' → Lk lk σ σ' → ExA K H F' x cls d → W cls d σ' H') (g1 : Go K [] σ env fp F H σ1 env1 fp1 F1 H1) (l1 : Lk lk σ σ1) : tR K lk W g D σ1 H1 :=
  ⟨env1, x, env', F1, fp1, e, g1.ok, fun cls d σ' F' H' fp' g2 l2 a => q cls d σ' F' H' fp' (g1.trans g2 fun a z => by cases z) (l1.trans l2) (a.back g1.stay)⟩
end
section
variable {X : Cx} {lk : Nat → Bool} {W : WX} {st : Stmt} {sts : List Stmt} {f : En → Option Fl} {g : En → Option Exn} {gs g2 : En → Option (Exn × En)} {pos : Pos} {e : Expr}
theorem tRE.tR {D : Ends} {σ : L2.St} {H : Hp} (h : tR X.K lk W (sRE g) D σ H) : ∀ Q, tRE X.K W g σ H Q := fun Q => by
  obtain ⟨env, x, env', F, fp, e, ok, q⟩ := h
  unfold sRE at e
  split at e
  · rename_i x' hx
    cases e
    exact ⟨env, x, F, fp, hx, ok, fun cls d F' H' s a => q cls d σ F' H' fp (s.go ok fun a z => by cases z) (fun _ _ => rfl) a⟩
  · cases e
theorem prs_expr (he : PRE X W e g) (hs : swapsWith e none pos.line X.env = pure false := by rfl) : PRS X lk W (.Expr e pos) (sRE g) := PS.imp (ps_expr he hs) fun D σ H h => tRE.tR h _
theorem prs_ret (he : PRE X W e g) : PRS X lk W (.Return (some e) pos) (sRE g) := PS.imp (ps_ret he) fun D σ H h => tRE.tR h _
theorem prs_set {x : Str} {i : Nat} {pos' : Pos} (hN : X.N.Nodup) (he : PRE X W e g) (hi : X.N[i]? = some x := by rfl) (hx : Loc X.env.scope x := by first | exact .inl rfl | exact .inr rfl) (hs : swapsWith e (some (.Name x pos')) pos.line X.env = pure false := by rfl)
    (hf : X.fn x = true ∨ X.env.scope.names.lookup x = some .local := by first | exact .inl rfl | exact .inr rfl | assumption) : PRS X lk W (.Assign [.Name x pos'] e pos) (sRE g) := PS.imp (ps_set hN hi hx he hs hf) fun D σ H h => tRE.tR h _
/-- the first of a block lets out, or a later one -/
def rSeq (gs : En → Option (Exn × En)) (f : En → Option Fl) (g2 : En → Option (Exn × En)) : En → Option (Exn × En) := fun env => match gs env with
  | some r => some r
  | none => match f env with
    | some (.nx e) => g2 e
    | _ => none
theorem prs_seq (hr : PRS X lk W st gs) (h1 : PDS X lk st f) (h2 : PRSs X lk W sts g2) : PRSs X lk W (st :: sts) (rSeq gs f g2) := by
  refine PSs.imp (PSs.or (pss_cons hr pss_no) (pss_cons h1 h2)) fun D σ H h => ?_
  obtain ⟨env, x, env', F, fp, e, ok, q⟩ := h
  unfold rSeq at e
  split at e
  · rename_i r hg
    cases e
    exact .inl ⟨env, x, env', F, fp, hg, ok, q⟩
  · split at e
    · rename_i e1 h1
      exact .inr ⟨env, _, F, fp, h1, ok, fun σ1 F1 H1 fp1 g1 l1 => tR.after (D := D) e q g1 l1⟩
    · cases e
def rNx (f : En → Option Fl) (g2 : En → Option (Exn × En)) : En → Option (Exn × En) := fun env => match f env with
  | some (.nx e) => g2 e
  | _ => none
theorem prs_nx (h1 : PDS X lk st f) (h2 : PRSs X lk W sts g2) : PRSs X lk W (st :: sts) (rNx f g2) := by
  refine PSs.imp (pss_cons h1 h2) fun D σ H h => ?_
  obtain ⟨env, x, env', F, fp, e, ok, q⟩ := h
  unfold rNx at e
  split at e
  · rename_i e1 h1
    exact ⟨env, _, F, fp, h1, ok, fun σ1 F1 H1 fp1 g1 l1 => tR.after (D := D) e q g1 l1⟩
  · cases e
theorem prs_one (hr : PRS X lk W st gs) : PRSs X lk W (st :: sts) gs := pss_cons hr pss_no
theorem prs_no : PRSs X lk W sts (fun _ => none) := PSs.imp pss_no fun D σ H h => by
  obtain ⟨env, x, env', F, fp, e, ok, q⟩ := h
  cases e
def rIf (t : En → Option Bool) (ga gb : En → Option (Exn × En)) : En → Option (Exn × En) := fun env => match t env with
  | some true => ga env
  | some false => gb env
  | none => none
theorem prs_if {c : Expr} {a b : List Stmt} {t : En → Option Bool} {ga gb : En → Option (Exn × En)} (hc : PDT X c t) (ha : PRSs X lk W a ga) (hb : PRSs X lk W b gb) : PRS X lk W (.If c a b pos) (rIf t ga gb) := by
  refine PS.imp (ps_if hc ha hb) fun D σ H h => ?_
  obtain ⟨env, x, env', F, fp, e, ok, q⟩ := h
  unfold rIf at e
  split at e
  · rename_i h1
    exact ⟨env, true, F, fp, h1, ok, fun F1 H1 s => iteT (tR.after e q (s.go ok fun a z => by cases z) fun _ _ => rfl)⟩
  · rename_i h1
    exact ⟨env, false, F, fp, h1, ok, fun F1 H1 s => iteF (tR.after e q (s.go ok fun a z => by cases z) fun _ _ => rfl)⟩
  · cases e
/-- a loop whose turn lets out -/
def rLp (lk : Nat → Bool) (t : Tg) (f : En → Option Fl) (g : En → Option (Exn × En)) : List D → En → Option (Exn × En)
  | [], _ => none
  | d :: ds, env => match asT lk t d env with
    | some e1 => (match g e1 with
      | some r => some r
      | none => (match f e1 with
        | some (.nx e2) => rLp lk t f g ds e2
        | _ => none))
    | none => none
def rFor (lk : Nat → Bool) (t : Tg) (it : En → Option (List D × En)) (f : En → Option Fl) (g : En → Option (Exn × En)) : En → Option (Exn × En) := fun env => match it env with
  | some (ds, e1) => rLp lk t f g ds e1
  | none => none
theorem prs_for {iter tg : Expr} {body : List Stmt} {t : Tg} {it : En → Option (List D × En)} (hp : PassesOwn (model X.prog X.w) X.A X.env X.xe) (hc : X.calm = true) (hi : PDI X tg iter it) (hg : PT' X lk tg t) (hb : PDSs X lk body f) (hr : PRSs X lk W body gs)
    (hs : ∀ x, foldedSetIterable iter X.env x = pure x := by intro _; rfl) : PRS X lk W (.For tg iter body [] pos) (rFor lk t it f gs) := by
  refine PS.imp (ps_for hp hc hi hg (PSs.or hr hb) hs) fun D σ H h => ?_
  obtain ⟨env, x, env', F, fp, e, ok, q⟩ := h
  unfold rFor at e
  split at e
  case h_2 => cases e
  rename_i ds e1 h1
  refine ⟨env, ds, e1, F, fp, h1, ok, fun J F1 H1 fp1 g1 ji => ?_⟩
  refine ⟨fun i m σ' H' => m = ds.length - i ∧ i ≤ ds.length ∧ ∃ en F' fp', rLp lk t f gs (ds.drop i) en = some (x, env') ∧ Go X.K [] σ env fp F H σ' en fp' F' H' ∧ Lk lk σ σ' ∧ Same F1 F',
    ⟨_, rfl, Nat.zero_le _, e1, F1, fp1, by rw [List.drop_zero]; exact e, g1, fun _ _ => rfl, .refl _⟩, fun i m σ' H' hW => ?_⟩
  obtain ⟨rfl, hi, en, F', fp', hl, g, l, s⟩ := hW
  by_cases hlt : i < ds.length
  · right
    obtain ⟨d, hd⟩ : ∃ d, ds[i]? = some d := ⟨_, List.getElem?_eq_getElem hlt⟩
    have hdrop : ds.drop i = d :: ds.drop (i + 1) := by
      rw [List.drop_eq_getElem_cons hlt]
      rw [List.getElem?_eq_getElem hlt] at hd
      cases hd
      rfl
    rw [hdrop] at hl
    simp only [rLp] at hl
    obtain ⟨j1, j2⟩ := ji.go i F' H' d s (s.trans g.ok.sub) g.ok.sub hd
    refine ⟨j1, fun σ2 H2 => ∃ env2 F2 fp2, rLp lk t f gs (ds.drop (i + 1)) env2 = some (x, env') ∧ Go X.K [] σ env fp F H σ2 env2 fp2 F2 H2 ∧ Lk lk σ σ2 ∧ Same F1 F2,
      fun σ2 H2 ⟨env2, F2, fp2, a, b, c, d'⟩ => ⟨ds.length - (i + 1), by omega, rfl, hlt, env2, F2, fp2, a, b, c, d'⟩, fun y H2 hy => ?_⟩
    obtain ⟨F2, s2, rx⟩ := j2 y H2 hy
    split at hl
    case h_2 => cases hl
    rename_i e3 h3
    have g2 := g.trans (s2.go g.ok fun a z => by cases z) (fun a z => by cases z)
    refine ⟨d, en, e3, F2, fp', rx, h3, g2.ok, fun σ3 fp3 g3 l3 => ?_⟩
    have g4 := g2.trans g3 (fun a z => by cases z)
    split at hl
    · rename_i r hr'
      cases hl
      exact .inl (tR.after hr' q g4 (l.trans l3))
    · split at hl
      · rename_i e4 h4
        exact .inr ⟨e3, _, F2, fp3, h4, g4.ok, fun σ5 F5 H5 fp5 g5 l5 => ⟨e4, F5, fp5, hl, g4.trans g5 (fun a z => by cases z), (l.trans l3).trans l5, (s.trans s2.fr).trans g5.fr⟩⟩
      · cases hl
  · have hi' : i = ds.length := by omega
    subst hi'
    rw [List.drop_length] at hl
    cases hl
end
def tMR (K : PySem.W.Frag) (g : En → Option Exn) : L2.St → Hp → XK → Prop := fun σ H Q => ∃ env x F fp, g env = some x ∧ EnvOk K F H σ env fp ∧ ∀ cls d F' H', Step [] F H F' H' → ExA K H F' x cls d → Q cls d H'
def PMR (X : Cx) (e : Expr) (g : En → Option Exn) : Prop := PMk X e (tMR X.K g)
section
variable {X : Cx} {lk : Nat → Bool} {W : WX} {g : En → Option Exn} {pos : Pos} {e : Expr}
theorem prs_raise (hc : X.calm = true) (tk : Takes X W) (he : PMR X e g) : PRS X lk W (.Raise (some e) none pos) (sRE g) := PS.imp (ps_raise hc tk he) fun D σ H h => by
  obtain ⟨env, x, env', F, fp, e, ok, q⟩ := h
  unfold sRE at e
  split at e
  · rename_i x' hx
    cases e
    exact ⟨env, x, F, fp, hx, ok, fun cls d F' H' s a => q cls d σ F' H' fp (s.go ok fun a z => by cases z) (fun _ _ => rfl) a⟩
  · cases e
/-- a class without own __init__ -/
theorem pmr_own {C : Addr} {x m : Str} {j : Nat} {p p2 : Pos} {B newId initId : String} {bmB : List Value} (n : Nat) (F : ExcBaseFacts B newId initId bmB) (q : PySem.W.excIn X.K C bmB newId = true) (gC : X.mg x = some (.ref C)) (kC : PySem.W.keepIn X.K (.ref C) = true) (r : Raises X (.ref C)) (hg : Gl X x)
    (hdb : (x == ("__debug__" : Str)) = false := by decide) : PMR X (.Call (.Name x p) [.Constant (.str m) j p2] [] pos) (fun _ => some ⟨n, C, []⟩) := by
  intro pins s σ H Q I h
  obtain ⟨env, x', F', fp, e, ok, q'⟩ := h
  cases e
  exact pmk_own F q gC kC r hg hdb pins s σ H Q I (q' _ _ F' H (.refl ok.sub) ⟨rfl, [], .inl rfl, fun _ => rfl, by simp only [RepF]⟩)
end
/-- what a def promises that lets x out -/
def SpR (K : PySem.W.Frag) (g : List M → Option Exn) : Sp := fun vs H _ E => ∃ ms x F fp, g ms = some x ∧ EnvOk K F H (vs.map some) (ms.map some) fp ∧ ∀ cls d F' H', Step [] F H F' H' → ExA K H F' x cls d → E cls d H'
def runR (n p : Nat) (gS : En → Option (Exn × En)) : List M → Option Exn := fun ms => if ms.length = p ∧ okA (fun _ => false) 0 ms = true then (match gS (ms.map some ++ List.replicate (n - p) none) with
  | some (x, _) => some x
  | none => none) else none
theorem okA_ond {K : PySem.W.Frag} {F H : Hp} {σ : L2.St} {fp : Nat → List Addr} : ∀ {ms : List M} {i : Nat}, okA (fun _ => false) i ms = true → ∀ {k : Nat} {m : M}, ms[k]? = some m → ∃ d, m = M.fz d
  | [], i, h, k, m, e => by cases e
  | m' :: ms, i, h, k, m, e => by
    simp only [okA, Bool.false_or, Bool.and_eq_true] at h
    cases k with
    | zero =>
      cases e
      cases m' with
      | fz d => exact ⟨d, rfl⟩
      | _ => exact absurd h.1 (by simp [isFz])
    | succ k => exact okA_ond (K := K) (F := F) (H := H) (σ := σ) (fp := fp) h.2 e
theorem def_r {P : Program} {w : World} {K : PySem.W.Frag} {mg : Str → Option Value} {base : Heap} {x qual : Str} {st : Stmt} {f : Addr} {fd : FuncData} {N ps : List Str} {k : Nat} {lk : Nat → Bool} {gS : En → Option (Exn × En)} (F : Fun K x qual st f fd) (S : FnScope N ps (defScope st))
    (hb : ∀ (cdv : Value) (A : Around) (outer : List Env) (s : Shared) (H : Hp) (E : XK), RoomG k (A.deeper (envOfC qual (defScope st) s.heap.objs.size f cdv)) → PRSs (cxOf (L2.CX P w) P w K mg base N qual (defScope st) f cdv A outer s H E) lk (fun cls d _ H => E cls d H) (defBody st) gS) :
    FnG P w K mg base (L2.CX P w) (k + 1) f fd ps (SpR K (runR N.length ps.length gS)) := by
  have key : ∀ {ms : List M} {x : Exn}, runR N.length ps.length gS ms = some x → (ms.length = ps.length ∧ okA (fun _ => false) 0 ms = true) ∧ ∃ e, gS (ms.map some ++ List.replicate (N.length - ps.length) none) = some (x, e) := fun {ms x} e => by
    unfold runR at e
    split at e
    · rename_i h1
      split at e
      · rename_i x' e' h2
        cases e
        exact ⟨h1, _, h2⟩
      · cases e
    · cases e
  refine fun_g F S (fun vs H Q E h => ?_) (fun cdv A outer s H vs Q E hr h => ?_)
  · obtain ⟨ms, x, Fz, fp, e, ok, _⟩ := h
    rw [← (key e).1.1]
    have := ok.len
    simpa using this.symm
  · obtain ⟨ms, x, Fz, fp, e, ok, q⟩ := h
    obtain ⟨⟨hl, ha⟩, e', hg⟩ := key e
    have hv : ms.length = vs.length := by simpa using ok.len
    refine ⟨_, hb cdv A outer s H E hr, ?_⟩
    have hst : L2.start N vs = vs.map some ++ List.replicate (N.length - ps.length) none := by
      unfold L2.start
      rw [← hv, hl]
    rw [hst]
    refine ⟨_, x, e', Fz, fp, hg, ok.pad, fun cls d σ' F' H' fp' g l a => q cls d F' H' ?_ a⟩
    have noOnd : ∀ b, ¬ Ond (ms.map some ++ List.replicate (N.length - ps.length) none) fp b := fun b z => by
      obtain ⟨i, m, hm, hb⟩ := ond_pad.mp z
      obtain ⟨d', rfl⟩ := okA_ond (K := K) (F := Fz) (H := H) (σ := σ') (fp := fp) ha (by rw [get_map] at hm; exact hm)
      obtain ⟨v, _, h2⟩ := ok.slot i _ hm
      simp only [Own] at h2
      rw [h2.1] at hb
      cases hb
    refine ⟨g.fr, fun b o z _ => g.keep b o z (noOnd b) (by simp), g.stay, g.ok.sub, fun b z => ?_, g.lok⟩
    rcases g.nw b z with y | y | y | y
    · exact .inl y
    · exact .inr (.inl y)
    · exact absurd y (noOnd b)
    · cases y
/-- a call that lets out what the callee does -/
def rCall (io : List Bool) (g : List M → Option Exn) (fs : En → Option (List M)) : En → Option Exn := fun env => match fs env with
  | some ms => (match slotsL ms with
    | [] => (match shutZ io ms with
      | some cs => g cs
      | none => none)
    | _ => none)
  | none => none
section
variable {K : PySem.W.Frag}
theorem tDA.rc {io : List Bool} {g : List M → Option Exn} {fs : En → Option (List M)} {W : WX} {σ : L2.St} {H : Hp} {Q Q' : VK} (h : tRE K W (rCall io g fs) σ H Q) : tDA K fs σ H fun vs H1 => SpR K g vs H1 Q' (fun cls d H2 => W cls d σ H2) := by
  obtain ⟨env, x, F, fp, e, ok, q⟩ := h
  unfold rCall at e
  split at e
  case h_2 => cases e
  rename_i ms hms
  split at e
  case h_2 => cases e
  rename_i hsl
  split at e
  case h_2 => cases e
  rename_i cs hc
  refine ⟨env, ms, F, fp, hms, ok, fun vs F1 H1 A s hO hn hA => ?_⟩
  have ok1 := ok.step s fun a z => by cases z
  obtain ⟨A', h1, h2⟩ := shutZ_ok hO hn hc
  obtain ⟨f1, f2, f3⟩ := fr_frz2 (A := A) ok1.sub fun a ha => (hO.at _ _ _ a (h1.subset ha)).1
  obtain ⟨fpc, okc, on⟩ := envOf f2 (h2 _ f1) (hn.sublist h1)
  refine ⟨cs, x, _, fpc, e, okc, fun cls d F' H' s2 a => q cls d F' H' ?_ (a.back fun b z => s.stay b z)⟩
  refine s.trans (A := A) ⟨f1.1.trans s2.fr, fun b o z _ => s2.hp b o z, s2.stay, s2.sub, fun b z => ?_, s2.lok⟩ hA
  rcases s2.nw b z with y | y | y
  · rcases f3 b y with y | y
    · exact .inl y
    · exact .inr (.inr y.1)
  · exact .inr (.inl y)
  · cases y
end
section
variable {X : Cx} {k : Nat} {fa : Addr} {fd : FuncData} {ps : List Str} {gn : List M → Option Exn} {W : WX} {x : Str} {p pos : Pos} {e : Expr} {es : List Expr} {io : List Bool} {fs : En → Option (List M)}
theorem pre_call (io : List Bool) (F : FnG X.prog X.w X.K X.mg X.base (L2.CX X.prog X.w) k fa fd ps (SpR X.K gn)) (hr : RoomG k X.A) (tk : Takes X W) (hg : Gl X x) (hm : X.mg x = some (.ref fa)) (hk : PySem.W.keepIn X.K (.ref fa) = true) (hb : Binds X.K fd ps [])
    (ha : PDA X (e :: es) fs) (hdb : (x == ("__debug__" : Str)) = false := by decide) (he : starEach (e :: es) X.env = (false, eval e X.env) :: starEach es X.env := by rfl) (hpl : (backTo pos (starEach es X.env)).any (·.1) = false := by rfl) :
    PRE X W (.Call (.Name x p) (e :: es) [] pos) (rCall io gn fs) := by
  refine ⟨fun pins s σ H Q I h => ?_⟩
  refine wpAny_Call_Name_kw (ld_glob I hg hm ?_ hdb)
  refine PySem.W.callWith_K (h₀ := X.base) I.ok.mod.kin hk (thn (ha.run pos pins s σ H _ I (tDA.rc (Q' := fun _ _ => False) h)) fun us s1 ⟨zs, H1, I1, r, q⟩ => ⟨I1.kIn, ?_⟩) he hpl
  have hlen : us.length = ps.length := r.length.symm.trans (F.lens q)
  have hbind := hb s1 us I1.kIn (by rw [List.append_nil]; exact hlen)
  rw [List.append_nil] at hbind
  refine wpAny_call (codeAny_mono (F.runs hr I1.env0 hbind r q) fun res s' hq => ?_)
  rcases res with u | fl
  · exact passAt tk σ pins H1 s1 u s' I1 hq
  · rcases fl with _ | u | _ | _
    all_goals first
    | exact False.elim hq
    | (obtain ⟨v, H', _, _, _, _, _, z⟩ := hq; exact False.elim z)
end
/-- a def of the text that raises -/
structure Dr (P : Program) (w : World) (K : PySem.W.Frag) (mg : Str → Option Value) (base : Heap) (x : Str) (k : Nat) (ps : List Str) (gn : List M → Option Exn) : Prop where
  ex : ∃ (f : Addr) (fd : FuncData), mg x = some (.ref f) ∧ PySem.W.keepIn K (.ref f) = true ∧ Binds K fd ps [] ∧ FnG P w K mg base (L2.CX P w) k f fd ps (SpR K gn)
def sTry (okC : Exn → Bool) (lk : Nat → Bool) (i j : Nat) (gs : En → Option (Exn × En)) (f : En → Option Fl) : En → Option Fl := fun env => match gs env with
  | some (x, e) => if okC x = true ∧ lk i = false ∧ lk j = false ∧ i < e.length ∧ j < e.length ∧ i ≠ j then some (.nx ((e.kill i).put j (.fz x.d))) else none
  | none => (match f env with
    | some (.nx e) => some (.nx e)
    | _ => none)
theorem ExA.rep {K : PySem.W.Frag} {H F : Hp} {x : Exn} {C a : Addr} {d : Option Addr} (h : ExA K H F x (.ref C) d) (hn : F a = none) : Rep K (upd F a (excV a C d)) x.d (.ref a) := by
  obtain ⟨h1, gs, h2, h3, h4⟩ := h
  cases h1
  unfold Exn.d
  simp only [Rep]
  have sm : Same F (upd F a (excV a x.C d)) := fun b o e => by
    rw [upd_ne (ne_of_none e hn)]
    exact e
  exact ⟨a, d, gs, rfl, upd_same, h2.imp id (fun ⟨dx, z1, z2, z3⟩ => ⟨dx, z1, sm _ _ z3⟩), h3, h4.mono sm⟩
section
variable {X : Cx} {x n y : Str} {c : Value} {i j : Nat} {body : List Stmt} {np pos pos' p2 p3 ap : Pos} {lk : Nat → Bool} {okC : Exn → Bool} {gs : En → Option (Exn × En)} {f : En → Option Fl}
theorem pds_try (hstk : X.stack = X.env :: X.outer) (hfrm : X.env.frame = some X.env.locals) (hN : X.N.Nodup) (hi : X.N[i]? = some n) (hln : X.env.kindOf n = some .local) (hj : X.N[j]? = some y) (hy : Loc X.env.scope y) (hyf : X.fn y = true ∨ X.env.scope.names.lookup y = some .local)
    (hv : Vis X.env.scope n) (hdb : (n == ("__debug__" : Str)) = false) (hcd : (n == ("__classdict__" : Str)) = false) (hc : Names X x c) (hex : X.ex = []) (hok : ∀ z : Exn, okC z = true → PySem.W.exmOne X.K (.ref z.C) c = some true)
    (hr : ∀ (W : WX) (pn : List (Addr × Obj)) (xe : Value → Shared → Prop), Takes (X.tr pn xe) W → PassesOwn (model X.prog X.w) X.A X.env xe → PRSs (X.tr pn xe) lk W body gs)
    (hb : ∀ (pn : List (Addr × Obj)) (xe : Value → Shared → Prop), PassesOwn (model X.prog X.w) X.A X.env xe → PDSs (X.tr pn xe) lk body f)
    (hsw : swapsWith (.Name n p3) (some (.Name y p2)) ap.line X.env = pure false := by rfl) :
    PDS X lk (.Try body [.ExceptHandler (some (.Name x np)) (some n) [.Assign [.Name y p2] (.Name n p3) ap] pos'] [] [] pos) (sTry okC lk i j gs f) := by
  refine PS.imp (ps_tryKeep hstk hfrm hN hi hln hj hy hyf hv hdb hcd hc hex (tb := fun W D σ H => tR X.K lk W gs D σ H ∨ tS X.K lk f D σ H) (fun W pn xe tk po => PSs.or (hr W pn xe tk po) (hb pn xe po)) hsw) fun D σ H h => ?_
  obtain ⟨env, r, F, fp, e, ok, q⟩ := h
  unfold sTry at e
  split at e
  · rename_i z e1 hz
    split at e
    · rename_i hcond
      cases e
      obtain ⟨c1, c2, c3, c4, c5, c6⟩ := hcond
      refine .inl ⟨env, z, e1, F, fp, hz, ok, fun cls d σ' F' H' fp' g l a => ?_⟩
      have hcls := a.1
      subst hcls
      refine ⟨hok z c1, z.C, rfl, by rw [← g.ok.len]; exact c4, fun b hb' => ?_⟩
      have hF : F' b = none := g.ok.sub.free hb'
      have rep := a.rep hF
      -- the exception is there, frozen
      have st : Step [] F' H' (upd F' b (excV b z.C d)) (upd H' b (excV b z.C d)) := .mk' (fun w o e => by rw [upd_ne (ne_of_none e hF)]; exact e) (fun w o e => by rw [upd_ne (ne_of_none e hb')]; exact e) (fun w o e => by
          by_cases hw : w = b
          · subst hw
            rw [upd_same] at e ⊢
            exact e
          · rw [upd_ne hw] at e ⊢
            exact g.ok.sub _ _ e) fun w hw => by
          by_cases hw' : w = b
          · subst hw'
            exact .inr (.inl hb')
          · rw [upd_ne hw'] at hw
            exact .inl hw
      have g1 := g.trans (st.go g.ok fun a z => by cases z) (fun a z => by cases z)
      have g2 := kill_ok (i := i) g1.ok
      have ok2 : EnvOk X.K (upd F' b (excV b z.C d)) (upd H' b (excV b z.C d)) ((σ'.set i (some (.ref b))).set i none) (e1.kill i) fp' := by
        have k := g2.ok
        refine ⟨by rw [k.len, List.length_set, List.length_set], k.sub, fun w m hm => ?_, k.nd, k.dj⟩
        have hwi : w ≠ i := fun e => by
          rw [e, En.get_kill] at hm
          simp at hm
        obtain ⟨v, s1, s2⟩ := k.slot w m hm
        exact ⟨v, by rw [List.getElem?_set_ne (Ne.symm hwi), List.getElem?_set_ne (Ne.symm hwi)]; exact s1, s2⟩
      have g3 := set_ok (i := j) (v := .ref b) ok2 (own_fz (br := noBr) rep) .nil (fun a z => by cases z) (by unfold En.kill; rw [List.length_set]; exact c5)
      have eσ : ((σ'.set i (some (.ref b))).set j (some (.ref b))).set i none = ((σ'.set i (some (.ref b))).set i none).set j (some (.ref b)) := List.set_comm _ _ (Ne.symm c6)
      rw [eσ]
      have g23 : Go X.K [] σ' (e1) fp' (upd F' b (excV b z.C d)) (upd H' b (excV b z.C d)) ((σ'.set i (some (.ref b))).set i none) (e1.kill i) fp' (upd F' b (excV b z.C d)) (upd H' b (excV b z.C d)) := ⟨g2.fr, g2.keep, g2.stay, g2.nw, g2.nf, ok2, g2.lok⟩
      have gg := (g1.trans g23 fun a z => by cases z).trans g3 fun a z => by cases z
      refine q _ _ _ _ gg fun w hw => ?_
      have h1 : i ≠ w := fun e => by subst e; rw [c2] at hw; cases hw
      have h2 : j ≠ w := fun e => by subst e; rw [c3] at hw; cases hw
      rw [List.getElem?_set_ne h2, List.getElem?_set_ne h1, List.getElem?_set_ne h1]
      exact l w hw
    · cases e
  · split at e
    · rename_i e1 h1
      cases e
      exact .inr ⟨env, _, F, fp, h1, ok, q⟩
    · cases e
end
end T2
end
section
namespace T2
open PySem PySem.Spec PyProof.Rows L2
set_option linter.all false
set_option maxHeartbeats 2000000
def rIsX (K : PySem.W.Frag) (cv : Value) : List V → Hp → VK → Prop := fun xs H Q => ∃ (x c : V) (b : Bool), xs = [x, c] ∧ (∀ u, RelV c u → u = cv) ∧
  ((x = .non ∧ PySem.W.kitOne K (.type "NoneType") cv = some b) ∨ ∃ a D d gs, x = .ref a ∧ H a = some (excV a D d) ∧ (d = none ∨ ∃ dx, d = some dx ∧ H dx = some (.xd gs)) ∧ ExcC K D ∧ PySem.W.kitOne K (.ref D) cv = some b) ∧ Q (.bl b) H
theorem exc_inst {X : Cx} {pins : List (Addr × Obj)} {σ : L2.St} {H : Hp} {s : Shared} {a D : Addr} {d : Option Addr} {gs : List (Str × V)} (I : Inv X pins σ H s) (ha : H a = some (excV a D d)) (hd : d = none ∨ ∃ dx, d = some dx ∧ H dx = some (.xd gs)) :
    ∃ oe od, PySem.W.InstAt s.heap a oe D od := by
  have h0 : ObjOk X.prog X.w H s.heap a (excV a D d) := I.hok a _ ha
  obtain ⟨⟨o, vs, e1, e2, e3, e4⟩, _⟩ := h0
  rcases hd with rfl | ⟨dx, rfl, hx⟩
  · refine ⟨o, none, e1, e2, by unfold PySem.W.notCls; rw [e4] <;> rfl, ?_⟩
    rw [e3]
    trivial
  · have h1 : ObjOk X.prog X.w H s.heap dx (.xd gs) := I.hok dx _ hx
    obtain ⟨mA, hns, hr⟩ := h1
    obtain ⟨od, ho, hl⟩ := lookIn_ns hns
    exact ⟨o, some od, e1, e2, by unfold PySem.W.notCls; rw [e4] <;> rfl, by rw [e3]; exact ho⟩
theorem call_isX {X : Cx} {cv : Value} : CallR X (.builtin "isinstance") (rIsX X.K cv) := by
  intro pins s σ H xs us Q I r h
  obtain ⟨x, c, b, rfl, hcv, hx, q⟩ := h
  cases r with
  | cons rx rr =>
    cases rr with
    | cons rt rr =>
      cases rr
      have ec := hcv _ rt
      subst ec
      rcases hx with ⟨rfl, e⟩ | ⟨a, D, d, gs, rfl, ha, hd, C, e⟩
      · cases rx
        exact PySem.W.kia_one PySem.W.kitx_none I.kIn True.intro e (fun z => nomatch z) fun tk => ⟨.bl b, H, I.kept (t' := tk) fun _ _ z => z, rfl, q⟩
      · cases rx
        obtain ⟨oe, od, J⟩ := exc_inst I ha hd
        have hcl : (PySem.W.clsIn X.K D).isSome = true := by
          obtain ⟨cd, hc, _⟩ := PySem.W.any_some C.hd
          rw [hc]
          rfl
        exact PySem.W.kia_one (PySem.W.kitx_exc hcl C.hg C.hk C.hs C.ha C.hn C.ht C.hm) I.kIn J e (fun z => nomatch z) fun tk => ⟨.bl b, H, I.kept (t' := tk) fun _ _ z => z, rfl, q⟩
def oIsC (at_ : Nat → Addr) (kN : Option Bool) (kE : Nat → Option Bool) (f : En → Option M) : En → Option M := fun env => match f env with
  | some (.fz .non) => kN.map fun b => .fz (.bl b)
  | some (.fz (.exc n C _)) => if C = at_ n then (kE n).map fun b => .fz (.bl b) else none
  | _ => none
section
variable {X : Cx} {a b : Expr} {f : En → Option M} {p pos rp : Pos} {x T : Str} {at_ : Nat → Addr} {kN : Option Bool} {kE : Nat → Option Bool} {c : V} {cv : Value}
theorem pd_isX (hcv : ∀ u, RelV c u → u = cv) (hN : ∀ b, kN = some b → PySem.W.kitOne X.K (.type "NoneType") cv = some b) (hE : ∀ n b, kE n = some b → ExcC X.K (at_ n) ∧ PySem.W.kitOne X.K (.ref (at_ n)) cv = some b)
    (hg : Gl X "isinstance") (hm : X.mg "isinstance" = none) (hc : PE X (.Name T rp) (tC c)) (ha : PD X a f) (hv : bootBuiltins "isinstance" = some (.builtin "isinstance"))
    (s1 : starEach [a, .Name T rp] X.env = (false, eval a X.env) :: starEach [.Name T rp] X.env := by rfl) (s2 : starEach [.Name T rp] X.env = (false, eval (.Name T rp) X.env) :: starEach [] X.env := by rfl) (hpl : (backTo pos (starEach [.Name T rp] X.env)).any (·.1) = false := by rfl) :
    PD X (.Call (.Name "isinstance" p) [a, .Name T rp] [] pos) (oIsC at_ kN kE f) :=
  PE.imp (pe_callB (call_isX (X := X) (cv := cv)) hg hm hv (pa_cons ha (pa_cons hc pa_nil s2) s1) (by decide) (by decide) s1 hpl) fun σ H Q h => by
    obtain ⟨env, m, F, fp, e, ok, q⟩ := h
    unfold oIsC at e
    split at e
    · rename_i hf
      cases hk : kN with
      | none => rw [hk] at e; cases e
      | some b =>
        rw [hk] at e
        cases e
        refine ⟨env, _, F, fp, hf, ok, fun v F' H' A s o nd aa => ?_⟩
        simp only [Own, Rep] at o
        obtain ⟨rfl, rfl⟩ := o
        exact ⟨.non, c, b, rfl, hcv, .inl ⟨rfl, hN b hk⟩, q _ F' H' [] s (own_fz (by simp only [Rep])) .nil fun a z => by cases z⟩
    · rename_i n C fs hf
      split at e
      · rename_i hC
        subst hC
        cases hk : kE n with
        | none => rw [hk] at e; cases e
        | some b =>
          rw [hk] at e
          cases e
          refine ⟨env, _, F, fp, hf, ok, fun v F' H' A s o nd aa => ?_⟩
          simp only [Own, Rep] at o
          obtain ⟨rfl, a, d, gs, rfl, e1, e2, e3, e4⟩ := o
          have sub := s.sub
          exact ⟨.ref a, c, b, rfl, hcv, .inr ⟨a, at_ n, d, gs, rfl, sub _ _ e1, e2.imp id (fun ⟨dx, z1, z2⟩ => ⟨dx, z1, sub _ _ z2⟩), (hE n b hk).1, (hE n b hk).2⟩, q _ F' H' [] s (own_fz (by simp only [Rep])) .nil fun a z => by cases z⟩
      · cases e
    · cases e
end
end T2
end
section
namespace T2
open PySem PySem.Spec PyProof.Rows L2
set_option linter.all false
section
variable [ca : ClsA]
def okX (ns : List Nat) (z : Exn) : Bool := decide (z.C = ca.at_ z.n) && ns.contains z.n
theorem okX_ok {K : PySem.W.Frag} {c : Value} {ns : List Nat} (h : ∀ n ∈ ns, PySem.W.exmOne K (.ref (ca.at_ n)) c = some true) : ∀ z : Exn, okX ns z = true → PySem.W.exmOne K (.ref z.C) c = some true := fun z hz => by
  unfold okX at hz
  obtain ⟨h1, h2⟩ := Bool.and_eq_true_iff.mp hz
  rw [of_decide_eq_true h1]
  exact h _ (by simpa using h2)
theorem okX_of {ns : List Nat} {n : Nat} {fs : List (Str × D)} (h : ns.contains n = true) : okX ns ⟨n, ca.at_ n, fs⟩ = true := by
  unfold okX
  rw [decide_eq_true rfl, h]
  rfl
def kEL (l : List (Nat × Bool)) : Nat → Option Bool := fun n => l.lookup n
theorem kEL_ok {K : PySem.W.Frag} {cv : Value} {l : List (Nat × Bool)} (h : ∀ p ∈ l, ExcC K (ca.at_ p.1) ∧ PySem.W.kitOne K (.ref (ca.at_ p.1)) cv = some p.2) : ∀ n b, kEL l n = some b → ExcC K (ca.at_ n) ∧ PySem.W.kitOne K (.ref (ca.at_ n)) cv = some b := fun n b e => by
  have key : ∀ (l : List (Nat × Bool)), l.lookup n = some b → (n, b) ∈ l := fun l => by
    induction l with
    | nil => intro e; cases e
    | cons p l ih =>
      intro e
      rw [List.lookup_cons] at e
      by_cases hp : n = p.1
      · subst hp
        simp only [beq_self_eq_true, Option.some.injEq] at e
        subst e
        exact List.mem_cons_self ..
      · rw [show (n == p.1) = false by simpa using hp] at e
        exact List.mem_cons_of_mem _ (ih e)
  exact h _ (key l e)
end
theorem x_isC {at_ : Nat → Addr} {kN : Option Bool} {kE : Nat → Option Bool} {f : En → Option M} {env : En} {n : Nat} {fs : List (Str × D)} {b : Bool} (h : f env = some (.fz (.exc n (at_ n) fs))) (hk : kE n = some b) : oIsC at_ kN kE f env = some (.fz (.bl b)) := by
  unfold oIsC
  rw [h]
  simp only [if_true, hk]
  rfl
theorem x_try {okC : Exn → Bool} {lk : Nat → Bool} {i j : Nat} {gs : En → Option (Exn × En)} {f : En → Option Fl} {env e1 e2 : En} {x : Exn} (h : gs env = some (x, e1)) (hx : okC x = true) (hi : lk i = false) (hj : lk j = false) (hl : Nat.ble (i + 1) e1.length = true) (hl2 : Nat.ble (j + 1) e1.length = true) (hn : i ≠ j) (he : (e1.kill i).put j (.fz x.d) = e2) : sTry okC lk i j gs f env = some (.nx e2) := by
  subst he
  unfold sTry
  rw [h]
  simp only [if_pos (show okC x = true ∧ lk i = false ∧ lk j = false ∧ i < e1.length ∧ j < e1.length ∧ i ≠ j from ⟨hx, hi, hj, Nat.le_of_ble_eq_true hl, Nat.le_of_ble_eq_true hl2, hn⟩)]
theorem x_tryN {okC : Exn → Bool} {lk : Nat → Bool} {i j : Nat} {gs : En → Option (Exn × En)} {f : En → Option Fl} {env e1 : En} (h : gs env = none) (hf : f env = some (.nx e1)) : sTry okC lk i j gs f env = some (.nx e1) := by
  unfold sTry
  rw [h]
  simp only [hf]
theorem r_call {io : List Bool} {g : List M → Option Exn} {fs : En → Option (List M)} {env : En} {ms cs : List M} {r : Option Exn} (h : fs env = some ms) (h1 : slotsL ms = []) (h2 : shutZ io ms = some cs) (h3 : g cs = r) : rCall io g fs env = r := by
  unfold rCall
  rw [h]
  simp only [h1, h2, h3]
theorem r_sRE {g : En → Option Exn} {env : En} {x : Exn} (h : g env = some x) : sRE g env = some (x, env) := by
  unfold sRE
  rw [h]
theorem r_sREn {g : En → Option Exn} {env : En} (h : g env = none) : sRE g env = none := by
  unfold sRE
  rw [h]
theorem r_seq {gs g2 : En → Option (Exn × En)} {f : En → Option Fl} {env e1 : En} {r : Option (Exn × En)} (h : gs env = none) (hf : f env = some (.nx e1)) (h2 : g2 e1 = r) : rSeq gs f g2 env = r := by
  unfold rSeq
  rw [h]
  simp only [hf, h2]
theorem r_seq1 {gs g2 : En → Option (Exn × En)} {f : En → Option Fl} {env : En} {r : Exn × En} (h : gs env = some r) : rSeq gs f g2 env = some r := by
  unfold rSeq
  rw [h]
theorem r_nx {g2 : En → Option (Exn × En)} {f : En → Option Fl} {env e1 : En} {r : Option (Exn × En)} (hf : f env = some (.nx e1)) (h2 : g2 e1 = r) : rNx f g2 env = r := by
  unfold rNx
  rw [hf]
  exact h2
theorem r_nxR {g2 : En → Option (Exn × En)} {f : En → Option Fl} {env e1 : En} {m : M} (hf : f env = some (.rt m e1)) : rNx f g2 env = none := by
  unfold rNx
  rw [hf]
theorem r_for {lk : Nat → Bool} {t : Tg} {it : En → Option (List D × En)} {f : En → Option Fl} {g : En → Option (Exn × En)} {env e1 : En} {ds : List D} {r : Option (Exn × En)} (h : it env = some (ds, e1)) (h2 : rLp lk t f g ds e1 = r) : rFor lk t it f g env = r := by
  unfold rFor
  rw [h]
  exact h2
theorem r_run {n p : Nat} {gS : En → Option (Exn × En)} {ms : List M} {x : Exn} {e1 : En} (hl : ms.length = p) (ha : okA (fun _ => false) 0 ms = true) (h : gS (ms.map some ++ List.replicate (n - p) none) = some (x, e1)) : runR n p gS ms = some x := by
  unfold runR
  rw [if_pos ⟨hl, ha⟩, h]
theorem r_runN {n p : Nat} {gS : En → Option (Exn × En)} {ms : List M} (h : gS (ms.map some ++ List.replicate (n - p) none) = none) : runR n p gS ms = none := by
  unfold runR
  split
  · rw [h]
  · rfl
end T2
end
section
set_option Elab.async false
set_option linter.all false
set_option maxRecDepth 100000
set_option maxHeartbeats 4000000
namespace T2
open PySem PySem.Spec PyProof.Rows L2
section
variable {P : Program} {w : World} {A : Around} {E : Value → Shared → Prop} {s : Shared}
/-- the empty set that set.__new__ makes -/
abbrev set0 (w : World) : Obj := { cls := .type "set", dict := none, data := .set #[] 0 (.fresh 0 0 (!w.params.followText "set-order")) }
/-- s, with an empty set laid -/
abbrev sSet0 (w : World) (s : Shared) : Shared := { s with heap := s.heap.push (set0 w) }
/-- what is there after set.__init__ -/
def SetDone (w : World) (s : Shared) (ns : List Int) (s2 : Shared) : Prop := ∃ h' tk c, s2 = { s with heap := h', toks := tk } ∧ SetR w h' s.heap.objs.size (fun j => decide (j ∈ ns)) c ∧ c ≤ ns.length ∧ ∀ b o, s.heap.get? b = some o → h'.get? b = some o
/-- set.__init__(the new set, a list of ints) -/
theorem init_list {l : Addr} {items : Array Value} {ns : List Int} (hh : A.handled = none) (hl : s.heap.IsList l items) (hit : IntsAre items.toList ns) (hb : ns.length + 1 < scanBound) :
    wpAny (model P w) A (Builtin.«set.__init__» ⟨[.ref s.heap.objs.size, .ref l], []⟩) (fun q s2 => q = .done (.ret .none) ∧ SetDone w s ns s2) E (sSet0 w s) := by
  have hisz : items.size = ns.length := by
    have q := IntsAre.length hit
    rwa [Array.length_toList] at q
  have hlS : l < s.heap.objs.size := by
    obtain ⟨o, ho, _⟩ := hl
    exact Heap.lt_size ho
  have hS : (sSet0 w s).heap.get? s.heap.objs.size = some (set0 w) := Heap.get?_push_size _ rfl
  have hl1 : (sSet0 w s).heap.IsList l items := hl.push _
  have hz : (sSet0 w s).heap.objs.size = s.heap.objs.size + 1 := Heap.size_push ..
  obtain ⟨ol, hol, hcl, nl, hdl⟩ := id hl1
  obtain ⟨ocls, odict, odata, oslots⟩ := ol
  simp only at hcl hdl
  subst hcl; subst hdl
  have f1 := F.sub_list_set
  have f2 := F.sub_list_frozenset
  have f3 : (Value.type "list" == Value.type "dict") = false := by decide
  have hval : ∀ (i : Nat) (v : Value), items[i]? = some v → ∃ k t, ns[i]? = some k ∧ v = .int k t := fun i v hv => by
    have hi : i < ns.length := by rw [← hisz]; exact (Array.getElem?_eq_some_iff.mp hv).1
    obtain ⟨t, e⟩ := IntsAre.int_at hit i v (by rw [Array.getElem?_toList]; exact hv)
    rw [List.getD_eq_getElem?_getD, List.getElem?_eq_getElem hi] at e
    exact ⟨ns[i], t, List.getElem?_eq_getElem hi, e⟩
  have ne1 : l ≠ (sSet0 w s).heap.objs.size := by
    show l ≠ (s.heap.push (set0 w)).objs.size
    rw [Heap.size_push]
    exact Nat.ne_of_lt (Nat.lt_succ_of_lt hlS)
  have ne2 : s.heap.objs.size ∉ [(sSet0 w s).heap.objs.size, l] := by
    show _ ∉ [(s.heap.push (set0 w)).objs.size, l]
    rw [Heap.size_push]
    simp only [List.mem_cons, List.not_mem_nil, or_false, not_or]
    exact ⟨Nat.ne_of_lt (Nat.lt_succ_self _), Nat.ne_of_gt hlS⟩
  unfold Builtin.«set.__init__» noKeywords Builtin.Frozenset.updateFrom
  generalize hPI : pyIter = PI
  wp_walk
  subst hPI
  refine wpAny_pyIter_list hl1 (wpAny_bind (wpAny_runValue ?_))
  refine set_update_ints ((Walks.list (A := A.in1) (by simp [hh]) _ l ne1 items).toS) s.heap.objs.size ne2 ns hisz hb hval items.size 0 _ (by omega) (Nat.zero_le _) ⟨⟨_, Heap.get?_push_size _ rfl, rfl, rfl⟩, hl1.push _⟩ ⟨0, Nat.le_refl 0, setR_new_at (Heap.get?_push_of_some _ hS)⟩ fun s2 c hm hc hR => ?_
  obtain ⟨h', g2, d2, tk2, os2⟩ := s2
  obtain rfl : g2 = s.gens := hm.gens
  obtain rfl : d2 = s.drawn := hm.drawn
  obtain rfl : os2 = s.os := hm.os
  refine wpAny_pure (wpAny_pure ⟨rfl, h', tk2, c, rfl, hR, by omega, fun b o e => ?_⟩)
  have hb0 : b < s.heap.objs.size := Heap.lt_size e
  refine hm.heap b o ?_ (Heap.get?_push_of_some _ (Heap.get?_push_of_some _ e))
  show b ∉ [s.heap.objs.size, (s.heap.push (set0 w)).objs.size]
  rw [Heap.size_push]
  simp only [List.mem_cons, List.not_mem_nil, or_false, not_or]
  exact ⟨Nat.ne_of_lt hb0, Nat.ne_of_lt (Nat.lt_succ_of_lt hb0)⟩
/-- set(a list of ints) -/
theorem set_list {l : Addr} {items : Array Value} {ns : List Int} {Q : Value → Shared → Prop} (hh : A.handled = none) (hl : s.heap.IsList l items) (hit : IntsAre items.toList ns) (hb : ns.length + 1 < scanBound)
    (h : ∀ s2, SetDone w s ns s2 → Q (.ref s.heap.objs.size) s2) : wpAny (model P w) A (call (.type "set") [.ref l]) Q E s := by
  obtain ⟨c, tl, hmro⟩ := F.called_set.mro
  have k1 := F.called_set.made
  have k2 := F.called_set.sub
  have k3 := F.called_set.notType
  have k4 := F.called_set.canCreate
  have k5 := F.typeCall_set_1 (.ref l)
  refine wpAny_call (codeAny_of_tree ?_)
  show wpAny _ _ (callAny (.type "set") _) _ _ _
  refine wpAny_pure ⟨Code.quiet_builtin _ (by decide +kernel), codeAny_builtin F.entry_type_call ?_⟩
  rw [Around.under_plain (weight_type_call_type "set" [.ref l] []) rfl]
  repeat (any_goals (first | assumption | wp_step))
  refine codeAny_mono (code_set_led1 (.ref l) (E := E) (Q₁ := fun v s1 => v = .ref s.heap.objs.size ∧ s1 = sSet0 w s) ⟨rfl, rfl⟩) fun r s1 hr => ?_
  rcases r with e | fl
  · exact hr
  rcases fl with _ | v | _ | _
  all_goals first | exact hr.elim | skip
  obtain ⟨rfl, rfl⟩ := hr
  have hT : Shared.TypeIs (sSet0 w s) (.ref s.heap.objs.size) "set" := ⟨_, Heap.get?_push_size _ rfl, rfl⟩
  have k6 := F.called_set.init.lookup
  have k7 := F.called_set.init.bind (.ref s.heap.objs.size)
  repeat (any_goals (first | assumption | wp_step))
  refine codeAny_mono (codeAny_call_builtin (R := wants (fun v s2 => v = .none ∧ SetDone w s ns s2) E) F.called_set.init.plain F.entry_set_init (check_set_init_1 hT (wpAny_mono (init_list (by simp [hh]) hl hit hb) (fun q s2 hq => ?_) fun e s2 he => he))) fun r s2 hr => ?_
  · obtain ⟨rfl, hd⟩ := hq
    exact ⟨rfl, hd⟩
  rcases r with e | fl
  · exact hr
  rcases fl with _ | v | _ | _
  all_goals first | exact hr.elim | skip
  obtain ⟨rfl, hd⟩ := hr
  have k8 := h s2 hd
  repeat (any_goals (first | assumption | wp_step))
end
/-- set(a list of ints) -/
def rSetL (w : World) (K : PySem.W.Frag) : List V → Hp → VK → Prop := fun vs H Q => ∃ (l : Addr) (ns : List Int), vs = [V.ref l] ∧ SqL K H l (ns.map V.int) ∧ ns.length < 60 ∧
  ∀ p c, H p = none → c ≤ ns.length → Q (.ref p) (upd H p (SetO w p (fun j => decide (j ∈ ns)) c))
end T2
end
section
namespace T2
open PySem PySem.Spec PyProof.Rows L2
set_option linter.all false
set_option maxHeartbeats 1000000
end T2
end
section
namespace T2
open PySem PySem.Spec PyProof.Rows L2
set_option linter.all false
set_option maxHeartbeats 1000000
end T2
end
section
set_option Elab.async false
set_option linter.all false
set_option maxRecDepth 100000
namespace T2
open PySem PySem.Spec PyProof.Rows L2
end T2
end
section
set_option Elab.async false
set_option linter.all false
set_option maxRecDepth 100000
namespace T2
open PySem PySem.Spec PyProof.Rows L2
end T2
end
section
namespace T2
open PySem PySem.Spec PyProof.Rows L2
set_option linter.all false
set_option maxHeartbeats 2000000
theorem note_same {e : Value} {ce env : Env} (h : ce.frame = env.frame) : noteFrame e ce = noteFrame e env := by
  unfold noteFrame PySem.frameOf
  rw [h]
section
variable {M : Model} {A : Around} {E₁ : Value → Shared → Prop} {s : Shared} {B : Heap} {env : Env} {outer l : List Env} {L L' a : Addr} {Z : Obj → Prop}
/-- whatever frame noted it last, this one notes it -/
theorem note_traced {fl : Value} {Q : Unit → Shared → Prop} (hZ : HandSPX.Steady Z) (hfr : A.frames = some (env :: outer)) (hf : env.frame = some L) (kb : B.StaysIn s.heap) (nb : B.get? a = none) (hl : s.heap.FunFrames B (env :: outer)) (ht : HandSPX.TracedZ s.heap B a Z fl)
    (hQ : ∀ h', HandSPX.HeldZ B (env :: outer) a Z L h' → s.heap.UpToSlots h' → Q () { s with heap := h' }) : wpAny M A (noteFrame (.ref a) env) Q E₁ s := by
  by_cases hfl : fl = rawInt L
  · subst hfl
    exact HandSPX.againZ hf ht (hQ s.heap ⟨kb, nb, hl, ht⟩ (Heap.UpToSlots.refl _))
  · obtain ⟨oe, vs, T, oT, ts, ga, za, da, v1, nT, neT, gT, dT, t3⟩ := ht
    have sz3 : 3 < ts.size := (Array.getElem?_eq_some_iff.mp t3).1
    have oth : ∀ b, b ≠ T → (s.heap.update T (Obj.mapFields (·.setIfInBounds 3 Value.none))).get? b = s.heap.get? b := fun b q => Heap.get?_update_other _ _ (Ne.symm q)
    have notT : ∀ b o, s.heap.get? b = some o → (∀ vs, o.data ≠ .fields vs) → b ≠ T := fun b o g nf q => by
      rw [q, gT] at g
      cases g
      exact nf ts dT
    unfold noteFrame
    simp only [hf]
    refine wpAny_bind (wpAny_field ga da v1 ?_)
    rw [if_pos (show (Value.ref T != Value.none) = true from by simp)]
    refine wpAny_bind (wpAny_field gT dT t3 ?_)
    rw [if_neg (show ¬ ((fl == rawInt L) = true) from fun z => hfl (by simpa using z))]
    refine wpAny_bind (wpAny_setField gT dT sz3 ?_)
    refine HandSPX.wpAny_entryZ (base := B) (outer := outer) hZ hfr (hl.of_keeps fun b o g nf => ⟨o, (oth b (notT b o g nf)).trans g, rfl⟩) hf ((oth a (Ne.symm neT)).trans ga)
      (fun b o g => (oth b fun q => by rw [q, nT] at g; cases g).trans (kb b o g)) nb da (Array.getElem?_eq_some_iff.mp v1).1 za fun h' hN => ?_
    obtain ⟨x1, x2, x3, x4⟩ := hN
    exact hQ h' ⟨x1, nb, x2, x3⟩ fun b o g nf => x4 b o ((oth b (notT b o g nf)).trans g) nf
theorem sky_note {Q : Unit → Shared → Prop} (hZ : HandSPX.Steady Z) (hfr : A.frames = some (env :: outer)) (hf : env.frame = some L) (x : Sky B (env :: outer) a Z L' s.heap)
    (hQ : ∀ h', HandSPX.HeldZ B (env :: outer) a Z L h' → s.heap.UpToSlots h' → Q () { s with heap := h' }) : wpAny M A (noteFrame (.ref a) env) Q E₁ s := by
  rcases x with ⟨hB, hn, hl, oe, vs, he, hz, hd, h1⟩ | ⟨k1, k2, k3, k4⟩ | ⟨k1, k2, k3, k4⟩
  · exact HandSPX.look_newZ hZ hfr hl hf he hB hn hd h1 hz hQ
  · exact note_traced hZ hfr hf k1 k2 k3 k4 hQ
  · exact note_traced hZ hfr hf k1 k2 k3 k4 hQ
theorem pass_held {ce : Env} {what : String} {Q : Value → Shared → Prop} (hf : ce.frame = some L) (hh : HandSPX.HeldZ B l a Z L s.heap)
    (hE : ∀ h', HandSPX.HeldZ B l a Z L h' → s.heap.UpToSlots h' → E₁ (.ref a) { s with heap := h' }) : wpAny M A (PySem.passOn what (.ref a) ce : Sem Value) Q E₁ s := by
  have hh' := hh
  obtain ⟨k1, k2, k3, oe, vs, T, oT, ts, ga, za, da, v1, nT, neT, gT, dT, t3⟩ := hh'
  unfold PySem.passOn
  refine wpAny_bind (wpAny_field ga da v1 ?_)
  rw [if_neg (show ¬ ((Value.ref T == Value.none) = true) from by simp)]
  rw [hf]
  refine wpAny_bind (HandSPX.setFlight_onZ hh fun h' q up => ?_)
  exact wpAny_throw (hE h' q up)
theorem funFrames_but {h h' : Heap} : ∀ {l : List Env}, (∀ L ∈ frs l, ∀ o, h.get? L = some o → h'.get? L = some o) → h.FunFrames B l → h'.FunFrames B l
  | [], _, _ => trivial
  | e :: l, k, z => by
    obtain ⟨z1, ⟨L, o, z2, z3, z4, z5⟩, z6⟩ := z
    have hm : L ∈ frs (e :: l) := List.mem_filterMap.mpr ⟨e, List.mem_cons_self, z2⟩
    refine ⟨z1, ⟨L, o, z2, z3, k L hm o z4, z5⟩, funFrames_but (fun L' hL' => k L' ?_) z6⟩
    obtain ⟨e', he', q⟩ := List.mem_filterMap.mp hL'
    exact List.mem_filterMap.mpr ⟨e', List.mem_cons_of_mem _ he', q⟩
end
/-- a block from which exceptions go -/
abbrev blkE (X : Cx) (s : Shared) (H : Hp) (scope : Scope) (ce : Env) (fp : List Addr) (xe : Value → Shared → Prop) : Cx := (X.blk s H scope ce fp).tr [] xe
theorem PE.or {X : Cx} {e : Expr} {t u : TE} (h : PE X e t) (h' : PE X e u) : PE X e (fun σ H Q => t σ H Q ∨ u σ H Q) := ⟨fun pins s σ H Q I q => q.elim (h.run pins s σ H Q I) (h'.run pins s σ H Q I)⟩
section
variable {X : Cx}
theorem lc_coreR {pins : List (Addr × Obj)} {s : Shared} {σ : L2.St} {H : Hp} {Q : VK} {elt tg iter : Expr} {ifs : List Expr} {scope : Scope} {own : List (Str × Nat)} {pos pos' : Pos} {wi : TI} {g : TG} {tt : TT} {te : WX → TE} {W : WX} {use : Option (Value → Sem Unit)} {Qf : Value → Shared → Prop}
    (hstk : X.stack = X.env :: X.outer) (hfrm : X.env.frame = some X.env.locals) (tk : Takes X W) (hc : X.calm = true) (hN : X.N.Nodup) (I : Inv X pins σ H s) (hi : PI X tg iter wi) (ok : BlkOk X.N X.env.scope scope own)
    (hg : ∀ (s : Shared) (H : Hp) (C : Addr) (cl : List (Str × Addr)) (fp : List Addr) (xe : Value → Shared → Prop), PG (blkE X s H scope (compEnvC scope cl C X.env) fp xe) tg g)
    (ht : ∀ (s : Shared) (H : Hp) (C : Addr) (cl : List (Str × Addr)) (fp : List Addr) (xe : Value → Shared → Prop), PTs (blkE X s H scope (compEnvC scope cl C X.env) fp xe) ifs tt)
    (he : ∀ (s : Shared) (H : Hp) (C : Addr) (cl : List (Str × Addr)) (fp : List Addr) (xe : Value → Shared → Prop) (W' : WX), Takes (blkE X s H scope (compEnvC scope cl C X.env) fp xe) W' → PE (blkE X s H scope (compEnvC scope cl C X.env) fp xe) elt (te W'))
    (hs : ∀ x, foldedSetIterable iter X.env x = pure x) (h : tLc wi g tt (te fun cls d _ H' => W cls d σ H') (own.map (·.2)) σ H Q)
    (hRR : ∀ D C s' m H', Inv X pins σ H' s' → Q (.ref D) H' → s'.heap.Ns C m → FpOk X pins H' C → compPost (model X.prog X.w) X.A X.xe use Qf (.ref D) C (.ok .next) s') :
    wpAny (model X.prog X.w) X.A (comprehension (.ListComp elt [⟨tg, iter, ifs, 0⟩] scope pos) scope X.env pos' (newList []) false (eval iter X.env) use) Qf X.xe s := by
  have hfree : ∀ y ∈ scope.names, y.2 = .free → ∃ c, X.env.cells.lookup y.1 = some c := fun y hy e => (ok.free y hy e).elim (fun k => I.ok.has _ (.inl k)) (fun k => I.ok.has _ (.inr k))
  refine comprehension_at (use := use) rfl hs (closure_ok hfree) ok.kind (fun y hy e => by rw [ok.uniq y hy, e]) (thn (hi.run pins s σ H _ I h) fun xv s1 hx => thn hx fun itv s2 h2 => ?_)
  obtain ⟨it, fp, tn, J, H2, e, I2, T, st2, f2, q⟩ := h2
  subst e
  refine wpAny_newObj_type (newEnv_comp ?_) (by show 0 ≤ sizeLine; decide)
  generalize hD : s2.heap.objs.size = D
  have hDn : H2 D = none := I2.hok.fresh (Nat.le_of_eq hD)
  obtain ⟨Wl, ⟨m0, w0⟩, turn⟩ := q D hDn
  generalize hs3 : ({ s2 with heap := s2.heap.push { cls := .type "list", data := .seq ([] : List Value).toArray } } : Shared) = s3
  have I3 : Inv X pins σ (upd H2 D (.lst [])) s3 := by
    rw [← hs3]
    refine I2.laid (t' := s2.toks) (fun b o e => Heap.get?_push_of_some _ e) (Nat.le_of_eq hD) ⟨Nat.zero_le _, [], 0, .nil, ?_⟩
    rw [← hD]
    exact Heap.get?_push_size _ rfl
  have h3 : s3.heap = s2.heap.push { cls := .type "list", data := .seq ([] : List Value).toArray } := by rw [← hs3]
  have sz : ∀ b ∈ fp, b < s2.heap.objs.size := fun b hb => by
    obtain ⟨o, e, _⟩ := T.obj _ _ st2 b hb
    exact Heap.lt_size e
  have f3 : ∀ b ∈ fp, FpOk X pins (upd H2 D (.lst [])) b ∧ b < s3.heap.objs.size := fun b hb => by
    refine ⟨⟨?_, (f2 b hb).2⟩, by rw [h3, Heap.size_push]; exact Nat.lt_succ_of_lt (sz b hb)⟩
    rw [upd_ne (by rw [← hD]; exact Nat.ne_of_lt (sz b hb))]
    exact (f2 b hb).1
  have st3 : tn 0 s3.heap := T.keep _ _ _ st2 fun b _ o e => by rw [h3]; exact Heap.get?_push_of_some _ e
  have I4b := block_start I3 ok hN f3
  have pg := hg s3 (upd H2 D (.lst [])) s3.heap.objs.size (cellsFrom (s3.heap.objs.size + 1) scope.names (cloFrom X.env.cells scope.names [])) fp
  have pt := ht s3 (upd H2 D (.lst [])) s3.heap.objs.size (cellsFrom (s3.heap.objs.size + 1) scope.names (cloFrom X.env.cells scope.names [])) fp
  have pe := he s3 (upd H2 D (.lst [])) s3.heap.objs.size (cellsFrom (s3.heap.objs.size + 1) scope.names (cloFrom X.env.cells scope.names [])) fp
  show codeAny _ _ (.compStart (.ListComp elt [⟨tg, iter, ifs, 0⟩] scope pos) 0 (.ref it) (.ref D) (compEnvC scope (cellsFrom (s3.heap.objs.size + 1) scope.names (cloFrom X.env.cells scope.names [])) s3.heap.objs.size X.env))
    (compEnds (model X.prog X.w) X.A X.xe use Qf (.ref D) (compEnvC scope (cellsFrom (s3.heap.objs.size + 1) scope.names (cloFrom X.env.cells scope.names [])) s3.heap.objs.size X.env)) { s3 with heap := pushCells (s3.heap.push { cls := .type "dict", data := .dict #[] }) scope.names }
  have nfp : ∀ b ∈ fp, (upd H2 D (.lst [])) b = none := fun b hb => (f3 b hb).1.1
  generalize hce : compEnvC scope (cellsFrom (s3.heap.objs.size + 1) scope.names (cloFrom X.env.cells scope.names [])) s3.heap.objs.size X.env = ce at I4b pg pt pe ⊢
  have cL : ce.locals = s3.heap.objs.size := by subst hce; rfl
  have cF : ce.frame = X.env.frame := by subst hce; rfl
  generalize hH3 : upd H2 D (.lst []) = H3 at I3 I4b pg pt pe w0 nfp f3
  generalize hs4 : ({ s3 with heap := pushCells (s3.heap.push { cls := .type "dict", data := .dict #[] }) scope.names } : Shared) = s4 at I4b ⊢
  have st4 : tn 0 s4.heap := T.keep _ _ _ st3 fun b _ o e => by rw [← hs4]; exact pushCells_keeps _ _ _ _ (Heap.get?_push_of_some _ e)
  -- what goes out of the block
  obtain ⟨xe, hxe⟩ : ∃ xe : Value → Shared → Prop, xe = notedBy (model X.prog X.w) X.A ce (fun e s' => compEnds (model X.prog X.w) X.A X.xe use Qf (.ref D) ce (.error e) s') := ⟨_, rfl⟩
  have back : ∀ {σ' : L2.St} {H' : Hp} {s' : Shared} {pins' : List (Addr × Obj)}, Inv (blkE X s3 H3 scope ce fp xe) pins' σ' H' s' → Inv X pins σ H' s' ∧ FpOk X pins H' s3.heap.objs.size := fun {σ' H' s' pins'} J => by
    have nC : H' s3.heap.objs.size = none := by
      have z : H' ce.locals = none := J.free
      rw [cL] at z
      exact z
    exact ⟨I3.call' (ch := fp) J.os J.base J.hok J.bare fun b hb => ⟨(f3 b hb).1.2.2.2.1, (f3 b hb).1.2.1, (f3 b hb).1.2.2.2.2.1, (f3 b hb).1.2.2.2.2.2⟩, I3.fpOk (Nat.le_refl _) nC⟩
  have nCf : s3.heap.objs.size ∉ frs X.stack := fun hm => by
    obtain ⟨_, o, e, _⟩ := I3.stack.mem hm
    exact absurd (Heap.lt_size e) (Nat.lt_irrefl _)
  have tkB : Takes (blkE X s3 H3 scope ce fp xe) (fun cls d _ H' => W cls d σ H') := by
    rintro u s' ⟨a, B, sI, pins', σ', H', cls, d, rfl, J0, nb, up, sky, na, os, ag, w⟩
    obtain ⟨J, f0, f1, f2', f3', f4, f5⟩ := back J0
    show xe (.ref a) s'
    rw [hxe]
    have nb : ∀ b o, sI.heap.get? b = some o → b ∉ frs X.stack → B.get? b = some o := nb
    have sky : Sky B X.stack a (Zc cls d) ce.locals s'.heap := sky
    rw [hstk] at sky
    have hOk := J.ok
    have hFr : X.A.frames = some (X.env :: X.outer) := by rw [hOk.frames, hstk]
    show wpAny (model X.prog X.w) X.A (noteFrame (.ref a) ce) _ _ s'
    rw [note_same cF]
    refine sky_note Zc.steady hFr hfrm sky fun h1 hh up1 => ?_
    obtain ⟨m, hm, _⟩ := J0.loc
    have hm : sI.heap.Ns ce.locals m := hm
    have hm1 : h1.Ns ce.locals m := (up.trans up1).ns hm
    refine ⟨m, hm1, fun h2 m2 hm2 sb => ?_⟩
    rw [cL] at hm1 hm2 sb
    obtain ⟨oC, eC1, eC2, hoC, hdC, _⟩ := hm1
    obtain ⟨k1, k2, k3, oe, vs, T', oT, ts, ga, za, da, v1, nT, neT, gT, dT, t3⟩ := hh
    have naC : a ≠ s3.heap.objs.size := fun z => by
      rw [z, hoC] at ga
      cases ga
      rw [hdC] at da
      cases da
    have nTC : T' ≠ s3.heap.objs.size := fun z => by
      rw [z, hoC] at gT
      cases gT
      rw [hdC] at dT
      cases dT
    have same : ∀ b o, b ≠ s3.heap.objs.size → h1.get? b = some o → h2.get? b = some o := fun b o nb e => (sb.2 b nb).trans e
    have notC : ∀ {h : Heap} {b : Addr} {o : Obj}, (PySem.W.hideAll h [s3.heap.objs.size]).get? b = some o → b ≠ s3.heap.objs.size := fun {h b o} e z => by
      rw [PySem.W.hideAll_none _ (by simp [z])] at e
      cases e
    have hh2 : HandSPX.HeldZ (PySem.W.hideAll B [s3.heap.objs.size]) X.stack a (Zc cls d) X.env.locals h2 := by
      refine ⟨fun b o e => same b o (notC e) (k1 b o (PySem.W.of_hideAll _ e)), ?_, ?_, oe, vs, T', oT, ts, same _ _ naC ga, za, da, v1, ?_, neT, same _ _ nTC gT, dT, t3⟩
      · cases q : (PySem.W.hideAll B [s3.heap.objs.size]).get? a with
        | none => rfl
        | some o =>
          have z := PySem.W.of_hideAll _ q
          rw [k2] at z
          cases z
      · rw [← hstk] at k3
        refine funFrames_none (funFrames_but (fun L hL o e => same L o (fun z => nCf (z ▸ hL)) e) k3) fun L hL => ?_
        cases q : (PySem.W.hideAll B [s3.heap.objs.size]).get? L with
        | none => rfl
        | some o =>
          have z := PySem.W.of_hideAll _ q
          have z2 := (k3.mem hL).1
          rw [z2] at z
          cases z
      · cases q : (PySem.W.hideAll B [s3.heap.objs.size]).get? T' with
        | none => rfl
        | some o =>
          have z := PySem.W.of_hideAll _ q
          rw [nT] at z
          cases z
    refine pass_held (s := { s' with heap := h2 }) (cF.trans hfrm) hh2 fun h4 hh4 up4 => tk _ _ ⟨a, PySem.W.hideAll B [s3.heap.objs.size], { sI with heap := PySem.W.hideAll sI.heap [s3.heap.objs.size] }, pins, σ, H', cls, d, rfl, ?_, fun b o e hb => ?_, fun b o e nf => ?_, .inr (.inr hh4), na, os, ag, w⟩
    · exact J.turned (t' := sI.toks) (fun b o hb e => PySem.W.hideAll_get _ e (by simp [hb])) f0 f1 f3' f4 f5
    · exact PySem.W.hideAll_get _ (nb b o (PySem.W.of_hideAll _ e) hb) (by simp [notC e])
    · obtain ⟨sl, e1⟩ := (up.trans up1) b o (PySem.W.of_hideAll _ e) nf
      have e2 : h2.get? b = some { o with slots := sl } := same b { o with slots := sl } (notC e) e1
      exact up4 b { o with slots := sl } e2 nf
  have I4 : Inv (blkE X s3 H3 scope ce fp xe) [] (L2.wipe σ (own.map (·.2))) H3 s4 := I4b.toTry xe
  have pg := pg xe
  have pt := pt xe
  have pe := pe xe _ tkB
  have stat : ∀ {σ' : L2.St} {H' : Hp} {s' : Shared}, Inv (blkE X s3 H3 scope ce fp xe) [] σ' H' s' → (∀ b ∈ fp, H' b = none) → ∀ b ∈ fp, FpOk (blkE X s3 H3 scope ce fp xe) [] H' b := fun {σ' H' s'} I' hn b hb =>
    ⟨hn b hb, (I'.ok.exf b hb).1, I'.ok.exfs b hb, .inl hb, fun x c e => (I'.ok.exf b hb).2 x c e, fun p hp => absurd (show p ∈ ([] : List (Addr × Obj)) ++ [] from hp) (by simp)⟩
  have loop : codeAny (model X.prog X.w) X.A (.compLoop (.ListComp elt [⟨tg, iter, ifs, 0⟩] scope pos) 0 (.ref it) (.ref D) ce) (compEnds (model X.prog X.w) X.A X.xe use Qf (.ref D) ce) s4 := by
    refine compLoop_any (fun n s' => ∃ i H', Inv (blkE X s3 H3 scope ce fp xe) [] (L2.wipe σ (own.map (·.2))) H' s' ∧ tn i s'.heap ∧ (∀ b ∈ fp, H' b = none) ∧ Wl i n H') ?_ m0 ⟨0, H3, I4, st4, nfp, w0⟩
    rw [← hxe]
    rintro n s5 ⟨i, H5, I5, st5, n5, w5⟩
    rcases turn i n H5 w5 with ⟨stop, qq⟩ | ⟨go, Nx, hNx, step⟩
    · refine thnF (T.done (blkE X s3 H3 scope ce fp xe) rfl rfl rfl hc i [] s5 _ H5 (fun _ _ => False) I5 (stat I5 n5) st5 stop) fun r s6 ⟨hr, I6⟩ => ?_
      subst hr
      obtain ⟨I7, fC⟩ := back I6
      obtain ⟨m, hn, _⟩ := I6.loc
      have hn : s6.heap.Ns ce.locals m := hn
      rw [cL] at hn
      have fin := hRR D s3.heap.objs.size s6 m H5 I7 qq hn fC
      rw [← cL] at fin
      show compEnds (model X.prog X.w) X.A X.xe use Qf (.ref D) ce (.ok .next) s6
      cases use <;> exact fin
    · refine thnF (T.item (blkE X s3 H3 scope ce fp xe) rfl rfl rfl hc i [] s5 _ H5 (fun _ _ => False) I5 (stat I5 n5) st5 go) fun r s6 ⟨u, hr, h6⟩ => ?_
      subst hr
      refine thnF h6 fun _ s7 ⟨x, H7, I7, r7, y7, st7, n7⟩ => ?_
      have I7' := I7.pinned (stat I7 n7) (T.obj _ _ st7)
      refine thn (pg.run _ s7 _ H7 x u _ I7' r7 (step x H7 y7)) fun _ s8 ⟨σ8, H8, I8, hw8, q8⟩ => ?_
      refine thn (pt.run _ s8 σ8 H8 _ I8 q8) fun b s9 ⟨H9, I9, q9⟩ => ?_
      have fin : ∀ {s' : Shared} {H' : Hp}, Inv (blkE X s3 H3 scope ce fp xe) ([] ++ pinsAt fp s7.heap) σ8 H' s' → Nx H' → ∃ m, m < n ∧ ∃ i H', Inv (blkE X s3 H3 scope ce fp xe) [] (L2.wipe σ (own.map (·.2))) H' s' ∧ tn i s'.heap ∧ (∀ b ∈ fp, H' b = none) ∧ Wl i m H' := fun {s' H'} I' nx => by
        obtain ⟨m', hm, w'⟩ := hNx H' nx
        have pin' : ∀ b ∈ fp, ∀ o, s7.heap.get? b = some o → s'.heap.get? b = some o ∧ H' b = none := fun b hb o e =>
          ⟨(I'.pin (b, o) (List.mem_append_right _ (List.mem_append_right _ (mem_pinsAt hb e)))).1, (I'.pin (b, o) (List.mem_append_right _ (List.mem_append_right _ (mem_pinsAt hb e)))).2.1⟩
        refine ⟨m', hm, i + 1, H', (I'.unpinned (pins := [])).weak (by rw [← hw8, L2.wipe_length]) (fun j v e => ?_), T.keep _ _ _ st7 fun b hb o e => (pin' b hb o e).1, fun b hb => ?_, w'⟩
        · rw [← hw8] at e
          exact (wipe_some e).1
        · obtain ⟨o, e, _⟩ := T.obj _ _ st7 b hb
          exact (pin' b hb o e).2
      cases b with
      | false =>
        simp only [Bool.false_eq_true, if_false] at q9 ⊢
        exact fin I9 q9
      | true =>
        simp only [if_true] at q9 ⊢
        refine thn (pe.run _ s9 σ8 H9 _ I9 q9) fun z s10 ⟨yv, H10, I10, r10, acc, hD10, hz10, nx⟩ => ?_
        exact app_ok (X := blkE X s3 H3 scope ce fp xe) I10 hD10 hz10 r10 fun s11 I11 => fin I11 nx
  exact codeAny_compStart_list loop (T.self X.A 0 _ _ _ st4 loop)
end
section
variable {X : Cx} {elt tg iter : Expr} {ifs : List Expr} {scope : Scope} {own : List (Str × Nat)} {pos : Pos} {wi : TI} {g : TG} {tt : TT} {te : WX → TE} {W : WX}
theorem pe_lcR (hstk : X.stack = X.env :: X.outer) (hfrm : X.env.frame = some X.env.locals) (tk : Takes X W) (hc : X.calm = true) (hN : X.N.Nodup) (hi : PI X tg iter wi) (ok : BlkOk X.N X.env.scope scope own)
    (hg : ∀ (s : Shared) (H : Hp) (C : Addr) (cl : List (Str × Addr)) (fp : List Addr) (xe : Value → Shared → Prop), PG (blkE X s H scope (compEnvC scope cl C X.env) fp xe) tg g)
    (ht : ∀ (s : Shared) (H : Hp) (C : Addr) (cl : List (Str × Addr)) (fp : List Addr) (xe : Value → Shared → Prop), PTs (blkE X s H scope (compEnvC scope cl C X.env) fp xe) ifs tt)
    (he : ∀ (s : Shared) (H : Hp) (C : Addr) (cl : List (Str × Addr)) (fp : List Addr) (xe : Value → Shared → Prop) (W' : WX), Takes (blkE X s H scope (compEnvC scope cl C X.env) fp xe) W' → PE (blkE X s H scope (compEnvC scope cl C X.env) fp xe) elt (te W'))
    (hs : ∀ x, foldedSetIterable iter X.env x = pure x := by intro _; rfl) :
    PE X (.ListComp elt [⟨tg, iter, ifs, 0⟩] scope pos) (fun σ H Q => tLc wi g tt (te fun cls d _ H' => W cls d σ H') (own.map (·.2)) σ H Q) := by
  refine ⟨fun pins s σ H Q I h => ?_⟩
  rw [eval_ListComp]
  refine lc_coreR hstk hfrm tk hc hN I hi ok hg ht he hs h fun D C s' m H' I' q hn f => ⟨m, hn, fun h'' sb => ?_⟩
  obtain ⟨f0, f1, f2, f3, f4, f5⟩ := f
  exact ⟨.ref D, H', I'.turned (t' := s'.toks) (fun b o hb e => (sb.2 b hb).trans e) f0 f1 f3 f4 f5, rfl, q⟩
/-- the statement name = [..] -/
theorem ps_setLcR {i : Nat} {y : Str} {py spos : Pos} (hstk : X.stack = X.env :: X.outer) (hfrm : X.env.frame = some X.env.locals) (tk : Takes X W) (hc : X.calm = true) (hN : X.N.Nodup) (hy : X.N[i]? = some y) (hyl : X.env.scope.names.lookup y = some .local)
    (hsw : swapsWith (.ListComp elt [⟨tg, iter, ifs, 0⟩] scope pos) (some (.Name y py)) spos.line X.env = pure true) (hi : PI X tg iter wi) (ok : BlkOk X.N X.env.scope scope own)
    (hg : ∀ (s : Shared) (H : Hp) (C : Addr) (cl : List (Str × Addr)) (fp : List Addr) (xe : Value → Shared → Prop), PG (blkE X s H scope (compEnvC scope cl C X.env) fp xe) tg g)
    (ht : ∀ (s : Shared) (H : Hp) (C : Addr) (cl : List (Str × Addr)) (fp : List Addr) (xe : Value → Shared → Prop), PTs (blkE X s H scope (compEnvC scope cl C X.env) fp xe) ifs tt)
    (he : ∀ (s : Shared) (H : Hp) (C : Addr) (cl : List (Str × Addr)) (fp : List Addr) (xe : Value → Shared → Prop) (W' : WX), Takes (blkE X s H scope (compEnvC scope cl C X.env) fp xe) W' → PE (blkE X s H scope (compEnvC scope cl C X.env) fp xe) elt (te W'))
    (hs : ∀ x, foldedSetIterable iter X.env x = pure x := by intro _; rfl) :
    PS X (.Assign [.Name y py] (.ListComp elt [⟨tg, iter, ifs, 0⟩] scope pos) spos) (tAsg (fun σ H Q => tLc wi g tt (te fun cls d _ H' => W cls d σ H') (own.map (·.2)) σ H Q) (gName i)) := by
  refine ⟨fun pins s σ H D I h => ?_⟩
  rw [exec_Assign_Name_used _ _ _ _ hsw]
  refine wpAny_bind (wpAny_standAt (wpAny_bind ?_))
  have h : tLc wi g tt (te fun cls d _ H' => W cls d σ H') (own.map (·.2)) σ H (fun x H1 => gName i x σ H1 D.nx) := h
  refine wpAny_bind (thn (lc_coreR (Qf := fun _ s' => SP X pins D .next s') (use := some (assign (.Name y py) X.env)) (pos' := firstIterPos [⟨tg, iter, ifs, 0⟩] pos) hstk hfrm tk hc hN I hi ok hg ht he hs h fun L C s' m H' I' q hn f => ?_) fun _ s' hq => wpAny_pure (wpAny_pure hq))
  show wpAny _ _ (assign (.Name y py) X.env (.ref L)) _ _ _
  refine wpAny_assign_Name (store_ok2 (v := V.ref L) I' hN hy (.inl hyl) rfl (fun s2 I2 ⟨a, sb, ha⟩ => ?_) (.inr hyl))
  obtain ⟨f0, f1, f2, f3, f4, f5⟩ := f
  have haC : C ≠ a := by
    rcases ha with z | z
    · rw [z]; exact f1
    · exact fun e => f4 y a z e.symm
  refine ⟨m, hn.sameBut sb haC, fun h3 sb3 => ?_⟩
  exact ⟨_, H', I2.turned (t' := s2.toks) (fun b o hb e => (sb3.2 b hb).trans e) f0 f1 f3 f4 f5, q⟩
end
def rcL (vs : List Nat) (t : Tg) (cond : En → Option Bool) (elt : En → Option M) (g : En → Option Exn) (env : En) : List D → Option Exn
  | [] => none
  | d :: ds => match asT (lkOf vs) t d (env.wipe vs) with
    | some e1 => match cond e1 with
      | some true => match g e1 with
        | some x => some x
        | none => match elt e1 with
          | some _ => rcL vs t cond elt g env ds
          | none => none
      | some false => rcL vs t cond elt g env ds
      | none => none
    | none => none
def rcF (vs : List Nat) (t : Tg) (it : En → Option (List D)) (cond : En → Option Bool) (elt : En → Option M) (g : En → Option Exn) : En → Option Exn := fun env => match it env with
  | some ds => if ds.length ≤ sizeLine then rcL vs t cond elt g env ds else none
  | none => none
section
variable {X : Cx} {elt tg iter : Expr} {ifs : List Expr} {scope : Scope} {own : List (Str × Nat)} {pos : Pos} {it : En → Option (List D)} {t : Tg} {cond : En → Option Bool} {f : En → Option M} {g : En → Option Exn} {W : WX}
theorem tRc_ok {vs : List Nat} {σ : L2.St} {H : Hp} {Q : VK} (h : tRE X.K W (rcF vs t it cond f g) σ H Q) :
    tLc (tIp X.K it) (tT X.K (lkOf vs) t) (tDT X.K cond) (fun σ' H' Q' => tD X.K f σ' H' Q' ∨ tRE X.K (fun cls d _ H2 => W cls d σ H2) g σ' H' Q') vs σ H Q := by
  obtain ⟨env, x, F, fp, e, ok, q⟩ := h
  unfold rcF at e
  split at e
  case h_2 => cases e
  rename_i ds hds
  split at e
  case isFalse => cases e
  rename_i hsz
  refine ⟨env, ds, F, fp, hds, ok, fun J F1 H1 s1 ji => fun Da hD => ?_⟩
  have hDH : H Da = none := s1.stay _ hD
  have hDF : F1 Da = none := s1.sub.free hD
  have sD : Same H1 (upd H1 Da (.lst [])) := fun b o e => by rw [upd_ne (ne_of_none e hD)]; exact e
  refine ⟨fun i mm H2 => mm = ds.length - i ∧ i ≤ ds.length ∧ ∃ F2 ws, rcL vs t cond f g env (ds.drop i) = some x ∧ H2 Da = some (.lst ws) ∧ ws.length ≤ i ∧ F2 Da = none ∧ Step [] F H F2 H2 ∧ Same F1 F2 ∧ Same H1 H2,
    ⟨_, rfl, Nat.zero_le _, F1, [], by rw [List.drop_zero]; exact e, upd_same, Nat.zero_le _, hDF, s1.trans (Step.mk' (A := []) (.refl _) sD (s1.sub.trans sD) fun a z => .inl z) (fun a z => by cases z), .refl _, sD⟩, fun i mm H2 hW => ?_⟩
  obtain ⟨rfl, hi, F2, ws, hl, hDa, hws, hFa, st, sF, sH⟩ := hW
  have okS : EnvOk X.K F2 H2 σ env fp := ok.step st fun a z => by cases z
  by_cases hlt : i < ds.length
  · right
    obtain ⟨d, hd⟩ : ∃ d, ds[i]? = some d := ⟨_, List.getElem?_eq_getElem hlt⟩
    have hdrop : ds.drop i = d :: ds.drop (i + 1) := by
      rw [List.drop_eq_getElem_cons hlt]
      rw [List.getElem?_eq_getElem hlt] at hd
      cases hd
      rfl
    rw [hdrop] at hl
    simp only [rcL] at hl
    obtain ⟨j1, j2⟩ := ji.go i F2 H2 d sF sH okS.sub hd
    refine ⟨j1, fun H5 => ∃ F2 ws, rcL vs t cond f g env (ds.drop (i + 1)) = some x ∧ H5 Da = some (.lst ws) ∧ ws.length ≤ i + 1 ∧ F2 Da = none ∧ Step [] F H F2 H5 ∧ Same F1 F2 ∧ Same H1 H5, fun H5 z => ⟨ds.length - (i + 1), by omega, rfl, hlt, z⟩, fun y H3 hy => ?_⟩
    obtain ⟨F3, s3, rx⟩ := j2 y H3 hy
    split at hl
    case h_2 => cases hl
    rename_i e1 h1
    refine ⟨d, env.wipe vs, e1, F3, fp, rx, h1, (okS.step s3 fun a z => by cases z).wipe vs, fun σ2 fp2 g2 l2 => ?_⟩
    have hlen : σ2.length = σ.length := by
      rw [← g2.ok.len]
      have : e1.length = (env.wipe vs).length := asT_len t d _ _ h1
      rw [this, En.wipe_length]
      exact ok.len
    refine ⟨wipe_same l2 hlen, ?_⟩
    have keep : ∀ {F4 H4 : Hp}, Step [] F3 H3 F4 H4 → Step [] F H F4 H4 ∧ Same F1 F4 ∧ Same H1 H4 ∧ H4 Da = some (.lst ws) ∧ F4 Da = none := fun {F4 H4} s4 => by
      have s34 : Step [] F2 H2 F4 H4 := s3.trans s4 fun a z => by cases z
      refine ⟨st.trans s34 (fun a z => by cases z), sF.trans s34.fr, sH.trans s34.hp, s34.hp _ _ hDa, ?_⟩
      cases z : F4 Da with
      | none => rfl
      | some o =>
        rcases s34.nw Da (by rw [z]; simp) with w | w | w
        · exact absurd hFa w
        · rw [hDa] at w
          cases w
        · cases w
    split at hl
    case h_3 => cases hl
    · rename_i hc
      refine ⟨e1, true, F3, fp2, hc, g2.ok, fun F4 H4 s4 => iteT ?_⟩
      obtain ⟨st4, sF4, sH4, hDa4, hFa4⟩ := keep s4
      split at hl
      · rename_i x' hg
        cases hl
        exact .inr ⟨e1, _, F4, fp2, hg, g2.ok.step s4 (fun a z => by cases z), fun cls dd F5 H5 s5 a => q cls dd F5 H5 (st4.trans s5 fun a z => by cases z) (a.back fun b z => st4.stay b z)⟩
      · split at hl
        case h_2 => cases hl
        rename_i m1 hm1
        refine .inl ⟨e1, m1, F4, fp2, hm1, g2.ok.step s4 (fun a z => by cases z), fun w F5 H5 B s5 o5 n5 a5 => ?_⟩
        obtain ⟨st5, sF5, sH5, hDa5, hFa5⟩ := keep (s4.trans s5 fun a z => by cases z)
        refine ⟨ws, hDa5, by omega, F5, ws ++ [w], hl, upd_same, by rw [List.length_append]; simp only [List.length_cons, List.length_nil]; omega, hFa5, ?_, sF5, fun b o e => ?_⟩
        · refine .mk' st5.fr (fun b o e => ?_) (fun b o e => ?_) fun a z => st5.nw a z
          · rw [upd_ne (ne_of_none e hDH)]
            exact st5.hp _ _ e
          · rw [upd_ne fun z => by rw [z, hFa5] at e; cases e]
            exact st5.sub _ _ e
        · rw [upd_ne (ne_of_none e hD)]
          exact sH5 _ _ e
    · rename_i hc
      refine ⟨e1, false, F3, fp2, hc, g2.ok, fun F4 H4 s4 => iteF ?_⟩
      obtain ⟨st4, sF4, sH4, hDa4, hFa4⟩ := keep s4
      exact ⟨F4, ws, hl, hDa4, by omega, hFa4, st4, sF4, sH4⟩
  · exfalso
    have hi' : i = ds.length := by omega
    subst hi'
    rw [List.drop_length] at hl
    cases hl
/-- [e for t in it if ..] of which an element lets out -/
theorem pre_lc (hstk : X.stack = X.env :: X.outer) (hfrm : X.env.frame = some X.env.locals) (tk : Takes X W) (hc : X.calm = true) (hN : X.N.Nodup) (hi : PDP X tg iter it) (ok : BlkOk X.N X.env.scope scope own)
    (hg : ∀ (s : Shared) (H : Hp) (C : Addr) (cl : List (Str × Addr)) (fp : List Addr) (xe : Value → Shared → Prop), PT' (blkE X s H scope (compEnvC scope cl C X.env) fp xe) (lkOf (own.map (·.2))) tg t)
    (ht : ∀ (s : Shared) (H : Hp) (C : Addr) (cl : List (Str × Addr)) (fp : List Addr) (xe : Value → Shared → Prop), PTs (blkE X s H scope (compEnvC scope cl C X.env) fp xe) ifs (tDT X.K cond))
    (he : ∀ (s : Shared) (H : Hp) (C : Addr) (cl : List (Str × Addr)) (fp : List Addr) (xe : Value → Shared → Prop), PD (blkE X s H scope (compEnvC scope cl C X.env) fp xe) elt f)
    (hr : ∀ (s : Shared) (H : Hp) (C : Addr) (cl : List (Str × Addr)) (fp : List Addr) (xe : Value → Shared → Prop) (W' : WX), Takes (blkE X s H scope (compEnvC scope cl C X.env) fp xe) W' → PRE (blkE X s H scope (compEnvC scope cl C X.env) fp xe) W' elt g)
    (hs : ∀ x, foldedSetIterable iter X.env x = pure x := by intro _; rfl) :
    PRE X W (.ListComp elt [⟨tg, iter, ifs, 0⟩] scope pos) (rcF (own.map (·.2)) t it cond f g) :=
  PE.imp (pe_lcR (g := tT X.K (lkOf (own.map fun p : Str × Nat => p.2)) t) (tt := tDT X.K cond) (te := fun W' σ' H' Q' => tD X.K f σ' H' Q' ∨ tRE X.K W' g σ' H' Q') hstk hfrm tk hc hN hi ok hg ht (fun s H C cl fp xe W' tk' => PE.or (he s H C cl fp xe) (hr s H C cl fp xe W' tk')) hs) fun σ H Q q => tRc_ok q
theorem prs_setLc {lk : Nat → Bool} {i : Nat} {y : Str} {py spos : Pos} (hstk : X.stack = X.env :: X.outer) (hfrm : X.env.frame = some X.env.locals) (tk : Takes X W) (hc : X.calm = true) (hN : X.N.Nodup) (hy : X.N[i]? = some y) (hyl : X.env.scope.names.lookup y = some .local)
    (hsw : swapsWith (.ListComp elt [⟨tg, iter, ifs, 0⟩] scope pos) (some (.Name y py)) spos.line X.env = pure true) (hi : PDP X tg iter it) (ok : BlkOk X.N X.env.scope scope own)
    (hg : ∀ (s : Shared) (H : Hp) (C : Addr) (cl : List (Str × Addr)) (fp : List Addr) (xe : Value → Shared → Prop), PT' (blkE X s H scope (compEnvC scope cl C X.env) fp xe) (lkOf (own.map (·.2))) tg t)
    (ht : ∀ (s : Shared) (H : Hp) (C : Addr) (cl : List (Str × Addr)) (fp : List Addr) (xe : Value → Shared → Prop), PTs (blkE X s H scope (compEnvC scope cl C X.env) fp xe) ifs (tDT X.K cond))
    (he : ∀ (s : Shared) (H : Hp) (C : Addr) (cl : List (Str × Addr)) (fp : List Addr) (xe : Value → Shared → Prop), PD (blkE X s H scope (compEnvC scope cl C X.env) fp xe) elt f)
    (hr : ∀ (s : Shared) (H : Hp) (C : Addr) (cl : List (Str × Addr)) (fp : List Addr) (xe : Value → Shared → Prop) (W' : WX), Takes (blkE X s H scope (compEnvC scope cl C X.env) fp xe) W' → PRE (blkE X s H scope (compEnvC scope cl C X.env) fp xe) W' elt g)
    (hs : ∀ x, foldedSetIterable iter X.env x = pure x := by intro _; rfl) :
    PRS X lk W (.Assign [.Name y py] (.ListComp elt [⟨tg, iter, ifs, 0⟩] scope pos) spos) (sRE (rcF (own.map (·.2)) t it cond f g)) :=
  PS.imp (ps_setLcR (i := i) (g := tT X.K (lkOf (own.map fun p : Str × Nat => p.2)) t) (tt := tDT X.K cond) (te := fun W' σ' H' Q' => tD X.K f σ' H' Q' ∨ tRE X.K W' g σ' H' Q') hstk hfrm tk hc hN hy hyl hsw hi ok hg ht (fun s H C cl fp xe W' tk' => PE.or (he s H C cl fp xe) (hr s H C cl fp xe W' tk')) hs) fun D σ H q => tRc_ok (Q := fun x H1 => gName i x σ H1 D.nx) (tRE.tR q _)
end
def tRA (K : PySem.W.Frag) (W : WX) (g : En → Option Exn) : TA := fun σ H _ => tRE K W g σ H fun _ _ => False
def PRA (X : Cx) (W : WX) (es : List Expr) (g : En → Option Exn) : Prop := PA X es (tRA X.K W g)
def rTl (f : En → Option M) (g : En → Option Exn) : En → Option Exn := fun env => match f env with
  | some _ => g env
  | none => none
theorem PA.or {X : Cx} {e : List Expr} {t u : TA} (h : PA X e t) (h' : PA X e u) : PA X e (fun σ H Q => t σ H Q ∨ u σ H Q) := ⟨fun pos pins s σ H Q I q => q.elim (h.run pos pins s σ H Q I) (h'.run pos pins s σ H Q I)⟩
section
variable {K : PySem.W.Frag} {W : WX} {g g' : En → Option Exn} {σ : L2.St} {H : Hp} {Q : VK}
theorem tRE.tl {f : En → Option M} {Q' : VK} (h : tRE K W (rTl f g) σ H Q) : tD K f σ H fun _ H1 => tRE K (fun cls d _ H2 => W cls d σ H2) g σ H1 Q' := by
  obtain ⟨env, x, F, fp, e, ok, q⟩ := h
  unfold rTl at e
  split at e
  case h_2 => cases e
  rename_i m hm
  exact ⟨env, m, F, fp, hm, ok, fun v F1 H1 A s1 o1 n1 a1 => ⟨env, x, F1, fp, e, ok.step s1 (fun a z => by cases z), fun cls d F2 H2 s2 a => q cls d F2 H2 (s1.trans s2 fun a z => by cases z) (a.back fun b z => s1.stay b z)⟩⟩
end
section
variable {X : Cx} {W : WX} {e : Expr} {es : List Expr} {g g' : En → Option Exn} {f : En → Option M} {ta : TA} {pos p : Pos}
theorem pra_hd (h : PRE X W e g) (ha : PA X es ta) (hs : starEach (e :: es) X.env = (false, eval e X.env) :: starEach es X.env := by rfl) : PRA X W (e :: es) g := PA.imp (pa_cons h ha hs) fun σ H Q q => q
theorem pra_tl (h : PD X e f) (ha : PRA X W es g) (hs : starEach (e :: es) X.env = (false, eval e X.env) :: starEach es X.env := by rfl) : PRA X W (e :: es) (rTl f g) := PA.imp (pa_cons h ha hs) fun σ H Q q => by
  obtain ⟨env, x, F, fp, e, ok, q⟩ := q
  unfold rTl at e
  split at e
  case h_2 => cases e
  rename_i m hm
  exact ⟨env, m, F, fp, hm, ok, fun v F1 H1 A s1 o1 n1 a1 => ⟨env, x, F1, fp, e, ok.step s1 (fun a z => by cases z), fun cls d F2 H2 s2 a => q cls d F2 H2 (s1.trans s2 fun a z => by cases z) (a.back fun b z => s1.stay b z)⟩⟩
/-- (.., e, ..) -/
theorem pre_tup {x1 : Nat} (ha : PRA X W es g) : PRE X W (.Tuple es x1 pos) g := PE.imp (pe_tup ha) fun σ H Q q => q
end
theorem r_tl {f : En → Option M} {g : En → Option Exn} {env : En} {m : M} {r : Option Exn} (h : f env = some m) (h' : g env = r) : rTl f g env = r := by
  unfold rTl
  rw [h]
  exact h'
section
variable {vs : List Nat} {t : Tg} {it : En → Option (List D)} {cond : En → Option Bool} {elt : En → Option M} {g : En → Option Exn} {env : En}
theorem r_lc {ds : List D} {r : Option Exn} (h : it env = some ds) (hl : ds.length ≤ sizeLine) (h' : rcL vs t cond elt g env ds = r) : rcF vs t it cond elt g env = r := by
  unfold rcF
  rw [h]
  simp only [if_pos hl]
  exact h'
end
end T2
end
section
namespace T2
open PySem PySem.Spec PyProof.Rows L2
set_option linter.all false
def gMulSJ : List D → Option D
  | [.str a, .int i] => if a.length ≤ 16 ∧ 0 ≤ i ∧ i ≤ 1000 then some (.str (Txt.mul a i)) else none
  | _ => none
theorem s_mulSJ {K : PySem.W.Frag} : OpS K (sop gMulSJ) (r2L rMulSI) := scalS fun H ds vs d Q h e hs q => by
  unfold gMulSJ at e
  split at e
  · rename_i a i
    split at e
    · rename_i c
      cases e
      simp only [RepL, Rep] at h
      obtain ⟨v, r, rfl, rfl, w, t, rfl, rfl, rfl⟩ := h
      exact ⟨_, _, rfl, a, i, rfl, rfl, c.1, by omega, by omega, q⟩
    · cases e
  · cases e
theorem px_sitem {X : Cx} {a b : Expr} {pos : Pos} {ga gb : En → Option (M × En)} (ha : PX X a ga) (hb : PX X b gb) (hs : PlainIxT b) : PX X (.Subscript a b pos) (xbin (sop gSItem) ga gb) := px_op2 (pe_item_str ha hb hs) s_sitem
section
variable {X : Cx} {k : Nat} {fa : Addr} {fd : FuncData} {fn : Fn} {x : Str} {p pos : Pos}
theorem pe_callG0 {CX : CXT} {sp : Sp} {ps : List Str} {dvs : List V} {ds : List Value} {E : XK} (F : FnG X.prog X.w X.K X.mg X.base CX k fa fd ps sp) (hr : RoomG k X.A) (hg : Gl X x) (hm : X.mg x = some (.ref fa)) (hk : PySem.W.keepIn X.K (.ref fa) = true) (hb : Binds X.K fd ps ds) (hd : Vals dvs ds) (hx : Passes CX X E)
    (h1 : (x == ("__debug__" : Str)) = false := by decide) : PE X (.Call (.Name x p) [] [] pos) (tCall sp dvs E tNil) :=
  ⟨fun pins s σ H Q I h => wpAny_Call_Name_kw (ld_glob I hg hm (PySem.W.callWith_K0 I.kIn hk (run_g (us := []) (zs := []) F hr hb hd hx I .nil h)) h1)⟩
/-- f() -/
theorem pd_call0 (F : FnG X.prog X.w X.K X.mg X.base CX0 k fa fd [] (SpI X.K fn)) (hr : RoomG k X.A) (hg : Gl X x) (hm : X.mg x = some (.ref fa)) (hk : PySem.W.keepIn X.K (.ref fa) = true) (hb : Binds X.K fd [] [])
    (hdb : (x == ("__debug__" : Str)) = false := by decide) : PD X (.Call (.Name x p) [] [] pos) (opr (callP [] fn) aNil) :=
  PE.imp (pe_callG0 (dvs := []) (E := E0) F hr hg hm hk hb .nil pass0 hdb) fun σ H Q q => sp_nil (tDA.nil (tDA.op (s_call (E := E0)) q))
end
end T2
end
section
namespace G78
open PySem PySem.Spec PyProof.Rows L2 T2
set_option Elab.async false
set_option linter.all false
set_option maxRecDepth 100000
set_option maxHeartbeats 4000000
def top (i : Nat) : Stmt := PySem.Challenge.pw_telltight_k78_heap_texts_refused.main.body.getD i (.Pass ⟨0, 0, 0, 0⟩)
variable [ca : ClsA]
abbrev s__law_odd : Stmt := top 33
abbrev N__law_odd : List Str := ["_law_some"]
theorem sc__law_odd : FnScope N__law_odd [] (defScope s__law_odd) := ⟨rfl, rfl, rfl, by decide +kernel, rfl, by decide +kernel, by decide +kernel⟩
def lk__law_odd : Nat → Bool := fun i => false
def F__law_odd : En → Option Fl :=
  (sSeq (sAsg lk__law_odd 0 0 (lif (opr oLst (aCons (cst (.str "")) (aCons (cst (.str " ")) (aCons (cst (.str "0")) (aCons (cst (.str "0:")) (aCons (cst (.str "0: ")) (aCons (cst (.str ": -")) (aCons (cst (.str "0: -")) (aCons (cst (.str "0:-")) (aCons (cst (.str "0: - ")) (aCons (cst (.str "0: -/ -")) (aCons (cst (.str "0: - / -")) (aCons (cst (.str "0: - / - / - / -")) aNil)))))))))))))))
    (sSeq (sAsg lk__law_odd 0 0 (lif (bin oAdd (nam 0) (opr oLst (aCons (cst (.str "0: - / - / - / - / -")) (aCons (cst (.str "0: ()")) (aCons (cst (.str "0: (), ()")) (aCons (cst (.str "0: 0")) (aCons (cst (.str "1: 0")) (aCons (cst (.str "1: 0, 0")) (aCons (cst (.str "1: 0 0")) (aCons (cst (.str "1: 1")) aNil))))))))))))
    (sSeq (sAsg lk__law_odd 0 0 (lif (bin oAdd (nam 0) (opr oLst (aCons (cst (.str "2: 0 1")) (aCons (cst (.str "2: 1 0")) (aCons (cst (.str "2: 0,1")) (aCons (cst (.str "2: 0, 1")) (aCons (cst (.str "2: 00")) (aCons (cst (.str "2: 01")) (aCons (cst (.str "02: 0")) (aCons (cst (.str "2: 0  1")) (aCons (cst (.str "x: -")) aNil)))))))))))))
    (sSeq (sAsg lk__law_odd 0 0 (lif (bin oAdd (nam 0) (opr oLst (aCons (cst (.str "2: 0 / 1, () / 0 1 / -")) (aCons (cst (.str "40: 39")) (aCons (cst (.str "41: -")) (aCons (cst (.str "40: 40")) (aCons (cst (.str "41: 39")) (aCons (cst (.str "1: -, 0")) (aCons (cst (.str "1: 0, -")) aNil)))))))))))
    (sSeq (sAsg lk__law_odd 0 0 (lif (bin oAdd (nam 0) (opr oLst (aCons (cst (.str "1: () 0")) (aCons (cst (.str "1: ( )")) (aCons (cst (.str "1: -0")) (aCons (cst (.str "-1: -")) aNil))))))))
    (sSeq (sAsg lk__law_odd 0 0 (lif (bin oAdd (nam 0) (opr oLst (aCons (cst (.str "1: 0: 0")) (aCons (cst (.str "1 : 0")) (aCons (cst (.str "1:  0")) (aCons (cst (.str "1: 0 ")) (aCons (cst (.str " 1: 0")) (aCons (cst (.str "1: a")) (aCons (bin oAdd (cst (.str "2: ")) (bin (opM gJoin) (cst (.str ", ")) (bin oMul (opr oLst (aCons (cst (.str "0 1")) aNil)) (cst (.int 40))))) aNil)))))))))))
    (sSeq (sAsg lk__law_odd 0 0 (lif (bin oAdd (nam 0) (opr oLst (aCons (bin oAdd (bin (sop gMulSJ) (cst (.str "9")) (cst (.int 40))) (cst (.str ": -"))) (aCons (bin oAdd (cst (.str "2: ")) (bin (opM gJoin) (cst (.str ", ")) (bin oMul (opr oLst (aCons (cst (.str "()")) aNil)) (cst (.int 41))))) (aCons (bin oAdd (cst (.str "2: - / ")) (bin (opM gJoin) (cst (.str ", ")) (bin oMul (opr oLst (aCons (cst (.str "1")) aNil)) (cst (.int 41))))) aNil)))))))
    (sSeq (sAsg lk__law_odd 0 0 (lif (bin oAdd (nam 0) (opr oLst (aCons (bin oAdd (bin (sop gMulSJ) (cst (.str "9")) (cst (.int 41))) (cst (.str ": -"))) (aCons (bin oAdd (cst (.str "1: ")) (bin (sop gMulSJ) (cst (.str "0")) (cst (.int 40)))) aNil))))))
    (sRet lk__law_odd (lif (bin oAdd (nam 0) (opr oLst (aCons (bin oAdd (cst (.str "2: ")) (bin (sop gMulSJ) (cst (.str "9")) (cst (.int 40)))) (aCons (bin oAdd (cst (.str "2: ")) (bin (sop gMulSJ) (cst (.str "1")) (cst (.int 41)))) (aCons (cst (.str "+1: 0")) (aCons (cst (.str "1: +0")) (aCons (cst (.str "3: 0 1 2 / 0 2 / 1 / ()")) (aCons (cst (.str "3: 0 1 1 2")) (aCons (cst (.str "1:")) aNil)))))))))))))))))))
def f__law_odd : Fn := runD 1 0 lk__law_odd F__law_odd
abbrev s__law_view_text : Stmt := top 26
abbrev N__law_view_text : List Str := ["_law_view", "_law_coin"]
theorem sc__law_view_text : FnScope N__law_view_text ["_law_view"] (defScope s__law_view_text) := ⟨rfl, rfl, rfl, by decide +kernel, rfl, by decide +kernel, by decide +kernel⟩
def lk__law_view_text : Nat → Bool := fun i => false
def F__law_view_text : En → Option Fl :=
  (sSeq (sIf (lifT (tst (bin (sop (gEq false)) (nam 0) (opr oLst aNil))))
    (sRet lk__law_view_text (lif (cst (.str "()"))))
    sNil)
    (sRet lk__law_view_text (lif (bin (opM gJoin) (cst (.str " ")) (lcF [1] (.nm 1) (itP true (nam 0)) cYes (opr (sop gStrD) (aCons (nam 1) aNil)))))))
def f__law_view_text : Fn := runD 2 1 lk__law_view_text F__law_view_text
abbrev s__law_heap_text : Stmt := top 27
abbrev N__law_heap_text : List Str := ["_law_heap_here", "_law_rows", "_law_views", "_law_view"]
theorem sc__law_heap_text : FnScope N__law_heap_text ["_law_heap_here"] (defScope s__law_heap_text) := ⟨rfl, rfl, rfl, by decide +kernel, rfl, by decide +kernel, by decide +kernel⟩
def lk__law_heap_text : Nat → Bool := fun i => false
def B__law_heap_text_0 : En → Option Fl :=
  (sExp (xMutP 0 (nam 1) (aCons (bin oAdd (bin (opM gJoin) (cst (.str ", ")) (lcF [3] (.nm 3) (itP true (nam 2)) cYes (opr (callP [false] f__law_view_text) (aCons (nam 3) aNil)))) (bin (sop gMulSI) (cst (.str "-")) (opr (sop gInt) (aCons (bin (sop (gEq false)) (nam 2) (opr oLst aNil)) aNil)))) aNil) mAppend))
def F__law_heap_text : En → Option Fl :=
  (sSeq (sAsg lk__law_heap_text 1 1 (lif (opr oLst aNil)))
    (sSeq (sFor lk__law_heap_text (.nm 2) (itX true (lif (bin oIdx (nam 0) (cst (.int 1)))))
    B__law_heap_text_0)
    (sRet lk__law_heap_text (lif (bin oAdd (bin oAdd (opr (sop gStrD) (aCons (bin oIdx (nam 0) (cst (.int 0))) aNil)) (cst (.str ": "))) (bin (opM gJoin) (cst (.str " / ")) (nam 1)))))))
def f__law_heap_text : Fn := runD 4 1 lk__law_heap_text F__law_heap_text
abbrev s__law_pile : Stmt := top 23
abbrev N__law_pile : List Str := ["_law_script", "_law_k", "_law_cell"]
theorem sc__law_pile : FnScope N__law_pile ["_law_script", "_law_k"] (defScope s__law_pile) := ⟨rfl, rfl, rfl, by decide +kernel, rfl, by decide +kernel, by decide +kernel⟩
def lk__law_pile : Nat → Bool := fun i => false
def F__law_pile : En → Option Fl :=
  (sSeq (sAsg lk__law_pile 2 0 (lif (cst (.int 0))))
    (sSeq (sIf (lifT (tst (bin (sop iLt) (nam 1) (opr (sop gLen) (aCons (nam 0) aNil)))))
    (sAsg lk__law_pile 2 0 (lif (bin oIdx (nam 0) (nam 1))))
    sNil)
    (sRet lk__law_pile (lif (opr oLst (aCons (bin oMul (nam 2) (opr (sop gInt) (aCons (bin (sop iGe) (opr (sop gAbs) (aCons (nam 2) aNil)) (bin (sop iPow) (cst (.int 10)) (cst (.int 18)))) aNil))) (aCons (nam 2) (aCons (bin oMul (cst (.int 97)) (nam 1)) aNil))))))))
def f__law_pile : Fn := runD 3 2 lk__law_pile F__law_pile
abbrev s__law_mixed : Stmt := top 22
abbrev N__law_mixed : List Str := ["_law_cell", "_law_k", "_law_number"]
theorem sc__law_mixed : FnScope N__law_mixed ["_law_cell", "_law_k"] (defScope s__law_mixed) := ⟨rfl, rfl, rfl, by decide +kernel, rfl, by decide +kernel, by decide +kernel⟩
def lk__law_mixed : Nat → Bool := fun i => false
def F__law_mixed : En → Option Fl :=
  (sSeq (sAsg lk__law_mixed 2 0 (lif (bin (sop iMod) (bin oAdd (bin oAdd (bin oMul (bin (sop iMod) (nam 0) (cst (.int 2147483647))) (cst (.int 48271))) (bin oMul (nam 1) (cst (.int 69621)))) (cst (.int 11))) (cst (.int 2147483647)))))
    (sSeq (sAsg lk__law_mixed 2 0 (lif (bin (sop iMod) (bin oMul (nam 2) (nam 2)) (cst (.int 2147483629)))))
    (sRet lk__law_mixed (lif (bin (sop iMod) (bin oMul (nam 2) (nam 2)) (cst (.int 2147483587)))))))
def f__law_mixed : Fn := runD 3 2 lk__law_mixed F__law_mixed
abbrev s__law_take : Stmt := top 24
abbrev N__law_take : List Str := ["_law_pile_here", "_law_many", "_law_digit"]
theorem sc__law_take : FnScope N__law_take ["_law_pile_here", "_law_many"] (defScope s__law_take) := ⟨rfl, rfl, rfl, by decide +kernel, rfl, by decide +kernel, by decide +kernel⟩
def lk__law_take : Nat → Bool := fun i => i == 0
def F__law_take : En → Option Fl :=
  (sSeq (sIf (lifT (tst (bin oIn (bin oIdx (nam 0) (cst (.int 0))) (opr oLst (aCons (cst (.int 0)) (aCons (una (sop (gU fun i => -i)) (cst (.int 1))) aNil))))))
    (sSeq (sSet 0 (nam 0) (cst (.int 2)) (lif (bin oAdd (bin oIdx (nam 0) (cst (.int 2))) (cst (.int 1)))))
    (sRet lk__law_take (lif (bin (sop iMod) (opr (callP [false, false] f__law_mixed) (aCons (bin oIdx (nam 0) (cst (.int 1))) (aCons (bin oIdx (nam 0) (cst (.int 2))) aNil))) (nam 1)))))
    sNil)
    (sSeq (sAsg lk__law_take 2 9 (lif (bin (sop iMod) (bin oIdx (nam 0) (cst (.int 0))) (nam 1))))
    (sSeq (sSet 0 (nam 0) (cst (.int 0)) (lif (bin (sop iDiv) (bin oIdx (nam 0) (cst (.int 0))) (nam 1))))
    (sRet lk__law_take (lif (nam 2))))))
def f__law_take : Fn := runD 3 2 lk__law_take F__law_take
abbrev s__law_heap : Stmt := top 28
abbrev N__law_heap : List Str := ["_law_script", "_law_start", "_law_pile_here", "_law_many", "_law_views", "_law_name", "_law_row", "_law_turn", "_law_mask", "_law_bit", "_law_coin"]
theorem sc__law_heap : FnScope N__law_heap ["_law_script", "_law_start"] (defScope s__law_heap) := ⟨rfl, rfl, rfl, by decide +kernel, rfl, by decide +kernel, by decide +kernel⟩
def lk__law_heap : Nat → Bool := fun i => false
def B__law_heap_0 : En → Option Fl :=
  (sAsg lk__law_heap 8 0 (xbin (sop iOr) (lif (nam 8)) (xbin (sop iShl) (lif (cst (.int 1))) (callI [true, false] f__law_take (lifA (aCons (nam 2) (aCons (nam 3) aNil)))))))
def B__law_heap_1 : En → Option Fl :=
  (sSeq (sAsg lk__law_heap 8 0 (lif (cst (.int 0))))
    (sSeq (sIf (lifT (dAnd (tst (bin (sop iGt) (nam 3) (cst (.int 0)))) (tst (bin (sop iLt) (nam 7) (cst (.int 6))))))
    (sFor lk__law_heap (.nm 9) (itR1X (xCons (callI [true, false] f__law_take (lifA (aCons (nam 2) (aCons (cst (.int 6)) aNil)))) xNil))
    B__law_heap_0)
    sNil)
    (sExp (xMutP 0 (nam 6) (aCons (lcF [10] (.nm 10) (itR1 (aCons (nam 3) aNil)) (tst (bin (sop (gEq false)) (bin (sop iAnd) (bin (sop iShr) (nam 8) (nam 10)) (cst (.int 1))) (cst (.int 1)))) (nam 10)) aNil) mAppend))))
def B__law_heap_2 : En → Option Fl :=
  (sSeq (sAsg lk__law_heap 2 9 (lif (opr (callP [false, false] f__law_pile) (aCons (nam 0) (aCons (bin oAdd (bin oAdd (nam 1) (cst (.int 1))) (nam 5)) aNil)))))
    (sSeq (sAsg lk__law_heap 6 1 (lif (opr oLst aNil)))
    (sSeq (sFor lk__law_heap (.nm 7) (itR1X (xCons (xbin oIdx (lif (opr oLst (aCons (cst (.int 3)) (aCons (cst (.int 0)) (aCons (cst (.int 5)) (aCons (cst (.int 40)) aNil)))))) (callI [true, false] f__law_take (lifA (aCons (nam 2) (aCons (cst (.int 4)) aNil))))) xNil))
    B__law_heap_1)
    (sExp (xMutP 0 (nam 4) (aCons (nam 6) aNil) mAppend)))))
def F__law_heap : En → Option Fl :=
  (sSeq (sAsg lk__law_heap 2 9 (lif (opr (callP [false, false] f__law_pile) (aCons (nam 0) (aCons (nam 1) aNil)))))
    (sSeq (sAsg lk__law_heap 3 0 (xbin oIdx (xop oLst (xCons (callI [true, false] f__law_take (lifA (aCons (nam 2) (aCons (cst (.int 41)) aNil)))) (xCons (callI [true, false] f__law_take (lifA (aCons (nam 2) (aCons (cst (.int 12)) aNil)))) (xCons (lif (cst (.int 40))) xNil)))) (callI [true, false] f__law_take (lifA (aCons (nam 2) (aCons (cst (.int 3)) aNil))))))
    (sSeq (sAsg lk__law_heap 4 1 (lif (opr oLst aNil)))
    (sSeq (sFor lk__law_heap (.nm 5) (itR1X (xCons (xbin oAdd (lif (cst (.int 1))) (callI [true, false] f__law_take (lifA (aCons (nam 2) (aCons (cst (.int 4)) aNil))))) xNil))
    B__law_heap_2)
    (sRet lk__law_heap (lif (opr oTup (aCons (nam 3) (aCons (nam 4) aNil)))))))))
def f__law_heap : Fn := runD 11 2 lk__law_heap F__law_heap
abbrev s__law_bent : Stmt := top 32
abbrev N__law_bent : List Str := ["_law_text", "_law_pile_here", "_law_signs", "_law_at", "_law_sign", "_law_way", "_law_swapped", "_law_far"]
theorem sc__law_bent : FnScope N__law_bent ["_law_text", "_law_pile_here"] (defScope s__law_bent) := ⟨rfl, rfl, rfl, by decide +kernel, rfl, by decide +kernel, by decide +kernel⟩
def lk__law_bent : Nat → Bool := fun i => i == 1
def F__law_bent : En → Option Fl :=
  (sSeq (sAsg lk__law_bent 2 0 (lif (cst (.str " 0123456789:/,()-+ab"))))
    (sSeq (sAsg lk__law_bent 3 0 (callI [true, false] f__law_take (lifA (aCons (nam 1) (aCons (bin oAdd (opr (sop gLen) (aCons (nam 0) aNil)) (cst (.int 1))) aNil)))))
    (sSeq (sAsg lk__law_bent 4 0 (xbin (sop gSItem) (lif (nam 2)) (callI [true, false] f__law_take (lifA (aCons (nam 1) (aCons (cst (.int 20)) aNil))))))
    (sSeq (sAsg lk__law_bent 5 0 (callI [true, false] f__law_take (lifA (aCons (nam 1) (aCons (cst (.int 8)) aNil)))))
    (sSeq (sIf (lifT (tst (bin (sop (gEq false)) (nam 5) (cst (.int 0)))))
    (sRet lk__law_bent (lif (bin oAdd (bin oAdd (oSl (nam 0) none (some (nam 3))) (nam 4)) (oSl (nam 0) (some (nam 3)) none))))
    sNil)
    (sSeq (sIf (lifT (tst (bin (sop (gEq false)) (nam 5) (cst (.int 1)))))
    (sRet lk__law_bent (lif (bin oAdd (oSl (nam 0) none (some (nam 3))) (oSl (nam 0) (some (bin oAdd (nam 3) (cst (.int 1)))) none))))
    sNil)
    (sSeq (sIf (lifT (tst (bin (sop (gEq false)) (nam 5) (cst (.int 2)))))
    (sRet lk__law_bent (lif (bin oAdd (bin oAdd (oSl (nam 0) none (some (nam 3))) (nam 4)) (oSl (nam 0) (some (bin oAdd (nam 3) (cst (.int 1)))) none))))
    sNil)
    (sSeq (sIf (lifT (tst (bin (sop (gEq false)) (nam 5) (cst (.int 3)))))
    (sSeq (sAsg lk__law_bent 6 0 (lif (bin oAdd (oSl (nam 0) (some (bin oAdd (nam 3) (cst (.int 1)))) (some (bin oAdd (nam 3) (cst (.int 2))))) (oSl (nam 0) (some (nam 3)) (some (bin oAdd (nam 3) (cst (.int 1))))))))
    (sRet lk__law_bent (lif (bin oAdd (bin oAdd (oSl (nam 0) none (some (nam 3))) (nam 6)) (oSl (nam 0) (some (bin oAdd (nam 3) (cst (.int 2)))) none)))))
    sNil)
    (sSeq (sAsg lk__law_bent 7 0 (xbin oAdd (lif (bin oAdd (nam 3) (cst (.int 1)))) (callI [true, false] f__law_take (lifA (aCons (nam 1) (aCons (cst (.int 8)) aNil))))))
    (sSeq (sIf (lifT (tst (bin (sop (gEq false)) (nam 5) (cst (.int 4)))))
    (sRet lk__law_bent (lif (bin oAdd (oSl (nam 0) none (some (nam 7))) (oSl (nam 0) (some (nam 3)) none))))
    sNil)
    (sSeq (sIf (lifT (tst (bin (sop (gEq false)) (nam 5) (cst (.int 5)))))
    (sRet lk__law_bent (lif (bin oAdd (oSl (nam 0) none (some (nam 3))) (oSl (nam 0) (some (nam 7)) none))))
    sNil)
    (sSeq (sIf (lifT (tst (bin (sop (gEq false)) (nam 5) (cst (.int 6)))))
    (sRet lk__law_bent (xbin oAdd (lif (nam 0)) (xbin oIdx (lif (opr oLst (aCons (cst (.str " / -")) (aCons (cst (.str " / 0")) (aCons (cst (.str ", ()")) (aCons (cst (.str ", 0")) (aCons (cst (.str " 39")) (aCons (cst (.str " 40")) (aCons (cst (.str "/ ()")) (aCons (cst (.str " / - / -")) aNil)))))))))) (callI [true, false] f__law_take (lifA (aCons (nam 1) (aCons (cst (.int 8)) aNil)))))))
    sNil)
    (sRet lk__law_bent (lif (nam 0)))))))))))))))
def f__law_bent : Fn := runD 8 2 lk__law_bent F__law_bent
abbrev s__law_count : Stmt := top 29
abbrev N__law_count : List Str := ["_law_text", "_law_sign"]
theorem sc__law_count : FnScope N__law_count ["_law_text"] (defScope s__law_count) := ⟨rfl, rfl, rfl, by decide +kernel, rfl, by decide +kernel, by decide +kernel⟩
def lk__law_count : Nat → Bool := fun i => false
def F__law_count : En → Option Fl :=
  (sSeq (sIf (lifT (dOr (tst (bin (sop (gEqS false)) (nam 0) (cst (.str "")))) (dOr (tst (bin (sop iGt) (opr (sop gLen) (aCons (nam 0) aNil)) (cst (.int 40)))) (dAnd (tst (bin (sop (gEqS false)) (bin (sop gSItem) (nam 0) (cst (.int 0))) (cst (.str "0")))) (tst (bin (sop (gEqS true)) (nam 0) (cst (.str "0"))))))))
    (sRet lk__law_count (lif (una (sop (gU fun i => -i)) (cst (.int 1)))))
    sNil)
    (sSeq (sIf (lifT (tst (bin (sop (gEq true)) (lcF [1] (.nm 1) (itS (nam 0)) (tst (bin (sop (gInC true)) (nam 1) (cst (.str "0123456789")))) (nam 1)) (opr oLst aNil))))
    (sRet lk__law_count (lif (una (sop (gU fun i => -i)) (cst (.int 1)))))
    sNil)
    (sRet lk__law_count (lif (opr (sop gIntS) (aCons (nam 0) aNil))))))
def f__law_count : Fn := runD 2 1 lk__law_count F__law_count
abbrev s__law_view_read : Stmt := top 30
abbrev N__law_view_read : List Str := ["_law_many", "_law_text", "_law_view", "_law_k", "_law_coin", "_law_one"]
theorem sc__law_view_read : FnScope N__law_view_read ["_law_many", "_law_text"] (defScope s__law_view_read) := ⟨rfl, rfl, rfl, by decide +kernel, rfl, by decide +kernel, by decide +kernel⟩
def lk__law_view_read : Nat → Bool := fun i => false
def B__law_view_read_0 : En → Option Fl :=
  (sIf (lifT (dOr (tst (bin (sop iLt) (nam 4) (cst (.int 0)))) (dOr (tst (bin (sop iGe) (nam 4) (nam 0))) (dAnd (tst (bin (sop iGt) (nam 3) (cst (.int 0)))) (tst (bin (sop iLe) (nam 4) (bin oIdx (nam 2) (bin (sop iSub) (nam 3) (cst (.int 1))))))))))
    (sRet lk__law_view_read (lif (cst .non)))
    sNil)
def F__law_view_read : En → Option Fl :=
  (sSeq (sIf (lifT (tst (bin (sop (gEqS false)) (nam 1) (cst (.str "()")))))
    (sRet lk__law_view_read (lif (opr oLst aNil)))
    sNil)
    (sSeq (sAsg lk__law_view_read 2 9 (lif (lcF [5] (.nm 5) (itP true (bin (opM gSplit) (nam 1) (cst (.str " ")))) cYes (opr (callP [false] f__law_count) (aCons (nam 5) aNil)))))
    (sSeq (sFor lk__law_view_read (.tp [(.nm 3), (.nm 4)]) (itEnX (lifA (aCons (nam 2) aNil)))
    B__law_view_read_0)
    (sRet lk__law_view_read (lif (nam 2))))))
def f__law_view_read : Fn := runD 6 2 lk__law_view_read F__law_view_read
abbrev s__law_heap_read : Stmt := top 31
abbrev N__law_heap_read : List Str := ["_law_text", "_law_parts", "_law_many", "_law_views", "_law_name", "_law_row", "_law_one"]
theorem sc__law_heap_read : FnScope N__law_heap_read ["_law_text"] (defScope s__law_heap_read) := ⟨rfl, rfl, rfl, by decide +kernel, rfl, by decide +kernel, by decide +kernel⟩
def lk__law_heap_read : Nat → Bool := fun i => false
def B__law_heap_read_0 : En → Option Fl :=
  (sSeq (sAsg lk__law_heap_read 5 0 (lif (opr oLst aNil)))
    (sSeq (sIf (lifT (tst (bin (sop (gEqS true)) (nam 4) (cst (.str "-")))))
    (sAsg lk__law_heap_read 5 0 (lif (lcF [6] (.nm 6) (itP true (bin (opM gSplit) (nam 4) (cst (.str ", ")))) cYes (opr (callP [false, false] f__law_view_read) (aCons (nam 2) (aCons (nam 6) aNil))))))
    sNil)
    (sSeq (sIf (lifT (dOr (tst (bin oIn (cst .non) (nam 5))) (tst (bin (sop iGt) (opr (sop gLen) (aCons (nam 5) aNil)) (cst (.int 40))))))
    (sRet lk__law_heap_read (lif (cst .non)))
    sNil)
    (sExp (xMutP 0 (nam 3) (aCons (nam 5) aNil) mAppend)))))
def F__law_heap_read : En → Option Fl :=
  (sSeq (sAsg lk__law_heap_read 1 0 (lif (bin (opM gSplit) (nam 0) (cst (.str ": ")))))
    (sSeq (sAsg lk__law_heap_read 2 0 (lif (opr (callP [false] f__law_count) (aCons (bin oIdx (nam 1) (cst (.int 0))) aNil))))
    (sSeq (sIf (lifT (dOr (tst (bin (sop (gEq true)) (opr (sop gLen) (aCons (nam 1) aNil)) (cst (.int 2)))) (dOr (tst (bin (sop iLt) (nam 2) (cst (.int 0)))) (tst (bin (sop iGt) (nam 2) (cst (.int 40)))))))
    (sRet lk__law_heap_read (lif (cst .non)))
    sNil)
    (sSeq (sAsg lk__law_heap_read 3 1 (lif (opr oLst aNil)))
    (sSeq (sFor lk__law_heap_read (.nm 4) (itX true (lif (bin (opM gSplit) (bin oIdx (nam 1) (cst (.int 1))) (cst (.str " / ")))))
    B__law_heap_read_0)
    (sSeq (sIf (lifT (tst (bin (sop iGt) (opr (sop gLen) (aCons (nam 3) aNil)) (cst (.int 4)))))
    (sRet lk__law_heap_read (lif (cst .non)))
    sNil)
    (sRet lk__law_heap_read (lif (opr oTup (aCons (nam 2) (aCons (nam 3) aNil)))))))))))
def f__law_heap_read : Fn := runD 7 1 lk__law_heap_read F__law_heap_read
abbrev s_look : Stmt := top 16
abbrev N_look : List Str := ["good"]
theorem sc_look : FnScope N_look ["good"] (defScope s_look) := ⟨rfl, rfl, rfl, by decide +kernel, rfl, by decide +kernel, by decide +kernel⟩
def lk_look : Nat → Bool := fun i => false
def F_look : En → Option Fl :=
  (sIf (lifT (dNot (tst (nam 0))))
    (fun _ => none)
    sNil)
def f_look : Fn := runD 1 1 lk_look F_look
def r_look : En → Option (Exn × En) :=
  (rIf (dNot (tst (nam 0)))
    (sRE (fun _ => some ⟨0, (ca.at_ 0), []⟩))
    (fun _ => none))
def g_look : List M → Option Exn := runR 1 1 r_look
abbrev s_number_in : Stmt := top 17
abbrev N_number_in : List Str := ["text", "sign"]
theorem sc_number_in : FnScope N_number_in ["text"] (defScope s_number_in) := ⟨rfl, rfl, rfl, by decide +kernel, rfl, by decide +kernel, by decide +kernel⟩
def lk_number_in : Nat → Bool := fun i => false
def B_number_in_0 : En → Option Fl :=
  (sExp (lif (opr (callP [false] f_look) (aCons (bin (sop (gInC false)) (nam 1) (cst (.str "0123456789"))) aNil))))
def F_number_in : En → Option Fl :=
  (sSeq (sExp (lif (opr (callP [false] f_look) (aCons (vAnd (bin (sop (gEqS true)) (nam 0) (cst (.str ""))) (vAnd (bin (sop iLe) (opr (sop gLen) (aCons (nam 0) aNil)) (cst (.int 40))) (vOr (bin (sop (gEqS true)) (bin (sop gSItem) (nam 0) (cst (.int 0))) (cst (.str "0"))) (bin (sop (gEqS false)) (nam 0) (cst (.str "0")))))) aNil))))
    (sSeq (sFor lk_number_in (.nm 1) (lifI (itS (nam 0)))
    B_number_in_0)
    (sRet lk_number_in (lif (opr (sop gIntS) (aCons (nam 0) aNil))))))
def f_number_in : Fn := runD 2 1 lk_number_in F_number_in
def B_number_in_1 : En → Option Fl :=
  (sExp (lif (opr (callP [false] f_look) (aCons (bin (sop (gInC false)) (nam 1) (cst (.str "0123456789"))) aNil))))
def R_number_in_2 : En → Option (Exn × En) :=
  (sRE (rCall [false] g_look (aCons (bin (sop (gInC false)) (nam 1) (cst (.str "0123456789"))) aNil)))
def r_number_in : En → Option (Exn × En) :=
  (rSeq (sRE (rCall [false] g_look (aCons (vAnd (bin (sop (gEqS true)) (nam 0) (cst (.str ""))) (vAnd (bin (sop iLe) (opr (sop gLen) (aCons (nam 0) aNil)) (cst (.int 40))) (vOr (bin (sop (gEqS true)) (bin (sop gSItem) (nam 0) (cst (.int 0))) (cst (.str "0"))) (bin (sop (gEqS false)) (nam 0) (cst (.str "0")))))) aNil))) (sExp (lif (opr (callP [false] f_look) (aCons (vAnd (bin (sop (gEqS true)) (nam 0) (cst (.str ""))) (vAnd (bin (sop iLe) (opr (sop gLen) (aCons (nam 0) aNil)) (cst (.int 40))) (vOr (bin (sop (gEqS true)) (bin (sop gSItem) (nam 0) (cst (.int 0))) (cst (.str "0"))) (bin (sop (gEqS false)) (nam 0) (cst (.str "0")))))) aNil))))
    (rFor lk_number_in (.nm 1) (lifI (itS (nam 0)))
    B_number_in_1 R_number_in_2))
def g_number_in : List M → Option Exn := runR 2 1 r_number_in
abbrev s_view_read : Stmt := top 18
abbrev N_view_read : List Str := ["many", "text", "view", "place", "coin", "part"]
theorem sc_view_read : FnScope N_view_read ["many", "text"] (defScope s_view_read) := ⟨rfl, rfl, rfl, by decide +kernel, rfl, by decide +kernel, by decide +kernel⟩
def lk_view_read : Nat → Bool := fun i => false
def B_view_read_0 : En → Option Fl :=
  (sExp (lif (opr (callP [false] f_look) (aCons (vAnd (bin (sop iLt) (nam 4) (nam 0)) (vOr (bin (sop (gEq false)) (nam 3) (cst (.int 0))) (bin (sop iLt) (bin oIdx (nam 2) (bin (sop iSub) (nam 3) (cst (.int 1)))) (nam 4)))) aNil))))
def F_view_read : En → Option Fl :=
  (sSeq (sIf (lifT (tst (bin (sop (gEqS false)) (nam 1) (cst (.str "()")))))
    (sRet lk_view_read (lif (opr oLst aNil)))
    sNil)
    (sSeq (sAsg lk_view_read 2 9 (lif (lcF [5] (.nm 5) (itP true (bin (opM gSplit) (nam 1) (cst (.str " ")))) cYes (opr (callP [false] f_number_in) (aCons (nam 5) aNil)))))
    (sSeq (sFor lk_view_read (.tp [(.nm 3), (.nm 4)]) (itEnX (lifA (aCons (nam 2) aNil)))
    B_view_read_0)
    (sRet lk_view_read (lif (nam 2))))))
def f_view_read : Fn := runD 6 2 lk_view_read F_view_read
def B_view_read_1 : En → Option Fl :=
  (sExp (lif (opr (callP [false] f_look) (aCons (vAnd (bin (sop iLt) (nam 4) (nam 0)) (vOr (bin (sop (gEq false)) (nam 3) (cst (.int 0))) (bin (sop iLt) (bin oIdx (nam 2) (bin (sop iSub) (nam 3) (cst (.int 1)))) (nam 4)))) aNil))))
def R_view_read_2 : En → Option (Exn × En) :=
  (sRE (rCall [false] g_look (aCons (vAnd (bin (sop iLt) (nam 4) (nam 0)) (vOr (bin (sop (gEq false)) (nam 3) (cst (.int 0))) (bin (sop iLt) (bin oIdx (nam 2) (bin (sop iSub) (nam 3) (cst (.int 1)))) (nam 4)))) aNil)))
def r_view_read : En → Option (Exn × En) :=
  (rNx (sIf (lifT (tst (bin (sop (gEqS false)) (nam 1) (cst (.str "()")))))
    (sRet lk_view_read (lif (opr oLst aNil)))
    sNil)
    (rSeq (sRE (rcF [5] (.nm 5) (itP true (bin (opM gSplit) (nam 1) (cst (.str " ")))) cYes (opr (callP [false] f_number_in) (aCons (nam 5) aNil)) (rCall [false] g_number_in (aCons (nam 5) aNil)))) (sAsg lk_view_read 2 9 (lif (lcF [5] (.nm 5) (itP true (bin (opM gSplit) (nam 1) (cst (.str " ")))) cYes (opr (callP [false] f_number_in) (aCons (nam 5) aNil)))))
    (rFor lk_view_read (.tp [(.nm 3), (.nm 4)]) (itEnX (lifA (aCons (nam 2) aNil)))
    B_view_read_1 R_view_read_2)))
def g_view_read : List M → Option Exn := runR 6 2 r_view_read
abbrev s_views_read : Stmt := top 19
abbrev N_views_read : List Str := ["many", "text", "parts", "part"]
theorem sc_views_read : FnScope N_views_read ["many", "text"] (defScope s_views_read) := ⟨rfl, rfl, rfl, by decide +kernel, rfl, by decide +kernel, by decide +kernel⟩
def lk_views_read : Nat → Bool := fun i => false
def F_views_read : En → Option Fl :=
  (sSeq (sIf (lifT (tst (bin (sop (gEqS false)) (nam 1) (cst (.str "-")))))
    (sRet lk_views_read (lif (opr oLst aNil)))
    sNil)
    (sSeq (sAsg lk_views_read 2 0 (lif (bin (opM gSplit) (nam 1) (cst (.str ", ")))))
    (sSeq (sExp (lif (opr (callP [false] f_look) (aCons (bin (sop iLe) (opr (sop gLen) (aCons (nam 2) aNil)) (cst (.int 40))) aNil))))
    (sRet lk_views_read (lif (lcF [3] (.nm 3) (itP true (nam 2)) cYes (opr (callP [false, false] f_view_read) (aCons (nam 0) (aCons (nam 3) aNil)))))))))
def f_views_read : Fn := runD 4 2 lk_views_read F_views_read
def r_views_read : En → Option (Exn × En) :=
  (rNx (sIf (lifT (tst (bin (sop (gEqS false)) (nam 1) (cst (.str "-")))))
    (sRet lk_views_read (lif (opr oLst aNil)))
    sNil)
    (rNx (sAsg lk_views_read 2 0 (lif (bin (opM gSplit) (nam 1) (cst (.str ", ")))))
    (rSeq (sRE (rCall [false] g_look (aCons (bin (sop iLe) (opr (sop gLen) (aCons (nam 2) aNil)) (cst (.int 40))) aNil))) (sExp (lif (opr (callP [false] f_look) (aCons (bin (sop iLe) (opr (sop gLen) (aCons (nam 2) aNil)) (cst (.int 40))) aNil))))
    (sRE (rcF [3] (.nm 3) (itP true (nam 2)) cYes (opr (callP [false, false] f_view_read) (aCons (nam 0) (aCons (nam 3) aNil))) (rCall [false, false] g_view_read (aCons (nam 0) (aCons (nam 3) aNil))))))))
def g_views_read : List M → Option Exn := runR 4 2 r_views_read
abbrev s_read_heap : Stmt := top 20
abbrev N_read_heap : List Str := ["text", "ahead", "mark", "behind", "many", "names", "part"]
theorem sc_read_heap : FnScope N_read_heap ["text"] (defScope s_read_heap) := ⟨rfl, rfl, rfl, by decide +kernel, rfl, by decide +kernel, by decide +kernel⟩
def lk_read_heap : Nat → Bool := fun i => false
def F_read_heap : En → Option Fl :=
  (sSeq (sUnp lk_read_heap (.tp [(.nm 1), (.nm 2), (.nm 3)]) (lif (bin (opM gPart) (nam 0) (cst (.str ": ")))))
    (sSeq (sExp (lif (opr (callP [false] f_look) (aCons (bin (sop (gEqS true)) (nam 2) (cst (.str ""))) aNil))))
    (sSeq (sAsg lk_read_heap 4 0 (lif (opr (callP [false] f_number_in) (aCons (nam 1) aNil))))
    (sSeq (sAsg lk_read_heap 5 0 (lif (bin (opM gSplit) (nam 3) (cst (.str " / ")))))
    (sSeq (sExp (lif (opr (callP [false] f_look) (aCons (vAnd (bin (sop iLe) (nam 4) (cst (.int 40))) (bin (sop iLe) (opr (sop gLen) (aCons (nam 5) aNil)) (opr (sop gLen) (aCons (cst (.str "abcd")) aNil)))) aNil))))
    (sRet lk_read_heap (lif (opr oTup (aCons (nam 4) (aCons (lcF [6] (.nm 6) (itP true (nam 5)) cYes (opr (callP [false, false] f_views_read) (aCons (nam 4) (aCons (nam 6) aNil)))) aNil))))))))))
def f_read_heap : Fn := runD 7 1 lk_read_heap F_read_heap
def r_read_heap : En → Option (Exn × En) :=
  (rNx (sUnp lk_read_heap (.tp [(.nm 1), (.nm 2), (.nm 3)]) (lif (bin (opM gPart) (nam 0) (cst (.str ": ")))))
    (rSeq (sRE (rCall [false] g_look (aCons (bin (sop (gEqS true)) (nam 2) (cst (.str ""))) aNil))) (sExp (lif (opr (callP [false] f_look) (aCons (bin (sop (gEqS true)) (nam 2) (cst (.str ""))) aNil))))
    (rSeq (sRE (rCall [false] g_number_in (aCons (nam 1) aNil))) (sAsg lk_read_heap 4 0 (lif (opr (callP [false] f_number_in) (aCons (nam 1) aNil))))
    (rNx (sAsg lk_read_heap 5 0 (lif (bin (opM gSplit) (nam 3) (cst (.str " / ")))))
    (rSeq (sRE (rCall [false] g_look (aCons (vAnd (bin (sop iLe) (nam 4) (cst (.int 40))) (bin (sop iLe) (opr (sop gLen) (aCons (nam 5) aNil)) (opr (sop gLen) (aCons (cst (.str "abcd")) aNil)))) aNil))) (sExp (lif (opr (callP [false] f_look) (aCons (vAnd (bin (sop iLe) (nam 4) (cst (.int 40))) (bin (sop iLe) (opr (sop gLen) (aCons (nam 5) aNil)) (opr (sop gLen) (aCons (cst (.str "abcd")) aNil)))) aNil))))
    (sRE (rTl (nam 4) (rcF [6] (.nm 6) (itP true (nam 5)) cYes (opr (callP [false, false] f_views_read) (aCons (nam 4) (aCons (nam 6) aNil))) (rCall [false, false] g_views_read (aCons (nam 4) (aCons (nam 6) aNil)))))))))))
def g_read_heap : List M → Option Exn := runR 7 1 r_read_heap
abbrev s__law_is_text : Stmt := top 25
abbrev N__law_is_text : List Str := ["_law_caught", "_law_told"]
theorem sc__law_is_text : FnScope N__law_is_text ["_law_caught"] (defScope s__law_is_text) := ⟨rfl, rfl, rfl, by decide +kernel, rfl, by decide +kernel, by decide +kernel⟩
def lk__law_is_text : Nat → Bool := fun i => false
def F__law_is_text : En → Option Fl :=
  (sSeq (sAsg lk__law_is_text 1 0 (lif (opr oLst (aCons (oIsC ca.at_ (some false) (kEL [(0, false)]) (nam 0)) (aCons (oIsC ca.at_ (some false) (kEL [(0, false)]) (nam 0)) (aCons (oIsC ca.at_ (some false) (kEL [(0, false)]) (nam 0)) aNil))))))
    (sSeq (sAsg lk__law_is_text 1 0 (lif (bin oAdd (nam 1) (opr oLst (aCons (oIsC ca.at_ (some false) (kEL [(0, false)]) (nam 0)) (aCons (oIsC ca.at_ (some false) (kEL [(0, false)]) (nam 0)) (aCons (oIsC ca.at_ (some false) (kEL [(0, false)]) (nam 0)) aNil)))))))
    (sSeq (sIf (lifT (tst (bin oIn (cst (.bl true)) (bin oAdd (nam 1) (opr oLst (aCons (oIsC ca.at_ (some false) (kEL [(0, false)]) (nam 0)) aNil))))))
    (sRet lk__law_is_text (lif (cst (.bl false))))
    sNil)
    (sRet lk__law_is_text (lif (vAnd (oIsC ca.at_ (some false) (kEL [(0, true)]) (nam 0)) (oIsC ca.at_ (some false) (kEL [(0, true)]) (nam 0))))))))
def f__law_is_text : Fn := runD 2 1 lk__law_is_text F__law_is_text
abbrev s__law_judged : Stmt := top 34
abbrev N__law_judged : List Str := ["_law_text", "_law_due", "_law_found", "_law_caught", "e"]
theorem sc__law_judged : FnScope N__law_judged ["_law_text"] (defScope s__law_judged) := ⟨rfl, rfl, rfl, by decide +kernel, rfl, by decide +kernel, by decide +kernel⟩
def lk__law_judged : Nat → Bool := fun i => false
def R__law_judged_0 : En → Option (Exn × En) :=
  (sRE (rCall [false] g_read_heap (aCons (nam 0) aNil)))
def B__law_judged_1 : En → Option Fl :=
  (sAsg lk__law_judged 2 0 (lif (opr (callP [false] f_read_heap) (aCons (nam 0) aNil))))
def F__law_judged : En → Option Fl :=
  (sSeq (sAsg lk__law_judged 1 0 (lif (opr (callP [false] f__law_heap_read) (aCons (nam 0) aNil))))
    (sSeq (sAsg lk__law_judged 2 0 (lif (cst .non)))
    (sSeq (sAsg lk__law_judged 3 0 (lif (cst .non)))
    (sSeq (sTry (okX [0]) lk__law_judged 4 3 R__law_judged_0 B__law_judged_1)
    (sSeq (sIf (lifT (tst (bin (sop (gIsN false)) (nam 1) (cst .non))))
    (sRet lk__law_judged (lif (opr (callP [false] f__law_is_text) (aCons (nam 3) aNil))))
    sNil)
    (sRet lk__law_judged (lif (vAnd (bin (sop (gIsN false)) (nam 3) (cst .non)) (bin (sop (gEq false)) (nam 2) (nam 1))))))))))
def f__law_judged : Fn := runD 5 1 lk__law_judged F__law_judged
abbrev s_law : Stmt := top 35
abbrev N_law : List Str := ["_law_script", "_law_turn", "_law_text", "_law_pile_here", "_law_time"]
theorem sc_law : FnScope N_law ["_law_script"] (defScope s_law) := ⟨rfl, rfl, rfl, by decide +kernel, rfl, by decide +kernel, by decide +kernel⟩
def lk_law : Nat → Bool := fun i => false
def B_law_0 : En → Option Fl :=
  (sSeq (sAsg lk_law 2 0 (callJ [false, true] f__law_bent (lifA (aCons (nam 2) (aCons (nam 3) aNil)))))
    (sIf (lifT (dNot (tst (opr (callP [false] f__law_judged) (aCons (nam 2) aNil)))))
    (sRet lk_law (lif (cst (.bl false))))
    sNil))
def B_law_1 : En → Option Fl :=
  (sSeq (sAsg lk_law 2 0 (lif (opr (callP [false] f__law_heap_text) (aCons (opr (callP [false, false] f__law_heap) (aCons (nam 0) (aCons (bin oMul (cst (.int 6)) (nam 1)) aNil))) aNil))))
    (sSeq (sAsg lk_law 3 9 (lif (opr (callP [false, false] f__law_pile) (aCons (nam 0) (aCons (bin oAdd (bin oMul (cst (.int 6)) (nam 1)) (cst (.int 5))) aNil)))))
    (sFor lk_law (.nm 4) (lifI (itR1 (aCons (cst (.int 3)) aNil)))
    B_law_0)))
def B_law_2 : En → Option Fl :=
  (sIf (lifT (dNot (tst (opr (callP [false] f__law_judged) (aCons (nam 2) aNil)))))
    (sRet lk_law (lif (cst (.bl false))))
    sNil)
def F_law : En → Option Fl :=
  (sSeq (sFor lk_law (.nm 1) (lifI (itR1 (aCons (cst (.int 9)) aNil)))
    B_law_1)
    (sSeq (sFor lk_law (.nm 2) (itX true (lif (opr (callP [] f__law_odd) aNil)))
    B_law_2)
    (sRet lk_law (lif (cst (.bl true))))))
def f_law : Fn := runD 5 1 lk_law F_law
end G78
end
section
namespace G78
open PySem PySem.Spec PyProof.Rows L2 T2
set_option Elab.async false
set_option linter.all false
set_option maxRecDepth 100000
set_option maxHeartbeats 4000000
variable [ca : ClsA]
structure Txt (K : PySem.W.Frag) (mg : Str → Option Value) : Prop where
  b_str : mg "str" = none
  b_int : mg "int" = none
  b_len : mg "len" = none
  b_abs : mg "abs" = none
  b_range : mg "range" = none
  b_enumerate : mg "enumerate" = none
  b_isinstance : mg "isinstance" = none
  b_ValueError : mg "ValueError" = none
  c_MOST_FIGURES : ∃ t, mg "MOST_FIGURES" = some (.int 40 t)
  c_FIGURES : ∃ t, mg "FIGURES" = some (.str "0123456789" t)
  c_MOST_VIEWS : ∃ t, mg "MOST_VIEWS" = some (.int 40 t)
  c_MOST_COINS : ∃ t, mg "MOST_COINS" = some (.int 40 t)
  c_LETTERS : ∃ t, mg "LETTERS" = some (.str "abcd" t)
  g_NoText : mg "NoText" = some (.ref (ca.at_ 0))
  q_NoText : PySem.W.excIn K (ca.at_ 0) [.type "ValueError", .type "Exception", .type "BaseException", .type "object"] "ValueError.__new__" = true
  kp_NoText : PySem.W.keepIn K (.ref (ca.at_ 0)) = true
  sb_NoText : PySem.W.subIn K (.ref (ca.at_ 0)) (.type "BaseException") = some true
  ty_NoText : PySem.W.typeIn K (.ref (ca.at_ 0)) = some (.type "type")
  g_NoTable : mg "NoTable" = some (.ref (ca.at_ 1))
  kn_NoTable : PySem.W.kitOne K (.type "NoneType") (.ref (ca.at_ 1)) = some false
  ex_NoText : ExcC K (ca.at_ 0)
  ki_NoText_NoTable : PySem.W.kitOne K (.ref (ca.at_ 0)) (.ref (ca.at_ 1)) = some false
  g_NoGroup : mg "NoGroup" = some (.ref (ca.at_ 2))
  kn_NoGroup : PySem.W.kitOne K (.type "NoneType") (.ref (ca.at_ 2)) = some false
  ki_NoText_NoGroup : PySem.W.kitOne K (.ref (ca.at_ 0)) (.ref (ca.at_ 2)) = some false
  g_NoCount : mg "NoCount" = some (.ref (ca.at_ 3))
  kn_NoCount : PySem.W.kitOne K (.type "NoneType") (.ref (ca.at_ 3)) = some false
  ki_NoText_NoCount : PySem.W.kitOne K (.ref (ca.at_ 0)) (.ref (ca.at_ 3)) = some false
  g_NoPlace : mg "NoPlace" = some (.ref (ca.at_ 4))
  kn_NoPlace : PySem.W.kitOne K (.type "NoneType") (.ref (ca.at_ 4)) = some false
  ki_NoText_NoPlace : PySem.W.kitOne K (.ref (ca.at_ 0)) (.ref (ca.at_ 4)) = some false
  g_NoLine : mg "NoLine" = some (.ref (ca.at_ 5))
  kn_NoLine : PySem.W.kitOne K (.type "NoneType") (.ref (ca.at_ 5)) = some false
  ki_NoText_NoLine : PySem.W.kitOne K (.ref (ca.at_ 0)) (.ref (ca.at_ 5)) = some false
  g_TooMany : mg "TooMany" = some (.ref (ca.at_ 6))
  kn_TooMany : PySem.W.kitOne K (.type "NoneType") (.ref (ca.at_ 6)) = some false
  ki_NoText_TooMany : PySem.W.kitOne K (.ref (ca.at_ 0)) (.ref (ca.at_ 6)) = some false
  g_NoHeap : mg "NoHeap" = some (.ref (ca.at_ 7))
  kn_NoHeap : PySem.W.kitOne K (.type "NoneType") (.ref (ca.at_ 7)) = some false
  ki_NoText_NoHeap : PySem.W.kitOne K (.ref (ca.at_ 0)) (.ref (ca.at_ 7)) = some false
  kn_NoText : PySem.W.kitOne K (.type "NoneType") (.ref (ca.at_ 0)) = some false
  ki_NoText_NoText : PySem.W.kitOne K (.ref (ca.at_ 0)) (.ref (ca.at_ 0)) = some true
  kn_ValueError : PySem.W.kitOne K (.type "NoneType") (.type "ValueError") = some false
  ki_NoText_ValueError : PySem.W.kitOne K (.ref (ca.at_ 0)) (.type "ValueError") = some true
  em_NoText_TellError : PySem.W.exmOne K (.ref (ca.at_ 0)) (.ref (ca.at_ 8)) = some true
  g_TellError : mg "TellError" = some (.ref (ca.at_ 8))
section
variable {P : Program} {w : World} {K : PySem.W.Frag} {mg : Str → Option Value} {base : Heap}
theorem ok__law_odd {f : Addr} {fd : FuncData} (T : Txt K mg) (F : Fun K "_law_odd" "_law_odd" s__law_odd f fd) : FnG P w K mg base CX0 1 f fd [] (SpI K f__law_odd) := by
  refine def_ok (k := 0) (N := N__law_odd) (lk := lk__law_odd) (fS := F__law_odd) F sc__law_odd fun cdv A outer s H E hr => ?_
  exact (pds_cons (pds_set (i := 0) sc__law_odd.nd (px_of (pd_lst (pda_cons pd_str (pda_cons pd_str (pda_cons pd_str (pda_cons pd_str (pda_cons pd_str (pda_cons pd_str (pda_cons pd_str (pda_cons pd_str (pda_cons pd_str (pda_cons pd_str (pda_cons pd_str (pda_cons pd_str pda_nil)))))))))))))))
      (pds_cons (pds_set (i := 0) sc__law_odd.nd (px_of (pd_bin op_addA s_addA (pd_name 0) (pd_lst (pda_cons pd_str (pda_cons pd_str (pda_cons pd_str (pda_cons pd_str (pda_cons pd_str (pda_cons pd_str (pda_cons pd_str (pda_cons pd_str pda_nil))))))))))))
      (pds_cons (pds_set (i := 0) sc__law_odd.nd (px_of (pd_bin op_addA s_addA (pd_name 0) (pd_lst (pda_cons pd_str (pda_cons pd_str (pda_cons pd_str (pda_cons pd_str (pda_cons pd_str (pda_cons pd_str (pda_cons pd_str (pda_cons pd_str (pda_cons pd_str pda_nil)))))))))))))
      (pds_cons (pds_set (i := 0) sc__law_odd.nd (px_of (pd_bin op_addA s_addA (pd_name 0) (pd_lst (pda_cons pd_str (pda_cons pd_str (pda_cons pd_str (pda_cons pd_str (pda_cons pd_str (pda_cons pd_str (pda_cons pd_str pda_nil)))))))))))
      (pds_cons (pds_set (i := 0) sc__law_odd.nd (px_of (pd_bin op_addA s_addA (pd_name 0) (pd_lst (pda_cons pd_str (pda_cons pd_str (pda_cons pd_str (pda_cons pd_str pda_nil))))))))
      (pds_cons (pds_set (i := 0) sc__law_odd.nd (px_of (pd_bin op_addA s_addA (pd_name 0) (pd_lst (pda_cons pd_str (pda_cons pd_str (pda_cons pd_str (pda_cons pd_str (pda_cons pd_str (pda_cons pd_str (pda_cons (pd_bin op_addA s_addA pd_str (pd_m1 PySem.F.slot_str_join PySem.F.type_str_join mt_join s_join pd_str (pd_bin op_mulA s_mulA (pd_lst (pda_cons pd_str pda_nil)) pd_int))) pda_nil)))))))))))
      (pds_cons (pds_set (i := 0) sc__law_odd.nd (px_of (pd_bin op_addA s_addA (pd_name 0) (pd_lst (pda_cons (pd_bin op_addA s_addA (pd_bin op_mulSI s_mulSJ pd_str pd_int) pd_str) (pda_cons (pd_bin op_addA s_addA pd_str (pd_m1 PySem.F.slot_str_join PySem.F.type_str_join mt_join s_join pd_str (pd_bin op_mulA s_mulA (pd_lst (pda_cons pd_str pda_nil)) pd_int))) (pda_cons (pd_bin op_addA s_addA pd_str (pd_m1 PySem.F.slot_str_join PySem.F.type_str_join mt_join s_join pd_str (pd_bin op_mulA s_mulA (pd_lst (pda_cons pd_str pda_nil)) pd_int))) pda_nil)))))))
      (pds_cons (pds_set (i := 0) sc__law_odd.nd (px_of (pd_bin op_addA s_addA (pd_name 0) (pd_lst (pda_cons (pd_bin op_addA s_addA (pd_bin op_mulSI s_mulSJ pd_str pd_int) pd_str) (pda_cons (pd_bin op_addA s_addA pd_str (pd_bin op_mulSI s_mulSJ pd_str pd_int)) pda_nil))))))
      (pds_one (pds_ret (px_of (pd_bin op_addA s_addA (pd_name 0) (pd_lst (pda_cons (pd_bin op_addA s_addA pd_str (pd_bin op_mulSI s_mulSJ pd_str pd_int)) (pda_cons (pd_bin op_addA s_addA pd_str (pd_bin op_mulSI s_mulSJ pd_str pd_int)) (pda_cons pd_str (pda_cons pd_str (pda_cons pd_str (pda_cons pd_str (pda_cons pd_str pda_nil))))))))))))))))))))
theorem ok__law_view_text {f : Addr} {fd : FuncData} (T : Txt K mg) (F : Fun K "_law_view_text" "_law_view_text" s__law_view_text f fd) : FnG P w K mg base CX0 1 f fd ["_law_view"] (SpI K f__law_view_text) := by
  refine def_ok (k := 0) (N := N__law_view_text) (lk := lk__law_view_text) (fS := F__law_view_text) F sc__law_view_text fun cdv A outer s H E hr => ?_
  exact (pds_cons (pds_if (pxt_of (pdt_cmp (op_eqD hr.units) s_eq (pd_name 0) (pd_lst pda_nil) (nomark _)))
      (pds_one (pds_ret (px_of pd_str)))
      pds_nil)
      (pds_one (pds_ret (px_of (pd_m1 PySem.F.slot_str_join PySem.F.type_str_join mt_join s_join pd_str (pd_lc (own := [("_law_coin", 1)]) rfl sc__law_view_text.nd (pdp_lst (pd_name 0)) (blkOk_by (own := [("_law_coin", 1)]) (N := N__law_view_text) (sc := defScope s__law_view_text) (by decide +kernel)) (fun _ _ _ _ _ => (pt_nm sc__law_view_text.nd)) (fun _ _ _ _ _ => pdt_yes) (fun _ _ _ _ _ => (pd_callT (call_strD hr) s_strD rfl T.b_str (by decide +kernel) (pda_cons (pd_name 1) pda_nil)))))))))
theorem ok__law_heap_text {f : Addr} {fd : FuncData} (T : Txt K mg) (F : Fun K "_law_heap_text" "_law_heap_text" s__law_heap_text f fd) (D__law_view_text : Df P w K mg base "_law_view_text" 1 ["_law_view"] f__law_view_text) : FnG P w K mg base CX0 2 f fd ["_law_heap_here"] (SpI K f__law_heap_text) := by
  obtain ⟨a__law_view_text, d__law_view_text, m__law_view_text, k__law_view_text, b__law_view_text, G__law_view_text⟩ := D__law_view_text.ex
  refine def_ok (k := 1) (N := N__law_heap_text) (lk := lk__law_heap_text) (fS := F__law_heap_text) F sc__law_heap_text fun cdv A outer s H E hr => ?_
  exact (pds_cons (pds_set (i := 1) sc__law_heap_text.nd (px_of (pd_lst pda_nil)))
      (pds_cons (pds_for PassesOwn.never rfl (pdi_lst (px_of (pd_ixr ix_seq s_idx (pd_name 0) pd_int (fun _ _ => rfl)))) (pt_nm sc__law_heap_text.nd)
      (pds_one (pds_expr (px_mutP 0 PySem.F.slot_list_append PySem.F.type_list_append mt_append m_append (pd_name 1) (pda_cons (pd_bin op_addA s_addA (pd_m1 PySem.F.slot_str_join PySem.F.type_str_join mt_join s_join pd_str (pd_lc (own := [("_law_view", 3)]) rfl sc__law_heap_text.nd (pdp_lst (pd_name 2)) (blkOk_by (own := [("_law_view", 3)]) (N := N__law_heap_text) (sc := defScope s__law_heap_text) (by decide +kernel)) (fun _ _ _ _ _ => (pt_nm sc__law_heap_text.nd)) (fun _ _ _ _ _ => pdt_yes) (fun _ _ _ _ _ => (pd_call [false] G__law_view_text (hr.mono (by decide)) rfl m__law_view_text k__law_view_text b__law_view_text (pda_cons (pd_name 3) pda_nil))))) (pd_bin op_mulSI s_mulSI pd_str (pd_callT call_int1 s_int rfl T.b_int (by decide +kernel) (pda_cons (pd_cmp (op_eqD hr.units) s_eq (pd_name 2) (pd_lst pda_nil) (nomark _)) pda_nil)))) pda_nil)))))
      (pds_one (pds_ret (px_of (pd_bin op_addA s_addA (pd_bin op_addA s_addA (pd_callT (call_strD hr) s_strD rfl T.b_str (by decide +kernel) (pda_cons (pd_ixr ix_seq s_idx (pd_name 0) pd_int (fun _ _ => rfl)) pda_nil)) pd_str) (pd_m1 PySem.F.slot_str_join PySem.F.type_str_join mt_join s_join pd_str (pd_name 1))))))))
theorem ok__law_pile {f : Addr} {fd : FuncData} (T : Txt K mg) (F : Fun K "_law_pile" "_law_pile" s__law_pile f fd) : FnG P w K mg base CX0 1 f fd ["_law_script", "_law_k"] (SpI K f__law_pile) := by
  refine def_ok (k := 0) (N := N__law_pile) (lk := lk__law_pile) (fS := F__law_pile) F sc__law_pile fun cdv A outer s H E hr => ?_
  exact (pds_cons (pds_set (i := 2) sc__law_pile.nd (px_of pd_int))
      (pds_cons (pds_if (pxt_of (pdt_cmp op_lt s_lt (pd_name 1) (pd_callB call_len' s_len rfl T.b_len (by decide +kernel) (pda_cons (pd_name 0) pda_nil)) (nomark _)))
      (pds_one (pds_set (i := 2) sc__law_pile.nd (px_of (pd_ixr ix_seq s_idx (pd_name 0) (pd_name 1) (fun _ _ => rfl)))))
      pds_nil)
      (pds_one (pds_ret (px_of (pd_lst (pda_cons (pd_bin op_mulA s_mulA (pd_name 2) (pd_callT call_int1 s_int rfl T.b_int (by decide +kernel) (pda_cons (pd_cmp op_ge s_ge (pd_callB call_abs s_abs rfl T.b_abs (by decide +kernel) (pda_cons (pd_name 2) pda_nil)) (pd_bin op_pow s_pow pd_int pd_int) (nomark _)) pda_nil))) (pda_cons (pd_name 2) (pda_cons (pd_bin op_mulA s_mulA pd_int (pd_name 1)) pda_nil)))))))))
theorem ok__law_mixed {f : Addr} {fd : FuncData} (T : Txt K mg) (F : Fun K "_law_mixed" "_law_mixed" s__law_mixed f fd) : FnG P w K mg base CX0 1 f fd ["_law_cell", "_law_k"] (SpI K f__law_mixed) := by
  refine def_ok (k := 0) (N := N__law_mixed) (lk := lk__law_mixed) (fS := F__law_mixed) F sc__law_mixed fun cdv A outer s H E hr => ?_
  exact (pds_cons (pds_set (i := 2) sc__law_mixed.nd (px_of (pd_bin op_mod s_mod (pd_bin op_addA s_addA (pd_bin op_addA s_addA (pd_bin op_mulA s_mulA (pd_bin op_mod s_mod (pd_name 0) pd_int) pd_int) (pd_bin op_mulA s_mulA (pd_name 1) pd_int)) pd_int) pd_int)))
      (pds_cons (pds_set (i := 2) sc__law_mixed.nd (px_of (pd_bin op_mod s_mod (pd_bin op_mulA s_mulA (pd_name 2) (pd_name 2)) pd_int)))
      (pds_one (pds_ret (px_of (pd_bin op_mod s_mod (pd_bin op_mulA s_mulA (pd_name 2) (pd_name 2)) pd_int))))))
theorem ok__law_take {f : Addr} {fd : FuncData} (T : Txt K mg) (F : Fun K "_law_take" "_law_take" s__law_take f fd) (D__law_mixed : Df P w K mg base "_law_mixed" 1 ["_law_cell", "_law_k"] f__law_mixed) : FnG P w K mg base CX0 2 f fd ["_law_pile_here", "_law_many"] (SpI K f__law_take) := by
  obtain ⟨a__law_mixed, d__law_mixed, m__law_mixed, k__law_mixed, b__law_mixed, G__law_mixed⟩ := D__law_mixed.ex
  refine def_ok (k := 1) (N := N__law_take) (lk := lk__law_take) (fS := F__law_take) F sc__law_take fun cdv A outer s H E hr => ?_
  exact (pds_cons (pds_if (pxt_of (pdt_cmp (op_inA (hu65 hr)) s_inA (pd_ixr ix_seq s_idx (pd_name 0) pd_int (fun _ _ => rfl)) (pd_lst (pda_cons pd_int (pda_cons (pd_un un_neg sU pd_int) pda_nil))) (by rfl)))
      (pds_cons (pds_setI 0 (px_of (pd_bin op_addA s_addA (pd_ixr ix_seq s_idx (pd_name 0) pd_int (fun _ _ => rfl)) pd_int)) (pd_name 0) pd_int)
      (pds_one (pds_ret (px_of (pd_bin op_mod s_mod (pd_call [false, false] G__law_mixed (hr.mono (by decide)) rfl m__law_mixed k__law_mixed b__law_mixed (pda_cons (pd_ixr ix_seq s_idx (pd_name 0) pd_int (fun _ _ => rfl)) (pda_cons (pd_ixr ix_seq s_idx (pd_name 0) pd_int (fun _ _ => rfl)) pda_nil))) (pd_name 1))))))
      pds_nil)
      (pds_cons (pds_set (i := 2) sc__law_take.nd (px_of (pd_bin op_mod s_mod (pd_ixr ix_seq s_idx (pd_name 0) pd_int (fun _ _ => rfl)) (pd_name 1))))
      (pds_cons (pds_setI 0 (px_of (pd_bin op_fdivW s_div (pd_ixr ix_seq s_idx (pd_name 0) pd_int (fun _ _ => rfl)) (pd_name 1))) (pd_name 0) pd_int)
      (pds_one (pds_ret (px_of (pd_name 2)))))))
theorem ok__law_heap {f : Addr} {fd : FuncData} (T : Txt K mg) (F : Fun K "_law_heap" "_law_heap" s__law_heap f fd) (D__law_pile : Df P w K mg base "_law_pile" 1 ["_law_script", "_law_k"] f__law_pile) (D__law_take : Df P w K mg base "_law_take" 2 ["_law_pile_here", "_law_many"] f__law_take) : FnG P w K mg base CX0 3 f fd ["_law_script", "_law_start"] (SpI K f__law_heap) := by
  obtain ⟨a__law_pile, d__law_pile, m__law_pile, k__law_pile, b__law_pile, G__law_pile⟩ := D__law_pile.ex
  obtain ⟨a__law_take, d__law_take, m__law_take, k__law_take, b__law_take, G__law_take⟩ := D__law_take.ex
  refine def_ok (k := 2) (N := N__law_heap) (lk := lk__law_heap) (fS := F__law_heap) F sc__law_heap fun cdv A outer s H E hr => ?_
  exact (pds_cons (pds_set (i := 2) sc__law_heap.nd (px_of (pd_call [false, false] G__law_pile (hr.mono (by decide)) rfl m__law_pile k__law_pile b__law_pile (pda_cons (pd_name 0) (pda_cons (pd_name 1) pda_nil)))))
      (pds_cons (pds_set (i := 3) sc__law_heap.nd (px_ixr ix_seq s_idx (px_lst (pxa_cons (px_callI [true, false] G__law_take (hr.mono (by decide)) rfl m__law_take k__law_take b__law_take (pxa_of (pda_cons (pd_name 2) (pda_cons pd_int pda_nil)))) (pxa_cons (px_callI [true, false] G__law_take (hr.mono (by decide)) rfl m__law_take k__law_take b__law_take (pxa_of (pda_cons (pd_name 2) (pda_cons pd_int pda_nil)))) (pxa_cons (px_of pd_int) pxa_nil)))) (px_callI [true, false] G__law_take (hr.mono (by decide)) rfl m__law_take k__law_take b__law_take (pxa_of (pda_cons (pd_name 2) (pda_cons pd_int pda_nil)))) (fun _ _ => rfl)))
      (pds_cons (pds_set (i := 4) sc__law_heap.nd (px_of (pd_lst pda_nil)))
      (pds_cons (pds_for PassesOwn.never rfl (pdi_range1X rfl T.b_range (pxa_cons (px_bin op_addA s_addA (px_of pd_int) (px_callI [true, false] G__law_take (hr.mono (by decide)) rfl m__law_take k__law_take b__law_take (pxa_of (pda_cons (pd_name 2) (pda_cons pd_int pda_nil))))) pxa_nil)) (pt_nm sc__law_heap.nd)
      (pds_cons (pds_set (i := 2) sc__law_heap.nd (px_of (pd_call [false, false] G__law_pile (hr.mono (by decide)) rfl m__law_pile k__law_pile b__law_pile (pda_cons (pd_name 0) (pda_cons (pd_bin op_addA s_addA (pd_bin op_addA s_addA (pd_name 1) pd_int) (pd_name 5)) pda_nil)))))
      (pds_cons (pds_set (i := 6) sc__law_heap.nd (px_of (pd_lst pda_nil)))
      (pds_cons (pds_for PassesOwn.never rfl (pdi_range1X rfl T.b_range (pxa_cons (px_ixr ix_seq s_idx (px_of (pd_lst (pda_cons pd_int (pda_cons pd_int (pda_cons pd_int (pda_cons pd_int pda_nil)))))) (px_callI [true, false] G__law_take (hr.mono (by decide)) rfl m__law_take k__law_take b__law_take (pxa_of (pda_cons (pd_name 2) (pda_cons pd_int pda_nil)))) (fun _ _ => rfl)) pxa_nil)) (pt_nm sc__law_heap.nd)
      (pds_cons (pds_set (i := 8) sc__law_heap.nd (px_of pd_int))
      (pds_cons (pds_if (pxt_of (PDW.t (pdw_and (pdt_cmp op_gt s_gt (pd_name 3) pd_int (nomark _)) (pdw_and1 (pdt_cmp op_lt s_lt (pd_name 7) pd_int (nomark _))))))
      (pds_one (pds_for PassesOwn.never rfl (pdi_range1X rfl T.b_range (pxa_cons (px_callI [true, false] G__law_take (hr.mono (by decide)) rfl m__law_take k__law_take b__law_take (pxa_of (pda_cons (pd_name 2) (pda_cons pd_int pda_nil)))) pxa_nil)) (pt_nm sc__law_heap.nd)
      (pds_one (pds_set (i := 8) sc__law_heap.nd (px_bin op_or s_or (px_of (pd_name 8)) (px_bin op_shl s_shl (px_of pd_int) (px_callI [true, false] G__law_take (hr.mono (by decide)) rfl m__law_take k__law_take b__law_take (pxa_of (pda_cons (pd_name 2) (pda_cons (pd_name 3) pda_nil))))))))))
      pds_nil)
      (pds_one (pds_expr (px_mutP 0 PySem.F.slot_list_append PySem.F.type_list_append mt_append m_append (pd_name 6) (pda_cons (pd_lc (own := [("_law_coin", 10)]) rfl sc__law_heap.nd (pdp_of (pdr_range1 rfl T.b_range (pda_cons (pd_name 3) pda_nil))) (blkOk_by (own := [("_law_coin", 10)]) (N := N__law_heap) (sc := defScope s__law_heap) (by decide +kernel)) (fun _ _ _ _ _ => (pt_nm sc__law_heap.nd)) (fun _ _ _ _ _ => pdt_one (pdt_cmp (op_eqD hr.units) s_eq (pd_bin op_and s_and (pd_bin op_shr s_shr (pd_name 8) (pd_name 10)) pd_int) pd_int (nomark _))) (fun _ _ _ _ _ => (pd_name 10))) pda_nil)))))))
      (pds_one (pds_expr (px_mutP 0 PySem.F.slot_list_append PySem.F.type_list_append mt_append m_append (pd_name 4) (pda_cons (pd_name 6) pda_nil))))))))
      (pds_one (pds_ret (px_of (pd_tup (pda_cons (pd_name 3) (pda_cons (pd_name 4) pda_nil))))))))))
theorem ok__law_bent {f : Addr} {fd : FuncData} (T : Txt K mg) (F : Fun K "_law_bent" "_law_bent" s__law_bent f fd) (D__law_take : Df P w K mg base "_law_take" 2 ["_law_pile_here", "_law_many"] f__law_take) : FnG P w K mg base CX0 3 f fd ["_law_text", "_law_pile_here"] (SpI K f__law_bent) := by
  obtain ⟨a__law_take, d__law_take, m__law_take, k__law_take, b__law_take, G__law_take⟩ := D__law_take.ex
  refine def_ok (k := 2) (N := N__law_bent) (lk := lk__law_bent) (fS := F__law_bent) F sc__law_bent fun cdv A outer s H E hr => ?_
  exact (pds_cons (pds_set (i := 2) sc__law_bent.nd (px_of pd_str))
      (pds_cons (pds_set (i := 3) sc__law_bent.nd (px_callI [true, false] G__law_take (hr.mono (by decide)) rfl m__law_take k__law_take b__law_take (pxa_of (pda_cons (pd_name 1) (pda_cons (pd_bin op_addA s_addA (pd_callB call_len' s_len rfl T.b_len (by decide +kernel) (pda_cons (pd_name 0) pda_nil)) pd_int) pda_nil)))))
      (pds_cons (pds_set (i := 4) sc__law_bent.nd (px_sitem (px_of (pd_name 2)) (px_callI [true, false] G__law_take (hr.mono (by decide)) rfl m__law_take k__law_take b__law_take (pxa_of (pda_cons (pd_name 1) (pda_cons pd_int pda_nil)))) (fun _ _ => rfl)))
      (pds_cons (pds_set (i := 5) sc__law_bent.nd (px_callI [true, false] G__law_take (hr.mono (by decide)) rfl m__law_take k__law_take b__law_take (pxa_of (pda_cons (pd_name 1) (pda_cons pd_int pda_nil)))))
      (pds_cons (pds_if (pxt_of (pdt_cmp (op_eqD hr.units) s_eq (pd_name 5) pd_int (nomark _)))
      (pds_one (pds_ret (px_of (pd_bin op_addA s_addA (pd_bin op_addA s_addA (pd_slice (pd_name 0) pdo_none (pdo_some (pd_name 3))) (pd_name 4)) (pd_slice (pd_name 0) (pdo_some (pd_name 3)) pdo_none)))))
      pds_nil)
      (pds_cons (pds_if (pxt_of (pdt_cmp (op_eqD hr.units) s_eq (pd_name 5) pd_int (nomark _)))
      (pds_one (pds_ret (px_of (pd_bin op_addA s_addA (pd_slice (pd_name 0) pdo_none (pdo_some (pd_name 3))) (pd_slice (pd_name 0) (pdo_some (pd_bin op_addA s_addA (pd_name 3) pd_int)) pdo_none)))))
      pds_nil)
      (pds_cons (pds_if (pxt_of (pdt_cmp (op_eqD hr.units) s_eq (pd_name 5) pd_int (nomark _)))
      (pds_one (pds_ret (px_of (pd_bin op_addA s_addA (pd_bin op_addA s_addA (pd_slice (pd_name 0) pdo_none (pdo_some (pd_name 3))) (pd_name 4)) (pd_slice (pd_name 0) (pdo_some (pd_bin op_addA s_addA (pd_name 3) pd_int)) pdo_none)))))
      pds_nil)
      (pds_cons (pds_if (pxt_of (pdt_cmp (op_eqD hr.units) s_eq (pd_name 5) pd_int (nomark _)))
      (pds_cons (pds_set (i := 6) sc__law_bent.nd (px_of (pd_bin op_addA s_addA (pd_slice (pd_name 0) (pdo_some (pd_bin op_addA s_addA (pd_name 3) pd_int)) (pdo_some (pd_bin op_addA s_addA (pd_name 3) pd_int))) (pd_slice (pd_name 0) (pdo_some (pd_name 3)) (pdo_some (pd_bin op_addA s_addA (pd_name 3) pd_int))))))
      (pds_one (pds_ret (px_of (pd_bin op_addA s_addA (pd_bin op_addA s_addA (pd_slice (pd_name 0) pdo_none (pdo_some (pd_name 3))) (pd_name 6)) (pd_slice (pd_name 0) (pdo_some (pd_bin op_addA s_addA (pd_name 3) pd_int)) pdo_none))))))
      pds_nil)
      (pds_cons (pds_set (i := 7) sc__law_bent.nd (px_bin op_addA s_addA (px_of (pd_bin op_addA s_addA (pd_name 3) pd_int)) (px_callI [true, false] G__law_take (hr.mono (by decide)) rfl m__law_take k__law_take b__law_take (pxa_of (pda_cons (pd_name 1) (pda_cons pd_int pda_nil))))))
      (pds_cons (pds_if (pxt_of (pdt_cmp (op_eqD hr.units) s_eq (pd_name 5) pd_int (nomark _)))
      (pds_one (pds_ret (px_of (pd_bin op_addA s_addA (pd_slice (pd_name 0) pdo_none (pdo_some (pd_name 7))) (pd_slice (pd_name 0) (pdo_some (pd_name 3)) pdo_none)))))
      pds_nil)
      (pds_cons (pds_if (pxt_of (pdt_cmp (op_eqD hr.units) s_eq (pd_name 5) pd_int (nomark _)))
      (pds_one (pds_ret (px_of (pd_bin op_addA s_addA (pd_slice (pd_name 0) pdo_none (pdo_some (pd_name 3))) (pd_slice (pd_name 0) (pdo_some (pd_name 7)) pdo_none)))))
      pds_nil)
      (pds_cons (pds_if (pxt_of (pdt_cmp (op_eqD hr.units) s_eq (pd_name 5) pd_int (nomark _)))
      (pds_one (pds_ret (px_bin op_addA s_addA (px_of (pd_name 0)) (px_ixr ix_seq s_idx (px_of (pd_lst (pda_cons pd_str (pda_cons pd_str (pda_cons pd_str (pda_cons pd_str (pda_cons pd_str (pda_cons pd_str (pda_cons pd_str (pda_cons pd_str pda_nil)))))))))) (px_callI [true, false] G__law_take (hr.mono (by decide)) rfl m__law_take k__law_take b__law_take (pxa_of (pda_cons (pd_name 1) (pda_cons pd_int pda_nil)))) (fun _ _ => rfl)))))
      pds_nil)
      (pds_one (pds_ret (px_of (pd_name 0))))))))))))))))
theorem ok__law_count {f : Addr} {fd : FuncData} (T : Txt K mg) (F : Fun K "_law_count" "_law_count" s__law_count f fd) : FnG P w K mg base CX0 1 f fd ["_law_text"] (SpI K f__law_count) := by
  refine def_ok (k := 0) (N := N__law_count) (lk := lk__law_count) (fS := F__law_count) F sc__law_count fun cdv A outer s H E hr => ?_
  exact (pds_cons (pds_if (pxt_of (PDW.t (pdw_or (pdt_cmp op_eq s_eqS (pd_name 0) pd_str (nomark _)) (pdw_or (pdt_cmp op_gt s_gt (pd_callB call_len' s_len rfl T.b_len (by decide +kernel) (pda_cons (pd_name 0) pda_nil)) pd_int (nomark _)) (pdw_or1 (PDW.t (pdw_and (pdt_cmp op_eq s_eqS (pd_sitem (pd_name 0) pd_int (fun _ _ => rfl)) pd_str (nomark _)) (pdw_and1 (pdt_cmp op_ne s_neS (pd_name 0) pd_str (nomark _))))))))))
      (pds_one (pds_ret (px_of (pd_un un_neg sU pd_int))))
      pds_nil)
      (pds_cons (pds_if (pxt_of (pdt_cmp (op_neD hr.units) s_ne (pd_lc (own := [("_law_sign", 1)]) rfl sc__law_count.nd (pdp_of (pdr_str (pd_name 0))) (blkOk_by (own := [("_law_sign", 1)]) (N := N__law_count) (sc := defScope s__law_count) (by decide +kernel)) (fun _ _ _ _ _ => (pt_nm sc__law_count.nd)) (fun _ _ _ _ _ => pdt_one (pdt_cmp op_notIn_sign s_ninC (pd_name 1) pd_str (by rfl))) (fun _ _ _ _ _ => (pd_name 1))) (pd_lst pda_nil) (nomark _)))
      (pds_one (pds_ret (px_of (pd_un un_neg sU pd_int))))
      pds_nil)
      (pds_one (pds_ret (px_of (pd_callT call_int_str s_intS rfl T.b_int (by decide +kernel) (pda_cons (pd_name 0) pda_nil)))))))
theorem ok__law_view_read {f : Addr} {fd : FuncData} (T : Txt K mg) (F : Fun K "_law_view_read" "_law_view_read" s__law_view_read f fd) (D__law_count : Df P w K mg base "_law_count" 1 ["_law_text"] f__law_count) : FnG P w K mg base CX0 2 f fd ["_law_many", "_law_text"] (SpI K f__law_view_read) := by
  obtain ⟨a__law_count, d__law_count, m__law_count, k__law_count, b__law_count, G__law_count⟩ := D__law_count.ex
  refine def_ok (k := 1) (N := N__law_view_read) (lk := lk__law_view_read) (fS := F__law_view_read) F sc__law_view_read fun cdv A outer s H E hr => ?_
  exact (pds_cons (pds_if (pxt_of (pdt_cmp op_eq s_eqS (pd_name 1) pd_str (nomark _)))
      (pds_one (pds_ret (px_of (pd_lst pda_nil))))
      pds_nil)
      (pds_cons (pds_setLc (i := 2) (own := [("_law_one", 5)]) rfl sc__law_view_read.nd rfl rfl (sw_true rfl rfl rfl (by decide +kernel)) (pdp_lst (pd_m1 PySem.F.slot_str_split PySem.F.type_str_split mt_split s_split (pd_name 1) pd_str)) (blkOk_by (own := [("_law_one", 5)]) (N := N__law_view_read) (sc := defScope s__law_view_read) (by decide +kernel)) (fun _ _ _ _ _ => (pt_nm sc__law_view_read.nd)) (fun _ _ _ _ _ => pdt_yes) (fun _ _ _ _ _ => (pd_call [false] G__law_count (hr.mono (by decide)) rfl m__law_count k__law_count b__law_count (pda_cons (pd_name 5) pda_nil))))
      (pds_cons (pds_for PassesOwn.never rfl (pdi_enum rfl T.b_enumerate (pxa_of (pda_cons (pd_name 2) pda_nil))) (pt_tp rfl (pts_cons' (pt_nm sc__law_view_read.nd) (pts_cons' (pt_nm sc__law_view_read.nd) pts_nil')))
      (pds_one (pds_if (pxt_of (PDW.t (pdw_or (pdt_cmp op_lt s_lt (pd_name 4) pd_int (nomark _)) (pdw_or (pdt_cmp op_ge s_ge (pd_name 4) (pd_name 0) (nomark _)) (pdw_or1 (PDW.t (pdw_and (pdt_cmp op_gt s_gt (pd_name 3) pd_int (nomark _)) (pdw_and1 (pdt_cmp op_le s_le (pd_name 4) (pd_ixr ix_seq s_idx (pd_name 2) (pd_bin op_sub s_sub (pd_name 3) pd_int) (fun _ _ => rfl)) (nomark _))))))))))
      (pds_one (pds_ret (px_of pd_non)))
      pds_nil)))
      (pds_one (pds_ret (px_of (pd_name 2)))))))
theorem ok__law_heap_read {f : Addr} {fd : FuncData} (T : Txt K mg) (F : Fun K "_law_heap_read" "_law_heap_read" s__law_heap_read f fd) (D__law_count : Df P w K mg base "_law_count" 1 ["_law_text"] f__law_count) (D__law_view_read : Df P w K mg base "_law_view_read" 2 ["_law_many", "_law_text"] f__law_view_read) : FnG P w K mg base CX0 3 f fd ["_law_text"] (SpI K f__law_heap_read) := by
  obtain ⟨a__law_count, d__law_count, m__law_count, k__law_count, b__law_count, G__law_count⟩ := D__law_count.ex
  obtain ⟨a__law_view_read, d__law_view_read, m__law_view_read, k__law_view_read, b__law_view_read, G__law_view_read⟩ := D__law_view_read.ex
  refine def_ok (k := 2) (N := N__law_heap_read) (lk := lk__law_heap_read) (fS := F__law_heap_read) F sc__law_heap_read fun cdv A outer s H E hr => ?_
  exact (pds_cons (pds_set (i := 1) sc__law_heap_read.nd (px_of (pd_m1 PySem.F.slot_str_split PySem.F.type_str_split mt_split s_split (pd_name 0) pd_str)))
      (pds_cons (pds_set (i := 2) sc__law_heap_read.nd (px_of (pd_call [false] G__law_count (hr.mono (by decide)) rfl m__law_count k__law_count b__law_count (pda_cons (pd_ixr ix_seq s_idx (pd_name 1) pd_int (fun _ _ => rfl)) pda_nil))))
      (pds_cons (pds_if (pxt_of (PDW.t (pdw_or (pdt_cmp (op_neD hr.units) s_ne (pd_callB call_len' s_len rfl T.b_len (by decide +kernel) (pda_cons (pd_name 1) pda_nil)) pd_int (nomark _)) (pdw_or (pdt_cmp op_lt s_lt (pd_name 2) pd_int (nomark _)) (pdw_or1 (pdt_cmp op_gt s_gt (pd_name 2) pd_int (nomark _)))))))
      (pds_one (pds_ret (px_of pd_non)))
      pds_nil)
      (pds_cons (pds_set (i := 3) sc__law_heap_read.nd (px_of (pd_lst pda_nil)))
      (pds_cons (pds_for PassesOwn.never rfl (pdi_lst (px_of (pd_m1 PySem.F.slot_str_split PySem.F.type_str_split mt_split s_split (pd_ixr ix_seq s_idx (pd_name 1) pd_int (fun _ _ => rfl)) pd_str))) (pt_nm sc__law_heap_read.nd)
      (pds_cons (pds_set (i := 5) sc__law_heap_read.nd (px_of (pd_lst pda_nil)))
      (pds_cons (pds_if (pxt_of (pdt_cmp op_ne s_neS (pd_name 4) pd_str (nomark _)))
      (pds_one (pds_setLc (i := 5) (own := [("_law_one", 6)]) rfl sc__law_heap_read.nd rfl rfl (sw_true rfl rfl rfl (by decide +kernel)) (pdp_lst (pd_m1 PySem.F.slot_str_split PySem.F.type_str_split mt_split s_split (pd_name 4) pd_str)) (blkOk_by (own := [("_law_one", 6)]) (N := N__law_heap_read) (sc := defScope s__law_heap_read) (by decide +kernel)) (fun _ _ _ _ _ => (pt_nm sc__law_heap_read.nd)) (fun _ _ _ _ _ => pdt_yes) (fun _ _ _ _ _ => (pd_call [false, false] G__law_view_read (hr.mono (by decide)) rfl m__law_view_read k__law_view_read b__law_view_read (pda_cons (pd_name 2) (pda_cons (pd_name 6) pda_nil))))))
      pds_nil)
      (pds_cons (pds_if (pxt_of (PDW.t (pdw_or (pdt_cmp (op_inA (hu65 hr)) s_inA pd_non (pd_name 5) (by rfl)) (pdw_or1 (pdt_cmp op_gt s_gt (pd_callB call_len' s_len rfl T.b_len (by decide +kernel) (pda_cons (pd_name 5) pda_nil)) pd_int (nomark _))))))
      (pds_one (pds_ret (px_of pd_non)))
      pds_nil)
      (pds_one (pds_expr (px_mutP 0 PySem.F.slot_list_append PySem.F.type_list_append mt_append m_append (pd_name 3) (pda_cons (pd_name 5) pda_nil))))))))
      (pds_cons (pds_if (pxt_of (pdt_cmp op_gt s_gt (pd_callB call_len' s_len rfl T.b_len (by decide +kernel) (pda_cons (pd_name 3) pda_nil)) pd_int (nomark _)))
      (pds_one (pds_ret (px_of pd_non)))
      pds_nil)
      (pds_one (pds_ret (px_of (pd_tup (pda_cons (pd_name 2) (pda_cons (pd_name 3) pda_nil))))))))))))
theorem ok_look {f : Addr} {fd : FuncData} (T : Txt K mg) (F : Fun K "look" "look" s_look f fd) : FnG P w K mg base CX0 1 f fd ["good"] (SpI K f_look) := by
  refine def_ok (k := 0) (N := N_look) (lk := lk_look) (fS := F_look) F sc_look fun cdv A outer s H E hr => ?_
  exact (pds_one (pds_if (pxt_of (pdt_not (pdt_val (pd_name 0))))
      (pds_one pds_never)
      pds_nil))
theorem okr_look {f : Addr} {fd : FuncData} (T : Txt K mg) (F : Fun K "look" "look" s_look f fd) : FnG P w K mg base (L2.CX P w) 1 f fd ["good"] (SpR K g_look) := by
  refine def_r (k := 0) (N := N_look) (lk := lk_look) (gS := r_look) F sc_look fun cdv A outer s H E hr => ?_
  exact (prs_one (prs_if (pdt_not (pdt_val (pd_name 0)))
      (prs_one (prs_raise rfl (takes_of rfl rfl rfl rfl) (pmr_own 0 PySem.F.excBase_ValueError T.q_NoText T.g_NoText T.kp_NoText (raises_own T.sb_NoText T.ty_NoText) rfl)))
      prs_no))
theorem ok_number_in {f : Addr} {fd : FuncData} (T : Txt K mg) (F : Fun K "number_in" "number_in" s_number_in f fd) (D_look : Df P w K mg base "look" 1 ["good"] f_look) : FnG P w K mg base CX0 2 f fd ["text"] (SpI K f_number_in) := by
  obtain ⟨a_look, d_look, m_look, k_look, b_look, G_look⟩ := D_look.ex
  refine def_ok (k := 1) (N := N_number_in) (lk := lk_number_in) (fS := F_number_in) F sc_number_in fun cdv A outer s H E hr => ?_
  exact (pds_cons (pds_expr (px_of (pd_call [false] G_look (hr.mono (by decide)) rfl m_look k_look b_look (pda_cons (pd_and (pd_cmp op_ne s_neS (pd_name 0) pd_str (nomark _)) (pd_and (pd_cmp op_le s_le (pd_callB call_len' s_len rfl T.b_len (by decide +kernel) (pda_cons (pd_name 0) pda_nil)) (pd_glob (d := (.int 40)) rfl T.c_MOST_FIGURES.choose_spec ⟨_, rfl⟩ rfl) (nomark _)) (pd_one (pd_or (pd_cmp op_ne s_neS (pd_sitem (pd_name 0) pd_int (fun _ _ => rfl)) pd_str (nomark _)) (pd_one (pd_cmp op_eq s_eqS (pd_name 0) pd_str (nomark _))))))) pda_nil))))
      (pds_cons (pds_for PassesOwn.never rfl (pdi_of (pdr_str (pd_name 0))) (pt_nm sc_number_in.nd)
      (pds_one (pds_expr (px_of (pd_call [false] G_look (hr.mono (by decide)) rfl m_look k_look b_look (pda_cons (pd_cmp op_in_sign s_inC (pd_name 1) (pd_glob (d := (.str "0123456789")) rfl T.c_FIGURES.choose_spec ⟨_, rfl⟩ rfl) (by rfl)) pda_nil))))))
      (pds_one (pds_ret (px_of (pd_callT call_int_str s_intS rfl T.b_int (by decide +kernel) (pda_cons (pd_name 0) pda_nil)))))))
theorem okr_number_in {f : Addr} {fd : FuncData} (T : Txt K mg) (F : Fun K "number_in" "number_in" s_number_in f fd) (D_look : Df P w K mg base "look" 1 ["good"] f_look) (DR_look : Dr P w K mg base "look" 1 ["good"] g_look) : FnG P w K mg base (L2.CX P w) 2 f fd ["text"] (SpR K g_number_in) := by
  obtain ⟨a_look, d_look, m_look, k_look, b_look, G_look⟩ := D_look.ex
  obtain ⟨aR_look, dR_look, mR_look, kR_look, bR_look, GR_look⟩ := DR_look.ex
  refine def_r (k := 1) (N := N_number_in) (lk := lk_number_in) (gS := r_number_in) F sc_number_in fun cdv A outer s H E hr => ?_
  exact (prs_seq (prs_expr (pre_call [false] GR_look (hr.mono (by decide)) (takes_of rfl rfl rfl rfl) rfl mR_look kR_look bR_look (pda_cons (pd_and (pd_cmp op_ne s_neS (pd_name 0) pd_str (nomark _)) (pd_and (pd_cmp op_le s_le (pd_callB call_len' s_len rfl T.b_len (by decide +kernel) (pda_cons (pd_name 0) pda_nil)) (pd_glob (d := (.int 40)) rfl T.c_MOST_FIGURES.choose_spec ⟨_, rfl⟩ rfl) (nomark _)) (pd_one (pd_or (pd_cmp op_ne s_neS (pd_sitem (pd_name 0) pd_int (fun _ _ => rfl)) pd_str (nomark _)) (pd_one (pd_cmp op_eq s_eqS (pd_name 0) pd_str (nomark _))))))) pda_nil)))
      (pds_expr (px_of (pd_call [false] G_look (hr.mono (by decide)) rfl m_look k_look b_look (pda_cons (pd_and (pd_cmp op_ne s_neS (pd_name 0) pd_str (nomark _)) (pd_and (pd_cmp op_le s_le (pd_callB call_len' s_len rfl T.b_len (by decide +kernel) (pda_cons (pd_name 0) pda_nil)) (pd_glob (d := (.int 40)) rfl T.c_MOST_FIGURES.choose_spec ⟨_, rfl⟩ rfl) (nomark _)) (pd_one (pd_or (pd_cmp op_ne s_neS (pd_sitem (pd_name 0) pd_int (fun _ _ => rfl)) pd_str (nomark _)) (pd_one (pd_cmp op_eq s_eqS (pd_name 0) pd_str (nomark _))))))) pda_nil))))
      (prs_one (prs_for (passes_of rfl) rfl (pdi_of (pdr_str (pd_name 0))) (pt_nm sc_number_in.nd)
      (pds_one (pds_expr (px_of (pd_call [false] G_look (hr.mono (by decide)) rfl m_look k_look b_look (pda_cons (pd_cmp op_in_sign s_inC (pd_name 1) (pd_glob (d := (.str "0123456789")) rfl T.c_FIGURES.choose_spec ⟨_, rfl⟩ rfl) (by rfl)) pda_nil)))))
      (prs_one (prs_expr (pre_call [false] GR_look (hr.mono (by decide)) (takes_of rfl rfl rfl rfl) rfl mR_look kR_look bR_look (pda_cons (pd_cmp op_in_sign s_inC (pd_name 1) (pd_glob (d := (.str "0123456789")) rfl T.c_FIGURES.choose_spec ⟨_, rfl⟩ rfl) (by rfl)) pda_nil)))))))
theorem ok_view_read {f : Addr} {fd : FuncData} (T : Txt K mg) (F : Fun K "view_read" "view_read" s_view_read f fd) (D_number_in : Df P w K mg base "number_in" 2 ["text"] f_number_in) (D_look : Df P w K mg base "look" 1 ["good"] f_look) : FnG P w K mg base CX0 3 f fd ["many", "text"] (SpI K f_view_read) := by
  obtain ⟨a_number_in, d_number_in, m_number_in, k_number_in, b_number_in, G_number_in⟩ := D_number_in.ex
  obtain ⟨a_look, d_look, m_look, k_look, b_look, G_look⟩ := D_look.ex
  refine def_ok (k := 2) (N := N_view_read) (lk := lk_view_read) (fS := F_view_read) F sc_view_read fun cdv A outer s H E hr => ?_
  exact (pds_cons (pds_if (pxt_of (pdt_cmp op_eq s_eqS (pd_name 1) pd_str (nomark _)))
      (pds_one (pds_ret (px_of (pd_lst pda_nil))))
      pds_nil)
      (pds_cons (pds_setLc (i := 2) (own := [("part", 5)]) rfl sc_view_read.nd rfl rfl (sw_true rfl rfl rfl (by decide +kernel)) (pdp_lst (pd_m1 PySem.F.slot_str_split PySem.F.type_str_split mt_split s_split (pd_name 1) pd_str)) (blkOk_by (own := [("part", 5)]) (N := N_view_read) (sc := defScope s_view_read) (by decide +kernel)) (fun _ _ _ _ _ => (pt_nm sc_view_read.nd)) (fun _ _ _ _ _ => pdt_yes) (fun _ _ _ _ _ => (pd_call [false] G_number_in (hr.mono (by decide)) rfl m_number_in k_number_in b_number_in (pda_cons (pd_name 5) pda_nil))))
      (pds_cons (pds_for PassesOwn.never rfl (pdi_enum rfl T.b_enumerate (pxa_of (pda_cons (pd_name 2) pda_nil))) (pt_tp rfl (pts_cons' (pt_nm sc_view_read.nd) (pts_cons' (pt_nm sc_view_read.nd) pts_nil')))
      (pds_one (pds_expr (px_of (pd_call [false] G_look (hr.mono (by decide)) rfl m_look k_look b_look (pda_cons (pd_and (pd_cmp op_lt s_lt (pd_name 4) (pd_name 0) (nomark _)) (pd_one (pd_or (pd_cmp (op_eqD hr.units) s_eq (pd_name 3) pd_int (nomark _)) (pd_one (pd_cmp op_lt s_lt (pd_ixr ix_seq s_idx (pd_name 2) (pd_bin op_sub s_sub (pd_name 3) pd_int) (fun _ _ => rfl)) (pd_name 4) (nomark _)))))) pda_nil))))))
      (pds_one (pds_ret (px_of (pd_name 2)))))))
theorem okr_view_read {f : Addr} {fd : FuncData} (T : Txt K mg) (F : Fun K "view_read" "view_read" s_view_read f fd) (D_number_in : Df P w K mg base "number_in" 2 ["text"] f_number_in) (D_look : Df P w K mg base "look" 1 ["good"] f_look) (DR_number_in : Dr P w K mg base "number_in" 2 ["text"] g_number_in) (DR_look : Dr P w K mg base "look" 1 ["good"] g_look) : FnG P w K mg base (L2.CX P w) 3 f fd ["many", "text"] (SpR K g_view_read) := by
  obtain ⟨a_number_in, d_number_in, m_number_in, k_number_in, b_number_in, G_number_in⟩ := D_number_in.ex
  obtain ⟨a_look, d_look, m_look, k_look, b_look, G_look⟩ := D_look.ex
  obtain ⟨aR_number_in, dR_number_in, mR_number_in, kR_number_in, bR_number_in, GR_number_in⟩ := DR_number_in.ex
  obtain ⟨aR_look, dR_look, mR_look, kR_look, bR_look, GR_look⟩ := DR_look.ex
  refine def_r (k := 2) (N := N_view_read) (lk := lk_view_read) (gS := r_view_read) F sc_view_read fun cdv A outer s H E hr => ?_
  exact (prs_nx (pds_if (pxt_of (pdt_cmp op_eq s_eqS (pd_name 1) pd_str (nomark _)))
      (pds_one (pds_ret (px_of (pd_lst pda_nil))))
      pds_nil)
      (prs_seq (prs_setLc (i := 2) (own := [("part", 5)]) rfl rfl (takes_of rfl rfl rfl rfl) rfl sc_view_read.nd rfl rfl (sw_true rfl rfl rfl (by decide +kernel)) (pdp_lst (pd_m1 PySem.F.slot_str_split PySem.F.type_str_split mt_split s_split (pd_name 1) pd_str)) (blkOk_by (own := [("part", 5)]) (N := N_view_read) (sc := defScope s_view_read) (by decide +kernel)) (fun _ _ _ _ _ _ => (pt_nm sc_view_read.nd)) (fun _ _ _ _ _ _ => pdt_yes) (fun _ _ _ _ _ _ => (pd_call [false] G_number_in (hr.mono (by decide)) rfl m_number_in k_number_in b_number_in (pda_cons (pd_name 5) pda_nil))) (fun _ _ _ _ _ _ _ KT => (pre_call [false] GR_number_in (hr.mono (by decide)) KT rfl mR_number_in kR_number_in bR_number_in (pda_cons (pd_name 5) pda_nil))))
      (pds_setLc (i := 2) (own := [("part", 5)]) rfl sc_view_read.nd rfl rfl (sw_true rfl rfl rfl (by decide +kernel)) (pdp_lst (pd_m1 PySem.F.slot_str_split PySem.F.type_str_split mt_split s_split (pd_name 1) pd_str)) (blkOk_by (own := [("part", 5)]) (N := N_view_read) (sc := defScope s_view_read) (by decide +kernel)) (fun _ _ _ _ _ => (pt_nm sc_view_read.nd)) (fun _ _ _ _ _ => pdt_yes) (fun _ _ _ _ _ => (pd_call [false] G_number_in (hr.mono (by decide)) rfl m_number_in k_number_in b_number_in (pda_cons (pd_name 5) pda_nil))))
      (prs_one (prs_for (passes_of rfl) rfl (pdi_enum rfl T.b_enumerate (pxa_of (pda_cons (pd_name 2) pda_nil))) (pt_tp rfl (pts_cons' (pt_nm sc_view_read.nd) (pts_cons' (pt_nm sc_view_read.nd) pts_nil')))
      (pds_one (pds_expr (px_of (pd_call [false] G_look (hr.mono (by decide)) rfl m_look k_look b_look (pda_cons (pd_and (pd_cmp op_lt s_lt (pd_name 4) (pd_name 0) (nomark _)) (pd_one (pd_or (pd_cmp (op_eqD hr.units) s_eq (pd_name 3) pd_int (nomark _)) (pd_one (pd_cmp op_lt s_lt (pd_ixr ix_seq s_idx (pd_name 2) (pd_bin op_sub s_sub (pd_name 3) pd_int) (fun _ _ => rfl)) (pd_name 4) (nomark _)))))) pda_nil)))))
      (prs_one (prs_expr (pre_call [false] GR_look (hr.mono (by decide)) (takes_of rfl rfl rfl rfl) rfl mR_look kR_look bR_look (pda_cons (pd_and (pd_cmp op_lt s_lt (pd_name 4) (pd_name 0) (nomark _)) (pd_one (pd_or (pd_cmp (op_eqD hr.units) s_eq (pd_name 3) pd_int (nomark _)) (pd_one (pd_cmp op_lt s_lt (pd_ixr ix_seq s_idx (pd_name 2) (pd_bin op_sub s_sub (pd_name 3) pd_int) (fun _ _ => rfl)) (pd_name 4) (nomark _)))))) pda_nil))))))))
theorem ok_views_read {f : Addr} {fd : FuncData} (T : Txt K mg) (F : Fun K "views_read" "views_read" s_views_read f fd) (D_look : Df P w K mg base "look" 1 ["good"] f_look) (D_view_read : Df P w K mg base "view_read" 3 ["many", "text"] f_view_read) : FnG P w K mg base CX0 4 f fd ["many", "text"] (SpI K f_views_read) := by
  obtain ⟨a_look, d_look, m_look, k_look, b_look, G_look⟩ := D_look.ex
  obtain ⟨a_view_read, d_view_read, m_view_read, k_view_read, b_view_read, G_view_read⟩ := D_view_read.ex
  refine def_ok (k := 3) (N := N_views_read) (lk := lk_views_read) (fS := F_views_read) F sc_views_read fun cdv A outer s H E hr => ?_
  exact (pds_cons (pds_if (pxt_of (pdt_cmp op_eq s_eqS (pd_name 1) pd_str (nomark _)))
      (pds_one (pds_ret (px_of (pd_lst pda_nil))))
      pds_nil)
      (pds_cons (pds_set (i := 2) sc_views_read.nd (px_of (pd_m1 PySem.F.slot_str_split PySem.F.type_str_split mt_split s_split (pd_name 1) pd_str)))
      (pds_cons (pds_expr (px_of (pd_call [false] G_look (hr.mono (by decide)) rfl m_look k_look b_look (pda_cons (pd_cmp op_le s_le (pd_callB call_len' s_len rfl T.b_len (by decide +kernel) (pda_cons (pd_name 2) pda_nil)) (pd_glob (d := (.int 40)) rfl T.c_MOST_VIEWS.choose_spec ⟨_, rfl⟩ rfl) (nomark _)) pda_nil))))
      (pds_one (pds_ret (px_of (pd_lc (own := [("part", 3)]) rfl sc_views_read.nd (pdp_lst (pd_name 2)) (blkOk_by (own := [("part", 3)]) (N := N_views_read) (sc := defScope s_views_read) (by decide +kernel)) (fun _ _ _ _ _ => (pt_nm sc_views_read.nd)) (fun _ _ _ _ _ => pdt_yes) (fun _ _ _ _ _ => (pd_call [false, false] G_view_read (hr.mono (by decide)) rfl m_view_read k_view_read b_view_read (pda_cons (pd_name 0) (pda_cons (pd_name 3) pda_nil)))))))))))
theorem okr_views_read {f : Addr} {fd : FuncData} (T : Txt K mg) (F : Fun K "views_read" "views_read" s_views_read f fd) (D_look : Df P w K mg base "look" 1 ["good"] f_look) (D_view_read : Df P w K mg base "view_read" 3 ["many", "text"] f_view_read) (DR_look : Dr P w K mg base "look" 1 ["good"] g_look) (DR_view_read : Dr P w K mg base "view_read" 3 ["many", "text"] g_view_read) : FnG P w K mg base (L2.CX P w) 4 f fd ["many", "text"] (SpR K g_views_read) := by
  obtain ⟨a_look, d_look, m_look, k_look, b_look, G_look⟩ := D_look.ex
  obtain ⟨a_view_read, d_view_read, m_view_read, k_view_read, b_view_read, G_view_read⟩ := D_view_read.ex
  obtain ⟨aR_look, dR_look, mR_look, kR_look, bR_look, GR_look⟩ := DR_look.ex
  obtain ⟨aR_view_read, dR_view_read, mR_view_read, kR_view_read, bR_view_read, GR_view_read⟩ := DR_view_read.ex
  refine def_r (k := 3) (N := N_views_read) (lk := lk_views_read) (gS := r_views_read) F sc_views_read fun cdv A outer s H E hr => ?_
  exact (prs_nx (pds_if (pxt_of (pdt_cmp op_eq s_eqS (pd_name 1) pd_str (nomark _)))
      (pds_one (pds_ret (px_of (pd_lst pda_nil))))
      pds_nil)
      (prs_nx (pds_set (i := 2) sc_views_read.nd (px_of (pd_m1 PySem.F.slot_str_split PySem.F.type_str_split mt_split s_split (pd_name 1) pd_str)))
      (prs_seq (prs_expr (pre_call [false] GR_look (hr.mono (by decide)) (takes_of rfl rfl rfl rfl) rfl mR_look kR_look bR_look (pda_cons (pd_cmp op_le s_le (pd_callB call_len' s_len rfl T.b_len (by decide +kernel) (pda_cons (pd_name 2) pda_nil)) (pd_glob (d := (.int 40)) rfl T.c_MOST_VIEWS.choose_spec ⟨_, rfl⟩ rfl) (nomark _)) pda_nil)))
      (pds_expr (px_of (pd_call [false] G_look (hr.mono (by decide)) rfl m_look k_look b_look (pda_cons (pd_cmp op_le s_le (pd_callB call_len' s_len rfl T.b_len (by decide +kernel) (pda_cons (pd_name 2) pda_nil)) (pd_glob (d := (.int 40)) rfl T.c_MOST_VIEWS.choose_spec ⟨_, rfl⟩ rfl) (nomark _)) pda_nil))))
      (prs_one (prs_ret (pre_lc (own := [("part", 3)]) rfl rfl (takes_of rfl rfl rfl rfl) rfl sc_views_read.nd (pdp_lst (pd_name 2)) (blkOk_by (own := [("part", 3)]) (N := N_views_read) (sc := defScope s_views_read) (by decide +kernel)) (fun _ _ _ _ _ _ => (pt_nm sc_views_read.nd)) (fun _ _ _ _ _ _ => pdt_yes) (fun _ _ _ _ _ _ => (pd_call [false, false] G_view_read (hr.mono (by decide)) rfl m_view_read k_view_read b_view_read (pda_cons (pd_name 0) (pda_cons (pd_name 3) pda_nil)))) (fun _ _ _ _ _ _ _ KT => (pre_call [false, false] GR_view_read (hr.mono (by decide)) KT rfl mR_view_read kR_view_read bR_view_read (pda_cons (pd_name 0) (pda_cons (pd_name 3) pda_nil))))))))))
theorem ok_read_heap {f : Addr} {fd : FuncData} (T : Txt K mg) (F : Fun K "read_heap" "read_heap" s_read_heap f fd) (D_look : Df P w K mg base "look" 1 ["good"] f_look) (D_number_in : Df P w K mg base "number_in" 2 ["text"] f_number_in) (D_views_read : Df P w K mg base "views_read" 4 ["many", "text"] f_views_read) : FnG P w K mg base CX0 5 f fd ["text"] (SpI K f_read_heap) := by
  obtain ⟨a_look, d_look, m_look, k_look, b_look, G_look⟩ := D_look.ex
  obtain ⟨a_number_in, d_number_in, m_number_in, k_number_in, b_number_in, G_number_in⟩ := D_number_in.ex
  obtain ⟨a_views_read, d_views_read, m_views_read, k_views_read, b_views_read, G_views_read⟩ := D_views_read.ex
  refine def_ok (k := 4) (N := N_read_heap) (lk := lk_read_heap) (fS := F_read_heap) F sc_read_heap fun cdv A outer s H E hr => ?_
  exact (pds_cons (pds_unp (px_of (pd_m1 PySem.F.slot_str_partition PySem.F.type_str_partition mt_partition s_part (pd_name 0) pd_str)) (pt_tp rfl (pts_cons' (pt_nm sc_read_heap.nd) (pts_cons' (pt_nm sc_read_heap.nd) (pts_cons' (pt_nm sc_read_heap.nd) pts_nil')))))
      (pds_cons (pds_expr (px_of (pd_call [false] G_look (hr.mono (by decide)) rfl m_look k_look b_look (pda_cons (pd_cmp op_ne s_neS (pd_name 2) pd_str (nomark _)) pda_nil))))
      (pds_cons (pds_set (i := 4) sc_read_heap.nd (px_of (pd_call [false] G_number_in (hr.mono (by decide)) rfl m_number_in k_number_in b_number_in (pda_cons (pd_name 1) pda_nil))))
      (pds_cons (pds_set (i := 5) sc_read_heap.nd (px_of (pd_m1 PySem.F.slot_str_split PySem.F.type_str_split mt_split s_split (pd_name 3) pd_str)))
      (pds_cons (pds_expr (px_of (pd_call [false] G_look (hr.mono (by decide)) rfl m_look k_look b_look (pda_cons (pd_and (pd_cmp op_le s_le (pd_name 4) (pd_glob (d := (.int 40)) rfl T.c_MOST_COINS.choose_spec ⟨_, rfl⟩ rfl) (nomark _)) (pd_one (pd_cmp op_le s_le (pd_callB call_len' s_len rfl T.b_len (by decide +kernel) (pda_cons (pd_name 5) pda_nil)) (pd_callB call_len' s_len rfl T.b_len (by decide +kernel) (pda_cons (pd_glob (d := (.str "abcd")) rfl T.c_LETTERS.choose_spec ⟨_, rfl⟩ rfl) pda_nil)) (nomark _)))) pda_nil))))
      (pds_one (pds_ret (px_of (pd_tup (pda_cons (pd_name 4) (pda_cons (pd_lc (own := [("part", 6)]) rfl sc_read_heap.nd (pdp_lst (pd_name 5)) (blkOk_by (own := [("part", 6)]) (N := N_read_heap) (sc := defScope s_read_heap) (by decide +kernel)) (fun _ _ _ _ _ => (pt_nm sc_read_heap.nd)) (fun _ _ _ _ _ => pdt_yes) (fun _ _ _ _ _ => (pd_call [false, false] G_views_read (hr.mono (by decide)) rfl m_views_read k_views_read b_views_read (pda_cons (pd_name 4) (pda_cons (pd_name 6) pda_nil))))) pda_nil)))))))))))
theorem okr_read_heap {f : Addr} {fd : FuncData} (T : Txt K mg) (F : Fun K "read_heap" "read_heap" s_read_heap f fd) (D_look : Df P w K mg base "look" 1 ["good"] f_look) (D_number_in : Df P w K mg base "number_in" 2 ["text"] f_number_in) (D_views_read : Df P w K mg base "views_read" 4 ["many", "text"] f_views_read) (DR_look : Dr P w K mg base "look" 1 ["good"] g_look) (DR_number_in : Dr P w K mg base "number_in" 2 ["text"] g_number_in) (DR_views_read : Dr P w K mg base "views_read" 4 ["many", "text"] g_views_read) : FnG P w K mg base (L2.CX P w) 5 f fd ["text"] (SpR K g_read_heap) := by
  obtain ⟨a_look, d_look, m_look, k_look, b_look, G_look⟩ := D_look.ex
  obtain ⟨a_number_in, d_number_in, m_number_in, k_number_in, b_number_in, G_number_in⟩ := D_number_in.ex
  obtain ⟨a_views_read, d_views_read, m_views_read, k_views_read, b_views_read, G_views_read⟩ := D_views_read.ex
  obtain ⟨aR_look, dR_look, mR_look, kR_look, bR_look, GR_look⟩ := DR_look.ex
  obtain ⟨aR_number_in, dR_number_in, mR_number_in, kR_number_in, bR_number_in, GR_number_in⟩ := DR_number_in.ex
  obtain ⟨aR_views_read, dR_views_read, mR_views_read, kR_views_read, bR_views_read, GR_views_read⟩ := DR_views_read.ex
  refine def_r (k := 4) (N := N_read_heap) (lk := lk_read_heap) (gS := r_read_heap) F sc_read_heap fun cdv A outer s H E hr => ?_
  exact (prs_nx (pds_unp (px_of (pd_m1 PySem.F.slot_str_partition PySem.F.type_str_partition mt_partition s_part (pd_name 0) pd_str)) (pt_tp rfl (pts_cons' (pt_nm sc_read_heap.nd) (pts_cons' (pt_nm sc_read_heap.nd) (pts_cons' (pt_nm sc_read_heap.nd) pts_nil')))))
      (prs_seq (prs_expr (pre_call [false] GR_look (hr.mono (by decide)) (takes_of rfl rfl rfl rfl) rfl mR_look kR_look bR_look (pda_cons (pd_cmp op_ne s_neS (pd_name 2) pd_str (nomark _)) pda_nil)))
      (pds_expr (px_of (pd_call [false] G_look (hr.mono (by decide)) rfl m_look k_look b_look (pda_cons (pd_cmp op_ne s_neS (pd_name 2) pd_str (nomark _)) pda_nil))))
      (prs_seq (prs_set (i := 4) sc_read_heap.nd (pre_call [false] GR_number_in (hr.mono (by decide)) (takes_of rfl rfl rfl rfl) rfl mR_number_in kR_number_in bR_number_in (pda_cons (pd_name 1) pda_nil)))
      (pds_set (i := 4) sc_read_heap.nd (px_of (pd_call [false] G_number_in (hr.mono (by decide)) rfl m_number_in k_number_in b_number_in (pda_cons (pd_name 1) pda_nil))))
      (prs_nx (pds_set (i := 5) sc_read_heap.nd (px_of (pd_m1 PySem.F.slot_str_split PySem.F.type_str_split mt_split s_split (pd_name 3) pd_str)))
      (prs_seq (prs_expr (pre_call [false] GR_look (hr.mono (by decide)) (takes_of rfl rfl rfl rfl) rfl mR_look kR_look bR_look (pda_cons (pd_and (pd_cmp op_le s_le (pd_name 4) (pd_glob (d := (.int 40)) rfl T.c_MOST_COINS.choose_spec ⟨_, rfl⟩ rfl) (nomark _)) (pd_one (pd_cmp op_le s_le (pd_callB call_len' s_len rfl T.b_len (by decide +kernel) (pda_cons (pd_name 5) pda_nil)) (pd_callB call_len' s_len rfl T.b_len (by decide +kernel) (pda_cons (pd_glob (d := (.str "abcd")) rfl T.c_LETTERS.choose_spec ⟨_, rfl⟩ rfl) pda_nil)) (nomark _)))) pda_nil)))
      (pds_expr (px_of (pd_call [false] G_look (hr.mono (by decide)) rfl m_look k_look b_look (pda_cons (pd_and (pd_cmp op_le s_le (pd_name 4) (pd_glob (d := (.int 40)) rfl T.c_MOST_COINS.choose_spec ⟨_, rfl⟩ rfl) (nomark _)) (pd_one (pd_cmp op_le s_le (pd_callB call_len' s_len rfl T.b_len (by decide +kernel) (pda_cons (pd_name 5) pda_nil)) (pd_callB call_len' s_len rfl T.b_len (by decide +kernel) (pda_cons (pd_glob (d := (.str "abcd")) rfl T.c_LETTERS.choose_spec ⟨_, rfl⟩ rfl) pda_nil)) (nomark _)))) pda_nil))))
      (prs_one (prs_ret (pre_tup (pra_tl (pd_name 4) (pra_hd (pre_lc (own := [("part", 6)]) rfl rfl (takes_of rfl rfl rfl rfl) rfl sc_read_heap.nd (pdp_lst (pd_name 5)) (blkOk_by (own := [("part", 6)]) (N := N_read_heap) (sc := defScope s_read_heap) (by decide +kernel)) (fun _ _ _ _ _ _ => (pt_nm sc_read_heap.nd)) (fun _ _ _ _ _ _ => pdt_yes) (fun _ _ _ _ _ _ => (pd_call [false, false] G_views_read (hr.mono (by decide)) rfl m_views_read k_views_read b_views_read (pda_cons (pd_name 4) (pda_cons (pd_name 6) pda_nil)))) (fun _ _ _ _ _ _ _ KT => (pre_call [false, false] GR_views_read (hr.mono (by decide)) KT rfl mR_views_read kR_views_read bR_views_read (pda_cons (pd_name 4) (pda_cons (pd_name 6) pda_nil))))) pda_nil))))))))))
theorem ok__law_is_text {f : Addr} {fd : FuncData} (T : Txt K mg) (F : Fun K "_law_is_text" "_law_is_text" s__law_is_text f fd) : FnG P w K mg base CX0 1 f fd ["_law_caught"] (SpI K f__law_is_text) := by
  refine def_ok (k := 0) (N := N__law_is_text) (lk := lk__law_is_text) (fS := F__law_is_text) F sc__law_is_text fun cdv A outer s H E hr => ?_
  exact (pds_cons (pds_set (i := 1) sc__law_is_text.nd (px_of (pd_lst (pda_cons (pd_isX (cv := (.ref (ca.at_ 3))) (c := (.ref (ca.at_ 3))) (fun u h => h) (fun b h => by cases h; exact T.kn_NoCount) (kEL_ok (l := [(0, false)]) (List.forall_mem_cons.mpr ⟨⟨T.ex_NoText, T.ki_NoText_NoCount⟩, fun _ h => by cases h⟩)) rfl T.b_isinstance (pe_glob rfl T.g_NoCount (show RelV (.ref (ca.at_ 3)) (.ref (ca.at_ 3)) from rfl)) (pd_name 0) (by decide +kernel)) (pda_cons (pd_isX (cv := (.ref (ca.at_ 2))) (c := (.ref (ca.at_ 2))) (fun u h => h) (fun b h => by cases h; exact T.kn_NoGroup) (kEL_ok (l := [(0, false)]) (List.forall_mem_cons.mpr ⟨⟨T.ex_NoText, T.ki_NoText_NoGroup⟩, fun _ h => by cases h⟩)) rfl T.b_isinstance (pe_glob rfl T.g_NoGroup (show RelV (.ref (ca.at_ 2)) (.ref (ca.at_ 2)) from rfl)) (pd_name 0) (by decide +kernel)) (pda_cons (pd_isX (cv := (.ref (ca.at_ 1))) (c := (.ref (ca.at_ 1))) (fun u h => h) (fun b h => by cases h; exact T.kn_NoTable) (kEL_ok (l := [(0, false)]) (List.forall_mem_cons.mpr ⟨⟨T.ex_NoText, T.ki_NoText_NoTable⟩, fun _ h => by cases h⟩)) rfl T.b_isinstance (pe_glob rfl T.g_NoTable (show RelV (.ref (ca.at_ 1)) (.ref (ca.at_ 1)) from rfl)) (pd_name 0) (by decide +kernel)) pda_nil))))))
      (pds_cons (pds_set (i := 1) sc__law_is_text.nd (px_of (pd_bin op_addA s_addA (pd_name 1) (pd_lst (pda_cons (pd_isX (cv := (.ref (ca.at_ 6))) (c := (.ref (ca.at_ 6))) (fun u h => h) (fun b h => by cases h; exact T.kn_TooMany) (kEL_ok (l := [(0, false)]) (List.forall_mem_cons.mpr ⟨⟨T.ex_NoText, T.ki_NoText_TooMany⟩, fun _ h => by cases h⟩)) rfl T.b_isinstance (pe_glob rfl T.g_TooMany (show RelV (.ref (ca.at_ 6)) (.ref (ca.at_ 6)) from rfl)) (pd_name 0) (by decide +kernel)) (pda_cons (pd_isX (cv := (.ref (ca.at_ 5))) (c := (.ref (ca.at_ 5))) (fun u h => h) (fun b h => by cases h; exact T.kn_NoLine) (kEL_ok (l := [(0, false)]) (List.forall_mem_cons.mpr ⟨⟨T.ex_NoText, T.ki_NoText_NoLine⟩, fun _ h => by cases h⟩)) rfl T.b_isinstance (pe_glob rfl T.g_NoLine (show RelV (.ref (ca.at_ 5)) (.ref (ca.at_ 5)) from rfl)) (pd_name 0) (by decide +kernel)) (pda_cons (pd_isX (cv := (.ref (ca.at_ 4))) (c := (.ref (ca.at_ 4))) (fun u h => h) (fun b h => by cases h; exact T.kn_NoPlace) (kEL_ok (l := [(0, false)]) (List.forall_mem_cons.mpr ⟨⟨T.ex_NoText, T.ki_NoText_NoPlace⟩, fun _ h => by cases h⟩)) rfl T.b_isinstance (pe_glob rfl T.g_NoPlace (show RelV (.ref (ca.at_ 4)) (.ref (ca.at_ 4)) from rfl)) (pd_name 0) (by decide +kernel)) pda_nil)))))))
      (pds_cons (pds_if (pxt_of (pdt_cmp (op_inA (hu65 hr)) s_inA pd_bl (pd_bin op_addA s_addA (pd_name 1) (pd_lst (pda_cons (pd_isX (cv := (.ref (ca.at_ 7))) (c := (.ref (ca.at_ 7))) (fun u h => h) (fun b h => by cases h; exact T.kn_NoHeap) (kEL_ok (l := [(0, false)]) (List.forall_mem_cons.mpr ⟨⟨T.ex_NoText, T.ki_NoText_NoHeap⟩, fun _ h => by cases h⟩)) rfl T.b_isinstance (pe_glob rfl T.g_NoHeap (show RelV (.ref (ca.at_ 7)) (.ref (ca.at_ 7)) from rfl)) (pd_name 0) (by decide +kernel)) pda_nil))) (by rfl)))
      (pds_one (pds_ret (px_of pd_bl)))
      pds_nil)
      (pds_one (pds_ret (px_of (pd_and (pd_isX (cv := (.ref (ca.at_ 0))) (c := (.ref (ca.at_ 0))) (fun u h => h) (fun b h => by cases h; exact T.kn_NoText) (kEL_ok (l := [(0, true)]) (List.forall_mem_cons.mpr ⟨⟨T.ex_NoText, T.ki_NoText_NoText⟩, fun _ h => by cases h⟩)) rfl T.b_isinstance (pe_glob rfl T.g_NoText (show RelV (.ref (ca.at_ 0)) (.ref (ca.at_ 0)) from rfl)) (pd_name 0) (by decide +kernel)) (pd_one (pd_isX (cv := (.type "ValueError")) (c := (.ty "ValueError")) (fun u h => h) (fun b h => by cases h; exact T.kn_ValueError) (kEL_ok (l := [(0, true)]) (List.forall_mem_cons.mpr ⟨⟨T.ex_NoText, T.ki_NoText_ValueError⟩, fun _ h => by cases h⟩)) rfl T.b_isinstance (pe_bltn (v := .ty "ValueError") rfl T.b_ValueError (by decide +kernel) rfl (by decide) (by decide)) (pd_name 0) (by decide +kernel))))))))))
theorem ok__law_judged {f : Addr} {fd : FuncData} (T : Txt K mg) (F : Fun K "_law_judged" "_law_judged" s__law_judged f fd) (D__law_heap_read : Df P w K mg base "_law_heap_read" 3 ["_law_text"] f__law_heap_read) (D_read_heap : Df P w K mg base "read_heap" 5 ["text"] f_read_heap) (D__law_is_text : Df P w K mg base "_law_is_text" 1 ["_law_caught"] f__law_is_text) (DR_read_heap : Dr P w K mg base "read_heap" 5 ["text"] g_read_heap) : FnG P w K mg base CX0 6 f fd ["_law_text"] (SpI K f__law_judged) := by
  obtain ⟨a__law_heap_read, d__law_heap_read, m__law_heap_read, k__law_heap_read, b__law_heap_read, G__law_heap_read⟩ := D__law_heap_read.ex
  obtain ⟨a_read_heap, d_read_heap, m_read_heap, k_read_heap, b_read_heap, G_read_heap⟩ := D_read_heap.ex
  obtain ⟨a__law_is_text, d__law_is_text, m__law_is_text, k__law_is_text, b__law_is_text, G__law_is_text⟩ := D__law_is_text.ex
  obtain ⟨aR_read_heap, dR_read_heap, mR_read_heap, kR_read_heap, bR_read_heap, GR_read_heap⟩ := DR_read_heap.ex
  refine def_ok (k := 5) (N := N__law_judged) (lk := lk__law_judged) (fS := F__law_judged) F sc__law_judged fun cdv A outer s H E hr => ?_
  exact (pds_cons (pds_set (i := 1) sc__law_judged.nd (px_of (pd_call [false] G__law_heap_read (hr.mono (by decide)) rfl m__law_heap_read k__law_heap_read b__law_heap_read (pda_cons (pd_name 0) pda_nil))))
      (pds_cons (pds_set (i := 2) sc__law_judged.nd (px_of pd_non))
      (pds_cons (pds_set (i := 3) sc__law_judged.nd (px_of pd_non))
      (pds_cons (pds_try (lk := lk__law_judged) (okC := okX [0]) (i := 4) (j := 3) (gs := R__law_judged_0) (f := B__law_judged_1) rfl rfl sc__law_judged.nd rfl rfl rfl (by first | exact .inl rfl | exact .inr rfl) (by first | exact .inl rfl | exact .inr rfl) (by first | exact Or.inl rfl | exact Or.inr (Or.inl rfl) | exact Or.inr (Or.inr rfl)) (by decide) (by decide) ⟨rfl, by decide, .inl T.g_TellError⟩ rfl (okX_ok (List.forall_mem_cons.mpr ⟨T.em_NoText_TellError, fun _ h => by cases h⟩))
      (fun W pn xe tk po => (prs_one (prs_set (i := 2) sc__law_judged.nd (pre_call [false] GR_read_heap (hr.mono (by decide)) tk rfl mR_read_heap kR_read_heap bR_read_heap (pda_cons (pd_name 0) pda_nil)))))
      (fun pn xe po => (pds_one (pds_set (i := 2) sc__law_judged.nd (px_of (pd_call [false] G_read_heap (hr.mono (by decide)) rfl m_read_heap k_read_heap b_read_heap (pda_cons (pd_name 0) pda_nil)))))))
      (pds_cons (pds_if (pxt_of (pdt_cmp op_isN s_isN (pd_name 1) pd_non (nomark _)))
      (pds_one (pds_ret (px_of (pd_call [false] G__law_is_text (hr.mono (by decide)) rfl m__law_is_text k__law_is_text b__law_is_text (pda_cons (pd_name 3) pda_nil)))))
      pds_nil)
      (pds_one (pds_ret (px_of (pd_and (pd_cmp op_isN s_isN (pd_name 3) pd_non (nomark _)) (pd_one (pd_cmp (op_eqD hr.units) s_eq (pd_name 2) (pd_name 1) (nomark _))))))))))))
theorem ok_law {f : Addr} {fd : FuncData} (T : Txt K mg) (F : Fun K "law" "law" s_law f fd) (D__law_heap_text : Df P w K mg base "_law_heap_text" 2 ["_law_heap_here"] f__law_heap_text) (D__law_heap : Df P w K mg base "_law_heap" 3 ["_law_script", "_law_start"] f__law_heap) (D__law_pile : Df P w K mg base "_law_pile" 1 ["_law_script", "_law_k"] f__law_pile) (D__law_bent : Df P w K mg base "_law_bent" 3 ["_law_text", "_law_pile_here"] f__law_bent) (D__law_judged : Df P w K mg base "_law_judged" 6 ["_law_text"] f__law_judged) (D__law_odd : Df P w K mg base "_law_odd" 1 [] f__law_odd) : FnG P w K mg base CX0 7 f fd ["_law_script"] (SpI K f_law) := by
  obtain ⟨a__law_heap_text, d__law_heap_text, m__law_heap_text, k__law_heap_text, b__law_heap_text, G__law_heap_text⟩ := D__law_heap_text.ex
  obtain ⟨a__law_heap, d__law_heap, m__law_heap, k__law_heap, b__law_heap, G__law_heap⟩ := D__law_heap.ex
  obtain ⟨a__law_pile, d__law_pile, m__law_pile, k__law_pile, b__law_pile, G__law_pile⟩ := D__law_pile.ex
  obtain ⟨a__law_bent, d__law_bent, m__law_bent, k__law_bent, b__law_bent, G__law_bent⟩ := D__law_bent.ex
  obtain ⟨a__law_judged, d__law_judged, m__law_judged, k__law_judged, b__law_judged, G__law_judged⟩ := D__law_judged.ex
  obtain ⟨a__law_odd, d__law_odd, m__law_odd, k__law_odd, b__law_odd, G__law_odd⟩ := D__law_odd.ex
  refine def_ok (k := 6) (N := N_law) (lk := lk_law) (fS := F_law) F sc_law fun cdv A outer s H E hr => ?_
  exact (pds_cons (pds_for PassesOwn.never rfl (pdi_of (pdr_range1 rfl T.b_range (pda_cons pd_int pda_nil))) (pt_nm sc_law.nd)
      (pds_cons (pds_set (i := 2) sc_law.nd (px_of (pd_call [false] G__law_heap_text (hr.mono (by decide)) rfl m__law_heap_text k__law_heap_text b__law_heap_text (pda_cons (pd_call [false, false] G__law_heap (hr.mono (by decide)) rfl m__law_heap k__law_heap b__law_heap (pda_cons (pd_name 0) (pda_cons (pd_bin op_mulA s_mulA pd_int (pd_name 1)) pda_nil))) pda_nil))))
      (pds_cons (pds_set (i := 3) sc_law.nd (px_of (pd_call [false, false] G__law_pile (hr.mono (by decide)) rfl m__law_pile k__law_pile b__law_pile (pda_cons (pd_name 0) (pda_cons (pd_bin op_addA s_addA (pd_bin op_mulA s_mulA pd_int (pd_name 1)) pd_int) pda_nil)))))
      (pds_one (pds_for PassesOwn.never rfl (pdi_of (pdr_range1 rfl T.b_range (pda_cons pd_int pda_nil))) (pt_nm sc_law.nd)
      (pds_cons (pds_set (i := 2) sc_law.nd (px_callJ [false, true] G__law_bent (hr.mono (by decide)) rfl m__law_bent k__law_bent b__law_bent (pxa_of (pda_cons (pd_name 2) (pda_cons (pd_name 3) pda_nil)))))
      (pds_one (pds_if (pxt_of (pdt_not (pdt_val (pd_call [false] G__law_judged (hr.mono (by decide)) rfl m__law_judged k__law_judged b__law_judged (pda_cons (pd_name 2) pda_nil)))))
      (pds_one (pds_ret (px_of pd_bl)))
      pds_nil))))))))
      (pds_cons (pds_for PassesOwn.never rfl (pdi_lst (px_of (pd_call0 G__law_odd (hr.mono (by decide)) rfl m__law_odd k__law_odd b__law_odd))) (pt_nm sc_law.nd)
      (pds_one (pds_if (pxt_of (pdt_not (pdt_val (pd_call [false] G__law_judged (hr.mono (by decide)) rfl m__law_judged k__law_judged b__law_judged (pda_cons (pd_name 2) pda_nil)))))
      (pds_one (pds_ret (px_of pd_bl)))
      pds_nil)))
      (pds_one (pds_ret (px_of pd_bl)))))
end
end G78
end
section
set_option Elab.async false
set_option linter.all false
set_option maxRecDepth 100000
set_option maxHeartbeats 4000000
namespace G78
open PySem T2
variable [ca : ClsA]
local macro_rules | `(tactic| wtm_at "fn") => `(tactic| ((with_reducible apply g_eq); (with_reducible assumption)))
local macro_rules | `(tactic| wtm_at "put") => `(tactic| (simp only [put_z, put_s]; try rfl))
local macro_rules | `(tactic| wtm_at "sd") => `(tactic| (decide))
local macro_rules | `(tactic| wtm_at "sd") => `(tactic| (solve_by_elim only [*]))
local macro_rules | `(tactic| wtm_at "sd") => `(tactic| (exact Int.lt_of_lt_of_le (mem_rngI2.mp (by (with_reducible assumption))).2 (by omega)))
local macro_rules | `(tactic| wtm_at "sd") => `(tactic| (exact Int.le_trans (by omega) (mem_rngI2.mp (by (with_reducible assumption))).1))
local macro_rules | `(tactic| wtm_at "sd") => `(tactic| (exact Int.lt_of_lt_of_le (mem_rngI.mp (by (with_reducible assumption))).2 (by omega)))
local macro_rules | `(tactic| wtm_at "sd") => `(tactic| (exact rng_nat2 (by (with_reducible assumption)) (by omega) (by omega)))
local macro_rules | `(tactic| wtm_at "sd") => `(tactic| (exact rng_nat (by (with_reducible assumption)) (by omega)))
local macro_rules | `(tactic| wtm_at "sd") => `(tactic| (exact Int.le_of_lt (Int.lt_of_lt_of_le (mem_rngI2.mp (by (with_reducible assumption))).2 (by omega))))
local macro_rules | `(tactic| wtm_at "sd") => `(tactic| (exact Int.le_of_lt (Int.lt_of_lt_of_le (mem_rngI.mp (by (with_reducible assumption))).2 (by omega))))
local macro_rules | `(tactic| wtm_at "sd") => `(tactic| (exact (mem_rngI.mp (by (with_reducible assumption))).1))
local macro_rules | `(tactic| wtm_at "sd") => `(tactic| ((simp only [List.length_map, List.length_replicate, List.length_range, List.length_append, List.length_cons, List.length_nil, List.length_set, rngI_len, rngI2_len, sizeLine]; omega)))
local macro_rules | `(tactic| wtm_at "sd") => `(tactic| (omega))
local macro_rules | `(tactic| wtm_at "sd") => `(tactic| (((with_reducible apply pow2_log); wtm_at "sd")))
local macro_rules | `(tactic| wtm_at "sd") => `(tactic| ((with_reducible exact pow2_pos)))
local macro_rules | `(tactic| wtm_at "sd") => `(tactic| (((with_reducible apply g_prop); (with_reducible assumption))))
local macro_rules | `(tactic| wtm_at "stow") => `(tactic| (rfl))
local macro_rules | `(tactic| wtm_at "stow") => `(tactic| ((with_reducible exact stow_s _)))
local macro_rules | `(tactic| wtm_at "stow") => `(tactic| ((with_reducible exact stow_z _)))
local macro_rules | `(tactic| wtm_at "stow") => `(tactic| ((with_reducible exact stow_f)))
local macro_rules | `(tactic| wtm_at "dats") => `(tactic| (((with_reducible apply dats_w); (focus wtm_at "datW"); wtm_at "dats")))
local macro_rules | `(tactic| wtm_at "dats") => `(tactic| (((with_reducible apply dats_m); (focus rfl); (focus wtm_at "dat0"); wtm_at "dats")))
local macro_rules | `(tactic| wtm_at "dats") => `(tactic| (((with_reducible apply dats_b); (focus (first | rfl | assumption)); wtm_at "dats")))
local macro_rules | `(tactic| wtm_at "dats") => `(tactic| (((with_reducible apply dats_o); wtm_at "dats")))
local macro_rules | `(tactic| wtm_at "dats") => `(tactic| (((with_reducible apply dats_e); wtm_at "dats")))
local macro_rules | `(tactic| wtm_at "dats") => `(tactic| (((with_reducible apply dats_f); wtm_at "dats")))
local macro_rules | `(tactic| wtm_at "dats") => `(tactic| ((with_reducible exact dats_n)))
local macro_rules | `(tactic| wtm_at "gd") => `(tactic| (((with_reducible apply gd_str); first | rfl | decide)))
local macro_rules | `(tactic| wtm_at "gd") => `(tactic| (((with_reducible apply gdL_map); intros; wtm_at "gd")))
local macro_rules | `(tactic| wtm_at "gd") => `(tactic| (((with_reducible apply gdL_c); (focus wtm_at "gd"); wtm_at "gd")))
local macro_rules | `(tactic| wtm_at "gd") => `(tactic| (((with_reducible apply gd_tup); wtm_at "gd")))
local macro_rules | `(tactic| wtm_at "gd") => `(tactic| (((with_reducible apply gd_lst); wtm_at "gd")))
local macro_rules | `(tactic| wtm_at "gd") => `(tactic| ((with_reducible assumption)))
local macro_rules | `(tactic| wtm_at "gd") => `(tactic| ((with_reducible exact gdL_n)))
local macro_rules | `(tactic| wtm_at "gd") => `(tactic| ((with_reducible exact gdL_ints)))
local macro_rules | `(tactic| wtm_at "gd") => `(tactic| ((with_reducible exact gd_lI)))
local macro_rules | `(tactic| wtm_at "gd") => `(tactic| ((with_reducible exact gd_non)))
local macro_rules | `(tactic| wtm_at "gd") => `(tactic| ((with_reducible exact gd_bl)))
local macro_rules | `(tactic| wtm_at "gd") => `(tactic| ((with_reducible exact gd_int)))
local macro_rules | `(tactic| wtm_at "tru0") => `(tactic| ((simp; omega)))
local macro_rules | `(tactic| wtm_at "tru0") => `(tactic| ((with_reducible exact beq_false_of_ne (by omega))))
local macro_rules | `(tactic| wtm_at "tru0") => `(tactic| ((with_reducible exact decide_eq_true (by omega))))
local macro_rules | `(tactic| wtm_at "tru0") => `(tactic| ((with_reducible exact decide_eq_false (by omega))))
local macro_rules | `(tactic| wtm_at "tru0") => `(tactic| ((with_reducible assumption)))
local macro_rules | `(tactic| wtm_at "tru0") => `(tactic| ((with_reducible rfl)))
local macro_rules | `(tactic| wtm_at "tru") => `(tactic| ((simp; omega)))
local macro_rules | `(tactic| wtm_at "tru") => `(tactic| ((simp; done)))
local macro_rules | `(tactic| wtm_at "tru") => `(tactic| ((with_reducible assumption)))
local macro_rules | `(tactic| wtm_at "tru") => `(tactic| (rfl))
local macro_rules | `(tactic| wtm_at "nlc") => `(tactic| (rfl))
local macro_rules | `(tactic| wtm_at "nlc") => `(tactic| ((with_reducible exact nlc_D)))
local macro_rules | `(tactic| wtm_at "nlc") => `(tactic| ((with_reducible exact nlc_B)))
local macro_rules | `(tactic| wtm_at "nlc") => `(tactic| ((with_reducible exact nlc_I)))
local macro_rules | `(tactic| wtm_at "asTm") => `(tactic| (intros; wtm_at "asT"))
local macro_rules | `(tactic| wtm_at "datW") => `(tactic| (intros; first | (with_reducible exact datW_f) | (with_reducible exact datW_oD _) | ((with_reducible apply datW_m); wtm_at "datW") | ((with_reducible apply datW_t); wtm_at "datW") | ((with_reducible apply datW_l); wtm_at "datW") | (with_reducible exact datWL_n) | ((with_reducible apply datWL_c); (focus wtm_at "datW"); wtm_at "datW")))
local macro_rules | `(tactic| wtm_at "lcL") => `(tactic| (skip))
local macro_rules | `(tactic| wtm_at "lcL") => `(tactic| (((with_reducible apply lcL_t); (focus wtm_at "asT"); (focus wtm_at "sx"); (focus wtm_at "tru"); (focus wtm_at "sx"); (focus wtm_at "sx"); wtm_at "lcL")))
local macro_rules | `(tactic| wtm_at "lcL") => `(tactic| (((with_reducible apply lcL_s); (focus wtm_at "asT"); (focus wtm_at "sx"); (focus wtm_at "tru"); wtm_at "lcL")))
local macro_rules | `(tactic| wtm_at "lcL") => `(tactic| ((with_reducible exact lcL_n)))
local macro_rules | `(tactic| wtm_at "mv") => `(tactic| (((with_reducible apply movL_l); (focus wtm_at "g"); wtm_at "mv")))
local macro_rules | `(tactic| wtm_at "mv") => `(tactic| (((with_reducible apply movL_b); (focus rfl); (focus rfl); (focus wtm_at "kill"); wtm_at "mv")))
local macro_rules | `(tactic| wtm_at "mv") => `(tactic| (((with_reducible apply movL_f); wtm_at "mv")))
local macro_rules | `(tactic| wtm_at "mv") => `(tactic| ((with_reducible exact movL_n)))
local macro_rules | `(tactic| wtm_at "asTs") => `(tactic| (((with_reducible apply asTs_c); (focus (wtm_at "asT")); wtm_at "asTs")))
local macro_rules | `(tactic| wtm_at "asTs") => `(tactic| ((with_reducible exact asTs_n)))
local macro_rules | `(tactic| wtm_at "asT") => `(tactic| (intros; first | ((with_reducible apply asT_tp); (focus rfl); wtm_at "asTs") | ((with_reducible apply asT_tl); (focus rfl); wtm_at "asTs") | ((with_reducible apply asT_nm); (focus rfl); (focus rfl); simp only [En.wipe, En.kill, List.set_cons_zero, List.set_cons_succ, put_z, put_s]; try rfl)))
local macro_rules | `(tactic| wtm_at "dat0") => `(tactic| (((with_reducible apply datL0_c); (focus wtm_at "dat0"); wtm_at "dat0")))
local macro_rules | `(tactic| wtm_at "dat0") => `(tactic| ((with_reducible exact datL0_n)))
local macro_rules | `(tactic| wtm_at "dat0") => `(tactic| (((with_reducible apply dat0_t); wtm_at "dat0")))
local macro_rules | `(tactic| wtm_at "dat0") => `(tactic| (((with_reducible apply dat0_l); wtm_at "dat0")))
local macro_rules | `(tactic| wtm_at "dat0") => `(tactic| (((with_reducible apply dat0_map); intros; wtm_at "dat0")))
local macro_rules | `(tactic| wtm_at "dat0") => `(tactic| ((with_reducible exact dat0_o)))
local macro_rules | `(tactic| wtm_at "dat0") => `(tactic| ((with_reducible exact dat0_f)))
local macro_rules | `(tactic| wtm_at "frz") => `(tactic| (rfl))
local macro_rules | `(tactic| wtm_at "frz") => `(tactic| (((with_reducible apply froz_m); wtm_at "dat0")))
local macro_rules | `(tactic| wtm_at "frz") => `(tactic| ((with_reducible exact froz_o)))
local macro_rules | `(tactic| wtm_at "frz") => `(tactic| ((with_reducible exact froz_f)))
local macro_rules | `(tactic| wtm_at "frz") => `(tactic| ((with_reducible exact froz_n)))
local macro_rules | `(tactic| wtm_at "frz") => `(tactic| (((with_reducible apply frozL_c); (focus wtm_at "frz"); wtm_at "frz")))
local macro_rules | `(tactic| wtm_at "frz") => `(tactic| ((with_reducible exact frozL_n)))
local macro_rules | `(tactic| wtm_at "kill") => `(tactic| (simp only [En.kill, En.wipe, En.back, List.set_cons_zero, List.set_cons_succ, get_z, get_s]; try rfl))
local macro_rules | `(tactic| wtm_at "lpO") => `(tactic| (((with_reducible apply lpO_c); (focus wtm_at "put"); (focus wtm_at "sx"); (focus rfl); (focus wtm_at "kill"); wtm_at "lpO")))
local macro_rules | `(tactic| wtm_at "lpO") => `(tactic| ((with_reducible exact lpO_n)))
local macro_rules | `(tactic| wtm_at "op") => `(tactic| (((with_reducible apply g_idxB); rfl)))
local macro_rules | `(tactic| wtm_at "op") => `(tactic| ((with_reducible exact k_idxL4)))
local macro_rules | `(tactic| wtm_at "op") => `(tactic| ((with_reducible exact k_idxT4)))
local macro_rules | `(tactic| wtm_at "op") => `(tactic| ((with_reducible exact k_idxL3)))
local macro_rules | `(tactic| wtm_at "op") => `(tactic| ((with_reducible exact k_idxT3)))
local macro_rules | `(tactic| wtm_at "op") => `(tactic| ((with_reducible exact k_idxL2)))
local macro_rules | `(tactic| wtm_at "op") => `(tactic| ((with_reducible exact k_idxT2)))
local macro_rules | `(tactic| wtm_at "op") => `(tactic| ((with_reducible exact k_idxL1)))
local macro_rules | `(tactic| wtm_at "op") => `(tactic| ((with_reducible exact k_idxT1)))
local macro_rules | `(tactic| wtm_at "op") => `(tactic| ((with_reducible exact k_idxL0)))
local macro_rules | `(tactic| wtm_at "op") => `(tactic| ((with_reducible exact k_idxT0)))
local macro_rules | `(tactic| wtm_at "op") => `(tactic| (wtm_at "fn"))
local macro_rules | `(tactic| wtm_at "op") => `(tactic| ((with_reducible assumption)))
local macro_rules | `(tactic| wtm_at "op") => `(tactic| ((with_reducible exact k_idxO2)))
local macro_rules | `(tactic| wtm_at "op") => `(tactic| ((with_reducible exact k_idxO1)))
local macro_rules | `(tactic| wtm_at "op") => `(tactic| ((with_reducible exact k_idxO0)))
local macro_rules | `(tactic| wtm_at "op") => `(tactic| (((with_reducible apply callB_x); (focus rfl); (focus wtm_at "dats"); (focus wtm_at "env"); (focus wtm_at "all"); (focus first | rfl | (with_reducible assumption) | (with_reducible exact sLf_oI _)))))
local macro_rules | `(tactic| wtm_at "op") => `(tactic| (((with_reducible apply callP_of); (focus wtm_at "g"); wtm_at "all")))
local macro_rules | `(tactic| wtm_at "op") => `(tactic| (((with_reducible apply k_eqGF); (focus wtm_at "dats"); (all_goals (try wtm_at "gd")))))
local macro_rules | `(tactic| wtm_at "op") => `(tactic| (((with_reducible apply k_eqGT); (focus wtm_at "dats"); (all_goals (try wtm_at "gd")))))
local macro_rules | `(tactic| wtm_at "op") => `(tactic| (((with_reducible apply k_eqSF); (focus wtm_at "dats"); (focus wtm_at "gd"); done)))
local macro_rules | `(tactic| wtm_at "op") => `(tactic| (((with_reducible apply k_eqST); (focus wtm_at "dats"); (focus wtm_at "gd"); done)))
local macro_rules | `(tactic| wtm_at "op") => `(tactic| (((with_reducible apply k_eqLF); (focus wtm_at "dats"); done)))
local macro_rules | `(tactic| wtm_at "op") => `(tactic| (((with_reducible apply k_eqLT); (focus wtm_at "dats"); done)))
local macro_rules | `(tactic| wtm_at "op") => `(tactic| (((with_reducible apply k_ninG); (focus wtm_at "dats"); (all_goals (try wtm_at "gd")))))
local macro_rules | `(tactic| wtm_at "op") => `(tactic| (((with_reducible apply k_inG); (focus wtm_at "dats"); (all_goals (try wtm_at "gd")))))
local macro_rules | `(tactic| wtm_at "op") => `(tactic| (((with_reducible apply k_ninB); (focus wtm_at "dats"); done)))
local macro_rules | `(tactic| wtm_at "op") => `(tactic| (((with_reducible apply k_inB); (focus wtm_at "dats"); done)))
local macro_rules | `(tactic| wtm_at "op") => `(tactic| (((with_reducible apply k_ninI); (focus wtm_at "dats"); done)))
local macro_rules | `(tactic| wtm_at "op") => `(tactic| (((with_reducible apply k_inI); (focus wtm_at "dats"); done)))
local macro_rules | `(tactic| wtm_at "op") => `(tactic| ((with_reducible exact k_inT4)))
local macro_rules | `(tactic| wtm_at "op") => `(tactic| ((with_reducible exact k_inT3)))
local macro_rules | `(tactic| wtm_at "op") => `(tactic| ((with_reducible exact k_inT2)))
local macro_rules | `(tactic| wtm_at "op") => `(tactic| (((with_reducible apply listOf_b); rfl)))
local macro_rules | `(tactic| wtm_at "op") => `(tactic| ((with_reducible exact listOf_s)))
local macro_rules | `(tactic| wtm_at "op") => `(tactic| ((with_reducible exact listOf_o)))
local macro_rules | `(tactic| wtm_at "op") => `(tactic| ((with_reducible exact listOf_f)))
local macro_rules | `(tactic| wtm_at "op") => `(tactic| ((with_reducible exact x_clear)))
local macro_rules | `(tactic| wtm_at "op") => `(tactic| (((with_reducible apply x_catFF); wtm_at "sd")))
local macro_rules | `(tactic| wtm_at "op") => `(tactic| (((with_reducible apply x_catOF); wtm_at "sd")))
local macro_rules | `(tactic| wtm_at "op") => `(tactic| (((with_reducible apply x_catFO); wtm_at "sd")))
local macro_rules | `(tactic| wtm_at "op") => `(tactic| (((with_reducible apply x_catBO); (focus rfl); wtm_at "sd")))
local macro_rules | `(tactic| wtm_at "op") => `(tactic| (((with_reducible apply x_catBB); (focus rfl); (focus rfl); wtm_at "sd")))
local macro_rules | `(tactic| wtm_at "op") => `(tactic| (((with_reducible apply x_cat); (all_goals (try wtm_at "sd")))))
local macro_rules | `(tactic| wtm_at "op") => `(tactic| (((with_reducible apply x_mset); (all_goals (try wtm_at "sd")))))
local macro_rules | `(tactic| wtm_at "op") => `(tactic| (((with_reducible apply x_extend); (all_goals (try wtm_at "sd")))))
local macro_rules | `(tactic| wtm_at "op") => `(tactic| (((with_reducible apply x_extendD); (all_goals (try wtm_at "sd")))))
local macro_rules | `(tactic| wtm_at "op") => `(tactic| (((with_reducible apply x_appD); (all_goals (try wtm_at "sd")))))
local macro_rules | `(tactic| wtm_at "op") => `(tactic| (((with_reducible apply x_append); (all_goals (try wtm_at "sd")))))
local macro_rules | `(tactic| wtm_at "op") => `(tactic| ((with_reducible exact k_tupOl2')))
local macro_rules | `(tactic| wtm_at "op") => `(tactic| ((with_reducible exact k_tupOl2)))
local macro_rules | `(tactic| wtm_at "op") => `(tactic| ((with_reducible exact k_tup4)))
local macro_rules | `(tactic| wtm_at "op") => `(tactic| ((with_reducible exact k_tup3)))
local macro_rules | `(tactic| wtm_at "op") => `(tactic| ((with_reducible exact k_tup2)))
local macro_rules | `(tactic| wtm_at "op") => `(tactic| ((with_reducible exact k_tup1)))
local macro_rules | `(tactic| wtm_at "op") => `(tactic| ((with_reducible exact k_tupBp2)))
local macro_rules | `(tactic| wtm_at "op") => `(tactic| (((with_reducible apply x_idxM); (all_goals (try wtm_at "sd")))))
local macro_rules | `(tactic| wtm_at "op") => `(tactic| (((with_reducible apply x_idxO); (all_goals (try wtm_at "sd")))))
local macro_rules | `(tactic| wtm_at "op") => `(tactic| (((with_reducible apply x_idxB); (focus (first | rfl | (with_reducible assumption))); (all_goals (try wtm_at "sd")))))
local macro_rules | `(tactic| wtm_at "op") => `(tactic| (((with_reducible apply x_idxF); (all_goals (try wtm_at "sd")))))
local macro_rules | `(tactic| wtm_at "op") => `(tactic| (((with_reducible apply k_lst); wtm_at "sd")))
local macro_rules | `(tactic| wtm_at "op") => `(tactic| ((with_reducible exact k_lstI6)))
local macro_rules | `(tactic| wtm_at "op") => `(tactic| ((with_reducible exact k_lstI5)))
local macro_rules | `(tactic| wtm_at "op") => `(tactic| ((with_reducible exact k_lstI4)))
local macro_rules | `(tactic| wtm_at "op") => `(tactic| ((with_reducible exact k_lstI3)))
local macro_rules | `(tactic| wtm_at "op") => `(tactic| ((with_reducible exact k_lstI2)))
local macro_rules | `(tactic| wtm_at "op") => `(tactic| ((with_reducible exact k_lstI1)))
local macro_rules | `(tactic| wtm_at "op") => `(tactic| ((with_reducible exact k_lstI0)))
local macro_rules | `(tactic| wtm_at "op") => `(tactic| (((with_reducible apply k_shr); wtm_at "sd")))
local macro_rules | `(tactic| wtm_at "op") => `(tactic| (((with_reducible apply k_shl); all_goals wtm_at "sd")))
local macro_rules | `(tactic| wtm_at "op") => `(tactic| (((with_reducible apply k_pow); all_goals wtm_at "sd")))
local macro_rules | `(tactic| wtm_at "op") => `(tactic| ((with_reducible exact k_inti)))
local macro_rules | `(tactic| wtm_at "op") => `(tactic| ((with_reducible exact k_intb)))
local macro_rules | `(tactic| wtm_at "op") => `(tactic| ((with_reducible exact k_abs)))
local macro_rules | `(tactic| wtm_at "op") => `(tactic| ((with_reducible exact k_neg)))
local macro_rules | `(tactic| wtm_at "op") => `(tactic| ((with_reducible exact k_ge)))
local macro_rules | `(tactic| wtm_at "op") => `(tactic| ((with_reducible exact k_gt)))
local macro_rules | `(tactic| wtm_at "op") => `(tactic| ((with_reducible exact k_le)))
local macro_rules | `(tactic| wtm_at "op") => `(tactic| ((with_reducible exact k_lt)))
local macro_rules | `(tactic| wtm_at "op") => `(tactic| ((with_reducible exact k_or)))
local macro_rules | `(tactic| wtm_at "op") => `(tactic| ((with_reducible exact k_and)))
local macro_rules | `(tactic| wtm_at "op") => `(tactic| ((with_reducible exact k_max2)))
local macro_rules | `(tactic| wtm_at "op") => `(tactic| ((with_reducible exact k_min2)))
local macro_rules | `(tactic| wtm_at "op") => `(tactic| ((with_reducible exact k_minN)))
local macro_rules | `(tactic| wtm_at "op") => `(tactic| ((with_reducible exact k_xor)))
local macro_rules | `(tactic| wtm_at "op") => `(tactic| ((with_reducible exact k_xorN)))
local macro_rules | `(tactic| wtm_at "op") => `(tactic| ((with_reducible exact k_orN)))
local macro_rules | `(tactic| wtm_at "op") => `(tactic| ((with_reducible exact k_andN)))
local macro_rules | `(tactic| wtm_at "op") => `(tactic| (((with_reducible apply k_mul); try wtm_at "mul")))
local macro_rules | `(tactic| wtm_at "op") => `(tactic| (((with_reducible apply k_div); all_goals wtm_at "sd")))
local macro_rules | `(tactic| wtm_at "op") => `(tactic| (((with_reducible apply k_mod); wtm_at "sd")))
local macro_rules | `(tactic| wtm_at "op") => `(tactic| ((with_reducible exact k_eqT)))
local macro_rules | `(tactic| wtm_at "op") => `(tactic| ((with_reducible exact k_eqF)))
local macro_rules | `(tactic| wtm_at "op") => `(tactic| ((with_reducible exact k_sub)))
local macro_rules | `(tactic| wtm_at "op") => `(tactic| ((with_reducible exact k_add)))
local macro_rules | `(tactic| wtm_at "mul") => `(tactic| (solve_by_elim only [*]))
local macro_rules | `(tactic| wtm_at "mul") => `(tactic| (exact cMul_ok 64 1000 (by omega) (by decide) (by decide)))
local macro_rules | `(tactic| wtm_at "mul") => `(tactic| (exact cMul_ok 1000 1000 (by decide) (by decide) (by decide)))
local macro_rules | `(tactic| wtm_at "mul") => `(tactic| (exact cMul_ok 64 64 (by omega) (by decide) (by decide)))
local macro_rules | `(tactic| wtm_at "mul") => `(tactic| (exact cMul_ok 64 64 (by decide) (by omega) (by decide)))
local macro_rules | `(tactic| wtm_at "mul") => `(tactic| (exact cMul_ok 64 64 (by omega) (by omega) (by decide)))
local macro_rules | `(tactic| wtm_at "mul") => `(tactic| ((with_reducible assumption)))
local macro_rules | `(tactic| wtm_at "all") => `(tactic| (skip))
local macro_rules | `(tactic| wtm_at "all") => `(tactic| ((wtm_at "sx"; wtm_at "all")))
local macro_rules | `(tactic| wtm_at "all") => `(tactic| (done))
local macro_rules | `(tactic| wtm_at "sx") => `(tactic| (focus (wtm_at "s1")))
local macro_rules | `(tactic| wtm_at "s1") => `(tactic| (((with_reducible apply g_leN); wtm_at "sd")))
local macro_rules | `(tactic| wtm_at "s1") => `(tactic| (((with_reducible apply g_ltN); wtm_at "sd")))
local macro_rules | `(tactic| wtm_at "s1") => `(tactic| (((with_reducible apply g_le); wtm_at "sd")))
local macro_rules | `(tactic| wtm_at "s1") => `(tactic| (((with_reducible apply g_lt); wtm_at "sd")))
local macro_rules | `(tactic| wtm_at "s1") => `(tactic| (wtm_at "op"))
local macro_rules | `(tactic| wtm_at "s1") => `(tactic| (wtm_at "g"))
local macro_rules | `(tactic| wtm_at "s1") => `(tactic| (((with_reducible apply g_meq); wtm_at "nrm")))
local macro_rules | `(tactic| wtm_at "s1") => `(tactic| (((with_reducible apply x_xop); wtm_at "all")))
local macro_rules | `(tactic| wtm_at "s1") => `(tactic| (((with_reducible apply xbin_of); wtm_at "all")))
local macro_rules | `(tactic| wtm_at "s1") => `(tactic| (((with_reducible apply xcons_of); wtm_at "all")))
local macro_rules | `(tactic| wtm_at "s1") => `(tactic| (((with_reducible apply g_set); (simp only [List.set_cons_zero, List.set_cons_succ]; try rfl))))
local macro_rules | `(tactic| wtm_at "s1") => `(tactic| (((with_reducible apply setE_p1); (focus rfl); (focus rfl); (focus rfl); wtm_at "all")))
local macro_rules | `(tactic| wtm_at "s1") => `(tactic| (((with_reducible apply setE_put); (focus rfl); (all_goals (try wtm_at "put")))))
local macro_rules | `(tactic| wtm_at "s1") => `(tactic| ((with_reducible exact x_yes)))
local macro_rules | `(tactic| wtm_at "s1") => `(tactic| (((with_reducible apply x_lc); (focus wtm_at "sx"); (focus wtm_at "lcL"); wtm_at "all")))
local macro_rules | `(tactic| wtm_at "s1") => `(tactic| (((with_reducible apply x_lcGf); (focus wtm_at "sx"); (focus wtm_at "asTm"); (focus (intros; wtm_at "sx")); (focus (intros; wtm_at "sx")); (focus (intros; wtm_at "g")); (focus wtm_at "sx"); (focus wtm_at "nlc"); done)))
local macro_rules | `(tactic| wtm_at "s1") => `(tactic| (((with_reducible apply x_lcG); (focus wtm_at "sx"); (focus wtm_at "asTm"); (focus (intros; wtm_at "sx")); (focus (intros; wtm_at "g")); (focus wtm_at "sx"); (focus wtm_at "nlc"); done)))
local macro_rules | `(tactic| wtm_at "s1") => `(tactic| ((with_reducible exact items_o)))
local macro_rules | `(tactic| wtm_at "s1") => `(tactic| (((with_reducible apply items_b); first | rfl | (with_reducible assumption))))
local macro_rules | `(tactic| wtm_at "s1") => `(tactic| ((with_reducible exact items_f)))
local macro_rules | `(tactic| wtm_at "s1") => `(tactic| (((with_reducible apply items_lst); wtm_at "all")))
local macro_rules | `(tactic| wtm_at "s1") => `(tactic| (((with_reducible apply inR_of); (all_goals (try wtm_at "sd")))))
local macro_rules | `(tactic| wtm_at "s1") => `(tactic| (((with_reducible apply x_rI2); wtm_at "all")))
local macro_rules | `(tactic| wtm_at "s1") => `(tactic| (((with_reducible apply x_rI1); wtm_at "all")))
local macro_rules | `(tactic| wtm_at "s1") => `(tactic| (((with_reducible apply lifI_of); wtm_at "all")))
local macro_rules | `(tactic| wtm_at "s1") => `(tactic| (((with_reducible apply itX_of); (focus (wtm_at "sx")); (focus (wtm_at "sx")); (focus rfl); (focus rfl))))
local macro_rules | `(tactic| wtm_at "s1") => `(tactic| (((with_reducible apply x_zipP); (focus (wtm_at "sx")); (focus (wtm_at "sx")); (focus (wtm_at "sx")); done)))
local macro_rules | `(tactic| wtm_at "s1") => `(tactic| (((with_reducible apply x_enP); (focus (wtm_at "sx")); (focus (wtm_at "sx")); done)))
local macro_rules | `(tactic| wtm_at "s1") => `(tactic| (((with_reducible apply x_for); wtm_at "all")))
local macro_rules | `(tactic| wtm_at "s1") => `(tactic| (((with_reducible apply x_wh); wtm_at "all")))
local macro_rules | `(tactic| wtm_at "s1") => `(tactic| (((with_reducible apply x_unp); (focus (wtm_at "sx")); (focus (wtm_at "sx")); wtm_at "asT")))
local macro_rules | `(tactic| wtm_at "s1") => `(tactic| ((with_reducible exact sLf_nil)))
local macro_rules | `(tactic| wtm_at "s1") => `(tactic| ((with_reducible exact sLf_ol)))
local macro_rules | `(tactic| wtm_at "s1") => `(tactic| (((with_reducible apply x_frzE); (focus wtm_at "frz"); wtm_at "all")))
local macro_rules | `(tactic| wtm_at "s1") => `(tactic| (((with_reducible apply x_frzT); (focus wtm_at "frz"); wtm_at "all")))
local macro_rules | `(tactic| wtm_at "s1") => `(tactic| (((with_reducible apply x_lcX); (focus wtm_at "sx"); (focus assumption); wtm_at "all")))
local macro_rules | `(tactic| wtm_at "s1") => `(tactic| (((with_reducible apply x_forO); (focus rfl); (focus rfl); (focus (first | decide | (intro h; cases h))); (focus rfl); (focus wtm_at "kill"); (focus wtm_at "lpO"); wtm_at "put")))
local macro_rules | `(tactic| wtm_at "s1") => `(tactic| (((with_reducible apply x_augI); wtm_at "all")))
local macro_rules | `(tactic| wtm_at "s1") => `(tactic| (((with_reducible apply x_augN); wtm_at "all")))
local macro_rules | `(tactic| wtm_at "s1") => `(tactic| (((with_reducible apply x_set); wtm_at "all")))
local macro_rules | `(tactic| wtm_at "s1") => `(tactic| (((with_reducible apply x_callI); wtm_at "all")))
local macro_rules | `(tactic| wtm_at "s1") => `(tactic| (((with_reducible apply x_mut); wtm_at "all")))
local macro_rules | `(tactic| wtm_at "s1") => `(tactic| (((with_reducible apply x_mutP); wtm_at "all")))
local macro_rules | `(tactic| wtm_at "s1") => `(tactic| (((with_reducible apply x_ifF); (focus (first | rfl | (with_reducible assumption) | (simp; done) | (simp; omega))); wtm_at "all")))
local macro_rules | `(tactic| wtm_at "s1") => `(tactic| (((with_reducible apply x_ifT); (focus (first | rfl | (with_reducible assumption) | (simp; done) | (simp; omega))); wtm_at "all")))
local macro_rules | `(tactic| wtm_at "s1") => `(tactic| (((with_reducible apply x_if); wtm_at "all")))
local macro_rules | `(tactic| wtm_at "s1") => `(tactic| (((with_reducible apply exp_of); wtm_at "all")))
local macro_rules | `(tactic| wtm_at "s1") => `(tactic| (((with_reducible apply x_retO); (focus wtm_at "sx"); wtm_at "mv")))
local macro_rules | `(tactic| wtm_at "s1") => `(tactic| (((with_reducible apply x_ret); wtm_at "all")))
local macro_rules | `(tactic| wtm_at "s1") => `(tactic| (((with_reducible apply x_asg); (focus rfl); wtm_at "all")))
local macro_rules | `(tactic| wtm_at "s1") => `(tactic| (((with_reducible apply x_val); wtm_at "all")))
local macro_rules | `(tactic| wtm_at "s1") => `(tactic| (((with_reducible apply x_dif); wtm_at "all")))
local macro_rules | `(tactic| wtm_at "s1") => `(tactic| (((with_reducible apply x_vor); wtm_at "all")))
local macro_rules | `(tactic| wtm_at "s1") => `(tactic| (((with_reducible apply x_vand); wtm_at "all")))
local macro_rules | `(tactic| wtm_at "s1") => `(tactic| (((with_reducible apply x_and); wtm_at "all")))
local macro_rules | `(tactic| wtm_at "s1") => `(tactic| (((with_reducible apply x_or); wtm_at "all")))
local macro_rules | `(tactic| wtm_at "s1") => `(tactic| (((with_reducible apply x_andF); (focus wtm_at "sx"); (focus wtm_at "tru0"); done)))
local macro_rules | `(tactic| wtm_at "s1") => `(tactic| (((with_reducible apply x_orT); (focus wtm_at "sx"); (focus wtm_at "tru0"); done)))
local macro_rules | `(tactic| wtm_at "s1") => `(tactic| (((with_reducible apply not_of); wtm_at "all")))
local macro_rules | `(tactic| wtm_at "s1") => `(tactic| (((with_reducible apply tst_of); wtm_at "all")))
local macro_rules | `(tactic| wtm_at "s1") => `(tactic| (((with_reducible apply x_lifT); wtm_at "all")))
local macro_rules | `(tactic| wtm_at "s1") => `(tactic| (((with_reducible apply lifA_of); wtm_at "all")))
local macro_rules | `(tactic| wtm_at "s1") => `(tactic| (((with_reducible apply lif_of); wtm_at "all")))
local macro_rules | `(tactic| wtm_at "s1") => `(tactic| (((with_reducible apply opr_of); wtm_at "all")))
local macro_rules | `(tactic| wtm_at "s1") => `(tactic| ((with_reducible exact slM_fD)))
local macro_rules | `(tactic| wtm_at "s1") => `(tactic| ((with_reducible exact slM_f)))
local macro_rules | `(tactic| wtm_at "s1") => `(tactic| ((with_reducible exact slM_s)))
local macro_rules | `(tactic| wtm_at "s1") => `(tactic| (((with_reducible apply slM_b); first | rfl | (with_reducible assumption))))
local macro_rules | `(tactic| wtm_at "s1") => `(tactic| (((with_reducible apply part_s); wtm_at "all")))
local macro_rules | `(tactic| wtm_at "s1") => `(tactic| ((with_reducible exact part_n)))
local macro_rules | `(tactic| wtm_at "s1") => `(tactic| (((with_reducible apply x_sl); wtm_at "all")))
local macro_rules | `(tactic| wtm_at "s1") => `(tactic| (((with_reducible apply acons_of); wtm_at "all")))
local macro_rules | `(tactic| wtm_at "s1") => `(tactic| (((with_reducible apply una_of); wtm_at "all")))
local macro_rules | `(tactic| wtm_at "s1") => `(tactic| (((with_reducible apply bin_of); wtm_at "all")))
local macro_rules | `(tactic| wtm_at "s1") => `(tactic| (((with_reducible apply seq_of); wtm_at "all")))
local macro_rules | `(tactic| wtm_at "s1") => `(tactic| (((with_reducible apply x_sumI); (focus (wtm_at "sx")); (all_goals (try wtm_at "dats")))))
local macro_rules | `(tactic| wtm_at "s1") => `(tactic| (((with_reducible apply x_ch); wtm_at "all")))
local macro_rules | `(tactic| wtm_at "s1") => `(tactic| (((with_reducible apply x_revF); (focus (wtm_at "sx")); done)))
local macro_rules | `(tactic| wtm_at "s1") => `(tactic| (((with_reducible apply x_revB); (focus (wtm_at "sx")); (focus rfl); done)))
local macro_rules | `(tactic| wtm_at "s1") => `(tactic| (((with_reducible apply x_rI3); wtm_at "all")))
local macro_rules | `(tactic| wtm_at "s1") => `(tactic| (((with_reducible apply x_listR3); wtm_at "all")))
local macro_rules | `(tactic| wtm_at "s1") => `(tactic| (((with_reducible apply x_minL); (focus (wtm_at "sx")); (focus wtm_at "dats"); (focus (with_reducible assumption)); done)))
local macro_rules | `(tactic| wtm_at "s1") => `(tactic| (((with_reducible apply x_allB); (focus (wtm_at "sx")); (all_goals (try wtm_at "dats")))))
local macro_rules | `(tactic| wtm_at "s1") => `(tactic| (((with_reducible apply x_anyB); (focus (wtm_at "sx")); (all_goals (try wtm_at "dats")))))
local macro_rules | `(tactic| wtm_at "s1") => `(tactic| (((with_reducible apply x_lenT); (focus (wtm_at "sx")); (focus wtm_at "dats"); done)))
local macro_rules | `(tactic| wtm_at "s1") => `(tactic| (((with_reducible apply x_lenG); (focus (wtm_at "sx")); (focus wtm_at "dats"); done)))
local macro_rules | `(tactic| wtm_at "s1") => `(tactic| (((with_reducible apply x_lenM); (focus (wtm_at "sx")); (focus wtm_at "dats"); done)))
local macro_rules | `(tactic| wtm_at "s1") => `(tactic| (((with_reducible apply x_lenI); (focus (wtm_at "sx")); (focus wtm_at "dats"); done)))
local macro_rules | `(tactic| wtm_at "s1") => `(tactic| (((with_reducible apply x_lenS); (focus (wtm_at "sx")); done)))
local macro_rules | `(tactic| wtm_at "s1") => `(tactic| (((with_reducible apply x_isi); (focus wtm_at "sx"); (focus wtm_at "dats"); (focus rfl); (focus (first | rfl | decide)))))
local macro_rules | `(tactic| wtm_at "s1") => `(tactic| (((with_reducible apply isi_nbool); wtm_at "all")))
local macro_rules | `(tactic| wtm_at "s1") => `(tactic| (((with_reducible apply isi_int); wtm_at "all")))
local macro_rules | `(tactic| wtm_at "s1") => `(tactic| (((with_reducible apply x_nam); (all_goals rfl))))
local macro_rules | `(tactic| wtm_at "s1") => `(tactic| ((with_reducible exact e_nil)))
local macro_rules | `(tactic| wtm_at "s1") => `(tactic| ((with_reducible exact e_xnil)))
local macro_rules | `(tactic| wtm_at "s1") => `(tactic| ((with_reducible exact e_anil)))
local macro_rules | `(tactic| wtm_at "s1") => `(tactic| ((with_reducible exact e_cst)))
local macro_rules | `(tactic| wtm_at "s1") => `(tactic| (((with_reducible apply g_eq); (with_reducible assumption))))
local macro_rules | `(tactic| wtm_at "nrm") => `(tactic| (rfl))
local macro_rules | `(tactic| wtm_at "nrm") => `(tactic| (((with_reducible apply nrm_L); (with_reducible assumption))))
local macro_rules | `(tactic| wtm_at "nrm") => `(tactic| (((with_reducible apply nrm_O); (with_reducible assumption))))
local macro_rules | `(tactic| wtm_at "nrm") => `(tactic| (((with_reducible apply nrm_B); (with_reducible assumption))))
local macro_rules | `(tactic| wtm_at "nrm") => `(tactic| (((with_reducible apply nrm_I); (with_reducible assumption))))
local macro_rules | `(tactic| wtm_at "g") => `(tactic| (((with_reducible apply g_retM); rfl)))
local macro_rules | `(tactic| wtm_at "g") => `(tactic| ((with_reducible exact shutL_f)))
local macro_rules | `(tactic| wtm_at "g") => `(tactic| ((with_reducible exact slotsL_f)))
local macro_rules | `(tactic| wtm_at "g") => `(tactic| (((with_reducible apply retM_ot); (focus wtm_at "g"); wtm_at "g")))
local macro_rules | `(tactic| wtm_at "g") => `(tactic| (((with_reducible apply retM_ol); (focus wtm_at "g"); wtm_at "g")))
local macro_rules | `(tactic| wtm_at "g") => `(tactic| (((with_reducible apply retM_Be); first | (with_reducible assumption) | rfl)))
local macro_rules | `(tactic| wtm_at "g") => `(tactic| (((with_reducible apply retM_Ie); first | (with_reducible assumption) | rfl)))
local macro_rules | `(tactic| wtm_at "g") => `(tactic| (((with_reducible apply retM_oIe); first | (with_reducible assumption) | rfl)))
local macro_rules | `(tactic| wtm_at "g") => `(tactic| (((with_reducible apply retM_bp); (all_goals rfl))))
local macro_rules | `(tactic| wtm_at "g") => `(tactic| ((with_reducible exact retM_oI _)))
local macro_rules | `(tactic| wtm_at "g") => `(tactic| (((with_reducible apply retM_t1); (focus rfl); wtm_at "dat0")))
local macro_rules | `(tactic| wtm_at "g") => `(tactic| ((with_reducible exact retM_fz)))
local macro_rules | `(tactic| wtm_at "g") => `(tactic| (((with_reducible apply g_put); wtm_at "put")))
local macro_rules | `(tactic| wtm_at "g") => `(tactic| (((with_reducible apply g_outs); rfl)))
local macro_rules | `(tactic| wtm_at "g") => `(tactic| (((with_reducible apply g_ble); rfl)))
local macro_rules | `(tactic| wtm_at "g") => `(tactic| (((with_reducible apply g_shut); (simp only [List.tail_cons]); wtm_at "g")))
local macro_rules | `(tactic| wtm_at "g") => `(tactic| (((with_reducible apply shutZ_d); (focus wtm_at "dat0"); wtm_at "g")))
local macro_rules | `(tactic| wtm_at "g") => `(tactic| (((with_reducible apply shutZ_s); wtm_at "g")))
local macro_rules | `(tactic| wtm_at "g") => `(tactic| (((with_reducible apply shutZ_z); wtm_at "g")))
local macro_rules | `(tactic| wtm_at "g") => `(tactic| (((with_reducible apply shutZ_f); wtm_at "g")))
local macro_rules | `(tactic| wtm_at "g") => `(tactic| ((with_reducible exact shutZ_n)))
local macro_rules | `(tactic| wtm_at "g") => `(tactic| (((with_reducible apply g_slots); rfl)))
local macro_rules | `(tactic| wtm_at "g") => `(tactic| (((with_reducible apply slotsL_ct); (focus wtm_at "g"); wtm_at "g")))
local macro_rules | `(tactic| wtm_at "g") => `(tactic| (((with_reducible apply slotsL_cl); (focus wtm_at "g"); wtm_at "g")))
local macro_rules | `(tactic| wtm_at "g") => `(tactic| (((with_reducible apply slotsL_m); (focus (intros; wtm_at "g")); wtm_at "g")))
local macro_rules | `(tactic| wtm_at "g") => `(tactic| (((with_reducible apply slotsL_co); wtm_at "g")))
local macro_rules | `(tactic| wtm_at "g") => `(tactic| (((with_reducible apply slotsL_cf); wtm_at "g")))
local macro_rules | `(tactic| wtm_at "g") => `(tactic| ((with_reducible exact slotsL_n)))
local macro_rules | `(tactic| wtm_at "g") => `(tactic| (((with_reducible apply stowA_2); wtm_at "g")))
local macro_rules | `(tactic| wtm_at "g") => `(tactic| (((with_reducible apply stowA_1); wtm_at "g")))
local macro_rules | `(tactic| wtm_at "g") => `(tactic| ((with_reducible exact stowA_n)))
local macro_rules | `(tactic| wtm_at "g") => `(tactic| (((with_reducible apply g_lw); assumption)))
local macro_rules | `(tactic| wtm_at "g") => `(tactic| (((with_reducible apply g_lp); assumption)))
local macro_rules | `(tactic| wtm_at "g") => `(tactic| (((with_reducible apply shutL_c); (focus wtm_at "g"); wtm_at "g")))
local macro_rules | `(tactic| wtm_at "g") => `(tactic| (((with_reducible apply slotsL_map); intros; wtm_at "g")))
local macro_rules | `(tactic| wtm_at "g") => `(tactic| (((with_reducible apply shutL_map); intros; wtm_at "g")))
local macro_rules | `(tactic| wtm_at "g") => `(tactic| ((with_reducible exact shutL_n)))
local macro_rules | `(tactic| wtm_at "g") => `(tactic| (((with_reducible apply shut_ot); wtm_at "g")))
local macro_rules | `(tactic| wtm_at "g") => `(tactic| (((with_reducible apply shut_ol); wtm_at "g")))
local macro_rules | `(tactic| wtm_at "g") => `(tactic| (((with_reducible apply shut_m); intros; wtm_at "g")))
local macro_rules | `(tactic| wtm_at "g") => `(tactic| ((with_reducible exact shut_s)))
local macro_rules | `(tactic| wtm_at "g") => `(tactic| ((with_reducible exact shut_f)))
local macro_rules | `(tactic| wtm_at "g") => `(tactic| (((with_reducible apply g_stow); rfl)))
local macro_rules | `(tactic| wtm_at "g") => `(tactic| (((with_reducible apply stow_zt); (focus wtm_at "g"); wtm_at "dat0")))
local macro_rules | `(tactic| wtm_at "g") => `(tactic| (((with_reducible apply stow_zl); (focus wtm_at "g"); wtm_at "dat0")))
local macro_rules | `(tactic| wtm_at "g") => `(tactic| (((with_reducible apply stow_ot); (focus wtm_at "g"); wtm_at "g")))
local macro_rules | `(tactic| wtm_at "g") => `(tactic| (((with_reducible apply stow_ol); (focus wtm_at "g"); wtm_at "g")))
local macro_rules | `(tactic| wtm_at "g") => `(tactic| (((with_reducible apply stow_bm); (focus rfl); (focus wtm_at "dat0"); wtm_at "put")))
local macro_rules | `(tactic| wtm_at "g") => `(tactic| (((with_reducible apply stow_b0); (focus rfl); wtm_at "put")))
local macro_rules | `(tactic| wtm_at "g") => `(tactic| ((with_reducible exact stow_s _)))
local macro_rules | `(tactic| wtm_at "g") => `(tactic| ((with_reducible exact stow_z _)))
local macro_rules | `(tactic| wtm_at "g") => `(tactic| ((with_reducible exact stow_f)))
local macro_rules | `(tactic| wtm_at "g") => `(tactic| (((with_reducible apply g_alv2); (focus rfl); (all_goals (try wtm_at "g")))))
local macro_rules | `(tactic| wtm_at "g") => `(tactic| (((with_reducible apply g_alv); rfl)))
local macro_rules | `(tactic| wtm_at "g") => `(tactic| (((with_reducible apply g_isOl); rfl)))
local macro_rules | `(tactic| wtm_at "g") => `(tactic| (((with_reducible apply g_place); rfl)))
local macro_rules | `(tactic| wtm_at "g") => `(tactic| (((with_reducible apply g_get); rfl)))
local macro_rules | `(tactic| wtm_at "env") => `(tactic| (simp only [List.map_cons, List.map_nil, Nat.reduceSub, Nat.sub_self, List.reduceReplicate, List.replicate_zero, List.append_nil, List.cons_append, List.nil_append]; try rfl))
local macro_rules | `(tactic| wtm_at "run") => `(tactic| (((with_reducible apply run_nx); (focus (first | rfl)); (focus (first | rfl)); (focus wtm_at "env"); wtm_at "all")))
local macro_rules | `(tactic| wtm_at "run") => `(tactic| (((with_reducible apply run_rt); (focus (first | rfl)); (focus (first | rfl)); (focus wtm_at "env"); wtm_at "all")))
local macro_rules | `(tactic| wtm_at "runN") => `(tactic| ((with_reducible apply run_nx); (focus (first | rfl)); (focus (first | rfl)); (focus wtm_at "env"); wtm_at "all"))
local macro_rules | `(tactic| wtm_at "op") => `(tactic| ((with_reducible exact k_notB)))
local macro_rules | `(tactic| wtm_at "op") => `(tactic| ((with_reducible exact k_isB)))
local macro_rules | `(tactic| wtm_at "op") => `(tactic| ((with_reducible exact k_dlenO)))
local macro_rules | `(tactic| wtm_at "op") => `(tactic| ((with_reducible exact k_bits)))
local macro_rules | `(tactic| wtm_at "op") => `(tactic| (((with_reducible apply k_keysP); (with_reducible assumption))))
local macro_rules | `(tactic| wtm_at "op") => `(tactic| (((with_reducible apply k_dgP); (focus (with_reducible assumption)); (focus rfl); (with_reducible assumption))))
local macro_rules | `(tactic| wtm_at "op") => `(tactic| (((with_reducible apply k_dgF); (focus rfl); (with_reducible assumption))))
local macro_rules | `(tactic| wtm_at "op") => `(tactic| (((with_reducible apply k_fldO); (with_reducible exact getF_1))))
local macro_rules | `(tactic| wtm_at "op") => `(tactic| (((with_reducible apply k_fldP); (focus rfl); (focus (with_reducible exact getF_1)); (focus rfl))))
local macro_rules | `(tactic| wtm_at "op") => `(tactic| (((with_reducible apply k_fldF); (with_reducible exact lookD_1))))
local macro_rules | `(tactic| wtm_at "s1") => `(tactic| ((with_reducible apply x_dset); (focus wtm_at "sx"); (focus wtm_at "g"); (focus wtm_at "sx"); (focus wtm_at "sx"); (focus (with_reducible assumption)); (focus rfl); (focus wtm_at "sd"); (with_reducible assumption)))
def mixV (b c : Int) : Int := ((b % 2147483647 * 48271 + c * 69621 + 11) % 2147483647 * ((b % 2147483647 * 48271 + c * 69621 + 11) % 2147483647) % 2147483629) * ((b % 2147483647 * 48271 + c * 69621 + 11) % 2147483647 * ((b % 2147483647 * 48271 + c * 69621 + 11) % 2147483647) % 2147483629) % 2147483587
theorem mixed_ok (b c : Int) (hc : c.natAbs < 2 ^ 40) : f__law_mixed [.fz (.int b), .fz (.int c)] = some (.fz (.int (mixV b c)), [.fz (.int b), .fz (.int c)]) := by
  have m1 : cMul (b % 2147483647) 48271 = true := cMul_ok 31 16 (by omega) (by decide) (by decide)
  have m2 : cMul c 69621 = true := cMul_ok 40 17 hc (by decide) (by decide)
  have m3 : ∀ x : Int, cMul (x % 2147483647) (x % 2147483647) = true := fun x => cMul_ok 31 31 (by omega) (by omega) (by decide)
  have m4 : ∀ x : Int, cMul (x % 2147483629) (x % 2147483629) = true := fun x => cMul_ok 31 31 (by omega) (by omega) (by decide)
  have hl : ∀ i, lk__law_mixed i = false := fun _ => rfl
  have key : F__law_mixed [some (.fz (.int b)), some (.fz (.int c)), none] = some (.rt (.fz (.int (mixV b c))) [some (.fz (.int b)), some (.fz (.int c)), some (.fz (.int ((b % 2147483647 * 48271 + c * 69621 + 11) % 2147483647 * ((b % 2147483647 * 48271 + c * 69621 + 11) % 2147483647) % 2147483629)))]) := by
    simp only [F__law_mixed, hl, e_seq, e_asg, e_ret, e_bin, e_nam, e_cst, get_z, get_s, namM_fz, o2_s, k_add, k_mul, k_mod, m1, m2, m3, m4, Int.reduceLT, asgM_fz, put_z, put_s, retM_fz, List.length_cons, List.length_nil, Nat.reduceAdd, Nat.reduceLT, mixV]
  exact run_rt rfl rfl rfl key rfl
theorem take_c (a b c m : Int) (x : Option M) : T2.bin oIn (T2.bin oIdx (nam 0) (cst (.int 0))) (opr oLst (aCons (cst (.int 0)) (aCons (T2.una (sop (gU fun i => -i)) (cst (.int 1))) aNil))) [some (.ol [I a, I b, I c]), some (I m), x] = some (.fz (.bl ((0 == a) || ((-1 == a) || false)))) := by kernel_rfl
theorem ix0 (a b c m : Int) (x : Option M) : T2.bin oIdx (nam 0) (cst (.int 0)) [some (.ol [I a, I b, I c]), some (I m), x] = some (I a) := by kernel_rfl
theorem ix1 (a b c m : Int) (x : Option M) : T2.bin oIdx (nam 0) (cst (.int 1)) [some (.ol [I a, I b, I c]), some (I m), x] = some (I b) := by kernel_rfl
theorem ix2 (a b c m : Int) (x : Option M) : T2.bin oIdx (nam 0) (cst (.int 2)) [some (.ol [I a, I b, I c]), some (I m), x] = some (I c) := by kernel_rfl
theorem set2 (a b c m : Int) (x : Option M) : sSet 0 (nam 0) (cst (.int 2)) (lif (T2.bin oAdd (T2.bin oIdx (nam 0) (cst (.int 2))) (cst (.int 1)))) [some (.ol [I a, I b, I c]), some (I m), x] = some (.nx [some (.ol [I a, I b, I (c + 1)]), some (I m), x]) := by kernel_rfl
theorem set0 (a b c m : Int) (d : Int) (f : En → Option M) (x : Option M) (h : f [some (.ol [I a, I b, I c]), some (I m), x] = some (I d)) : sSet 0 (nam 0) (cst (.int 0)) (lif f) [some (.ol [I a, I b, I c]), some (I m), x] = some (.nx [some (.ol [I d, I b, I c]), some (I m), x]) := by
  unfold sSet lif
  simp only [h]
  kernel_rfl
theorem take_ok (a b c m : Int) (hm : 0 < m) (hm2 : m.natAbs.log2 < 9000) (hc : c.natAbs < 2 ^ 39) : ∃ r a' c' : Int, f__law_take [.ol [I a, I b, I c], I m] = some (I r, [.ol [I a', I b, I c'], I m]) ∧ 0 ≤ r ∧ r < m ∧ c'.natAbs ≤ c.natAbs + 1 := by
  by_cases h : ((0 == a) || ((-1 == a) || false)) = true
  · have key : F__law_take [some (.ol [I a, I b, I c]), some (I m), none] = some (.rt (I (mixV b (c + 1) % m)) [some (.ol [I a, I b, I (c + 1)]), some (I m), none]) :=
      seq_rt (if_t (tst_of (by rw [take_c, h])) (seq_of (set2 a b c m none) (ret_of (bin_of (opr_of (acons_of (ix1 _ _ _ _ _) (acons_of (ix2 _ _ _ _ _) e_anil)) (callP_of rfl rfl (mixed_ok b (c + 1) (by omega)))) (nam_fz rfl) (k_mod hm)))))
    exact ⟨mixV b (c + 1) % m, a, c + 1, run_rt rfl rfl rfl key rfl, Int.emod_nonneg _ (by omega), Int.emod_lt_of_pos _ hm, by omega⟩
  · have h' : ((0 == a) || ((-1 == a) || false)) = false := by simpa using h
    have key : F__law_take [some (.ol [I a, I b, I c]), some (I m), none] = some (.rt (I (a % m)) [some (.ol [I (a / m), I b, I c]), some (I m), some (I (a % m))]) :=
      seq_of (if_f (tst_of (by rw [take_c, h'])) e_nil) (seq_of (asg_of (bin_of (ix0 _ _ _ _ _) (nam_fz rfl) (k_mod hm)) rfl (by simp)) (seq_of (set0 a b c m (a / m) _ _ (bin_of (ix0 _ _ _ _ _) (nam_fz rfl) (k_div hm hm2))) (ret_of (nam_fz rfl))))
    exact ⟨a % m, a / m, c, run_rt rfl rfl rfl key rfl, Int.emod_nonneg _ (by omega), Int.emod_lt_of_pos _ hm, by omega⟩
theorem pile_tail (ns : List Int) (t : Nat) (c : Int) (ht : t < 128) (hc : Builtin.Int.intBits c ≤ 1048576) :
    ∃ a, (sRet lk__law_pile (lif (opr oLst (aCons (T2.bin oMul (nam 2) (opr (sop gInt) (aCons (T2.bin (sop iGe) (opr (sop gAbs) (aCons (nam 2) aNil)) (T2.bin (sop iPow) (cst (.int 10)) (cst (.int 18)))) aNil))) (aCons (nam 2) (aCons (T2.bin oMul (cst (.int 97)) (nam 1)) aNil)))))) [some (.fz (.scr ns)), some (I t), some (I c)]
      = some (.rt (.ol [I a, I c, I (97 * t)]) [some (.fz (.scr ns)), some (I t), some (I c)]) := by
  have m1 : cMul 97 (t : Int) = true := cMul_ok 7 7 (by decide) (by omega) (by decide)
  have m2 : ∀ b : Bool, cMul c (if b then 1 else 0) = true := fun b => by
    cases b
    · exact cMul_le 1048576 1 hc (by decide) (by decide)
    · exact cMul_le 1048576 1 hc (by decide) (by decide)
  have n2 : nam 2 [some (.fz (.scr ns)), some (I t), some (I c)] = some (I c) := nam_fz (by kernel_rfl)
  have n1 : nam 1 [some (.fz (.scr ns)), some (I t), some (I c)] = some (I t) := nam_fz (by kernel_rfl)
  have hp : T2.bin (sop iPow) (cst (.int 10)) (cst (.int 18)) [some (.fz (.scr ns)), some (I t), some (I c)] = some (I (10 ^ 18)) := bin_of e_cst e_cst (k_pow (by decide) (by decide) (by decide))
  have ha : (opr oLst (aCons (T2.bin oMul (nam 2) (opr (sop gInt) (aCons (T2.bin (sop iGe) (opr (sop gAbs) (aCons (nam 2) aNil)) (T2.bin (sop iPow) (cst (.int 10)) (cst (.int 18)))) aNil))) (aCons (nam 2) (aCons (T2.bin oMul (cst (.int 97)) (nam 1)) aNil)))) [some (.fz (.scr ns)), some (I t), some (I c)] = some (.ol [I _, I c, I (97 * t)]) :=
    opr_of (acons_of (bin_of n2 (opr_of (acons_of (bin_of (opr_of (acons_of n2 e_anil) k_abs) hp k_ge) e_anil) k_intb) (k_mul (m2 _))) (acons_of n2 (acons_of (bin_of e_cst n1 (k_mul m1)) e_anil))) (k_lst (by simp [PySem.sizeLine]))
  refine ⟨c * if decide ((10:Int) ^ 18 ≤ if c < 0 then -c else c) = true then 1 else 0, ?_⟩
  rw [e_ret, ha]
  kernel_rfl
theorem pile_ok (ns : List Int) (t : Nat) (ht : t < 128) (hn : ns.length ≤ 63) (hb : ∀ z ∈ ns, Builtin.Int.intBits z ≤ 1048576) :
    ∃ a b : Int, f__law_pile [.fz (.scr ns), I t] = some (.ol [I a, I b, I (97 * t)], [.fz (.scr ns), I t]) := by
  have hl : opr (sop gLen) (aCons (nam 0) aNil) [some (.fz (.scr ns)), some (I t), some (I 0)] = some (I ns.length) := by kernel_rfl
  have n1 : nam 1 [some (.fz (.scr ns)), some (I t), some (I 0)] = some (I t) := nam_fz (by kernel_rfl)
  by_cases h : t < ns.length
  · obtain ⟨a, ha⟩ := pile_tail ns t (ns[t]) ht (hb _ (List.getElem_mem h))
    have hx : L2.atI ns (t : Int) = some ns[t] := by
      simp [L2.atI, L2.ixN, h]
    have key : F__law_pile [some (.fz (.scr ns)), some (I t), none] = some (.rt (.ol [I a, I ns[t], I (97 * t)]) [some (.fz (.scr ns)), some (I t), some (I ns[t])]) :=
      seq_of (asg_of (lk := lk__law_pile) e_cst rfl (by simp)) (seq_of (if_t (tst_of (bin_of n1 hl (k_lt.trans (by rw [decide_eq_true (Int.ofNat_lt.mpr h)])))) (asg_of (lk := lk__law_pile) (i := 2) (bin_of (nam_fz (i := 0) (d := .scr ns) (by kernel_rfl)) n1 (k_scr hx)) rfl (by simp [put_z, put_s]))) ha)
    exact ⟨_, _, run_rt rfl rfl rfl key rfl⟩
  · obtain ⟨a, ha⟩ := pile_tail ns t 0 ht (by decide)
    have key : F__law_pile [some (.fz (.scr ns)), some (I t), none] = some (.rt (.ol [I a, I 0, I (97 * t)]) [some (.fz (.scr ns)), some (I t), some (I 0)]) :=
      seq_of (asg_of (lk := lk__law_pile) e_cst rfl (by simp)) (seq_of (if_f (tst_of (bin_of n1 hl (k_lt.trans (by rw [decide_eq_false (fun q => h (Int.ofNat_lt.mp q))])))) e_nil) ha)
    exact ⟨_, _, run_rt rfl rfl rfl key rfl⟩
abbrev cI (L : List Nat) : List Int := L.map fun m : Nat => (m : Int)
def bitsL (m : Nat) : List Int := ((rngI 41).filter fun x => (m : Int) / (1 * 2 ^ x.toNat) % 2 == 1).map fun x => x
theorem bitsL_eq (m : Nat) : bitsL m = ((List.range 41).filter fun k => m / 2 ^ k % 2 == 1).map fun k : Nat => (k : Int) := by
  unfold bitsL rngI
  rw [List.map_id', List.filter_map]
  congr 1
  refine List.filter_congr fun k hk => ?_
  have h2 : (1 : Int) * 2 ^ ((k : Int)).toNat = ((2 ^ k : Nat) : Int) := by simp
  simp only [Function.comp]
  rw [h2]
  have h3 : (m : Int) / ((2 ^ k : Nat) : Int) % 2 = ((m / 2 ^ k % 2 : Nat) : Int) := by simp
  rw [h3]
  have : ∀ n : Nat, ((n : Int) == 1) = (n == 1) := fun n => by
    rw [Bool.eq_iff_iff]
    simp
    omega
  rw [this]
theorem bitsL_le (m : Nat) : (bitsL m).length ≤ 41 := by
  rw [bitsL_eq, List.length_map]
  exact Nat.le_trans (List.length_filter_le _ _) (by simp)
theorem bitsL_small (m : Nat) : ∀ x ∈ bitsL m, 0 ≤ x ∧ x ≤ 40 := fun x hx => by
  rw [bitsL_eq] at hx
  obtain ⟨k, hk, rfl⟩ := List.mem_map.mp hx
  have := List.mem_range.mp (List.mem_filter.mp hk).1
  omega
abbrev bitD (m : Nat) : D := lI (bitsL m)
abbrev rowD (row : List Nat) : D := .lst (row.map bitD)
abbrev heapD (many : Nat) (rows : List (List Nat)) : D := .tup [.int many, .lst (rows.map rowD)]
abbrev sS (l : List Nat) : Str := ⟨l.toArray⟩
abbrev tD (l : List Nat) : D := .str (sS l)
abbrev tS (l : List Nat) : M := .fz (tD l)
theorem tl_sS (l : List Nat) : TL.tl (sS l) = l := rfl
theorem sS_len (l : List Nat) : (sS l).length = l.length := by simp [Str.length]
theorem sS_app (a b : List Nat) : sS a ++ sS b = sS (a ++ b) := TL.ext_tl (by rw [TL.tl_append])
theorem sS_inj {a b : List Nat} : sS a = sS b ↔ a = b := ⟨fun h => by rw [← tl_sS a, h], fun h => by rw [h]⟩
theorem k_addS {env : En} {a b : List Nat} (h : a.length + b.length ≤ 1000000) : oAdd env [tS a, tS b] = some (tS (a ++ b)) := by
  have h1 : sop iAdd env [tS a, tS b] = none := rfl
  have h2 : sop gStr env [tS a, tS b] = some (tS (a ++ b)) := by
    refine sop_of (dats_f (dats_f dats_n)) (d := tD (a ++ b)) ?_ rfl
    show (if decide ((sS a).length + (sS b).length ≤ sizeLine) then some (D.str (sS a ++ sS b)) else none) = _
    rw [sS_len, sS_len, if_pos (decide_eq_true (by simp only [sizeLine]; omega)), sS_app]
  show oOr (sop iAdd) (oOr (sop gStr) oCat) env _ = _
  unfold oOr
  rw [h1]
  simp only [h2]
theorem k_eqSt {env : En} {a b : List Nat} : sop (gEqS false) env [tS a, tS b] = some (.fz (.bl (decide (a = b)))) := by
  refine sop_of (dats_f (dats_f dats_n)) (d := .bl (decide (a = b))) ?_ rfl
  show some (D.bl (decide (sS a = sS b))) = _
  rw [decide_eq_decide.mpr sS_inj]
theorem k_neSt {env : En} {a b : List Nat} : sop (gEqS true) env [tS a, tS b] = some (.fz (.bl (!decide (a = b)))) := by
  refine sop_of (dats_f (dats_f dats_n)) (d := .bl (!decide (a = b))) ?_ rfl
  show some (D.bl (!decide (sS a = sS b))) = _
  rw [decide_eq_decide.mpr sS_inj]
theorem slM_t {env : En} {l h : Option Int} {a : List Nat} (hl : a.length ≤ 1000000) : slM env l h (tS a) = some (tS (cutM a l h)) := by
  show (if decide ((sS a).length ≤ sizeLine) then some (M.fz (.str (L2.cutS (sS a) l h))) else none) = _
  rw [sS_len, if_pos (decide_eq_true (by simp only [sizeLine]; omega))]
  unfold L2.cutS cutM
  rw [sS_len]
theorem k_itemS {env : En} {c : Nat} {a : List Nat} (hl : a.length ≤ 1000000) : sop gSItem env [tS (c :: a), I 0] = some (tS [c]) := by
  refine sop_of (dats_f (dats_f dats_n)) (d := tD [c]) ?_ rfl
  show (if (0 : Int) ≤ 0 ∧ (0 : Int) < 2 ^ 63 ∧ (0 : Int) < (sS (c :: a)).length then _ else none) = _
  rw [sS_len, if_pos ⟨by decide, by decide, by rw [List.length_cons]; omega⟩]
  rfl
theorem k_inC {env : En} {c : Nat} {z : List Nat} : sop (gInC false) env [tS [c], tS z] = some (.fz (.bl (decide (c ∈ z)))) := sop_of (dats_f (dats_f dats_n)) (d := .bl (decide (c ∈ z))) rfl rfl
theorem k_ninC {env : En} {c : Nat} {z : List Nat} : sop (gInC true) env [tS [c], tS z] = some (.fz (.bl (!decide (c ∈ z)))) := sop_of (dats_f (dats_f dats_n)) (d := .bl (!decide (c ∈ z))) rfl rfl
theorem x_lenT' {f : En → Option M} {env : En} {a : List Nat} (h : f env = some (tS a)) (hl : a.length ≤ 1000000) : opr (sop gLen) (aCons f aNil) env = some (I a.length) := by
  refine opr_of (acons_of h e_anil) (sop_of (dats_f dats_n) (d := .int a.length) ?_ rfl)
  show (if decide ((sS a).length ≤ sizeLine) then some (D.int (sS a).length) else none) = _
  rw [sS_len, if_pos (decide_eq_true (by simp only [sizeLine]; omega))]
theorem sS_map {ys : List Str} {ls : List (List Nat)} (h : ys.map TL.tl = ls) : ys = ls.map sS := TL.map_tl_inj (by rw [h, List.map_map]; exact (List.map_id' ls).symm)
theorem k_split {env : En} {a : List Nat} {s : Nat} {S : List Nat} {ps : List (List Nat)} (hs : s < 256) (hS : ∀ c ∈ S, c < 256) (hl : a.length ≤ 1000000) (h : TL.spl (s :: S) 0 [] a = ps) : opM gSplit env [tS a, tS (s :: S)] = some (oD (ps.map tD)) := by
  have hk : ((sS (s :: S)).cps.all fun x => decide (x < 256)) = true := by
    simp only [List.all_toArray, List.all_cons, Bool.and_eq_true, decide_eq_true_eq, List.all_eq_true]
    exact ⟨hs, fun x hx => hS x hx⟩
  have e := sS_map ((TL.split_spl (sS a) (sS (s :: S)) (by rw [tl_sS]; simp) (TL.kind_ok hk)).trans h)
  show (if ((sS (s :: S)).length == 0) = false ∧ (sS a).length + 2 ≤ sizeLine then some (M.ol (strM (Txt.split (sS a) (sS (s :: S))))) else none) = _
  rw [sS_len, sS_len, if_pos ⟨by simp, by simp only [sizeLine]; omega⟩, e]
  unfold strM
  rw [List.map_map]
  show _ = some (M.ol ((ps.map tD).map .fz))
  rw [List.map_map]
  rfl
theorem join_sS (S : List Nat) (ps : List (List Nat)) : Txt.join (sS S) (ps.map sS) = sS (TL.joinL S ps) := by
  rw [TL.join_eq]
  refine TL.ext_tl ?_
  rw [TL.tl_join, List.map_map]
  show TL.joinL S (ps.map id) = _
  rw [List.map_id]
theorem k_join {env : En} {m : M} {S : List Nat} {ps : List (List Nat)} (h : dats env [m] = some [.lst (ps.map tD)]) (hl : (ps.map (·.length)).sum + ps.length * S.length ≤ 1000000) : opM gJoin env [tS S, m] = some (tS (TL.joinL S ps)) := by
  have e2 : strsD (ps.map tD) = some (ps.map sS) := by
    have := strsD_map (ps.map sS)
    rw [List.map_map] at this
    exact this
  have e3 : ((ps.map sS).map (·.length)).sum = (ps.map (·.length)).sum := by
    rw [List.map_map]
    exact congrArg List.sum (List.map_congr_left fun x _ => sS_len x)
  show gJoin (sS S) env m = _
  unfold gJoin
  rw [dat_of h]
  simp only [e2, e3, List.length_map, sS_len]
  rw [if_pos (by omega), join_sS]
theorem numS (m : Nat) : Str.ofString (toString ((m : Nat) : Int)) = sS (TL.numL m) := TL.ext_tl (TL.tl_num m)
theorem k_intS {f : En → Option M} {env : En} {m : Nat} (h : f env = some (tS (TL.numL m))) (hl : (TL.numL m).length ≤ 640) : opr (sop gIntS) (aCons f aNil) env = some (I m) := by
  have e := TL.int_num (n := m) (by omega)
  rw [numS] at e
  refine opr_of (acons_of h e_anil) (sop_of (dats_f dats_n) (d := .int m) ?_ rfl)
  unfold gIntS
  simp only [e, sS_len]
  rw [if_pos hl]
theorem txD_nat (m : Nat) : D.str (txD (.int (m : Int))) = tD (TL.numL m) := by
  show D.str (Str.ofString (toString ((m : Nat) : Int))) = _
  rw [numS]
theorem k_strN {f : En → Option M} {env : En} {m : Nat} (h : f env = some (I (m : Int))) (hl : m < 2 ^ 1900) : opr (sop gStrD) (aCons f aNil) env = some (tS (TL.numL m)) := by
  have hg : gT (.int (m : Int)) = true := decide_eq_true (by
    show (m : Int).natAbs.log2 < 1920
    rw [Int.natAbs_natCast]
    by_cases h0 : m = 0
    · subst h0; decide
    · exact Nat.lt_of_lt_of_le ((Nat.log2_lt h0).mpr hl) (by decide))
  show _ = some (M.fz (tD (TL.numL m)))
  rw [← txD_nat]
  exact opr_of (acons_of h e_anil) (k_strD (dats_f dats_n) hg (show 0 ≤ 40 by decide) (show 1 ≤ 8000 by decide) rfl)
theorem num_head {m : Nat} (h : m ≠ 0) : ∃ c r, TL.numL m = c :: r ∧ c ≠ 48 := by
  induction m using Nat.strongRecOn with
  | _ m ih =>
    by_cases h10 : m < 10
    · exact ⟨48 + m, [], TL.numL_lt h10, by omega⟩
    · obtain ⟨c, r, e, hc⟩ := ih (m / 10) (by omega) (by omega)
      exact ⟨c, r ++ [48 + m % 10], by rw [TL.numL_step (by omega), e]; rfl, hc⟩
theorem num_sign {m : Nat} : ∀ c ∈ TL.numL m, c ∈ ([48, 49, 50, 51, 52, 53, 54, 55, 56, 57] : List Nat) := fun c hc => by
  have a := Classical.byContradiction fun z => TL.numL_free (n := m) (s := c) (Classical.byContradiction fun y => z y) hc
  have : ¬ (c < 48 ∨ 57 < c) := fun z => TL.numL_free z hc
  have : c = 48 ∨ c = 49 ∨ c = 50 ∨ c = 51 ∨ c = 52 ∨ c = 53 ∨ c = 54 ∨ c = 55 ∨ c = 56 ∨ c = 57 := by omega
  simpa using this
theorem pow40 {m : Nat} (h : m < 10 ^ 40) : m < 2 ^ 1900 := Nat.lt_of_lt_of_le h (by decide)
theorem look_ok' : f_look [.fz (.bl true)] = some (.fz .non, [.fz (.bl true)]) := rfl
theorem e_look {e : En → Option M} {env : En} (h : e env = some (.fz (.bl true))) : sExp (lif (opr (callP [false] f_look) (aCons e aNil))) env = some (.nx env) :=
  exp_of (lif_of (opr_of (acons_of h e_anil) (callP_of rfl rfl look_ok')))
theorem number_in_ok {m : Nat} (hl : (TL.numL m).length ≤ 40) : f_number_in [tS (TL.numL m)] = some (I (m : Int), [tS (TL.numL m)]) := by
  obtain ⟨x, hx⟩ : ∃ x, TL.numL m = x := ⟨_, rfl⟩
  obtain ⟨c, r, ex, hc⟩ : ∃ c r, x = c :: r ∧ ((!decide (([c] : List Nat) = [48])) || decide (c :: r = [48])) = true := by
    by_cases h0 : m = 0
    · subst h0
      exact ⟨48, [], hx.symm.trans (TL.numL_lt (by decide)), by decide⟩
    · obtain ⟨c, r, e, h⟩ := num_head h0
      refine ⟨c, r, hx.symm.trans e, ?_⟩
      have : decide (([c] : List Nat) = [48]) = false := decide_eq_false fun z => h (by simpa using z)
      rw [this]
      rfl
  have hs : ∀ c ∈ x, c ∈ ([48, 49, 50, 51, 52, 53, 54, 55, 56, 57] : List Nat) := hx ▸ num_sign
  rw [hx] at hl
  have n0 : ∀ s, nam 0 [some (tS x), s] = some (tS x) := fun s => nam_fz rfl
  have a1 : T2.bin (sop (gEqS true)) (nam 0) (cst (.str "")) [some (tS x), none] = some (.fz (.bl true)) := by
    have z := bin_of (o := sop (gEqS true)) (n0 none) (e_cst (d := tD [])) k_neSt
    have e : decide (x = []) = false := decide_eq_false (by rw [ex]; simp)
    rw [e] at z
    exact z
  have a2 : T2.bin (sop iLe) (opr (sop gLen) (aCons (nam 0) aNil)) (cst (.int 40)) [some (tS x), none] = some (.fz (.bl true)) := by
    have z := bin_of (o := sop iLe) (x_lenT' (n0 none) (by omega)) (e_cst (d := .int 40)) k_le
    rw [decide_eq_true (by omega)] at z
    exact z
  have a3 : vOr (T2.bin (sop (gEqS true)) (T2.bin (sop gSItem) (nam 0) (cst (.int 0))) (cst (.str "0"))) (T2.bin (sop (gEqS false)) (nam 0) (cst (.str "0"))) [some (tS x), none] = some (.fz (.bl true)) := by
    have i : T2.bin (sop gSItem) (nam 0) (cst (.int 0)) [some (tS x), none] = some (tS [c]) := bin_of (n0 none) e_cst (by rw [ex]; exact k_itemS (by rw [ex, List.length_cons] at hl; omega))
    have z := x_vor (bin_of (o := sop (gEqS true)) i (e_cst (d := tD [48])) k_neSt) (bin_of (o := sop (gEqS false)) (n0 none) (e_cst (d := tD [48])) k_eqSt)
    rw [ex] at z
    rw [hc] at z
    rw [ex]
    exact z
  have s1 := e_look (x_vand a1 (x_vand a2 a3))
  have lp : ∀ (L : List Nat) (_ : ∀ c ∈ L, c ∈ ([48, 49, 50, 51, 52, 53, 54, 55, 56, 57] : List Nat)) (s : Option M), ∃ s', lpF lk_number_in (.nm 1) B_number_in_0 (L.map fun c => tD [c]) [some (tS x), s] = some (.nx [some (tS x), s']) := fun L => by
    induction L with
    | nil => exact fun _ s => ⟨s, lp_nil⟩
    | cons d L ih =>
      intro hL s
      obtain ⟨s', h'⟩ := ih (fun y hy => hL y (List.mem_cons_of_mem _ hy)) (some (tS [d]))
      have t : T2.bin (sop (gInC false)) (nam 1) (cst (.str "0123456789")) [some (tS x), some (tS [d])] = some (.fz (.bl true)) := by
        have z := bin_of (o := sop (gInC false)) (nam_fz (i := 1) (d := tD [d]) (env := [some (tS x), some (tS [d])]) rfl) (e_cst (d := tD [48, 49, 50, 51, 52, 53, 54, 55, 56, 57])) k_inC
        rw [decide_eq_true (hL d (List.mem_cons_self ..))] at z
        exact z
      exact ⟨s', lp_cons rfl (e_look t) h'⟩
  obtain ⟨s', h'⟩ := lp x hs none
  have it : lifI (itS (nam 0)) [some (tS x), none] = some (x.map fun c => tD [c], [some (tS x), none]) := by
    refine lifI_of ?_
    unfold itS
    rw [n0]
  have nr : opr (sop gIntS) (aCons (nam 0) aNil) [some (tS x), s'] = some (I (m : Int)) := by
    rw [← hx]
    exact k_intS (nam_fz rfl) (by rw [hx]; omega)
  rw [hx]
  exact run_rt rfl rfl rfl (seq_of s1 (seq_of (for_of it h') (ret_of nr))) rfl
theorem rLp_1 {lk : Nat → Bool} {t : Tg} {f : En → Option Fl} {g : En → Option (Exn × En)} {d : D} {ds : List D} {env e1 : En} {r : Exn × En} (hT : asT lk t d env = some e1) (h : g e1 = some r) : rLp lk t f g (d :: ds) env = some r := by
  unfold rLp
  simp only [hT, h]
theorem rLp_s {lk : Nat → Bool} {t : Tg} {f : En → Option Fl} {g : En → Option (Exn × En)} {d : D} {ds : List D} {env e1 e2 : En} (hT : asT lk t d env = some e1) (h : g e1 = none) (hf : f e1 = some (.nx e2)) : rLp lk t f g (d :: ds) env = rLp lk t f g ds e2 := by
  rw [rLp]
  simp only [hT, h, hf]
theorem rLp_n {lk : Nat → Bool} {t : Tg} {f : En → Option Fl} {g : En → Option (Exn × En)} {env : En} : rLp lk t f g [] env = none := by unfold rLp; rfl
/-- each item lets out x or does not -/
theorem rcL_b {α : Type} {vs : List Nat} {t : Tg} {elt : En → Option M} {g : En → Option Exn} {env : En} {F : α → D} {bad : α → Bool} {x : Exn} : ∀ (xs : List α) (_ : ∀ a ∈ xs, ∃ e1, asT (lkOf vs) t (F a) (env.wipe vs) = some e1 ∧ g e1 = (if bad a then some x else none) ∧ (bad a = false → ∃ m, elt e1 = some m)), rcL vs t cYes elt g env (xs.map F) = if xs.any bad then some x else none
  | [], _ => by rw [List.map_nil, rcL]; rfl
  | a :: xs, h => by
    obtain ⟨e1, h1, h2, h3⟩ := h a List.mem_cons_self
    have ih := rcL_b (env := env) xs fun z hz => h z (List.mem_cons_of_mem _ hz)
    rw [List.map_cons, rcL, List.any_cons]
    cases hb : bad a with
    | true =>
      rw [hb] at h2
      simp only [h1, cYes, h2]
      rfl
    | false =>
      rw [hb] at h2
      obtain ⟨m, hm⟩ := h3 hb
      simp only [h1, cYes, h2, hm, Bool.false_eq_true, if_false, Bool.false_or]
      exact ih
theorem x_rcF {α : Type} {vs : List Nat} {t : Tg} {it : En → Option (List D)} {elt : En → Option M} {g : En → Option Exn} {env : En} {F : α → D} {bad : α → Bool} {x : Exn} {xs : List α} (h : it env = some (xs.map F)) (hl : xs.length ≤ sizeLine) (he : ∀ a ∈ xs, ∃ e1, asT (lkOf vs) t (F a) (env.wipe vs) = some e1 ∧ g e1 = (if bad a then some x else none) ∧ (bad a = false → ∃ m, elt e1 = some m)) :
    rcF vs t it cYes elt g env = if xs.any bad then some x else none := r_lc h (by rw [List.length_map]; exact hl) (rcL_b xs he)
theorem vand_ff {f g : En → Option M} {env : En} (h : f env = some (.fz (.bl false))) : vAnd f g env = some (.fz (.bl false)) := by
  unfold vAnd
  rw [h]
theorem vand_tt {f g : En → Option M} {env : En} {r : Option M} (h : f env = some (.fz (.bl true))) (h' : g env = r) : vAnd f g env = r := by
  unfold vAnd
  rw [h]
  exact h'
theorem vor_ff {f g : En → Option M} {env : En} {r : Option M} (h : f env = some (.fz (.bl false))) (h' : g env = r) : vOr f g env = r := by
  unfold vOr
  rw [h]
  exact h'
theorem x_enXo {env : En} {i : Nat} {ds : List D} (h : env.get i = some (oD ds)) : itEnX (lifA (aCons (nam i) aNil)) env = some (enD 0 ds, env.put i (.fz (.lst ds))) := by
  have h1 : lifA (aCons (nam i) aNil) env = some ([.bp i []], env) := lifA_of (acons_of (nam_oD h) e_anil)
  have h2 : dats env [.bp i []] = some [.lst ds] := dats_m h dat0_o dats_n
  have h3 : frS [i] env = some (env.put i (.fz (.lst ds))) := by
    unfold frS
    rw [h]
    simp only [dat0_o]
    rfl
  unfold itEnX frzX
  rw [h1]
  simp only [h2]
  rw [show slotsL [M.bp i []] = [i] from rfl, h3]
  rfl
theorem vor_t' {f g : En → Option M} {env : En} (h : f env = some (.fz (.bl true))) : vOr f g env = some (.fz (.bl true)) := by
  unfold vOr
  rw [h]
abbrev figs : List Nat := [48, 49, 50, 51, 52, 53, 54, 55, 56, 57]
def numV (x : List Nat) : Nat := x.foldl (fun a c => 10 * a + (c - 48)) 0
theorem numV_snoc (y : List Nat) (c : Nat) : numV (y ++ [c]) = 10 * numV y + (c - 48) := by
  unfold numV
  rw [List.foldl_append]
  rfl
theorem fig_rng {c : Nat} (h : c ∈ figs) : 48 ≤ c ∧ c ≤ 57 := by
  simp only [List.mem_cons, List.not_mem_nil, or_false] at h
  omega
theorem numL_of : ∀ (n : Nat) (x : List Nat), x.length = n → (∀ c ∈ x, c ∈ figs) → x ≠ [] → (x.head? ≠ some 48 ∨ x = [48]) → TL.numL (numV x) = x := by
  intro n
  induction n with
  | zero => intro x hl _ hn; exact (hn (List.length_eq_zero_iff.mp hl)).elim
  | succ n ih =>
    intro x hl hf hn hh
    rcases List.eq_nil_or_concat x with e | ⟨y, c, e⟩
    · exact (hn e).elim
    · have e : x = y ++ [c] := by rw [e]; simp
      subst e
      have hc := fig_rng (hf c (by simp))
      rw [numV_snoc]
      cases y with
      | nil =>
        show TL.numL (10 * 0 + (c - 48)) = [c]
        rw [TL.numL_lt (by omega)]
        congr 1
        omega
      | cons b y =>
        have hb : b ≠ 48 := by
          rcases hh with h | h
          · exact fun z => h (by rw [z]; rfl)
          · exact absurd (congrArg List.length h) (by simp)
        have iy := ih (b :: y) (by simpa using hl) (fun z hz => hf z (by simp only [List.mem_append]; exact .inl hz)) (by simp) (.inl (by simpa using hb))
        have h0 : numV (b :: y) ≠ 0 := fun z => by
          rw [z, TL.numL_lt (by decide)] at iy
          exact hb (by injection iy with a _; exact a.symm)
        rw [TL.numL_step (by omega), show (10 * numV (b :: y) + (c - 48)) / 10 = numV (b :: y) by omega, iy, show 48 + (10 * numV (b :: y) + (c - 48)) % 10 = c by omega]
def c1 (x : List Nat) : Bool := !decide (x = []) && (decide (x.length ≤ 40) && (!decide (x.head? = some 48) || decide (x = [48])))
def numO (x : List Nat) : Option Nat := if (c1 x && x.all fun c => decide (c ∈ figs)) = true then some (numV x) else none
theorem numO_some {x : List Nat} {m : Nat} (h : numO x = some m) : x = TL.numL m ∧ x.length ≤ 40 ∧ c1 x = true ∧ x.all (fun c => decide (c ∈ figs)) = true := by
  unfold numO at h
  split at h
  · rename_i hc
    cases h
    rw [Bool.and_eq_true] at hc
    obtain ⟨h1, h2⟩ := hc
    have h1' := h1
    unfold c1 at h1
    simp only [Bool.and_eq_true, Bool.or_eq_true, Bool.not_eq_true', decide_eq_false_iff_not, decide_eq_true_eq] at h1
    refine ⟨(numL_of _ x rfl (fun c hc => ?_) h1.1 h1.2.2).symm, h1.2.1, h1', h2⟩
    exact of_decide_eq_true (List.all_eq_true.mp h2 c hc)
  · cases h
theorem numO_ne {x : List Nat} {c : Nat} (h : c ∈ x) (hc : c < 48 ∨ 57 < c) : numO x = none := by
  cases hq : numO x with
  | none => rfl
  | some m =>
    obtain ⟨_, _, _, h4⟩ := numO_some hq
    have := fig_rng (of_decide_eq_true (List.all_eq_true.mp h4 c h))
    omega
abbrev xT : Exn := ⟨0, ca.at_ 0, []⟩
theorem look_gb (b : Bool) : g_look [.fz (.bl b)] = if b then none else some xT := by cases b <;> rfl
theorem e_lookR {e : En → Option M} {env : En} {b : Bool} (h : e env = some (.fz (.bl b))) : rCall [false] g_look (aCons e aNil) env = if b then none else some xT :=
  r_call (ms := [.fz (.bl b)]) (cs := [.fz (.bl b)]) (acons_of h e_anil) rfl rfl (look_gb b)
theorem c1_ok {x : List Nat} (hl : x.length ≤ 1000000) (s : Option M) : vAnd (T2.bin (sop (gEqS true)) (nam 0) (cst (.str ""))) (vAnd (T2.bin (sop iLe) (opr (sop gLen) (aCons (nam 0) aNil)) (cst (.int 40))) (vOr (T2.bin (sop (gEqS true)) (T2.bin (sop gSItem) (nam 0) (cst (.int 0))) (cst (.str "0"))) (T2.bin (sop (gEqS false)) (nam 0) (cst (.str "0"))))) [some (tS x), s] = some (.fz (.bl (c1 x))) := by
  have n0 : nam 0 [some (tS x), s] = some (tS x) := nam_fz rfl
  have a1 := bin_of (o := sop (gEqS true)) n0 (e_cst (d := tD [])) k_neSt
  cases x with
  | nil => exact vand_ff a1
  | cons c r =>
    have a2 := bin_of (o := sop iLe) (x_lenT' n0 hl) (e_cst (d := .int 40)) k_le
    have i := bin_of (o := sop gSItem) n0 (e_cst (d := .int 0)) (k_itemS (a := r) (by simp only [List.length_cons] at hl; omega))
    have z := x_vand a1 (x_vand a2 (x_vor (bin_of (o := sop (gEqS true)) i (e_cst (d := tD [48])) k_neSt) (bin_of (o := sop (gEqS false)) n0 (e_cst (d := tD [48])) k_eqSt)))
    refine z.trans ?_
    unfold c1
    rw [show decide ((((c :: r).length : Nat) : Int) ≤ 40) = decide ((c :: r).length ≤ 40) from decide_eq_decide.mpr (by omega), show decide (([c] : List Nat) = [48]) = decide ((c :: r).head? = some 48) from decide_eq_decide.mpr (by simp)]
theorem num_loopR (y : List Nat) : ∀ (L : List Nat) (s : Option M), if L.all (fun c => decide (c ∈ figs)) = true then rLp lk_number_in (.nm 1) B_number_in_1 R_number_in_2 (L.map fun c => tD [c]) [some (tS y), s] = none else ∃ e, rLp lk_number_in (.nm 1) B_number_in_1 R_number_in_2 (L.map fun c => tD [c]) [some (tS y), s] = some (xT, e)
  | [], s => by rw [List.all_nil, if_pos rfl]; exact rLp_n
  | d :: L, s => by
    have ih := num_loopR y L (some (tS [d]))
    have t : T2.bin (sop (gInC false)) (nam 1) (cst (.str "0123456789")) [some (tS y), some (tS [d])] = some (.fz (.bl (decide (d ∈ figs)))) := bin_of (nam_fz (i := 1) (d := tD [d]) (env := [some (tS y), some (tS [d])]) rfl) (e_cst (d := tD figs)) k_inC
    have tr := e_lookR t
    have as : asT lk_number_in (.nm 1) (tD [d]) [some (tS y), s] = some [some (tS y), some (tS [d])] := rfl
    rw [List.map_cons, List.all_cons]
    cases hb : decide (d ∈ figs) with
    | false =>
      rw [hb] at tr
      rw [Bool.false_and, if_neg Bool.false_ne_true]
      exact ⟨_, rLp_1 as (r_sRE tr)⟩
    | true =>
      rw [hb] at tr t
      rw [Bool.true_and, rLp_s (f := B_number_in_1) (g := R_number_in_2) as (r_sREn tr) (e_look t)]
      exact ih
theorem number_in_g {x : List Nat} (hl : x.length ≤ 1000000) : g_number_in [tS x] = if (numO x).isSome then none else some xT := by
  have c := c1_ok hl none
  have cr := e_lookR c
  cases hc : c1 x with
  | false =>
    rw [hc] at cr
    have hn : numO x = none := by unfold numO; rw [hc]; rfl
    rw [hn]
    exact r_run (e1 := [some (tS x), none]) rfl rfl (r_seq1 (r_sRE cr))
  | true =>
    rw [hc] at cr c
    have it : lifI (itS (nam 0)) [some (tS x), none] = some (x.map fun c => tD [c], [some (tS x), none]) := by
      refine lifI_of ?_
      unfold itS
      rw [show nam 0 [some (tS x), none] = some (tS x) from nam_fz rfl]
    have lp := num_loopR x x none
    have key : ∀ r, rLp lk_number_in (.nm 1) B_number_in_1 R_number_in_2 (x.map fun c => tD [c]) [some (tS x), none] = r → r_number_in [some (tS x), none] = r := fun r hr => r_seq (r_sREn cr) (e_look c) (r_for it hr)
    cases ha : x.all fun c => decide (c ∈ figs) with
    | true =>
      rw [ha, if_pos rfl] at lp
      have hn : numO x = some (numV x) := by unfold numO; rw [hc, ha]; rfl
      rw [hn]
      exact r_runN (key _ lp)
    | false =>
      rw [ha, if_neg Bool.false_ne_true] at lp
      obtain ⟨e, lp⟩ := lp
      have hn : numO x = none := by unfold numO; rw [hc, ha]; rfl
      rw [hn]
      exact r_run rfl rfl (key _ lp)
theorem number_in_f {x : List Nat} {m : Nat} (h : numO x = some m) : f_number_in [tS x] = some (I (m : Int), [tS x]) := by
  obtain ⟨e, hl, _, _⟩ := numO_some h
  rw [e] at hl ⊢
  exact number_in_ok hl
/-- a text's parts are no longer than it -/
theorem spl_len (S : List Nat) : ∀ (l : List Nat) (k : Nat) (acc : List Nat), (TL.spl S k acc l).length ≤ l.length + 1 ∧ (∀ p ∈ TL.spl S k acc l, p.length ≤ acc.length + l.length) ∧ ∀ p ∈ TL.spl S k acc l, ∀ c ∈ p, c ∈ acc ∨ c ∈ l
  | [], k, acc => by
    rw [TL.spl_nil]
    refine ⟨by simp, fun p hp => ?_, fun p hp c hc => ?_⟩
    · rw [List.mem_singleton.mp hp]
      omega
    · rw [List.mem_singleton.mp hp] at hc
      exact .inl hc
  | c :: l, k + 1, acc => by
    have ih := spl_len S l k acc
    show (TL.spl S k acc l).length ≤ _ ∧ (∀ p ∈ TL.spl S k acc l, _) ∧ ∀ p ∈ TL.spl S k acc l, _
    refine ⟨by have := ih.1; simp only [List.length_cons]; omega, fun p hp => by have := ih.2.1 p hp; simp only [List.length_cons]; omega, fun p hp d hd => (ih.2.2 p hp d hd).imp id fun z => List.mem_cons_of_mem _ z⟩
  | c :: l, 0, acc => by
    cases hq : TL.pre S (c :: l) with
    | true =>
      have ih := spl_len S l (S.length - 1) []
      rw [TL.spl_hit hq]
      refine ⟨by have := ih.1; simp only [List.length_cons]; omega, fun p hp => ?_, fun p hp d hd => ?_⟩
      · rcases List.mem_cons.mp hp with rfl | hp
        · omega
        · have := ih.2.1 p hp
          simp only [List.length_cons, List.length_nil] at this ⊢
          omega
      · rcases List.mem_cons.mp hp with rfl | hp
        · exact .inl hd
        · rcases ih.2.2 p hp d hd with z | z
          · cases z
          · exact .inr (List.mem_cons_of_mem _ z)
    | false =>
      have ih := spl_len S l 0 (acc ++ [c])
      rw [TL.spl_miss hq]
      refine ⟨by have := ih.1; simp only [List.length_cons]; omega, fun p hp => ?_, fun p hp d hd => ?_⟩
      · have := ih.2.1 p hp
        simp only [List.length_append, List.length_cons, List.length_nil] at this ⊢
        omega
      · rcases ih.2.2 p hp d hd with z | z
        · rcases List.mem_append.mp z with z | z
          · exact .inl z
          · rw [List.mem_singleton.mp z]
            exact .inr List.mem_cons_self
        · exact .inr (List.mem_cons_of_mem _ z)
theorem spl_ne (S : List Nat) : ∀ (l : List Nat) (k : Nat) (acc : List Nat), TL.spl S k acc l ≠ []
  | [], k, acc => by rw [TL.spl_nil]; simp
  | c :: l, k + 1, acc => spl_ne S l k acc
  | c :: l, 0, acc => by
    cases hq : TL.pre S (c :: l) with
    | true => rw [TL.spl_hit hq]; simp
    | false => rw [TL.spl_miss hq]; exact spl_ne S l 0 _
/-- the first part, and those of what stands behind it -/
theorem spl_par (S : List Nat) (hS : S ≠ []) : ∀ (l acc : List Nat), match TL.par S acc l with
    | some (a, b) => TL.spl S 0 acc l = a :: TL.spl S 0 [] b ∧ b.length ≤ l.length ∧ (∀ c ∈ b, c ∈ l) ∧ a.length ≤ acc.length + l.length ∧ (∀ c ∈ a, c ∈ acc ∨ c ∈ l)
    | none => TL.spl S 0 acc l = [acc ++ l]
  | [], acc => by
    show TL.spl S 0 acc [] = [acc ++ []]
    rw [TL.spl_nil, List.append_nil]
  | c :: l, acc => by
    cases hq : TL.pre S (c :: l) with
    | true =>
      rw [TL.par_hit hq]
      refine ⟨?_, by simp only [List.length_drop]; omega, fun d hd => List.mem_of_mem_drop hd, by omega, fun d hd => .inl hd⟩
      rw [TL.spl_hit hq, TL.spl_pass]
      obtain ⟨s, S', e⟩ : ∃ s S', S = s :: S' := by cases S with | nil => exact (hS rfl).elim | cons s S' => exact ⟨s, S', rfl⟩
      subst e
      rfl
    | false =>
      have ih := spl_par S hS l (acc ++ [c])
      rw [TL.par_miss hq, TL.spl_miss hq]
      cases hp : TL.par S (acc ++ [c]) l with
      | none =>
        rw [hp] at ih
        rw [List.append_assoc] at ih
        exact ih
      | some ab =>
        obtain ⟨a, b⟩ := ab
        rw [hp] at ih
        obtain ⟨h1, h2, h3, h4, h5⟩ := ih
        refine ⟨h1, by simp only [List.length_cons]; omega, fun d hd => List.mem_cons_of_mem _ (h3 d hd), by simp only [List.length_append, List.length_cons, List.length_nil] at h4 ⊢; omega, fun d hd => ?_⟩
        rcases h5 d hd with z | z
        · rcases List.mem_append.mp z with z | z
          · exact .inl z
          · rw [List.mem_singleton.mp z]
            exact .inr List.mem_cons_self
        · exact .inr (List.mem_cons_of_mem _ z)
theorem k_partO {env : En} {a : List Nat} {s : Nat} {S : List Nat} (hl : a.length ≤ 1000000) : opM gPart env [tS a, tS (s :: S)] = some (.fz (match TL.par (s :: S) [] a with
    | some (x, y) => .tup [tD x, tD (s :: S), tD y]
    | none => .tup [tD a, tD [], tD []])) := by
  have e := TL.partition_par (sS a) (sS (s :: S)) (by rw [tl_sS]; simp)
  rw [tl_sS, tl_sS] at e
  show (if ((sS (s :: S)).length == 0) = false ∧ (sS a).length ≤ sizeLine then some (mkT (strM [(Txt.partition (sS a) (sS (s :: S))).1, (Txt.partition (sS a) (sS (s :: S))).2.1, (Txt.partition (sS a) (sS (s :: S))).2.2])) else none) = _
  rw [sS_len, sS_len, if_pos ⟨by simp, by simp only [sizeLine]; omega⟩, e]
  cases TL.par (s :: S) [] a with
  | none => rfl
  | some ab => rfl
def prevOk (p : Option Int) (c : Int) : Bool := match p with | none => true | some q => decide (q < c)
def chkV (many : Nat) : Option Int → List Int → Bool
  | _, [] => true
  | p, c :: r => (decide (c < (many : Int)) && prevOk p c) && chkV many (some c) r
def numsO (t : List Nat) : List (Option Nat) := (TL.spl [32] 0 [] t).map numO
def valsO (t : List Nat) : List Int := (numsO t).map fun o => ((o.getD 0 : Nat) : Int)
def viewO (many : Nat) (t : List Nat) : Option (List Int) := if t = [40, 41] then some [] else if ((numsO t).all fun o => o.isSome) = true ∧ chkV many none (valsO t) = true then some (valsO t) else none
def vMx (t : List Nat) (L : List Int) : M := if t = [40, 41] then oI L else .fz (lI L)
theorem vMx_dat (t : List Nat) (L : List Int) : dat0 (vMx t L) = some (lI L) := by
  unfold vMx
  split
  · exact dat0_o
  · rfl
theorem vMx_sl (t : List Nat) (L : List Int) : slotsL [vMx t L] = [] := by
  unfold vMx
  split
  · exact slotsL_co slotsL_n
  · rfl
theorem vMx_shut (k : Nat) (t : List Nat) (L : List Int) : shut (k + 1) (vMx t L) = some (vMx t L) := by
  unfold vMx
  split
  · exact shut_s
  · exact shut_f (k := k)
abbrev vE (many : Nat) (T : List Nat) (L : List Int) (a b : Option M) : En := [some (I (many : Int)), some (tS T), some (.fz (lI L)), a, b, none]
theorem last_snoc (pre : List Int) (c : Int) : (pre ++ [c]).getLast? = some c := by simp
theorem at_last {L pre suf : List Int} {q : Int} (h : pre ++ suf = L) (hq : pre.getLast? = some q) : L2.atI (L.map D.int) ((pre.length - 1 : Nat) : Int) = some (.int q) := by
  obtain ⟨p, rfl⟩ : ∃ p, pre = p ++ [q] := by
    rcases List.eq_nil_or_concat pre with e | ⟨y, c, e⟩
    · rw [e] at hq; cases hq
    · have e : pre = y ++ [c] := by rw [e]; simp
      rw [e, last_snoc] at hq
      cases hq
      exact ⟨y, e⟩
  subst h
  rw [List.length_append, List.length_cons, List.length_nil, show p.length + (0 + 1) - 1 = p.length by omega]
  exact atI_nat (by simp)
theorem at_prev {L pre suf : List Int} {q c : Int} {env : En} {i j k : Nat} (h : pre ++ c :: suf = L) (hq : pre.getLast? = some q) (hi : env.get i = some (.fz (lI L))) (hk : env.get k = some (I (pre.length : Int))) : T2.bin oIdx (nam i) (T2.bin (sop iSub) (nam k) (cst (.int 1))) env = some (I q) := by
  have hp : 1 ≤ pre.length := by cases pre with | nil => cases hq | cons a b => simp
  have ij := bin_of (o := sop iSub) (nam_fz (i := k) (d := .int (pre.length : Int)) hk) (e_cst (d := .int 1)) k_sub
  rw [show (pre.length : Int) - 1 = ((pre.length - 1 : Nat) : Int) by omega] at ij
  exact bin_of (nam_fz hi) ij (idx_f (at_last (suf := c :: suf) h hq))
theorem view_cond {many : Nat} {T : List Nat} {L pre suf : List Int} {c : Int} (h : pre ++ c :: suf = L) : vAnd (T2.bin (sop iLt) (nam 4) (nam 0)) (vOr (T2.bin (sop (gEq false)) (nam 3) (cst (.int 0))) (T2.bin (sop iLt) (T2.bin oIdx (nam 2) (T2.bin (sop iSub) (nam 3) (cst (.int 1)))) (nam 4))) (vE many T L (some (I (pre.length : Int))) (some (I c))) = some (.fz (.bl (decide (c < (many : Int)) && prevOk pre.getLast? c))) := by
  have a1 := bin_of (o := sop iLt) (nam_fz (i := 4) (d := .int c) (env := vE many T L (some (I (pre.length : Int))) (some (I c))) rfl) (nam_fz (i := 0) (d := .int (many : Int)) rfl) k_lt
  have a2 := bin_of (o := sop (gEq false)) (nam_fz (i := 3) (d := .int (pre.length : Int)) (env := vE many T L (some (I (pre.length : Int))) (some (I c))) rfl) (e_cst (d := .int 0)) k_eqF
  cases hb : decide (c < (many : Int)) with
  | false =>
    rw [hb] at a1
    exact vand_ff a1
  | true =>
    rw [hb] at a1
    refine vand_tt a1 ?_
    rw [Bool.true_and]
    cases hq : pre.getLast? with
    | none =>
      have : pre = [] := by cases pre with | nil => rfl | cons a b => simp at hq
      subst this
      exact vor_t' a2
    | some q =>
      have hp : pre.length ≠ 0 := by cases pre with | nil => cases hq | cons a b => simp
      rw [show ((pre.length : Int) == 0) = false by simpa using hp] at a2
      refine vor_ff a2 ?_
      exact bin_of (o := sop iLt) (at_prev (k := 3) (i := 2) (j := 0) h hq rfl rfl) (nam_fz rfl) k_lt
theorem view_loopR {many : Nat} {T : List Nat} {L : List Int} : ∀ (suf pre : List Int), pre ++ suf = L → ∀ (a b : Option M),
    if chkV many pre.getLast? suf = true then rLp lk_view_read (.tp [(.nm 3), (.nm 4)]) B_view_read_1 R_view_read_2 (enD pre.length (suf.map .int)) (vE many T L a b) = none ∧ ∃ a' b', lpF lk_view_read (.tp [(.nm 3), (.nm 4)]) B_view_read_0 (enD pre.length (suf.map .int)) (vE many T L a b) = some (.nx (vE many T L a' b'))
    else ∃ e, rLp lk_view_read (.tp [(.nm 3), (.nm 4)]) B_view_read_1 R_view_read_2 (enD pre.length (suf.map .int)) (vE many T L a b) = some (xT, e)
  | [], pre, h, a, b => by
    have z : chkV many pre.getLast? [] = true := rfl
    rw [if_pos z]
    exact ⟨rLp_n, a, b, lp_nil⟩
  | c :: suf, pre, h, a, b => by
    have ih := view_loopR (many := many) (T := T) (L := L) suf (pre ++ [c]) (by rw [List.append_assoc]; exact h) (some (I (pre.length : Int))) (some (I c))
    rw [last_snoc, List.length_append, List.length_cons, List.length_nil] at ih
    have t := view_cond (many := many) (T := T) h
    have tr := e_lookR t
    have as : asT lk_view_read (.tp [(.nm 3), (.nm 4)]) (.tup [.int (pre.length : Nat), .int c]) (vE many T L a b) = some (vE many T L (some (I (pre.length : Int))) (some (I c))) := rfl
    rw [chkV]
    show if ((decide (c < (many : Int)) && prevOk pre.getLast? c) && chkV many (some c) suf) = true then rLp lk_view_read (.tp [(.nm 3), (.nm 4)]) B_view_read_1 R_view_read_2 (.tup [.int (pre.length : Nat), .int c] :: enD (pre.length + 1) (suf.map .int)) _ = none ∧ (∃ a' b', lpF lk_view_read (.tp [(.nm 3), (.nm 4)]) B_view_read_0 (.tup [.int (pre.length : Nat), .int c] :: enD (pre.length + 1) (suf.map .int)) _ = _) else ∃ e, rLp lk_view_read (.tp [(.nm 3), (.nm 4)]) B_view_read_1 R_view_read_2 (.tup [.int (pre.length : Nat), .int c] :: enD (pre.length + 1) (suf.map .int)) _ = _
    cases hb : decide (c < (many : Int)) && prevOk pre.getLast? c with
    | false =>
      rw [hb] at tr
      rw [Bool.false_and, if_neg Bool.false_ne_true]
      exact ⟨_, rLp_1 as (r_sRE tr)⟩
    | true =>
      rw [hb] at tr t
      rw [Bool.true_and, rLp_s (f := B_view_read_1) (g := R_view_read_2) as (r_sREn tr) (e_look t)]
      split
      · rename_i hc
        rw [if_pos hc] at ih
        obtain ⟨h1, a', b', h2⟩ := ih
        exact ⟨h1, a', b', lp_cons as (e_look t) h2⟩
      · rename_i hc
        rw [if_neg hc] at ih
        exact ih
theorem spl_it {env : En} {i : Nat} {T : List Nat} {s : Nat} {S : List Nat} (hs : s < 256) (hS : ∀ c ∈ S, c < 256) (hl : T.length ≤ 100000) (h : env.get i = some (tS T)) : itP true (T2.bin (opM gSplit) (nam i) (cst (.str (sS (s :: S))))) env = some ((TL.spl (s :: S) 0 [] T).map tD) :=
  items_lst (bin_of (o := opM gSplit) (nam_fz h) (e_cst (d := tD (s :: S))) (k_split hs hS (by omega) rfl)) items_o
theorem some_val {o : Option Nat} (h : o.isSome = true) : o = some (o.getD 0) := by
  cases o with
  | none => cases h
  | some m => rfl
theorem nums_all {t : List Nat} (h : ((numsO t).all fun o => o.isSome) = true) : ∀ p ∈ TL.spl [32] 0 [] t, numO p = some ((numO p).getD 0) := fun p hp => some_val (List.all_eq_true.mp h _ (List.mem_map.mpr ⟨p, hp, rfl⟩))
theorem nums_any (t : List Nat) : ((TL.spl [32] 0 [] t).any fun p => (numO p).isNone) = !((numsO t).all fun o => o.isSome) := by
  unfold numsO
  rw [List.all_map, List.not_all_eq_any_not]
  congr 1
  funext p
  show (numO p).isNone = !(numO p).isSome
  cases numO p <;> rfl
theorem view_out {many : Nat} {T : List Nat} (hl : T.length ≤ 100000) : match viewO many T with
    | some L => f_view_read [I (many : Int), tS T] = some (vMx T L, [I (many : Int), tS T]) ∧ g_view_read [I (many : Int), tS T] = none
    | none => g_view_read [I (many : Int), tS T] = some xT := by
  have t0 : tst (T2.bin (sop (gEqS false)) (nam 1) (cst (.str "()"))) [some (I (many : Int)), some (tS T), none, none, none, none] = some (decide (T = [40, 41])) := tst_of (bin_of (nam_fz rfl) (e_cst (d := tD [40, 41])) k_eqSt)
  by_cases h0 : T = [40, 41]
  · have ev : viewO many T = some [] := by unfold viewO; rw [if_pos h0]
    have em : vMx T [] = oI [] := by unfold vMx; rw [if_pos h0]
    rw [decide_eq_true h0] at t0
    rw [ev]
    have r0 : sIf (lifT (tst (T2.bin (sop (gEqS false)) (nam 1) (cst (.str "()"))))) (sRet lk_view_read (lif (opr oLst aNil))) sNil [some (I (many : Int)), some (tS T), none, none, none, none] = some (.rt (oI []) [some (I (many : Int)), some (tS T), none, none, none, none]) := if_t t0 (x_ret (lif_of (opr_of e_anil k_lstI0)) rfl (retM_oI []))
    refine ⟨by rw [em]; exact run_rt rfl rfl rfl (seq_rt r0) rfl, r_runN (r_nxR r0)⟩
  · rw [decide_eq_false h0] at t0
    have sp := spl_len [32] T 0 []
    obtain ⟨ps, hps⟩ : ∃ ps, TL.spl [32] 0 [] T = ps := ⟨_, rfl⟩
    have it : itP true (T2.bin (opM gSplit) (nam 1) (cst (.str " "))) [some (I (many : Int)), some (tS T), none, none, none, none] = some (ps.map tD) := by
      rw [← hps]
      exact spl_it (s := 32) (S := []) (by decide) (fun c hc => by cases hc) hl rfl
    have pl : ∀ p ∈ ps, p.length ≤ 1000000 := fun p hp => by have := sp.2.1 p (by rw [hps]; exact hp); simp only [List.length_nil] at this; omega
    have pn : ps.length ≤ sizeLine := by have := sp.1; rw [hps] at this; simp only [sizeLine]; omega
    have rc : rcF [5] (.nm 5) (itP true (T2.bin (opM gSplit) (nam 1) (cst (.str " ")))) cYes (opr (callP [false] f_number_in) (aCons (nam 5) aNil)) (rCall [false] g_number_in (aCons (nam 5) aNil)) [some (I (many : Int)), some (tS T), none, none, none, none] = if (ps.any fun p => (numO p).isNone) = true then some xT else none := by
      refine x_rcF (F := tD) (bad := fun p => (numO p).isNone) it pn fun p hp => ⟨[some (I (many : Int)), some (tS T), none, none, none, some (tS p)], rfl, ?_, fun hb => ?_⟩
      · have z := r_call (g := g_number_in) (io := [false]) (fs := aCons (nam 5) aNil) (env := [some (I (many : Int)), some (tS T), none, none, none, some (tS p)]) (ms := [tS p]) (cs := [tS p]) (acons_of (nam_fz rfl) e_anil) rfl rfl (number_in_g (pl p hp))
        rw [z]
        cases numO p <;> rfl
      · cases hq : numO p with
        | none => rw [hq] at hb; cases hb
        | some m => exact ⟨_, opr_of (acons_of (nam_fz rfl) e_anil) (callP_of rfl rfl (number_in_f hq))⟩
    have ea : (ps.any fun p => (numO p).isNone) = !((numsO T).all fun o => o.isSome) := by rw [← hps]; exact nums_any T
    rw [ea] at rc
    cases ha : (numsO T).all fun o => o.isSome with
    | false =>
      have ev : viewO many T = none := by unfold viewO; rw [if_neg h0, if_neg (by rw [ha]; simp)]
      rw [ha, Bool.not_false, if_pos rfl] at rc
      rw [ev]
      exact r_run rfl rfl (r_nx (if_f t0 e_nil) (r_seq1 (r_sRE rc)))
    | true =>
      rw [ha] at rc
      rw [Bool.not_true, if_neg Bool.false_ne_true] at rc
      have lc : lcF [5] (.nm 5) (itP true (T2.bin (opM gSplit) (nam 1) (cst (.str " ")))) cYes (opr (callP [false] f_number_in) (aCons (nam 5) aNil)) [some (I (many : Int)), some (tS T), none, none, none, none] = some (oI (valsO T)) := by
        refine x_lcG (F := tD) (xs := ps) (w := fun p => I (((numO p).getD 0 : Nat) : Int)) (e1 := fun p => [some (I (many : Int)), some (tS T), none, none, none, some (tS p)]) it (fun p _ => rfl) (fun p hp => ?_) (fun p _ => rfl) pn ?_
        · exact opr_of (acons_of (nam_fz rfl) e_anil) (callP_of rfl rfl (number_in_f (nums_all ha p (by rw [hps]; exact hp))))
        · unfold valsO numsO
          rw [hps]
          show M.ol _ = M.ol (List.map _ _)
          rw [List.map_map, List.map_map, List.map_map]
          rfl
      have s1 : sAsg lk_view_read 2 9 (lif (lcF [5] (.nm 5) (itP true (T2.bin (opM gSplit) (nam 1) (cst (.str " ")))) cYes (opr (callP [false] f_number_in) (aCons (nam 5) aNil)))) [some (I (many : Int)), some (tS T), none, none, none, none] = some (.nx [some (I (many : Int)), some (tS T), some (oI (valsO T)), none, none, none]) := x_asg rfl (lif_of lc) (stow_s (k := 8) _) rfl rfl rfl
      have en := x_enXo (env := [some (I (many : Int)), some (tS T), some (oI (valsO T)), none, none, none]) (i := 2) (ds := (valsO T).map .int) rfl
      have lp := view_loopR (many := many) (T := T) (L := valsO T) (valsO T) [] rfl none none
      show (match viewO many T with
        | some L => f_view_read [I (many : Int), tS T] = some (vMx T L, [I (many : Int), tS T]) ∧ g_view_read [I (many : Int), tS T] = none
        | none => g_view_read [I (many : Int), tS T] = some xT)
      unfold viewO
      rw [if_neg h0]
      cases hc : chkV many none (valsO T) with
      | true =>
        have hc' : chkV many ([] : List Int).getLast? (valsO T) = true := hc
        rw [if_pos hc'] at lp
        obtain ⟨l1, a', b', l2⟩ := lp
        rw [if_pos ⟨ha, rfl⟩]
        have em : vMx T (valsO T) = .fz (lI (valsO T)) := by unfold vMx; rw [if_neg h0]
        refine ⟨?_, r_runN (r_nx (if_f t0 e_nil) (r_seq (r_sREn rc) s1 (r_for en l1)))⟩
        show f_view_read _ = some (vMx T (valsO T), _)
        rw [em]
        exact run_rt rfl rfl rfl (seq_of (if_f t0 e_nil) (seq_of s1 (seq_of (x_for en l2) (ret_of (nam_fz (i := 2) (d := lI (valsO T)) rfl))))) rfl
      | false =>
        have hc' : ¬ chkV many ([] : List Int).getLast? (valsO T) = true := by rw [show chkV many ([] : List Int).getLast? (valsO T) = false from hc]; exact Bool.false_ne_true
        rw [if_neg hc'] at lp
        obtain ⟨e, l1⟩ := lp
        rw [if_neg (by simp)]
        exact r_run rfl rfl (r_nx (if_f t0 e_nil) (r_seq (r_sREn rc) s1 (r_for en l1)))
def viewsO (many : Nat) (t : List Nat) : Option (List (List Int)) := if t = [45] then some [] else if (TL.spl [44, 32] 0 [] t).length ≤ 40 ∧ ((TL.spl [44, 32] 0 [] t).any fun p => (viewO many p).isNone) = false then some ((TL.spl [44, 32] 0 [] t).map fun p => (viewO many p).getD []) else none
def vsMx (many : Nat) (t : List Nat) : M := if t = [45] then .ol [] else .ol ((TL.spl [44, 32] 0 [] t).map fun p => vMx p ((viewO many p).getD []))
abbrev rowsD (R : List (List Int)) : D := .lst (R.map lI)
theorem vsMx_dat {many : Nat} {t : List Nat} {R : List (List Int)} (h : viewsO many t = some R) : dat0 (vsMx many t) = some (rowsD R) := by
  unfold viewsO at h
  unfold vsMx
  by_cases h0 : t = [45]
  · rw [if_pos h0] at h
    cases h
    rw [if_pos h0]
    rfl
  · rw [if_neg h0] at h
    rw [if_neg h0]
    split at h
    · cases h
      show dat0 _ = some (.lst (List.map lI (List.map _ _)))
      rw [List.map_map]
      exact dat0_l (datL0_map _ fun p _ => vMx_dat p _)
    · cases h
theorem vsMx_sl (many : Nat) (t : List Nat) : slotsL [vsMx many t] = [] := by
  unfold vsMx
  split
  · rfl
  · show slotsL (List.map _ _) ++ [] = []
    rw [slotsL_map _ fun p _ => vMx_sl p _]
    rfl
theorem vsMx_shut (k : Nat) (many : Nat) (t : List Nat) : shut (k + 2) (vsMx many t) = some (vsMx many t) := by
  unfold vsMx
  split
  · exact shut_s (ds := [])
  · exact shut_ol (shutL_map _ fun p _ => vMx_shut k p _)
theorem views_out {many : Nat} {T : List Nat} (hl : T.length ≤ 100000) : match viewsO many T with
    | some _ => f_views_read [I (many : Int), tS T] = some (vsMx many T, [I (many : Int), tS T]) ∧ g_views_read [I (many : Int), tS T] = none
    | none => g_views_read [I (many : Int), tS T] = some xT := by
  have t0 : tst (T2.bin (sop (gEqS false)) (nam 1) (cst (.str "-"))) [some (I (many : Int)), some (tS T), none, none] = some (decide (T = [45])) := tst_of (bin_of (nam_fz rfl) (e_cst (d := tD [45])) k_eqSt)
  by_cases h0 : T = [45]
  · have ev : viewsO many T = some [] := by unfold viewsO; rw [if_pos h0]
    have em : vsMx many T = .ol [] := by unfold vsMx; rw [if_pos h0]
    rw [decide_eq_true h0] at t0
    rw [ev]
    have r0 : sIf (lifT (tst (T2.bin (sop (gEqS false)) (nam 1) (cst (.str "-"))))) (sRet lk_views_read (lif (opr oLst aNil))) sNil [some (I (many : Int)), some (tS T), none, none] = some (.rt (oI []) [some (I (many : Int)), some (tS T), none, none]) := if_t t0 (x_ret (lif_of (opr_of e_anil k_lstI0)) rfl (retM_oI []))
    refine ⟨by rw [em]; exact run_rt rfl rfl rfl (seq_rt r0) rfl, r_runN (r_nxR r0)⟩
  · rw [decide_eq_false h0] at t0
    have sp := spl_len [44, 32] T 0 []
    have ev : viewsO many T = if (TL.spl [44, 32] 0 [] T).length ≤ 40 ∧ ((TL.spl [44, 32] 0 [] T).any fun p => (viewO many p).isNone) = false then some ((TL.spl [44, 32] 0 [] T).map fun p => (viewO many p).getD []) else none := by
      show (if T = [45] then _ else _) = _
      rw [if_neg h0]
    have em : vsMx many T = .ol ((TL.spl [44, 32] 0 [] T).map fun p => vMx p ((viewO many p).getD [])) := by unfold vsMx; rw [if_neg h0]
    rw [ev, em]
    obtain ⟨ps, hps⟩ : ∃ ps, TL.spl [44, 32] 0 [] T = ps := ⟨_, rfl⟩
    rw [hps] at sp ⊢
    have pl : ∀ p ∈ ps, p.length ≤ 100000 := fun p hp => by have := sp.2.1 p hp; simp only [List.length_nil] at this; omega
    have pn : ps.length ≤ sizeLine := by have := sp.1; simp only [sizeLine]; omega
    have s1 : sAsg lk_views_read 2 0 (lif (T2.bin (opM gSplit) (nam 1) (cst (.str ", ")))) [some (I (many : Int)), some (tS T), none, none] = some (.nx [some (I (many : Int)), some (tS T), some (.fz (.lst (ps.map tD))), none]) :=
      x_asg rfl (lif_of (bin_of (nam_fz rfl) (e_cst (d := tD [44, 32])) (k_split (s := 44) (S := [32]) (by decide) (fun c hc => by simp at hc; omega) (by omega) hps))) (stow_z _) rfl rfl rfl
    have ln := x_lenG (f := nam 2) (env := [some (I (many : Int)), some (tS T), some (.fz (.lst (ps.map tD))), none]) (ds := ps.map tD) (nam_fz rfl) (dats_f dats_n)
    rw [List.length_map] at ln
    have l2 := bin_of (o := sop iLe) ln (e_cst (d := .int 40)) k_le
    have l3 := e_lookR l2
    rw [show decide (((ps.length : Nat) : Int) ≤ 40) = decide (ps.length ≤ 40) from decide_eq_decide.mpr (by omega)] at l2 l3
    have it : itP true (nam 2) [some (I (many : Int)), some (tS T), some (.fz (.lst (ps.map tD))), none] = some (ps.map tD) := items_lst (nam_fz rfl) (items_f (d := .lst (ps.map tD)))
    have ar : ∀ p, aCons (nam 0) (aCons (nam 3) aNil) [some (I (many : Int)), some (tS T), some (.fz (.lst (ps.map tD))), some (tS p)] = some [I (many : Int), tS p] := fun p => acons_of (nam_fz rfl) (acons_of (nam_fz rfl) e_anil)
    have rc : rcF [3] (.nm 3) (itP true (nam 2)) cYes (opr (callP [false, false] f_view_read) (aCons (nam 0) (aCons (nam 3) aNil))) (rCall [false, false] g_view_read (aCons (nam 0) (aCons (nam 3) aNil))) [some (I (many : Int)), some (tS T), some (.fz (.lst (ps.map tD))), none] = if (ps.any fun p => (viewO many p).isNone) = true then some xT else none := by
      refine x_rcF (F := tD) (bad := fun p => (viewO many p).isNone) it pn fun p hp => ⟨[some (I (many : Int)), some (tS T), some (.fz (.lst (ps.map tD))), some (tS p)], rfl, ?_, fun hb => ?_⟩
      · have vo := view_out (many := many) (pl p hp)
        cases hq : viewO many p with
        | none =>
          rw [hq] at vo
          exact r_call (ms := [I (many : Int), tS p]) (cs := [I (many : Int), tS p]) (ar p) rfl rfl vo
        | some L =>
          rw [hq] at vo
          exact r_call (ms := [I (many : Int), tS p]) (cs := [I (many : Int), tS p]) (ar p) rfl rfl vo.2
      · have vo := view_out (many := many) (pl p hp)
        cases hq : viewO many p with
        | none => rw [hq] at hb; cases hb
        | some L =>
          rw [hq] at vo
          exact ⟨_, opr_of (ar p) (callP_of rfl rfl vo.1)⟩
    by_cases h4 : ps.length ≤ 40
    · rw [decide_eq_true h4] at l2 l3
      rw [if_pos rfl] at l3
      cases ha : ps.any fun p => (viewO many p).isNone with
      | true =>
        rw [ha, if_pos rfl] at rc
        rw [if_neg (by simp)]
        exact r_run rfl rfl (r_nx (if_f t0 e_nil) (r_nx s1 (r_seq (r_sREn l3) (e_look l2) (r_sRE rc))))
      | false =>
        rw [ha, if_neg Bool.false_ne_true] at rc
        rw [if_pos ⟨h4, rfl⟩]
        have vs : ∀ p ∈ ps, f_view_read [I (many : Int), tS p] = some (vMx p ((viewO many p).getD []), [I (many : Int), tS p]) := fun p hp => by
          have vo := view_out (many := many) (pl p hp)
          cases hq : viewO many p with
          | none =>
            have := List.any_eq_false.mp ha p hp
            rw [hq] at this
            exact (this rfl).elim
          | some L =>
            rw [hq] at vo
            exact vo.1
        have lc : lcF [3] (.nm 3) (itP true (nam 2)) cYes (opr (callP [false, false] f_view_read) (aCons (nam 0) (aCons (nam 3) aNil))) [some (I (many : Int)), some (tS T), some (.fz (.lst (ps.map tD))), none] = some (.ol (ps.map fun p => vMx p ((viewO many p).getD []))) :=
          x_lcG (F := tD) (xs := ps) (w := fun p => vMx p ((viewO many p).getD [])) (e1 := fun p => [some (I (many : Int)), some (tS T), some (.fz (.lst (ps.map tD))), some (tS p)]) it (fun p _ => rfl) (fun p hp => opr_of (ar p) (callP_of rfl rfl (vs p hp))) (fun p _ => vMx_sl p _) pn rfl
        have rt := x_ret (lk := lk_views_read) (lif_of lc) rfl (retM_ol (slotsL_map ps fun p _ => vMx_sl p _) (shutL_map ps fun p _ => vMx_shut 7 p _))
        exact ⟨run_rt rfl rfl rfl (seq_of (if_f t0 e_nil) (seq_of s1 (seq_of (e_look l2) rt))) rfl, r_runN (r_nx (if_f t0 e_nil) (r_nx s1 (r_seq (r_sREn l3) (e_look l2) (r_sREn rc))))⟩
    · rw [decide_eq_false h4] at l3
      rw [if_neg Bool.false_ne_true] at l3
      rw [if_neg fun z => h4 z.1]
      exact r_run rfl rfl (r_nx (if_f t0 e_nil) (r_nx s1 (r_seq1 (r_sRE l3))))
def hpO (many : Nat) (b : List Nat) : Option (List (List (List Int))) := if many ≤ 40 ∧ (TL.spl [32, 47, 32] 0 [] b).length ≤ 4 ∧ ((TL.spl [32, 47, 32] 0 [] b).any fun p => (viewsO many p).isNone) = false then some ((TL.spl [32, 47, 32] 0 [] b).map fun p => (viewsO many p).getD []) else none
def heapO (t : List Nat) : Option (Nat × List (List (List Int))) := match TL.par [58, 32] [] t with
  | none => none
  | some (a, b) => match numO a with
    | none => none
    | some many => (hpO many b).map fun R => (many, R)
def hMx (many : Nat) (b : List Nat) : M := .ot [I (many : Int), .ol ((TL.spl [32, 47, 32] 0 [] b).map fun p => vsMx many p)]
abbrev hpD (h : Nat × List (List (List Int))) : D := .tup [.int (h.1 : Int), .lst (h.2.map rowsD)]
theorem hMx_dat {many : Nat} {b : List Nat} {R : List (List (List Int))} (h : hpO many b = some R) : datL0 [I (many : Int), .ol ((TL.spl [32, 47, 32] 0 [] b).map fun p => vsMx many p)] = some [.int (many : Int), .lst (R.map rowsD)] := by
  unfold hpO at h
  split at h
  · rename_i hc
    cases h
    refine datL0_c rfl (datL0_c ?_ datL0_n)
    show dat0 _ = some (.lst (List.map _ (List.map _ _)))
    rw [List.map_map]
    refine dat0_l (datL0_map _ fun p hp => vsMx_dat ?_)
    have := List.any_eq_false.mp hc.2.2 p hp
    cases hq : viewsO many p with
    | none => rw [hq] at this; exact (this rfl).elim
    | some R =>
      show some R = some ((viewsO many p).getD [])
      rw [hq]
      rfl
  · cases h
theorem hMx_sl (many : Nat) (b : List Nat) : slotsL [I (many : Int), .ol ((TL.spl [32, 47, 32] 0 [] b).map fun p => vsMx many p)] = [] := by
  show slotsL (List.map _ _) ++ [] = []
  rw [slotsL_map _ fun p _ => vsMx_sl many p]
  rfl
abbrev hEn (X a m b : List Nat) (n : Option M) (s z : Option M) : En := [some (tS X), some (tS a), some (tS m), some (tS b), n, s, z]
theorem heap_out {X : List Nat} (hl : X.length ≤ 100000) : match TL.par [58, 32] [] X with
    | none => g_read_heap [tS X] = some xT
    | some (a, b) => match numO a with
      | none => g_read_heap [tS X] = some xT
      | some many => match hpO many b with
        | none => g_read_heap [tS X] = some xT
        | some _ => f_read_heap [tS X] = some (hMx many b, [tS X]) ∧ g_read_heap [tS X] = none := by
  have sp := spl_par [58, 32] (by simp) X []
  have p0 := bin_of (o := opM gPart) (nam_fz (i := 0) (d := tD X) (env := [some (tS X), none, none, none, none, none, none]) rfl) (e_cst (d := tD [58, 32])) (k_partO (by omega))
  cases hp : TL.par [58, 32] [] X with
  | none =>
    rw [hp] at p0
    have s1 : sUnp lk_read_heap (.tp [(.nm 1), (.nm 2), (.nm 3)]) (lif (T2.bin (opM gPart) (nam 0) (cst (.str ": ")))) [some (tS X), none, none, none, none, none, none] = some (.nx (hEn X X [] [] none none none)) := x_unp (lif_of p0) stow_f rfl
    have l1 := e_lookR (bin_of (o := sop (gEqS true)) (nam_fz (i := 2) (d := tD []) (env := hEn X X [] [] none none none) rfl) (e_cst (d := tD [])) k_neSt)
    exact r_run rfl rfl (r_nx s1 (r_seq1 (r_sRE l1)))
  | some ab =>
    obtain ⟨a, b⟩ := ab
    rw [hp] at p0 sp
    obtain ⟨_, hb, _, ha, _⟩ := sp
    simp only [List.length_nil] at ha
    have s1 : sUnp lk_read_heap (.tp [(.nm 1), (.nm 2), (.nm 3)]) (lif (T2.bin (opM gPart) (nam 0) (cst (.str ": ")))) [some (tS X), none, none, none, none, none, none] = some (.nx (hEn X a [58, 32] b none none none)) := x_unp (lif_of p0) stow_f rfl
    have c1 := bin_of (o := sop (gEqS true)) (nam_fz (i := 2) (d := tD [58, 32]) (env := hEn X a [58, 32] b none none none) rfl) (e_cst (d := tD [])) k_neSt
    rw [show decide (([58, 32] : List Nat) = []) = false by decide] at c1
    have l1 := e_lookR c1
    have gn : rCall [false] g_number_in (aCons (nam 1) aNil) (hEn X a [58, 32] b none none none) = if (numO a).isSome then none else some xT := r_call (ms := [tS a]) (cs := [tS a]) (acons_of (nam_fz rfl) e_anil) rfl rfl (number_in_g (by omega))
    show (match numO a with
      | none => g_read_heap [tS X] = some xT
      | some many => match hpO many b with
        | none => g_read_heap [tS X] = some xT
        | some _ => f_read_heap [tS X] = some (hMx many b, [tS X]) ∧ g_read_heap [tS X] = none)
    cases hn : numO a with
    | none =>
      rw [hn] at gn
      exact r_run rfl rfl (r_nx s1 (r_seq (r_sREn l1) (e_look c1) (r_seq1 (r_sRE gn))))
    | some many =>
      rw [hn] at gn
      have s3 : sAsg lk_read_heap 4 0 (lif (opr (callP [false] f_number_in) (aCons (nam 1) aNil))) (hEn X a [58, 32] b none none none) = some (.nx (hEn X a [58, 32] b (some (I (many : Int))) none none)) :=
        x_asg rfl (lif_of (opr_of (acons_of (nam_fz rfl) e_anil) (callP_of rfl rfl (number_in_f hn)))) stow_f rfl rfl rfl
      have spl := spl_len [32, 47, 32] b 0 []
      have eo : hpO many b = if many ≤ 40 ∧ (TL.spl [32, 47, 32] 0 [] b).length ≤ 4 ∧ ((TL.spl [32, 47, 32] 0 [] b).any fun p => (viewsO many p).isNone) = false then some ((TL.spl [32, 47, 32] 0 [] b).map fun p => (viewsO many p).getD []) else none := rfl
      have em : hMx many b = .ot [I (many : Int), .ol ((TL.spl [32, 47, 32] 0 [] b).map fun p => vsMx many p)] := rfl
      have esl := hMx_sl many b
      show (match hpO many b with
        | none => g_read_heap [tS X] = some xT
        | some _ => f_read_heap [tS X] = some (hMx many b, [tS X]) ∧ g_read_heap [tS X] = none)
      rw [eo, em]
      obtain ⟨ps, hps⟩ : ∃ ps, TL.spl [32, 47, 32] 0 [] b = ps := ⟨_, rfl⟩
      rw [hps] at spl esl ⊢
      have pl : ∀ p ∈ ps, p.length ≤ 100000 := fun p hp => by have := spl.2.1 p hp; simp only [List.length_nil] at this; omega
      have pn : ps.length ≤ sizeLine := by have := spl.1; simp only [sizeLine]; omega
      obtain ⟨E, hE⟩ : ∃ E : Option M → En, E = fun z => hEn X a [58, 32] b (some (I (many : Int))) (some (.fz (.lst (ps.map tD)))) z := ⟨_, rfl⟩
      have s4 : sAsg lk_read_heap 5 0 (lif (T2.bin (opM gSplit) (nam 3) (cst (.str " / ")))) (hEn X a [58, 32] b (some (I (many : Int))) none none) = some (.nx (E none)) := by
        rw [hE]
        exact x_asg rfl (lif_of (bin_of (nam_fz rfl) (e_cst (d := tD [32, 47, 32])) (k_split (s := 32) (S := [47, 32]) (by decide) (fun c hc => by simp at hc; omega) (by omega) hps))) (stow_z _) rfl rfl rfl
      have n4 : ∀ z, nam 4 (E z) = some (I (many : Int)) := fun z => by rw [hE]; exact nam_fz rfl
      have n5 : nam 5 (E none) = some (.fz (.lst (ps.map tD))) := by rw [hE]; exact nam_fz rfl
      have n6 : ∀ p, nam 6 (E (some (tS p))) = some (tS p) := fun p => by rw [hE]; exact nam_fz rfl
      have ln := x_lenG (f := nam 5) (env := E none) (ds := ps.map tD) n5 (dats_f dats_n)
      rw [List.length_map] at ln
      have c2 := x_vand (bin_of (o := sop iLe) (n4 none) (e_cst (d := .int 40)) k_le) (bin_of (o := sop iLe) ln (x_lenT' (a := [97, 98, 99, 100]) (f := cst (.str "abcd")) (e_cst (d := tD [97, 98, 99, 100])) (by decide)) k_le)
      have l2 := e_lookR c2
      rw [show (decide (((many : Nat) : Int) ≤ 40) && decide (((ps.length : Nat) : Int) ≤ (([97, 98, 99, 100] : List Nat).length : Nat))) = (decide (many ≤ 40) && decide (ps.length ≤ 4)) by
        rw [show decide (((many : Nat) : Int) ≤ 40) = decide (many ≤ 40) from decide_eq_decide.mpr (by omega), show decide (((ps.length : Nat) : Int) ≤ (([97, 98, 99, 100] : List Nat).length : Nat)) = decide (ps.length ≤ 4) from decide_eq_decide.mpr (by simp only [List.length_cons, List.length_nil]; omega)]] at c2 l2
      have it : itP true (nam 5) (E none) = some (ps.map tD) := items_lst n5 (items_f (d := .lst (ps.map tD)))
      have ar : ∀ p, aCons (nam 4) (aCons (nam 6) aNil) (E (some (tS p))) = some [I (many : Int), tS p] := fun p => acons_of (n4 _) (acons_of (n6 p) e_anil)
      have as : ∀ p, asT (lkOf [6]) (.nm 6) (tD p) ((E none).wipe [6]) = some (E (some (tS p))) := fun p => by rw [hE]; rfl
      have vo : ∀ p ∈ ps, match viewsO many p with
          | some _ => f_views_read [I (many : Int), tS p] = some (vsMx many p, [I (many : Int), tS p]) ∧ g_views_read [I (many : Int), tS p] = none
          | none => g_views_read [I (many : Int), tS p] = some xT := fun p hp => views_out (pl p hp)
      have rc : rcF [6] (.nm 6) (itP true (nam 5)) cYes (opr (callP [false, false] f_views_read) (aCons (nam 4) (aCons (nam 6) aNil))) (rCall [false, false] g_views_read (aCons (nam 4) (aCons (nam 6) aNil))) (E none) = if (ps.any fun p => (viewsO many p).isNone) = true then some xT else none := by
        refine x_rcF (F := tD) (bad := fun p => (viewsO many p).isNone) it pn fun p hp => ⟨E (some (tS p)), as p, ?_, fun hb => ?_⟩
        · have v := vo p hp
          cases hq : viewsO many p with
          | none =>
            rw [hq] at v
            exact r_call (ms := [I (many : Int), tS p]) (cs := [I (many : Int), tS p]) (ar p) rfl rfl v
          | some L =>
            rw [hq] at v
            exact r_call (ms := [I (many : Int), tS p]) (cs := [I (many : Int), tS p]) (ar p) rfl rfl v.2
        · have v := vo p hp
          cases hq : viewsO many p with
          | none => rw [hq] at hb; cases hb
          | some L =>
            rw [hq] at v
            exact ⟨_, opr_of (ar p) (callP_of rfl rfl v.1)⟩
      by_cases h4 : many ≤ 40 ∧ ps.length ≤ 4
      · rw [decide_eq_true h4.1, decide_eq_true h4.2] at c2 l2
        cases hav : ps.any fun p => (viewsO many p).isNone with
        | true =>
          rw [hav, if_pos rfl] at rc
          rw [if_neg (by simp)]
          exact r_run rfl rfl (r_nx s1 (r_seq (r_sREn l1) (e_look c1) (r_seq (r_sREn gn) s3 (r_nx s4 (r_seq (r_sREn l2) (e_look c2) (r_sRE (r_tl (n4 none) rc)))))))
        | false =>
          rw [hav, if_neg Bool.false_ne_true] at rc
          rw [if_pos ⟨h4.1, h4.2, rfl⟩]
          have vs : ∀ p ∈ ps, f_views_read [I (many : Int), tS p] = some (vsMx many p, [I (many : Int), tS p]) := fun p hp => by
            have v := vo p hp
            cases hq : viewsO many p with
            | none =>
              have := List.any_eq_false.mp hav p hp
              rw [hq] at this
              exact (this rfl).elim
            | some L =>
              rw [hq] at v
              exact v.1
          have lc : lcF [6] (.nm 6) (itP true (nam 5)) cYes (opr (callP [false, false] f_views_read) (aCons (nam 4) (aCons (nam 6) aNil))) (E none) = some (.ol (ps.map fun p => vsMx many p)) :=
            x_lcG (F := tD) (xs := ps) (w := fun p => vsMx many p) (e1 := fun p => E (some (tS p))) it (fun p _ => as p) (fun p hp => opr_of (ar p) (callP_of rfl rfl (vs p hp))) (fun p _ => vsMx_sl many p) pn rfl
          have rt : sRet lk_read_heap (lif (opr oTup (aCons (nam 4) (aCons (lcF [6] (.nm 6) (itP true (nam 5)) cYes (opr (callP [false, false] f_views_read) (aCons (nam 4) (aCons (nam 6) aNil)))) aNil)))) (E none) = some (.rt (.ot [I (many : Int), .ol (ps.map fun p => vsMx many p)]) (E none)) :=
            x_ret (lif_of (opr_of (acons_of (n4 none) (acons_of lc e_anil)) (show oTup _ [I (many : Int), .ol (ps.map fun p => vsMx many p)] = some (.ot [I (many : Int), .ol (ps.map fun p => vsMx many p)]) from rfl))) rfl (retM_ot esl (shutL_c (shut_f (k := 7)) (shutL_c (shut_ol (shutL_map ps fun p _ => vsMx_shut 5 many p)) shutL_n)))
          refine ⟨?_, r_runN (r_nx s1 (r_seq (r_sREn l1) (e_look c1) (r_seq (r_sREn gn) s3 (r_nx s4 (r_seq (r_sREn l2) (e_look c2) (r_sREn (r_tl (n4 none) rc)))))))⟩
          refine run_rt rfl rfl rfl (seq_of s1 (seq_of (e_look c1) (seq_of s3 (seq_of s4 (seq_of (e_look c2) rt))))) ?_
          rw [hE]
          rfl
      · have e2 : (decide (many ≤ 40) && decide (ps.length ≤ 4)) = false := by
          cases h1 : decide (many ≤ 40) with
          | false => rfl
          | true => exact decide_eq_false fun z => h4 ⟨of_decide_eq_true h1, z⟩
        rw [e2] at l2
        rw [if_neg fun z => h4 ⟨z.1, z.2.1⟩]
        exact r_run rfl rfl (r_nx s1 (r_seq (r_sREn l1) (e_look c1) (r_seq (r_sREn gn) s3 (r_nx s4 (r_seq1 (r_sRE l2))))))
def asc (x : List Nat) : Prop := ∀ c ∈ x, c < 1114112
def cntI (x : List Nat) : Int := match numO x with
  | some m => (m : Int)
  | none => -1
theorem asc_ok {x : List Nat} (h : asc x) : PyData.strOk (sS x) = true := by
  show (x.toArray.all fun c => decide (c < 0x110000)) = true
  simp only [List.all_toArray, List.all_eq_true, decide_eq_true_eq]
  exact h
theorem law_count_ok {x : List Nat} (hl : x.length ≤ 1000000) (ha : asc x) : f__law_count [tS x] = some (I (cntI x), [tS x]) := by
  have n0 : ∀ s, nam 0 [some (tS x), s] = some (tS x) := fun s => nam_fz rfl
  have b1 := tst_of (bin_of (o := sop (gEqS false)) (n0 none) (e_cst (d := tD [])) k_eqSt)
  have t : dOr (tst (T2.bin (sop (gEqS false)) (nam 0) (cst (.str "")))) (dOr (tst (T2.bin (sop iGt) (opr (sop gLen) (aCons (nam 0) aNil)) (cst (.int 40)))) (dAnd (tst (T2.bin (sop (gEqS false)) (T2.bin (sop gSItem) (nam 0) (cst (.int 0))) (cst (.str "0")))) (tst (T2.bin (sop (gEqS true)) (nam 0) (cst (.str "0")))))) [some (tS x), none] = some (!c1 x) := by
    cases x with
    | nil => exact or_t b1
    | cons c r =>
      have b2 := tst_of (bin_of (o := sop iGt) (x_lenT' (n0 none) hl) (e_cst (d := .int 40)) k_gt)
      have i := bin_of (o := sop gSItem) (n0 none) (e_cst (d := .int 0)) (k_itemS (a := r) (by simp only [List.length_cons] at hl; omega))
      have z := x_or b1 (x_or b2 (x_and (tst_of (bin_of (o := sop (gEqS false)) i (e_cst (d := tD [48])) k_eqSt)) (tst_of (bin_of (o := sop (gEqS true)) (n0 none) (e_cst (d := tD [48])) k_neSt))))
      refine z.trans ?_
      unfold c1
      have e1 : decide ((((c :: r).length : Nat) : Int) > 40) = !decide ((c :: r).length ≤ 40) := by
        rw [← decide_not]
        exact decide_eq_decide.mpr (by omega)
      rw [e1, show decide (([c] : List Nat) = [48]) = decide ((c :: r).head? = some 48) from decide_eq_decide.mpr (by simp)]
      cases decide ((c :: r) = []) <;> cases decide ((c :: r).length ≤ 40) <;> cases decide ((c :: r).head? = some 48) <;> cases decide ((c :: r) = [48]) <;> rfl
  have neg : T2.una (sop (gU fun i => -i)) (cst (.int 1)) [some (tS x), none] = some (I (-1)) := rfl
  cases hc : c1 x with
  | false =>
    have en : cntI x = -1 := by unfold cntI numO; rw [hc]; rfl
    rw [hc] at t
    rw [en]
    exact run_rt rfl rfl rfl (seq_rt (if_t t (ret_of neg))) rfl
  | true =>
    rw [hc] at t
    have it : itS (nam 0) [some (tS x), none] = some (x.map fun c => tD [c]) := by
      unfold itS
      rw [n0]
    have lc : lcF [1] (.nm 1) (itS (nam 0)) (tst (T2.bin (sop (gInC true)) (nam 1) (cst (.str "0123456789")))) (nam 1) [some (tS x), none] = some (oD ((x.filter fun c => !decide (c ∈ figs)).map fun c => tD [c])) := by
      refine x_lcGf (F := fun c => tD [c]) (xs := x) (c := fun c => !decide (c ∈ figs)) (w := fun c => tS [c]) (e1 := fun c => [some (tS x), some (tS [c])]) it (fun c _ => rfl) (fun c _ => ?_) (fun c _ _ => nam_fz rfl) (fun c _ => rfl) (by simp only [sizeLine]; omega) ?_
      · exact tst_of (bin_of (nam_fz (i := 1) (d := tD [c]) rfl) (e_cst (d := tD figs)) k_ninC)
      · show M.ol _ = M.ol (List.map _ (List.map _ _))
        rw [List.map_map]
        rfl
    have hg : gd 64 (.lst ((x.filter fun c => !decide (c ∈ figs)).map fun c => tD [c])) = true := gd_lst (gdL_map fun c hc => gd_str (asc_ok fun d hd => by
      rw [List.mem_singleton.mp hd]
      exact ha c (List.mem_filter.mp hc).1))
    have t2 := tst_of (bin_of (o := sop (gEq true)) lc (opr_of e_anil k_lstI0) (k_eqGT (dats_o (dats_o (ds := []) dats_n)) hg (gd_lst gdL_n)))
    have e3 : (!eqD (.lst ((x.filter fun c => !decide (c ∈ figs)).map fun c => tD [c])) (.lst [])) = !x.all fun c => decide (c ∈ figs) := by
      cases hf : x.filter fun c => !decide (c ∈ figs) with
      | nil =>
        have : x.all (fun c => decide (c ∈ figs)) = true := by
          rw [List.all_eq_true]
          intro c hc
          have := List.filter_eq_nil_iff.mp hf c hc
          cases hd : decide (c ∈ figs) with
          | true => rfl
          | false => exact (this (by rw [hd]; rfl)).elim
        rw [this]
        rfl
      | cons c r =>
        have h1 : c ∈ x.filter fun c => !decide (c ∈ figs) := by rw [hf]; exact List.mem_cons_self
        have h2 := List.mem_filter.mp h1
        have : x.all (fun c => decide (c ∈ figs)) = false := by
          rw [List.all_eq_false]
          exact ⟨c, h2.1, by simpa using h2.2⟩
        rw [this]
        rfl
    rw [e3] at t2
    cases hal : x.all fun c => decide (c ∈ figs) with
    | false =>
      have en : cntI x = -1 := by unfold cntI numO; rw [hc, hal]; rfl
      rw [hal] at t2
      rw [en]
      exact run_rt rfl rfl rfl (seq_of (if_f t e_nil) (seq_rt (if_t t2 (ret_of neg)))) rfl
    | true =>
      have hn : numO x = some (numV x) := by unfold numO; rw [hc, hal]; rfl
      have en : cntI x = (numV x : Nat) := by unfold cntI; rw [hn]
      obtain ⟨ex, hl40, _, _⟩ := numO_some hn
      rw [hal] at t2
      rw [en]
      have nr : opr (sop gIntS) (aCons (nam 0) aNil) [some (tS x), none] = some (I (numV x : Nat)) := k_intS (m := numV x) (by rw [← ex]; exact n0 none) (by rw [← ex]; omega)
      exact run_rt rfl rfl rfl (seq_of (if_f t e_nil) (seq_of (if_f t2 e_nil) (ret_of nr))) rfl
def chkL (many : Nat) : Option Int → List Int → Bool
  | _, [] => true
  | p, c :: r => (!decide (c < 0) && (decide (c < (many : Int)) && prevOk p c)) && chkL many (some c) r
theorem chk_eq (many : Nat) : ∀ (os : List (Option Nat)) (p : Option Int), chkL many p (os.map fun o => match o with | some m => (m : Int) | none => -1) = ((os.all fun o => o.isSome) && chkV many p (os.map fun o => ((o.getD 0 : Nat) : Int)))
  | [], p => rfl
  | none :: os, p => by
    rw [List.map_cons, chkL, List.all_cons]
    rfl
  | some m :: os, p => by
    have ih := chk_eq many os (some (m : Int))
    rw [List.map_cons, List.map_cons, chkL, chkV, List.all_cons]
    show (!decide ((m : Int) < 0) && (decide ((m : Int) < (many : Int)) && prevOk p (m : Int)) && chkL many (some (m : Int)) _) = _
    rw [ih, decide_eq_false (by omega)]
    show _ = ((true && _) && ((decide ((m : Int) < (many : Int)) && prevOk p (m : Int)) && _))
    cases (decide ((m : Int) < (many : Int)) && prevOk p (m : Int)) <;> cases (os.all fun o => o.isSome) <;> rfl
theorem lview_cond {many : Nat} {T : List Nat} {L pre suf : List Int} {c : Int} (h : pre ++ c :: suf = L) : dOr (tst (T2.bin (sop iLt) (nam 4) (cst (.int 0)))) (dOr (tst (T2.bin (sop iGe) (nam 4) (nam 0))) (dAnd (tst (T2.bin (sop iGt) (nam 3) (cst (.int 0)))) (tst (T2.bin (sop iLe) (nam 4) (T2.bin oIdx (nam 2) (T2.bin (sop iSub) (nam 3) (cst (.int 1)))))))) (vE many T L (some (I (pre.length : Int))) (some (I c))) = some (!(!decide (c < 0) && (decide (c < (many : Int)) && prevOk pre.getLast? c))) := by
  have a0 := tst_of (bin_of (o := sop iLt) (nam_fz (i := 4) (d := .int c) (env := vE many T L (some (I (pre.length : Int))) (some (I c))) rfl) (e_cst (d := .int 0)) k_lt)
  have a1 := tst_of (bin_of (o := sop iGe) (nam_fz (i := 4) (d := .int c) (env := vE many T L (some (I (pre.length : Int))) (some (I c))) rfl) (nam_fz (i := 0) (d := .int (many : Int)) rfl) k_ge)
  have a2 := tst_of (bin_of (o := sop iGt) (nam_fz (i := 3) (d := .int (pre.length : Int)) (env := vE many T L (some (I (pre.length : Int))) (some (I c))) rfl) (e_cst (d := .int 0)) k_gt)
  have e1 : decide (c ≥ (many : Int)) = !decide (c < (many : Int)) := by
    rw [← decide_not]
    exact decide_eq_decide.mpr (by omega)
  rw [e1] at a1
  have key : dAnd (tst (T2.bin (sop iGt) (nam 3) (cst (.int 0)))) (tst (T2.bin (sop iLe) (nam 4) (T2.bin oIdx (nam 2) (T2.bin (sop iSub) (nam 3) (cst (.int 1)))))) (vE many T L (some (I (pre.length : Int))) (some (I c))) = some (!prevOk pre.getLast? c) := by
    cases hq : pre.getLast? with
    | none =>
      have : pre = [] := by cases pre with | nil => rfl | cons a b => simp at hq
      subst this
      exact and_f a2
    | some q =>
      have hp : 1 ≤ pre.length := by cases pre with | nil => cases hq | cons a b => simp
      rw [decide_eq_true (show (pre.length : Int) > 0 by omega)] at a2
      have z := tst_of (bin_of (o := sop iLe) (nam_fz (i := 4) (d := .int c) rfl) (at_prev (k := 3) (i := 2) (j := 0) h hq (env := vE many T L (some (I (pre.length : Int))) (some (I c))) rfl rfl) k_le)
      rw [show decide (c ≤ q) = !prevOk (some q) c by
        show _ = !decide (q < c)
        rw [← decide_not]
        exact decide_eq_decide.mpr (by omega)] at z
      exact and_t a2 z
  have z := x_or a0 (x_or a1 key)
  refine z.trans ?_
  cases decide (c < 0) <;> cases decide (c < (many : Int)) <;> cases prevOk pre.getLast? c <;> rfl
theorem lp_rt' {lk : Nat → Bool} {t : Tg} {ds : List D} {d : D} {S : En → Option Fl} {env e1 e2 : En} {m : M} (h : asT lk t d env = some e1) (h' : S e1 = some (.rt m e2)) : lpF lk t S (d :: ds) env = some (.rt m e2) := by
  unfold lpF
  rw [h]
  simp only [h']
theorem lview_loop {many : Nat} {T : List Nat} {L : List Int} : ∀ (suf pre : List Int), pre ++ suf = L → ∀ (a b : Option M),
    if chkL many pre.getLast? suf = true then ∃ a' b', lpF lk__law_view_read (.tp [(.nm 3), (.nm 4)]) B__law_view_read_0 (enD pre.length (suf.map .int)) (vE many T L a b) = some (.nx (vE many T L a' b'))
    else ∃ e, lpF lk__law_view_read (.tp [(.nm 3), (.nm 4)]) B__law_view_read_0 (enD pre.length (suf.map .int)) (vE many T L a b) = some (.rt (.fz .non) e) ∧ ∃ a' b', e = vE many T L a' b'
  | [], pre, h, a, b => by
    have z : chkL many pre.getLast? [] = true := rfl
    rw [if_pos z]
    exact ⟨a, b, lp_nil⟩
  | c :: suf, pre, h, a, b => by
    have ih := lview_loop (many := many) (T := T) (L := L) suf (pre ++ [c]) (by rw [List.append_assoc]; exact h) (some (I (pre.length : Int))) (some (I c))
    rw [last_snoc, List.length_append, List.length_cons, List.length_nil] at ih
    have t := lview_cond (many := many) (T := T) h
    have as : asT lk__law_view_read (.tp [(.nm 3), (.nm 4)]) (.tup [.int (pre.length : Nat), .int c]) (vE many T L a b) = some (vE many T L (some (I (pre.length : Int))) (some (I c))) := rfl
    rw [chkL]
    show if ((!decide (c < 0) && (decide (c < (many : Int)) && prevOk pre.getLast? c)) && chkL many (some c) suf) = true then (∃ a' b', lpF lk__law_view_read (.tp [(.nm 3), (.nm 4)]) B__law_view_read_0 (.tup [.int (pre.length : Nat), .int c] :: enD (pre.length + 1) (suf.map .int)) _ = _) else ∃ e, lpF lk__law_view_read (.tp [(.nm 3), (.nm 4)]) B__law_view_read_0 (.tup [.int (pre.length : Nat), .int c] :: enD (pre.length + 1) (suf.map .int)) _ = _ ∧ _
    cases hb : !decide (c < 0) && (decide (c < (many : Int)) && prevOk pre.getLast? c) with
    | false =>
      rw [hb] at t
      rw [Bool.false_and, if_neg Bool.false_ne_true]
      exact ⟨_, lp_rt' as (if_t t (ret_of e_cst)), _, _, rfl⟩
    | true =>
      rw [hb] at t
      rw [Bool.true_and]
      have b0 : B__law_view_read_0 (vE many T L (some (I (pre.length : Int))) (some (I c))) = some (.nx (vE many T L (some (I (pre.length : Int))) (some (I c)))) := if_f t e_nil
      split
      · rename_i hc
        rw [if_pos hc] at ih
        obtain ⟨a', b', h2⟩ := ih
        exact ⟨a', b', lp_cons as b0 h2⟩
      · rename_i hc
        rw [if_neg hc] at ih
        obtain ⟨e, h2, he⟩ := ih
        exact ⟨e, lp_cons as b0 h2, he⟩
def lvM (many : Nat) (t : List Nat) : M := match viewO many t with
  | some L => vMx t L
  | none => .fz .non
def lvD (many : Nat) (t : List Nat) : D := match viewO many t with
  | some L => lI L
  | none => .non
theorem lvM_dat (many : Nat) (t : List Nat) : dat0 (lvM many t) = some (lvD many t) := by
  unfold lvM lvD
  cases viewO many t with
  | none => rfl
  | some L => exact vMx_dat t L
theorem lvM_sl (many : Nat) (t : List Nat) : slotsL [lvM many t] = [] := by
  unfold lvM
  cases viewO many t with
  | none => rfl
  | some L => exact vMx_sl t L
theorem law_view_ok {many : Nat} {T : List Nat} (hl : T.length ≤ 100000) (ha : asc T) : f__law_view_read [I (many : Int), tS T] = some (lvM many T, [I (many : Int), tS T]) := by
  have t0 : tst (T2.bin (sop (gEqS false)) (nam 1) (cst (.str "()"))) [some (I (many : Int)), some (tS T), none, none, none, none] = some (decide (T = [40, 41])) := tst_of (bin_of (nam_fz rfl) (e_cst (d := tD [40, 41])) k_eqSt)
  by_cases h0 : T = [40, 41]
  · have ev : viewO many T = some [] := by unfold viewO; rw [if_pos h0]
    have em : lvM many T = oI [] := by unfold lvM; rw [ev]; show vMx T [] = _; unfold vMx; rw [if_pos h0]
    rw [decide_eq_true h0] at t0
    rw [em]
    exact run_rt rfl rfl rfl (seq_rt (if_t t0 (x_ret (lif_of (opr_of e_anil k_lstI0)) rfl (retM_oI [])))) rfl
  · rw [decide_eq_false h0] at t0
    have sp := spl_len [32] T 0 []
    obtain ⟨ps, hps⟩ : ∃ ps, TL.spl [32] 0 [] T = ps := ⟨_, rfl⟩
    have it : itP true (T2.bin (opM gSplit) (nam 1) (cst (.str " "))) [some (I (many : Int)), some (tS T), none, none, none, none] = some (ps.map tD) := by
      rw [← hps]
      exact spl_it (s := 32) (S := []) (by decide) (fun c hc => by cases hc) hl rfl
    have pl : ∀ p ∈ ps, p.length ≤ 1000000 ∧ asc p := fun p hp => by
      have h1 := sp.2.1 p (by rw [hps]; exact hp)
      have h2 := sp.2.2 p (by rw [hps]; exact hp)
      simp only [List.length_nil] at h1
      exact ⟨by omega, fun c hc => (h2 c hc).elim (fun z => by cases z) fun z => ha c z⟩
    have pn : ps.length ≤ sizeLine := by have := sp.1; rw [hps] at this; simp only [sizeLine]; omega
    obtain ⟨L, hL⟩ : ∃ L, ps.map cntI = L := ⟨_, rfl⟩
    have lc : lcF [5] (.nm 5) (itP true (T2.bin (opM gSplit) (nam 1) (cst (.str " ")))) cYes (opr (callP [false] f__law_count) (aCons (nam 5) aNil)) [some (I (many : Int)), some (tS T), none, none, none, none] = some (oI L) := by
      refine x_lcG (F := tD) (xs := ps) (w := fun p => I (cntI p)) (e1 := fun p => [some (I (many : Int)), some (tS T), none, none, none, some (tS p)]) it (fun p _ => rfl) (fun p hp => opr_of (acons_of (nam_fz rfl) e_anil) (callP_of rfl rfl (law_count_ok (pl p hp).1 (pl p hp).2))) (fun p _ => rfl) pn ?_
      rw [← hL]
      show M.ol _ = M.ol (List.map _ _)
      rw [List.map_map, List.map_map]
      rfl
    have s1 : sAsg lk__law_view_read 2 9 (lif (lcF [5] (.nm 5) (itP true (T2.bin (opM gSplit) (nam 1) (cst (.str " ")))) cYes (opr (callP [false] f__law_count) (aCons (nam 5) aNil)))) [some (I (many : Int)), some (tS T), none, none, none, none] = some (.nx [some (I (many : Int)), some (tS T), some (oI L), none, none, none]) := x_asg rfl (lif_of lc) (stow_s (k := 8) _) rfl rfl rfl
    have en := x_enXo (env := [some (I (many : Int)), some (tS T), some (oI L), none, none, none]) (i := 2) (ds := L.map .int) rfl
    have lp := lview_loop (many := many) (T := T) (L := L) L [] rfl none none
    have eL : L = (numsO T).map fun o => match o with | some m => (m : Int) | none => -1 := by
      rw [← hL]
      unfold numsO
      rw [hps, List.map_map]
      rfl
    have ec : chkL many ([] : List Int).getLast? L = (((numsO T).all fun o => o.isSome) && chkV many none (valsO T)) := by
      rw [eL]
      exact chk_eq many (numsO T) none
    have ev : viewO many T = if ((numsO T).all fun o => o.isSome) = true ∧ chkV many none (valsO T) = true then some (valsO T) else none := by
      show (if T = [40, 41] then _ else _) = _
      rw [if_neg h0]
    cases hc : ((numsO T).all fun o => o.isSome) && chkV many none (valsO T) with
    | true =>
      rw [hc] at ec
      rw [if_pos ec] at lp
      obtain ⟨a', b', l2⟩ := lp
      rw [Bool.and_eq_true] at hc
      rw [if_pos hc] at ev
      have e2 : L = valsO T := by
        rw [eL]
        unfold valsO
        refine List.map_congr_left fun o ho => ?_
        have := List.all_eq_true.mp hc.1 o ho
        cases o with
        | none => cases this
        | some m => rfl
      have em : lvM many T = .fz (lI L) := by
        unfold lvM
        rw [ev]
        show vMx T (valsO T) = _
        unfold vMx
        rw [if_neg h0, e2]
      rw [em]
      exact run_rt rfl rfl rfl (seq_of (if_f t0 e_nil) (seq_of s1 (seq_of (x_for en l2) (ret_of (nam_fz (i := 2) (d := lI L) rfl))))) rfl
    | false =>
      rw [hc] at ec
      rw [if_neg (by rw [ec]; exact Bool.false_ne_true)] at lp
      obtain ⟨e, l2, a', b', he⟩ := lp
      have ev : viewO many T = none := by
        rw [ev, if_neg fun z => by rw [z.1, z.2] at hc; cases hc]
      have em : lvM many T = .fz .non := by
        unfold lvM
        rw [ev]
      rw [em]
      subst he
      exact run_rt rfl rfl rfl (seq_of (if_f t0 e_nil) (seq_of s1 (seq_rt (x_for en l2)))) rfl
theorem lvD_gd (many : Nat) (t : List Nat) : gd 63 (lvD many t) = true := by
  unfold lvD
  cases viewO many t with
  | none => exact gd_non
  | some L => exact gd_lI
theorem lvD_non (many : Nat) (t : List Nat) : eqD (lvD many t) .non = (viewO many t).isNone := by
  unfold lvD
  cases viewO many t <;> rfl
def rowO (many : Nat) (t : List Nat) : List D := if t = [45] then [] else (TL.spl [44, 32] 0 [] t).map (lvD many)
theorem rowO_bad {many : Nat} {t : List Nat} : viewsO many t = if (rowO many t).length ≤ 40 ∧ ((rowO many t).any fun z => eqD z .non) = false then some (if t = [45] then [] else (TL.spl [44, 32] 0 [] t).map fun p => (viewO many p).getD []) else none := by
  unfold viewsO rowO
  by_cases h0 : t = [45]
  · simp only [if_pos h0]
    rfl
  · simp only [if_neg h0, List.length_map, List.any_map, Function.comp_def, lvD_non]
theorem rowO_good {many : Nat} {t : List Nat} {R : List (List Int)} (h : viewsO many t = some R) : rowO many t = R.map lI := by
  unfold viewsO at h
  unfold rowO
  by_cases h0 : t = [45]
  · rw [if_pos h0] at h ⊢
    cases h
    rfl
  · rw [if_neg h0] at h ⊢
    split at h
    · rename_i hc
      cases h
      rw [List.map_map]
      refine List.map_congr_left fun p hp => ?_
      have := List.any_eq_false.mp hc.2 p hp
      show lvD many p = lI ((viewO many p).getD [])
      unfold lvD
      cases hq : viewO many p with
      | none => rw [hq] at this; exact (this rfl).elim
      | some L => rfl
    · cases h
abbrev lhE (X : List Nat) (P : D) (many : Int) (acc : List D) (n r : Option M) : En := [some (tS X), some (.fz P), some (I many), some (oD acc), n, r, none]
theorem row_step {many : Nat} {X T : List Nat} {P : D} {acc : List D} {r : Option M} (hl : T.length ≤ 100000) (ha : asc T) (hacc : acc.length ≤ 200000) : match viewsO many T with
    | some R => B__law_heap_read_0 (lhE X P many acc (some (tS T)) r) = some (.nx (lhE X P many (acc ++ [rowsD R]) (some (tS T)) (some (.fz (rowsD R)))))
    | none => ∃ r', B__law_heap_read_0 (lhE X P many acc (some (tS T)) r) = some (.rt (.fz .non) (lhE X P many acc (some (tS T)) r')) := by
  have s0 : sAsg lk__law_heap_read 5 0 (lif (opr oLst aNil)) (lhE X P many acc (some (tS T)) r) = some (.nx (lhE X P many acc (some (tS T)) (some (.fz (.lst []))))) := x_asg rfl (lif_of (opr_of e_anil k_lstI0)) (stow_z []) rfl rfl rfl
  have t0 := tst_of (bin_of (o := sop (gEqS true)) (nam_fz (i := 4) (d := tD T) (env := lhE X P many acc (some (tS T)) (some (.fz (.lst [])))) rfl) (e_cst (d := tD [45])) k_neSt)
  have sp := spl_len [44, 32] T 0 []
  have hlen : (rowO many T).length ≤ 100001 := by
    unfold rowO
    split
    · simp
    · rw [List.length_map]
      omega
  have s1 : sIf (lifT (tst (T2.bin (sop (gEqS true)) (nam 4) (cst (.str "-"))))) (sAsg lk__law_heap_read 5 0 (lif (lcF [6] (.nm 6) (itP true (T2.bin (opM gSplit) (nam 4) (cst (.str ", ")))) cYes (opr (callP [false, false] f__law_view_read) (aCons (nam 2) (aCons (nam 6) aNil)))))) sNil (lhE X P many acc (some (tS T)) (some (.fz (.lst [])))) = some (.nx (lhE X P many acc (some (tS T)) (some (.fz (.lst (rowO many T)))))) := by
    by_cases h0 : T = [45]
    · rw [decide_eq_true h0] at t0
      have e : rowO many T = [] := by unfold rowO; rw [if_pos h0]
      rw [e]
      exact if_f t0 e_nil
    · rw [decide_eq_false h0] at t0
      have e : rowO many T = (TL.spl [44, 32] 0 [] T).map (lvD many) := by unfold rowO; rw [if_neg h0]
      rw [e]
      obtain ⟨ps, hps⟩ : ∃ ps, TL.spl [44, 32] 0 [] T = ps := ⟨_, rfl⟩
      rw [hps] at sp ⊢
      have it : itP true (T2.bin (opM gSplit) (nam 4) (cst (.str ", "))) (lhE X P many acc (some (tS T)) (some (.fz (.lst [])))) = some (ps.map tD) := by
        rw [← hps]
        exact spl_it (i := 4) (s := 44) (S := [32]) (by decide) (fun c hc => by simp at hc; omega) hl rfl
      have pl : ∀ p ∈ ps, p.length ≤ 100000 ∧ asc p := fun p hp => by
        have h1 := sp.2.1 p hp
        simp only [List.length_nil] at h1
        exact ⟨by omega, fun c hc => (sp.2.2 p hp c hc).elim (fun z => by cases z) fun z => ha c z⟩
      have lc : lcF [6] (.nm 6) (itP true (T2.bin (opM gSplit) (nam 4) (cst (.str ", ")))) cYes (opr (callP [false, false] f__law_view_read) (aCons (nam 2) (aCons (nam 6) aNil))) (lhE X P many acc (some (tS T)) (some (.fz (.lst [])))) = some (.ol (ps.map (lvM many))) :=
        x_lcG (F := tD) (xs := ps) (w := lvM many) (e1 := fun p => [some (tS X), some (.fz P), some (I many), some (oD acc), some (tS T), some (.fz (.lst [])), some (tS p)]) it (fun p _ => rfl) (fun p hp => opr_of (acons_of (nam_fz rfl) (acons_of (nam_fz rfl) e_anil)) (callP_of rfl rfl (law_view_ok (pl p hp).1 (pl p hp).2))) (fun p _ => lvM_sl many p) (by have := sp.1; simp only [sizeLine]; omega) rfl
      have st : stow 0 (lhE X P many acc (some (tS T)) (some (.fz (.lst [])))) (.ol (ps.map (lvM many))) = some (.fz (.lst (ps.map (lvD many))), lhE X P many acc (some (tS T)) (some (.fz (.lst [])))) := stow_zl (slotsL_map ps fun p _ => lvM_sl many p) (datL0_map ps fun p _ => lvM_dat many p)
      exact if_t t0 (x_asg rfl (lif_of lc) st rfl rfl rfl)
  obtain ⟨W, hW⟩ : ∃ W, rowO many T = W := ⟨_, rfl⟩
  have hg : gdL 63 W = true := by
    rw [← hW]
    unfold rowO
    split
    · exact gdL_n
    · exact gdL_map fun p _ => lvD_gd many p
  rw [hW] at s1 hlen
  have ti := tst_of (bin_of (o := oIn) (e_cst (d := .non) (env := lhE X P many acc (some (tS T)) (some (.fz (.lst W))))) (nam_fz (i := 5) (d := .lst W) rfl) (k_inG (dats_f (dats_f dats_n)) gd_non hg))
  have ln := x_lenG (f := nam 5) (env := lhE X P many acc (some (tS T)) (some (.fz (.lst W)))) (ds := W) (nam_fz rfl) (dats_f dats_n)
  have tl := tst_of (bin_of (o := sop iGt) ln (e_cst (d := .int 40)) k_gt)
  have tt := x_or ti tl
  rw [rowO_bad, hW]
  by_cases hc : W.length ≤ 40 ∧ (W.any fun z => eqD z .non) = false
  · rw [hc.2, decide_eq_false (show ¬ ((W.length : Nat) : Int) > 40 by omega)] at tt
    rw [if_pos hc]
    have hv : viewsO many T = some (if T = [45] then [] else (TL.spl [44, 32] 0 [] T).map fun p => (viewO many p).getD []) := by rw [rowO_bad, hW, if_pos hc]
    have eW := rowO_good hv
    rw [hW] at eW
    show B__law_heap_read_0 _ = some (.nx (lhE X P many (acc ++ [rowsD _]) _ (some (.fz (rowsD _)))))
    unfold rowsD
    rw [← eW]
    have ap : sExp (xMutP 0 (nam 3) (aCons (nam 5) aNil) mAppend) (lhE X P many acc (some (tS T)) (some (.fz (.lst W)))) = some (.nx (lhE X P many (acc ++ [.lst W]) (some (tS T)) (some (.fz (.lst W))))) :=
      exp_of (x_mutP (i := 3) (p := []) (ms := acc.map .fz) (nam_oD (ds := acc) rfl) (acons_of (nam_fz (d := .lst W) rfl) e_anil) rfl rfl rfl (x_appD (by omega)) rfl)
    exact seq_of s0 (seq_of s1 (seq_of (if_f tt e_nil) ap))
  · rw [if_neg hc]
    have e2 : ((W.any fun z => eqD z .non) || decide (((W.length : Nat) : Int) > 40)) = true := by
      cases h1 : W.any fun z => eqD z .non with
      | true => rfl
      | false => exact decide_eq_true (Classical.byContradiction fun z => hc ⟨by omega, h1⟩)
    rw [e2] at tt
    exact ⟨_, seq_of s0 (seq_of s1 (seq_rt (if_t tt (ret_of e_cst))))⟩
theorem rows_loop {many : Nat} {X : List Nat} {P : D} : ∀ (ps : List (List Nat)) (acc : List D) (n r : Option M), (∀ p ∈ ps, p.length ≤ 100000 ∧ asc p) → acc.length + ps.length ≤ 200000 →
    if (ps.any fun p => (viewsO many p).isNone) = false then ∃ n' r', lpF lk__law_heap_read (.nm 4) B__law_heap_read_0 (ps.map tD) (lhE X P many acc n r) = some (.nx (lhE X P many (acc ++ ps.map fun p => rowsD ((viewsO many p).getD [])) n' r'))
    else ∃ acc' n' r', lpF lk__law_heap_read (.nm 4) B__law_heap_read_0 (ps.map tD) (lhE X P many acc n r) = some (.rt (.fz .non) (lhE X P many acc' n' r'))
  | [], acc, n, r, _, _ => by
    rw [List.any_nil, if_pos rfl]
    refine ⟨n, r, ?_⟩
    rw [List.map_nil, List.map_nil, List.append_nil]
    exact lp_nil
  | p :: ps, acc, n, r, hp, hl => by
    have st := row_step (many := many) (X := X) (P := P) (acc := acc) (r := r) (hp p List.mem_cons_self).1 (hp p List.mem_cons_self).2 (by simp only [List.length_cons] at hl; omega)
    have as : asT lk__law_heap_read (.nm 4) (tD p) (lhE X P many acc n r) = some (lhE X P many acc (some (tS p)) r) := rfl
    rw [List.any_cons, List.map_cons]
    cases hv : viewsO many p with
    | none =>
      rw [hv] at st
      obtain ⟨e, st⟩ := st
      rw [show ((none : Option (List (List Int))).isNone || ps.any fun p => (viewsO many p).isNone) = true from rfl, if_neg (by simp)]
      exact ⟨_, _, _, lp_rt' as st⟩
    | some R =>
      rw [hv] at st
      have ih := rows_loop (many := many) (X := X) (P := P) ps (acc ++ [rowsD R]) (some (tS p)) (some (.fz (rowsD R))) (fun q hq => hp q (List.mem_cons_of_mem _ hq)) (by simp only [List.length_append, List.length_cons, List.length_nil] at hl ⊢; omega)
      rw [show ((some R).isNone || ps.any fun p => (viewsO many p).isNone) = ps.any fun p => (viewsO many p).isNone from rfl]
      split
      · rename_i hc
        rw [if_pos hc] at ih
        obtain ⟨n', r', h⟩ := ih
        refine ⟨n', r', ?_⟩
        have h2 := lp_cons as st h
        rw [h2, List.append_assoc, List.map_cons, hv]
        rfl
      · rename_i hc
        rw [if_neg hc] at ih
        obtain ⟨_, _, _, h⟩ := ih
        exact ⟨_, _, _, lp_cons as st h⟩
theorem spl_has {S : List Nat} {c : Nat} (hS : S ≠ []) (hc : c ∉ S) : ∀ (n : Nat) (l : List Nat), l.length ≤ n → ∀ acc, c ∈ acc ∨ c ∈ l → ∃ p ∈ TL.spl S 0 acc l, c ∈ p := by
  intro n
  induction n with
  | zero =>
    intro l hl acc h
    have : l = [] := List.length_eq_zero_iff.mp (by omega)
    subst this
    rw [TL.spl_nil]
    exact ⟨acc, List.mem_singleton.mpr rfl, h.elim id fun z => by cases z⟩
  | succ n ih =>
    intro l hl acc h
    cases l with
    | nil =>
      rw [TL.spl_nil]
      exact ⟨acc, List.mem_singleton.mpr rfl, h.elim id fun z => by cases z⟩
    | cons x r =>
      cases hq : TL.pre S (x :: r) with
      | true =>
        rw [TL.spl_hit hq]
        rcases h with h | h
        · exact ⟨acc, List.mem_cons_self, h⟩
        · have e : (x :: r).take S.length = S := eq_of_beq hq
          rw [← List.take_append_drop S.length (x :: r), e] at h
          rcases List.mem_append.mp h with z | z
          · exact (hc z).elim
          · rw [TL.spl_pass]
            obtain ⟨s, S', es⟩ : ∃ s S', S = s :: S' := by cases S with | nil => exact (hS rfl).elim | cons s S' => exact ⟨s, S', rfl⟩
            have z2 : c ∈ r.drop (S.length - 1) := by
              rw [es] at z ⊢
              exact z
            obtain ⟨p, hp, hcp⟩ := ih (r.drop (S.length - 1)) (by rw [List.length_drop]; simp only [List.length_cons] at hl; omega) [] (.inr z2)
            exact ⟨p, List.mem_cons_of_mem _ hp, hcp⟩
      | false =>
        rw [TL.spl_miss hq]
        refine ih r (by simp only [List.length_cons] at hl; omega) (acc ++ [x]) ?_
        rcases h with h | h
        · exact .inl (List.mem_append_left _ h)
        · rcases List.mem_cons.mp h with h | h
          · exact .inl (by rw [h]; simp)
          · exact .inr h
theorem view_colon {many : Nat} {t : List Nat} (h : 58 ∈ t) : viewO many t = none := by
  obtain ⟨p, hp, hc⟩ := spl_has (S := [32]) (by simp) (by decide) t.length t (Nat.le_refl _) [] (.inr h)
  have hn : numO p = none := numO_ne hc (.inr (by decide))
  have h0 : t ≠ [40, 41] := fun z => by rw [z] at h; exact absurd h (by decide)
  unfold viewO
  rw [if_neg h0, if_neg fun z => ?_]
  have := nums_all z.1 p hp
  rw [hn] at this
  cases this
theorem views_colon {many : Nat} {t : List Nat} (h : 58 ∈ t) : viewsO many t = none := by
  obtain ⟨p, hp, hc⟩ := spl_has (S := [44, 32]) (by simp) (by decide) t.length t (Nat.le_refl _) [] (.inr h)
  have h0 : t ≠ [45] := fun z => by rw [z] at h; exact absurd h (by decide)
  unfold viewsO
  rw [if_neg h0, if_neg fun z => ?_]
  have := List.any_eq_false.mp z.2 p hp
  rw [view_colon hc] at this
  exact this rfl
theorem hp_colon {many : Nat} {t : List Nat} (h : 58 ∈ t) : hpO many t = none := by
  obtain ⟨p, hp, hc⟩ := spl_has (S := [32, 47, 32]) (by simp) (by decide) t.length t (Nat.le_refl _) [] (.inr h)
  unfold hpO
  rw [if_neg fun z => ?_]
  have := List.any_eq_false.mp z.2.2 p hp
  rw [views_colon hc] at this
  exact this rfl
theorem par_mem {S : List Nat} (hS : S ≠ []) : ∀ (l acc : List Nat) {a b : List Nat}, TL.par S acc l = some (a, b) → ∀ c ∈ S, c ∈ l
  | [], acc, a, b, h => by cases h
  | x :: r, acc, a, b, h => by
    intro c hc
    cases hq : TL.pre S (x :: r) with
    | true =>
      have e : (x :: r).take S.length = S := eq_of_beq hq
      rw [← e] at hc
      exact List.mem_of_mem_take hc
    | false =>
      rw [TL.par_miss hq] at h
      exact List.mem_cons_of_mem _ (par_mem hS r _ h c hc)
theorem law_heap_read_ok {X : List Nat} (hl : X.length ≤ 100000) (ha : asc X) : f__law_heap_read [tS X] = some (match heapO X with
    | some h => .fz (hpD h)
    | none => .fz .non, [tS X]) := by
  have sp := spl_len [58, 32] X 0 []
  have pr := spl_par [58, 32] (by simp) X []
  obtain ⟨ps, hps⟩ : ∃ ps, TL.spl [58, 32] 0 [] X = ps := ⟨_, rfl⟩
  have hne : ps ≠ [] := by rw [← hps]; exact spl_ne _ X 0 []
  have s1 : sAsg lk__law_heap_read 1 0 (lif (T2.bin (opM gSplit) (nam 0) (cst (.str ": ")))) [some (tS X), none, none, none, none, none, none] = some (.nx [some (tS X), some (.fz (.lst (ps.map tD))), none, none, none, none, none]) :=
    x_asg rfl (lif_of (bin_of (nam_fz rfl) (e_cst (d := tD [58, 32])) (k_split (s := 58) (S := [32]) (by decide) (fun c hc => by simp at hc; omega) (by omega) hps))) (stow_z _) rfl rfl rfl
  rw [hps] at sp pr
  obtain ⟨a, r, e0⟩ : ∃ a r, ps = a :: r := by cases ps with | nil => exact (hne rfl).elim | cons a r => exact ⟨a, r, rfl⟩
  subst e0
  have pa : a.length ≤ 100000 ∧ asc a := by
    have h1 := sp.2.1 a List.mem_cons_self
    simp only [List.length_nil] at h1
    exact ⟨by omega, fun c hc => (sp.2.2 a List.mem_cons_self c hc).elim (fun z => by cases z) fun z => ha c z⟩
  have i0 : T2.bin oIdx (nam 1) (cst (.int 0)) [some (tS X), some (.fz (.lst ((a :: r).map tD))), none, none, none, none, none] = some (tS a) := bin_of (nam_fz (d := .lst ((a :: r).map tD)) rfl) (e_cst (d := .int 0)) (idx_f (show L2.atI ((a :: r).map tD) ((0 : Nat) : Int) = some (tD a) from atI_nat rfl))
  have s2 : sAsg lk__law_heap_read 2 0 (lif (opr (callP [false] f__law_count) (aCons (T2.bin oIdx (nam 1) (cst (.int 0))) aNil))) [some (tS X), some (.fz (.lst ((a :: r).map tD))), none, none, none, none, none] = some (.nx [some (tS X), some (.fz (.lst ((a :: r).map tD))), some (I (cntI a)), none, none, none, none]) :=
    x_asg rfl (lif_of (opr_of (acons_of i0 e_anil) (callP_of rfl rfl (law_count_ok (by omega) pa.2)))) stow_f rfl rfl rfl
  have ln := x_lenG (f := nam 1) (env := [some (tS X), some (.fz (.lst ((a :: r).map tD))), some (I (cntI a)), none, none, none, none]) (ds := (a :: r).map tD) (nam_fz rfl) (dats_f dats_n)
  rw [List.length_map] at ln
  have tA := tst_of (bin_of (o := sop (gEq true)) ln (e_cst (d := .int 2)) k_eqT)
  have tB := tst_of (bin_of (o := sop iLt) (nam_fz (i := 2) (d := .int (cntI a)) (env := [some (tS X), some (.fz (.lst ((a :: r).map tD))), some (I (cntI a)), none, none, none, none]) rfl) (e_cst (d := .int 0)) k_lt)
  have tC := tst_of (bin_of (o := sop iGt) (nam_fz (i := 2) (d := .int (cntI a)) (env := [some (tS X), some (.fz (.lst ((a :: r).map tD))), some (I (cntI a)), none, none, none, none]) rfl) (e_cst (d := .int 40)) k_gt)
  have tt := x_or tA (x_or tB tC)
  have fail : ((!(((((a :: r).length : Nat) : Int)) == 2)) || (decide (cntI a < 0) || decide (cntI a > 40))) = true → heapO X = none → f__law_heap_read [tS X] = some (match heapO X with
      | some h => .fz (hpD h)
      | none => .fz .non, [tS X]) := fun h1 h2 => by
    rw [h1] at tt
    rw [h2]
    exact run_rt rfl rfl rfl (seq_of s1 (seq_of s2 (seq_rt (if_t tt (ret_of e_cst))))) rfl
  cases hp : TL.par [58, 32] [] X with
  | none =>
    rw [hp] at pr
    have e2 : a :: r = [X] := pr
    refine fail ?_ (by unfold heapO; rw [hp])
    rw [e2]
    rfl
  | some ab =>
    obtain ⟨a', b⟩ := ab
    rw [hp] at pr
    obtain ⟨e2, hb, hbm, _, _⟩ := pr
    injection e2 with ea er
    subst ea
    have eo : heapO X = match numO a with
        | none => none
        | some many => (hpO many b).map fun R => (many, R) := by
      unfold heapO
      simp only [hp]
    cases hn : numO a with
    | none =>
      have ec : cntI a = -1 := by unfold cntI; rw [hn]
      refine fail ?_ (by rw [eo, hn])
      rw [ec]
      cases (!((((((a :: r).length : Nat) : Int)) == 2))) <;> rfl
    | some many =>
      have ec : cntI a = (many : Int) := by unfold cntI; rw [hn]
      rw [hn] at eo
      have eo : heapO X = (hpO many b).map fun R => (many, R) := eo
      have prb := spl_par [58, 32] (by simp) b []
      cases hpb : TL.par [58, 32] [] b with
      | some cd =>
        obtain ⟨c, d⟩ := cd
        rw [hpb] at prb
        have hcol : 58 ∈ b := par_mem (by simp) b [] hpb 58 (by simp)
        refine fail ?_ (by rw [eo, hp_colon hcol]; rfl)
        have : (a :: r).length ≠ 2 := fun z => by
          rw [er, prb.1] at z
          have h1 := spl_ne [58, 32] d 0 []
          simp only [List.length_cons] at z
          exact h1 (List.length_eq_zero_iff.mp (by omega))
        rw [show ((((a :: r).length : Nat) : Int) == 2) = false from beq_false_of_ne (by omega)]
        rfl
      | none =>
        rw [hpb] at prb
        have er2 : r = [b] := by rw [er]; exact prb
        subst er2
        by_cases h40 : many ≤ 40
        · rw [ec] at tt s2
          rw [decide_eq_false (by omega), decide_eq_false (by omega)] at tt
          have tt : _ = some false := tt
          have spb := spl_len [32, 47, 32] b 0 []
          have eh : hpO many b = if many ≤ 40 ∧ (TL.spl [32, 47, 32] 0 [] b).length ≤ 4 ∧ ((TL.spl [32, 47, 32] 0 [] b).any fun p => (viewsO many p).isNone) = false then some ((TL.spl [32, 47, 32] 0 [] b).map fun p => (viewsO many p).getD []) else none := rfl
          obtain ⟨qs, hqs⟩ : ∃ qs, TL.spl [32, 47, 32] 0 [] b = qs := ⟨_, rfl⟩
          rw [hqs] at spb eh
          have s3 : sAsg lk__law_heap_read 3 1 (lif (opr oLst aNil)) [some (tS X), some (.fz (.lst ([a, b].map tD))), some (I (many : Int)), none, none, none, none] = some (.nx (lhE X (.lst ([a, b].map tD)) many [] none none)) :=
             x_asg rfl (lif_of (opr_of e_anil k_lstI0)) (stow_s (k := 0) []) rfl rfl rfl
          have i1 : T2.bin oIdx (nam 1) (cst (.int 1)) (lhE X (.lst ([a, b].map tD)) many [] none none) = some (tS b) := bin_of (nam_fz (d := .lst ([a, b].map tD)) rfl) (e_cst (d := .int 1)) (idx_f rfl)
          have it : itX true (lif (T2.bin (opM gSplit) (T2.bin oIdx (nam 1) (cst (.int 1))) (cst (.str " / ")))) (lhE X (.lst ([a, b].map tD)) many [] none none) = some (qs.map tD, lhE X (.lst ([a, b].map tD)) many [] none none) :=
            itX_of (lif_of (bin_of i1 (e_cst (d := tD [32, 47, 32])) (k_split (s := 32) (S := [47, 32]) (by decide) (fun c hc => by simp at hc; omega) (by omega) hqs))) (stow_z _) rfl rfl
          have pl : ∀ p ∈ qs, p.length ≤ 100000 ∧ asc p := fun p hp => by
            have h1 := spb.2.1 p hp
            simp only [List.length_nil] at h1
            exact ⟨by omega, fun c hc => (spb.2.2 p hp c hc).elim (fun z => by cases z) fun z => ha c (hbm c z)⟩
          have lp := rows_loop (many := many) (X := X) (P := .lst ([a, b].map tD)) qs [] none none pl (by have := spb.1; simp only [List.length_nil]; omega)
          cases hav : qs.any fun p => (viewsO many p).isNone with
          | true =>
            rw [hav, if_neg (by simp)] at lp
            obtain ⟨_, _, _, lp⟩ := lp
            rw [eo, eh, if_neg fun z => by rw [hav] at z; exact absurd z.2.2 (by simp)]
            exact run_rt rfl rfl rfl (seq_of s1 (seq_of s2 (seq_of (if_f tt e_nil) (seq_of s3 (seq_rt (x_for it lp)))))) rfl
          | false =>
            rw [hav, if_pos rfl] at lp
            obtain ⟨n', r', lp⟩ := lp
            rw [List.nil_append] at lp
            obtain ⟨W, hW⟩ : ∃ W, (qs.map fun p => rowsD ((viewsO many p).getD [])) = W := ⟨_, rfl⟩
            rw [hW] at lp
            have lw : W.length = qs.length := by rw [← hW, List.length_map]
            have ln2 := x_lenG (f := nam 3) (env := lhE X (.lst ([a, b].map tD)) many W n' r') (ds := W) (nam_oD (ds := W) rfl) (dats_m (i := 3) (m := oD W) rfl dat0_o dats_n)
            have t4 := tst_of (bin_of (o := sop iGt) ln2 (e_cst (d := .int 4)) k_gt)
            by_cases h4 : qs.length ≤ 4
            · rw [decide_eq_false (show ¬ ((W.length : Nat) : Int) > 4 by omega)] at t4
              rw [eo, eh, if_pos ⟨h40, h4, hav⟩]
              have rt : sRet lk__law_heap_read (lif (opr oTup (aCons (nam 2) (aCons (nam 3) aNil)))) (lhE X (.lst ([a, b].map tD)) many W n' r') = some (.rt (.fz (.tup [.int (many : Int), .lst W])) ((lhE X (.lst ([a, b].map tD)) many W n' r').put 3 (.fz (.lst W)))) :=
                x_ret (lif_of (opr_of (acons_of (nam_fz (d := .int (many : Int)) rfl) (acons_of (nam_oD (ds := W) rfl) e_anil)) (show oTup _ [I (many : Int), .bp 3 []] = some (.ot [I (many : Int), .bp 3 []]) from rfl))) rfl (retM_t1 (m := oD W) rfl dat0_o)
              show f__law_heap_read [tS X] = some (.fz (.tup [.int (many : Int), .lst (List.map rowsD (List.map _ qs))]), _)
              rw [List.map_map, show (qs.map (rowsD ∘ fun p => (viewsO many p).getD [])) = W from hW]
              exact run_rt rfl rfl rfl (seq_of s1 (seq_of s2 (seq_of (if_f tt e_nil) (seq_of s3 (seq_of (x_for it lp) (seq_of (if_f t4 e_nil) rt)))))) rfl
            · rw [decide_eq_true (show ((W.length : Nat) : Int) > 4 by omega)] at t4
              rw [eo, eh, if_neg fun z => h4 z.2.1]
              exact run_rt rfl rfl rfl (seq_of s1 (seq_of s2 (seq_of (if_f tt e_nil) (seq_of s3 (seq_of (x_for it lp) (seq_rt (if_t t4 (ret_of e_cst)))))))) rfl
        · refine fail ?_ (by rw [eo]; unfold hpO; rw [if_neg fun z => h40 z.1]; rfl)
          rw [ec, decide_eq_true (show (many : Int) > 40 by omega)]
          cases (!(((((a :: [b]).length : Nat) : Int)) == 2)) <;> cases decide ((many : Int) < 0) <;> rfl
theorem isx_t {f : En → Option M} {env : En} {b : Bool} (h : f env = some (.fz xT.d)) (hb : kEL [(0, b)] 0 = some b) : oIsC ca.at_ (some false) (kEL [(0, b)]) f env = some (.fz (.bl b)) := x_isC (n := 0) (fs := []) h hb
theorem is_text_ok : f__law_is_text [.fz xT.d] = some (.fz (.bl true), [.fz xT.d]) := by
  have n0 : ∀ s, nam 0 [some (.fz xT.d), s] = some (.fz xT.d) := fun s => nam_fz rfl
  have f0 : ∀ s, oIsC ca.at_ (some false) (kEL [(0, false)]) (nam 0) [some (.fz xT.d), s] = some (.fz (.bl false)) := fun s => isx_t (n0 s) rfl
  have t0 : ∀ s, oIsC ca.at_ (some false) (kEL [(0, true)]) (nam 0) [some (.fz xT.d), s] = some (.fz (.bl true)) := fun s => isx_t (n0 s) rfl
  have l3 : ∀ s, opr oLst (aCons (oIsC ca.at_ (some false) (kEL [(0, false)]) (nam 0)) (aCons (oIsC ca.at_ (some false) (kEL [(0, false)]) (nam 0)) (aCons (oIsC ca.at_ (some false) (kEL [(0, false)]) (nam 0)) aNil))) [some (.fz xT.d), s] = some (oD [.bl false, .bl false, .bl false]) := fun s => opr_of (acons_of (f0 s) (acons_of (f0 s) (acons_of (f0 s) e_anil))) rfl
  have s1 : sAsg lk__law_is_text 1 0 (lif (opr oLst (aCons (oIsC ca.at_ (some false) (kEL [(0, false)]) (nam 0)) (aCons (oIsC ca.at_ (some false) (kEL [(0, false)]) (nam 0)) (aCons (oIsC ca.at_ (some false) (kEL [(0, false)]) (nam 0)) aNil))))) [some (.fz xT.d), none] = some (.nx [some (.fz xT.d), some (.fz (.lst [.bl false, .bl false, .bl false]))]) := x_asg rfl (lif_of (l3 none)) (stow_z _) rfl rfl rfl
  have a1 := bin_of (o := oAdd) (nam_fz (i := 1) (d := .lst [.bl false, .bl false, .bl false]) (env := [some (.fz xT.d), some (.fz (.lst [.bl false, .bl false, .bl false]))]) rfl) (l3 _) (show oAdd _ [.fz (.lst [.bl false, .bl false, .bl false]), oD [.bl false, .bl false, .bl false]] = some (oD [.bl false, .bl false, .bl false, .bl false, .bl false, .bl false]) from rfl)
  have s2 : sAsg lk__law_is_text 1 0 (lif (T2.bin oAdd (nam 1) (opr oLst (aCons (oIsC ca.at_ (some false) (kEL [(0, false)]) (nam 0)) (aCons (oIsC ca.at_ (some false) (kEL [(0, false)]) (nam 0)) (aCons (oIsC ca.at_ (some false) (kEL [(0, false)]) (nam 0)) aNil)))))) [some (.fz xT.d), some (.fz (.lst [.bl false, .bl false, .bl false]))] = some (.nx [some (.fz xT.d), some (.fz (.lst [.bl false, .bl false, .bl false, .bl false, .bl false, .bl false]))]) := x_asg rfl (lif_of a1) (stow_z _) rfl rfl rfl
  have l1 : ∀ s, opr oLst (aCons (oIsC ca.at_ (some false) (kEL [(0, false)]) (nam 0)) aNil) [some (.fz xT.d), s] = some (oD [.bl false]) := fun s => opr_of (acons_of (f0 s) e_anil) rfl
  have a2 := bin_of (o := oAdd) (nam_fz (i := 1) (d := .lst [.bl false, .bl false, .bl false, .bl false, .bl false, .bl false]) (env := [some (.fz xT.d), some (.fz (.lst [.bl false, .bl false, .bl false, .bl false, .bl false, .bl false]))]) rfl) (l1 _) (show oAdd _ [.fz (.lst [.bl false, .bl false, .bl false, .bl false, .bl false, .bl false]), oD [.bl false]] = some (oD [.bl false, .bl false, .bl false, .bl false, .bl false, .bl false, .bl false]) from rfl)
  have t := tst_of (bin_of (o := oIn) (e_cst (d := .bl true)) a2 (k_inB (y := true) (bs := [false, false, false, false, false, false, false]) (dats_f (dats_o (ds := [.bl false, .bl false, .bl false, .bl false, .bl false, .bl false, .bl false]) dats_n))))
  exact run_rt rfl rfl rfl (seq_of s1 (seq_of s2 (seq_of (if_f t e_nil) (ret_of (x_vand (t0 _) (t0 _)))))) rfl
theorem hpD_gd (h : Nat × List (List (List Int))) : gd 64 (hpD h) = true := by
  refine gd_tup (gdL_c gd_int (gdL_c (gd_lst (gdL_map fun r _ => gd_lst (gdL_map fun v _ => gd_lI))) gdL_n))
theorem judged_ok {X : List Nat} (hl : X.length ≤ 100000) (ha : asc X) : f__law_judged [tS X] = some (.fz (.bl true), [tS X]) := by
  have lw := law_heap_read_ok hl ha
  have pr := heap_out hl
  have s1 : ∀ d, f__law_heap_read [tS X] = some (.fz d, [tS X]) → sAsg lk__law_judged 1 0 (lif (opr (callP [false] f__law_heap_read) (aCons (nam 0) aNil))) [some (tS X), none, none, none, none] = some (.nx [some (tS X), some (.fz d), none, none, none]) := fun d h =>
    x_asg rfl (lif_of (opr_of (acons_of (nam_fz rfl) e_anil) (callP_of rfl rfl h))) stow_f rfl rfl rfl
  have s2 : ∀ d, sAsg lk__law_judged 2 0 (lif (cst .non)) [some (tS X), some (.fz d), none, none, none] = some (.nx [some (tS X), some (.fz d), some (.fz .non), none, none]) := fun d => x_asg rfl (lif_of e_cst) stow_f rfl rfl rfl
  have s3 : ∀ d, sAsg lk__law_judged 3 0 (lif (cst .non)) [some (tS X), some (.fz d), some (.fz .non), none, none] = some (.nx [some (tS X), some (.fz d), some (.fz .non), some (.fz .non), none]) := fun d => x_asg rfl (lif_of e_cst) stow_f rfl rfl rfl
  have rc : ∀ d r, g_read_heap [tS X] = r → rCall [false] g_read_heap (aCons (nam 0) aNil) [some (tS X), some (.fz d), some (.fz .non), some (.fz .non), none] = r := fun d r h => r_call (ms := [tS X]) (cs := [tS X]) (acons_of (nam_fz rfl) e_anil) rfl rfl h
  have isN : ∀ (d : D) (i : Nat) (env : En), nam i env = some (.fz d) → T2.bin (sop (gIsN false)) (nam i) (cst .non) env = some (.fz (.bl (decide (toV d = .non ∧ scal d = true)))) ∨ True := fun _ _ _ _ => .inr trivial
  -- it is refused
  have bad : g_read_heap [tS X] = some xT → heapO X = none → f__law_judged [tS X] = some (.fz (.bl true), [tS X]) := fun h1 h2 => by
    rw [h2] at lw
    have t : sTry (okX [0]) lk__law_judged 4 3 R__law_judged_0 B__law_judged_1 [some (tS X), some (.fz .non), some (.fz .non), some (.fz .non), none] = some (.nx [some (tS X), some (.fz .non), some (.fz .non), some (.fz xT.d), none]) :=
      x_try (r_sRE (rc .non _ h1)) (okX_of rfl) rfl rfl rfl rfl (by decide) rfl
    have c : tst (T2.bin (sop (gIsN false)) (nam 1) (cst .non)) [some (tS X), some (.fz .non), some (.fz .non), some (.fz xT.d), none] = some true := rfl
    have r : opr (callP [false] f__law_is_text) (aCons (nam 3) aNil) [some (tS X), some (.fz .non), some (.fz .non), some (.fz xT.d), none] = some (.fz (.bl true)) := opr_of (acons_of (nam_fz (d := xT.d) rfl) e_anil) (callP_of rfl rfl is_text_ok)
    exact run_rt rfl rfl rfl (seq_of (s1 _ lw) (seq_of (s2 _) (seq_of (s3 _) (seq_of t (seq_rt (if_t c (ret_of r))))))) rfl
  cases hp : TL.par [58, 32] [] X with
  | none =>
    rw [hp] at pr
    exact bad pr (by unfold heapO; rw [hp])
  | some ab =>
    obtain ⟨a, b⟩ := ab
    rw [hp] at pr
    cases hn : numO a with
    | none =>
      simp only [hn] at pr
      exact bad pr (by unfold heapO; rw [hp]; simp only [hn])
    | some many =>
      simp only [hn] at pr
      cases hh : hpO many b with
      | none =>
        simp only [hh] at pr
        exact bad pr (by unfold heapO; rw [hp]; simp only [hn, hh]; rfl)
      | some R =>
        simp only [hh] at pr
        have eo : heapO X = some (many, R) := by unfold heapO; rw [hp]; simp only [hn, hh]; rfl
        rw [eo] at lw
        have b1 : B__law_judged_1 [some (tS X), some (.fz (hpD (many, R))), some (.fz .non), some (.fz .non), none] = some (.nx [some (tS X), some (.fz (hpD (many, R))), some (.fz (hpD (many, R))), some (.fz .non), none]) :=
          x_asg rfl (lif_of (opr_of (acons_of (nam_fz rfl) e_anil) (callP_of rfl rfl pr.1))) (stow_zt (hMx_sl many b) (hMx_dat hh)) rfl rfl rfl
        have t : sTry (okX [0]) lk__law_judged 4 3 R__law_judged_0 B__law_judged_1 [some (tS X), some (.fz (hpD (many, R))), some (.fz .non), some (.fz .non), none] = some (.nx [some (tS X), some (.fz (hpD (many, R))), some (.fz (hpD (many, R))), some (.fz .non), none]) :=
          x_tryN (r_sREn (rc _ _ pr.2)) b1
        have c : tst (T2.bin (sop (gIsN false)) (nam 1) (cst .non)) [some (tS X), some (.fz (hpD (many, R))), some (.fz (hpD (many, R))), some (.fz .non), none] = some false := tst_of (bin_of (nam_fz (d := hpD (many, R)) rfl) (e_cst (d := .non)) (sop_of (dats_f (dats_f dats_n)) (d := .bl false) rfl rfl))
        have r1 : T2.bin (sop (gIsN false)) (nam 3) (cst .non) [some (tS X), some (.fz (hpD (many, R))), some (.fz (hpD (many, R))), some (.fz .non), none] = some (.fz (.bl true)) := rfl
        have r2 := bin_of (o := sop (gEq false)) (nam_fz (i := 2) (d := hpD (many, R)) (env := [some (tS X), some (.fz (hpD (many, R))), some (.fz (hpD (many, R))), some (.fz .non), none]) rfl) (nam_fz (i := 1) (d := hpD (many, R)) rfl) (k_eqSF (dats_f (dats_f dats_n)) (hpD_gd (many, R)))
        exact run_rt rfl rfl rfl (seq_of (s1 _ lw) (seq_of (s2 _) (seq_of (s3 _) (seq_of t (seq_of (if_f c e_nil) (ret_of (x_vand r1 r2))))))) rfl
def coT (x : Int) : List Nat := TL.numL x.toNat
def vT (m : Nat) : List Nat := if bitsL m = [] then [40, 41] else TL.joinL [32] ((bitsL m).map coT)
def vsT (r : List Nat) : List Nat := if r = [] then [45] else TL.joinL [44, 32] (r.map vT)
def hT (many : Nat) (rows : List (List Nat)) : List Nat := TL.numL many ++ ([58, 32] ++ TL.joinL [32, 47, 32] (rows.map vsT))
theorem co_len {x : Int} (h0 : 0 ≤ x) (h : x ≤ 40) : (coT x).length ≤ 2 := TL.numL_len (by decide) (by omega)
theorem joinL_len {S : List Nat} {c : Nat} (hS : S.length ≤ 3) : ∀ (ps : List (List Nat)), (∀ p ∈ ps, p.length ≤ c) → (TL.joinL S ps).length ≤ (c + 3) * ps.length
  | [], _ => Nat.zero_le _
  | [p], h => by
    have := h p (List.mem_cons_self ..)
    show p.length ≤ _
    simp only [List.length_cons, List.length_nil]
    omega
  | p :: q :: r, h => by
    have h1 := h p (List.mem_cons_self ..)
    have ih := joinL_len hS (q :: r) fun x hx => h x (List.mem_cons_of_mem _ hx)
    show (p ++ (S ++ TL.joinL S (q :: r))).length ≤ _
    rw [List.length_append, List.length_append, List.length_cons (a := p), Nat.mul_succ]
    omega
theorem vT_len (m : Nat) : (vT m).length ≤ 300 := by
  unfold vT
  split
  · decide
  · have := joinL_len (S := [32]) (c := 2) (by decide) ((bitsL m).map coT) fun p hp => by
      obtain ⟨x, hx, rfl⟩ := List.mem_map.mp hp
      exact co_len (bitsL_small m x hx).1 (bitsL_small m x hx).2
    have l := bitsL_le m
    rw [List.length_map] at this
    omega
theorem vsT_len {r : List Nat} (hr : r.length ≤ 40) : (vsT r).length ≤ 13000 := by
  unfold vsT
  split
  · decide
  · have := joinL_len (S := [44, 32]) (c := 300) (by decide) (r.map vT) fun p hp => by
      obtain ⟨x, hx, rfl⟩ := List.mem_map.mp hp
      exact vT_len x
    rw [List.length_map] at this
    omega
theorem sum_le {c : Nat} : ∀ (ps : List (List Nat)), (∀ p ∈ ps, p.length ≤ c) → (ps.map (·.length)).sum ≤ c * ps.length
  | [], _ => Nat.zero_le _
  | p :: ps, h => by
    have h1 := h p (List.mem_cons_self ..)
    have ih := sum_le ps fun x hx => h x (List.mem_cons_of_mem _ hx)
    rw [List.map_cons, List.sum_cons, List.length_cons, Nat.mul_succ]
    omega
theorem eq_nilI {env : En} {f : En → Option M} {L : List Int} (h : f env = some (.fz (lI L))) : tst (T2.bin (sop (gEq false)) f (opr oLst aNil)) env = some (L == []) := tst_of (bin_of h (opr_of e_anil k_lstI0) (k_eqLF (dats_f (dats_o dats_n))))
theorem rngD_I (n : Nat) : rngD 0 n = (rngI (n : Int)).map .int := by
  rw [rngD0]
  unfold rngI
  rw [List.map_map]
  rfl
theorem x_r1X {gs : En → Option (List M × En)} {env e1 : En} {j : Nat} (h : gs env = some ([.fz (.int (j : Int))], e1)) (h' : j < 1000) : itR1X gs env = some ((rngI (j : Int)).map .int, e1) := by
  have hi : inR (j : Int) = true := inR_of (by omega) (by omega)
  unfold itR1X
  rw [h]
  simp only [hi, if_true]
  rw [Int.toNat_natCast, rngD_I]
theorem take_i {env : En} {i : Nat} {a b c m : Int} {e : En → Option M} (h0 : env.get i = some (.ol [I a, I b, I c])) (he : e env = some (I m)) (hm : 0 < m) (hm2 : m.natAbs.log2 < 9000) (hc : c.natAbs < 2 ^ 39) :
    ∃ r a' c' : Int, callI [true, false] f__law_take (lifA (aCons (nam i) (aCons e aNil))) env = some (I r, env.put i (.ol [I a', I b, I c'])) ∧ 0 ≤ r ∧ r < m ∧ c'.natAbs ≤ c.natAbs + 1 := by
  obtain ⟨r, a', c', h, h1, h2, h3⟩ := take_ok a b c m hm hm2 hc
  exact ⟨r, a', c', callI_of (io := [true, false]) (i := i) (lifA_of (acons_of (by rw [e_nam, h0]; rfl) (acons_of he e_anil))) rfl h0 rfl h, h1, h2, h3⟩
theorem bitsR_lt (m k : Nat) (hm : m < 2 ^ k) (hk : k ≤ 41) : (((rngI (k : Int)).filter fun x => Builtin.bitAnd ((m : Int) / 2 ^ x.toNat) 1 == 1).map fun x => x) = bitsL m := by
  have e0 : (((rngI (k : Int)).filter fun x => Builtin.bitAnd ((m : Int) / 2 ^ x.toNat) 1 == 1).map fun x => x) = cI ((List.range k).filter fun j => m / 2 ^ j % 2 == 1) := by
    unfold rngI cI
    rw [List.map_id', List.filter_map]
    simp only [Int.toNat_natCast]
    congr 1
    exact List.filter_congr fun j _ => by
      have h3 : (m : Int) / (2 : Int) ^ j = ((m / 2 ^ j : Nat) : Int) := by simp
      show (Builtin.bitAnd ((m : Int) / 2 ^ ((j : Int)).toNat) 1 == 1) = _
      rw [Int.toNat_natCast, h3, show (1 : Int) = ((1 : Nat) : Int) from rfl, bitAndN, Nat.and_one_is_mod]
      rw [Bool.eq_iff_iff]
      simp
      omega
  rw [e0, bitsL_eq]
  have e : List.range 41 = List.range k ++ (List.range (41 - k)).map (k + ·) := by
    rw [← List.range_add]
    congr 1
    omega
  unfold cI
  rw [e, List.filter_append]
  have : ((List.range (41 - k)).map (k + ·)).filter (fun j => m / 2 ^ j % 2 == 1) = [] := by
    refine List.filter_eq_nil_iff.mpr fun j hj => ?_
    obtain ⟨i, _, rfl⟩ := List.mem_map.mp hj
    have h2 : m / 2 ^ (k + i) = 0 := Nat.div_eq_of_lt (Nat.lt_of_lt_of_le hm (Nat.pow_le_pow_right (by decide) (by omega)))
    rw [h2]
    decide
  rw [this, List.append_nil]
abbrev okW (many : Nat) (rows : List (List Nat)) : Prop := many ≤ 40 ∧ 1 ≤ rows.length ∧ rows.length ≤ 4 ∧ ∀ r ∈ rows, r.length ≤ 40 ∧ ∀ m ∈ r, m < 2 ^ many
abbrev henv (s t p m v nm ro tu ma bi co : Option M) : En := [s, t, p, m, v, nm, ro, tu, ma, bi, co]
theorem mask_or {m r many : Nat} (h : m < 2 ^ many) (hr : r < many) : m ||| 2 ^ r < 2 ^ many := Nat.or_lt_two_pow h (Nat.pow_lt_pow_right (by decide) hr)
theorem mask_loop (s t v nm ro tu co : Option M) (many : Nat) (hm : many ≤ 40) (h0 : 0 < many) (cnt : Nat) (hcnt : cnt ≤ 6) (a b c : Int) (hc : c.natAbs < 2 ^ 30) (m : Nat) (hmm : m < 2 ^ many) (bi : Option M) :
    ∃ (m' : Nat) (a' c' : Int) (bi' : Option M), lpF lk__law_heap (.nm 9) B__law_heap_0 ((rngI (cnt : Int)).map .int) (henv s t (some (.ol [I a, I b, I c])) (some (I many)) v nm ro tu (some (I m)) bi co) = some (.nx (henv s t (some (.ol [I a', I b, I c'])) (some (I many)) v nm ro tu (some (I m')) bi' co)) ∧ m' < 2 ^ many ∧ c'.natAbs ≤ c.natAbs + 6 := by
  obtain ⟨e', lp, m', a', c', bi', he, h1, h2⟩ := lp_rng (lk := lk__law_heap) (t := .nm 9) (B := B__law_heap_0) (fun k e => ∃ (m : Nat) (a' c' : Int) (bi : Option M), e = henv s t (some (.ol [I a', I b, I c'])) (some (I many)) v nm ro tu (some (I m)) bi co ∧ m < 2 ^ many ∧ c'.natAbs ≤ c.natAbs + k) (cnt : Int)
    (fun k hk e ⟨m, a1, c1, bi, he, h1, h2⟩ => by
      subst he
      obtain ⟨r, a', c', ht, t1, t2, t3⟩ := take_i (env := henv s t (some (.ol [I a1, I b, I c1])) (some (I many)) v nm ro tu (some (I m)) (some (I k)) co) (i := 2) (m := (many : Int)) (e := nam 3) rfl (nam_fz rfl) (by omega) (by
        have : (many : Int).natAbs < 2 ^ 9000 := Nat.lt_of_le_of_lt (show (many : Int).natAbs ≤ 40 by omega) (Nat.lt_of_lt_of_le (show 40 < 2 ^ 6 by decide) (Nat.pow_le_pow_right (by decide) (by decide)))
        exact (Nat.log2_lt (by omega)).mpr this) (by omega)
      obtain ⟨r', rfl⟩ : ∃ r' : Nat, r = r' := ⟨r.toNat, by omega⟩
      have hr : r' < many := by omega
      have sh : xbin (sop iShl) (lif (cst (.int 1))) (callI [true, false] f__law_take (lifA (aCons (nam 2) (aCons (nam 3) aNil)))) (henv s t (some (.ol [I a1, I b, I c1])) (some (I many)) v nm ro tu (some (I m)) (some (I k)) co) = some (I ((2 ^ r' : Nat) : Int), henv s t (some (.ol [I a', I b, I c'])) (some (I many)) v nm ro tu (some (I m)) (some (I k)) co) := by
        have z := xbin_of (o := sop iShl) (lif_of (e_cst (d := .int 1) (env := henv s t (some (.ol [I a1, I b, I c1])) (some (I many)) v nm ro tu (some (I m)) (some (I k)) co))) ht rfl rfl (k_shl (by omega) (by omega) (by decide))
        have e2 : (1 : Int) * 2 ^ ((r' : Nat) : Int).toNat = ((2 ^ r' : Nat) : Int) := by simp
        rw [e2] at z
        exact z
      have or1 := xbin_of (o := sop iOr) (lif_of (nam_fz (i := 8) (d := .int (m : Int)) (env := henv s t (some (.ol [I a1, I b, I c1])) (some (I many)) v nm ro tu (some (I m)) (some (I k)) co) rfl)) sh rfl rfl k_orN
      exact ⟨_, _, rfl, x_asg rfl or1 stow_f rfl rfl rfl, m ||| 2 ^ r', a', c', some (I k), rfl, mask_or h1 hr, by omega⟩) (e := henv s t (some (.ol [I a, I b, I c])) (some (I many)) v nm ro tu (some (I m)) bi co) ⟨m, a, c, bi, rfl, hmm, by omega⟩
  subst he
  refine ⟨m', a', c', bi', lp, h1, ?_⟩
  omega
theorem row_loop (s t v nm co : Option M) (many : Nat) (hm : many ≤ 40) (cnt : Nat) (hcnt : cnt ≤ 40) (a b c : Int) (hc : c.natAbs < 2 ^ 20) (tu ma bi : Option M) :
    ∃ (row : List Nat) (a' c' : Int) (tu' ma' bi' : Option M), lpF lk__law_heap (.nm 7) B__law_heap_1 ((rngI (cnt : Int)).map .int) (henv s t (some (.ol [I a, I b, I c])) (some (I many)) v nm (some (oI [])) tu ma bi co) = some (.nx (henv s t (some (.ol [I a', I b, I c'])) (some (I many)) v nm (some (oD (row.map bitD))) tu' ma' bi' co)) ∧ row.length = cnt ∧ ∀ m ∈ row, m < 2 ^ many := by
  obtain ⟨e', lp, row, a', c', tu', ma', bi', he, h1, h2, h3⟩ := lp_rng (lk := lk__law_heap) (t := .nm 7) (B := B__law_heap_1) (fun k e => ∃ (row : List Nat) (a' c' : Int) (tu ma bi : Option M), e = henv s t (some (.ol [I a', I b, I c'])) (some (I many)) v nm (some (oD (row.map bitD))) tu ma bi co ∧ row.length = k ∧ (∀ m ∈ row, m < 2 ^ many) ∧ c'.natAbs ≤ 2 ^ 20 + 10 * k) (cnt : Int)
    (fun k hk e ⟨row, a1, c1, tu, ma, bi, he, h1, h2, h3⟩ => by
      subst he
      have s1 : sAsg lk__law_heap 8 0 (lif (cst (.int 0))) (henv s t (some (.ol [I a1, I b, I c1])) (some (I many)) v nm (some (oD (row.map bitD))) (some (I k)) ma bi co) = some (.nx (henv s t (some (.ol [I a1, I b, I c1])) (some (I many)) v nm (some (oD (row.map bitD))) (some (I k)) (some (I 0)) bi co)) := x_asg rfl (lif_of e_cst) stow_f rfl rfl rfl
      have t1 := tst_of (bin_of (o := sop iGt) (nam_fz (i := 3) (d := .int (many : Int)) (env := henv s t (some (.ol [I a1, I b, I c1])) (some (I many)) v nm (some (oD (row.map bitD))) (some (I k)) (some (I 0)) bi co) rfl) (e_cst (d := .int 0)) k_gt)
      have t2 := tst_of (bin_of (o := sop iLt) (nam_fz (i := 7) (d := .int (k : Int)) (env := henv s t (some (.ol [I a1, I b, I c1])) (some (I many)) v nm (some (oD (row.map bitD))) (some (I k)) (some (I 0)) bi co) rfl) (e_cst (d := .int 6)) k_lt)
      have s2 : ∃ (m' : Nat) (a' c' : Int) (bi' : Option M), sIf (lifT (dAnd (tst (T2.bin (sop iGt) (nam 3) (cst (.int 0)))) (tst (T2.bin (sop iLt) (nam 7) (cst (.int 6))))))
          (sFor lk__law_heap (.nm 9) (itR1X (xCons (callI [true, false] f__law_take (lifA (aCons (nam 2) (aCons (cst (.int 6)) aNil)))) xNil)) B__law_heap_0) sNil (henv s t (some (.ol [I a1, I b, I c1])) (some (I many)) v nm (some (oD (row.map bitD))) (some (I k)) (some (I 0)) bi co) = some (.nx (henv s t (some (.ol [I a', I b, I c'])) (some (I many)) v nm (some (oD (row.map bitD))) (some (I k)) (some (I m')) bi' co)) ∧ m' < 2 ^ many ∧ c'.natAbs ≤ c1.natAbs + 10 := by
        by_cases hq : (0 : Int) < many ∧ (k : Int) < 6
        · rw [decide_eq_true hq.1] at t1
          rw [decide_eq_true hq.2] at t2
          obtain ⟨r, a2, c2, ht, q1, q2, q3⟩ := take_i (env := henv s t (some (.ol [I a1, I b, I c1])) (some (I many)) v nm (some (oD (row.map bitD))) (some (I k)) (some (I 0)) bi co) (i := 2) (m := 6) (e := cst (.int 6)) rfl e_cst (by decide) (by decide) (by omega)
          obtain ⟨r', rfl⟩ : ∃ r' : Nat, r = r' := ⟨r.toNat, by omega⟩
          obtain ⟨m', a', c', bi', lp, w1, w2⟩ := mask_loop s t v nm (some (oD (row.map bitD))) (some (I k)) co many hm (by omega) r' (by omega) a2 b c2 (by omega) 0 (Nat.two_pow_pos _) bi
          exact ⟨m', a', c', bi', if_t (and_t t1 t2) (x_for (x_r1X (xcons_of ht e_xnil rfl) (by omega)) lp), w1, by omega⟩
        · refine ⟨0, a1, c1, bi, if_f ?_ e_nil, Nat.two_pow_pos _, by omega⟩
          by_cases h0 : (0 : Int) < many
          · rw [decide_eq_true h0] at t1
            rw [decide_eq_false fun z => hq ⟨h0, z⟩] at t2
            exact and_t t1 t2
          · rw [decide_eq_false h0] at t1
            exact and_f t1
      obtain ⟨m', a', c', bi', s2, w1, w2⟩ := s2
      have hb := bitsR_lt m' many w1 (by omega)
      have lc : lcF [10] (.nm 10) (itR1 (aCons (nam 3) aNil)) (tst (T2.bin (sop (gEq false)) (T2.bin (sop iAnd) (T2.bin (sop iShr) (nam 8) (nam 10)) (cst (.int 1))) (cst (.int 1)))) (nam 10) (henv s t (some (.ol [I a', I b, I c'])) (some (I many)) v nm (some (oD (row.map bitD))) (some (I k)) (some (I m')) bi' co) = some (oI (bitsL m')) := by
        rw [← hb]
        (first | wtm_at "sx" | fail)
      have hl : row.length ≤ 40 := by omega
      have s3 : sExp (xMutP 0 (nam 6) (aCons (lcF [10] (.nm 10) (itR1 (aCons (nam 3) aNil)) (tst (T2.bin (sop (gEq false)) (T2.bin (sop iAnd) (T2.bin (sop iShr) (nam 8) (nam 10)) (cst (.int 1))) (cst (.int 1)))) (nam 10)) aNil) mAppend) (henv s t (some (.ol [I a', I b, I c'])) (some (I many)) v nm (some (oD (row.map bitD))) (some (I k)) (some (I m')) bi' co) = some (.nx (henv s t (some (.ol [I a', I b, I c'])) (some (I many)) v nm (some (oD (row.map bitD ++ [bitD m']))) (some (I k)) (some (I m')) bi' co)) := by
        (first | wtm_at "sx" | fail)
      refine ⟨henv s t (some (.ol [I a1, I b, I c1])) (some (I many)) v nm (some (oD (row.map bitD))) (some (I k)) ma bi co, _, rfl, seq_of s1 (seq_of s2 s3), row ++ [m'], a', c', some (I k), some (I m'), bi', by simp, by simp [h1], fun x hx => ?_, by omega⟩
      rcases List.mem_append.mp hx with h | h
      · exact h2 x h
      · rw [List.mem_singleton.mp h]; exact w1) (e := henv s t (some (.ol [I a, I b, I c])) (some (I many)) v nm (some (oI [])) tu ma bi co) ⟨[], a, c, tu, ma, bi, rfl, rfl, (fun x hx => by cases hx), by omega⟩
  subst he
  exact ⟨row, a', c', tu', ma', bi', lp, by omega, h2⟩
theorem pick4 {r : Nat} (h : r < 4) (env : En) : ∃ cnt : Nat, oIdx env [.ol [I 3, I 0, I 5, I 40], I (r : Int)] = some (I (cnt : Int)) ∧ cnt ≤ 40 := by
  have : r = 0 ∨ r = 1 ∨ r = 2 ∨ r = 3 := by omega
  rcases this with rfl | rfl | rfl | rfl
  · exact ⟨3, rfl, by decide⟩
  · exact ⟨0, rfl, by decide⟩
  · exact ⟨5, rfl, by decide⟩
  · exact ⟨40, rfl, by decide⟩
theorem pick3 {r : Nat} (h : r < 3) (env : En) (x y : Int) (hx : 0 ≤ x ∧ x ≤ 40) (hy : 0 ≤ y ∧ y ≤ 40) : ∃ cnt : Nat, oIdx env [.ol [I x, I y, I 40], I (r : Int)] = some (I (cnt : Int)) ∧ cnt ≤ 40 := by
  obtain ⟨x', rfl⟩ : ∃ x' : Nat, x = x' := ⟨x.toNat, by omega⟩
  obtain ⟨y', rfl⟩ : ∃ y' : Nat, y = y' := ⟨y.toNat, by omega⟩
  have : r = 0 ∨ r = 1 ∨ r = 2 := by omega
  rcases this with rfl | rfl | rfl
  · exact ⟨x', rfl, by omega⟩
  · exact ⟨y', rfl, by omega⟩
  · exact ⟨40, rfl, by decide⟩
theorem heap_ok (ns : List Int) (t : Nat) (ht : t ≤ 100) (hn : ns.length ≤ 63) (hb : ∀ z ∈ ns, Builtin.Int.intBits z ≤ 1048576) :
    ∃ (many : Nat) (rows : List (List Nat)), f__law_heap [.fz (.scr ns), I t] = some (.fz (heapD many rows), [.fz (.scr ns), I t]) ∧ okW many rows := by
  obtain ⟨a0, b0, hp0⟩ := pile_ok ns t (by omega) hn hb
  have s0 : sAsg lk__law_heap 2 9 (lif (opr (callP [false, false] f__law_pile) (aCons (nam 0) (aCons (nam 1) aNil)))) (henv (some (.fz (.scr ns))) (some (I t)) none none none none none none none none none) = some (.nx (henv (some (.fz (.scr ns))) (some (I t)) (some (.ol [I a0, I b0, I (97 * t)])) none none none none none none none none)) :=
    x_asg rfl (lif_of (opr_of (acons_of (nam_fz rfl) (acons_of (nam_fz rfl) e_anil)) (callP_of rfl rfl hp0))) rfl rfl rfl rfl
  obtain ⟨r1, a1, c1, q1, l1, u1, z1⟩ := take_i (env := henv (some (.fz (.scr ns))) (some (I t)) (some (.ol [I a0, I b0, I (97 * t)])) none none none none none none none none) (i := 2) (m := 41) (e := cst (.int 41)) rfl e_cst (by decide) (by decide) (by omega)
  obtain ⟨r2, a2, c2, q2, l2, u2, z2⟩ := take_i (env := henv (some (.fz (.scr ns))) (some (I t)) (some (.ol [I a1, I b0, I c1])) none none none none none none none none) (i := 2) (m := 12) (e := cst (.int 12)) rfl e_cst (by decide) (by decide) (by omega)
  obtain ⟨r3, a3, c3, q3, l3, u3, z3⟩ := take_i (env := henv (some (.fz (.scr ns))) (some (I t)) (some (.ol [I a2, I b0, I c2])) none none none none none none none none) (i := 2) (m := 3) (e := cst (.int 3)) rfl e_cst (by decide) (by decide) (by omega)
  obtain ⟨r3, rfl⟩ : ∃ r : Nat, r3 = r := ⟨r3.toNat, by omega⟩
  obtain ⟨many, pk, hmany⟩ := pick3 (r := r3) (by omega) (henv (some (.fz (.scr ns))) (some (I t)) (some (.ol [I a3, I b0, I c3])) none none none none none none none none) r1 r2 (by omega) (by omega)
  have s1 : sAsg lk__law_heap 3 0 (xbin oIdx (xop oLst (xCons (callI [true, false] f__law_take (lifA (aCons (nam 2) (aCons (cst (.int 41)) aNil)))) (xCons (callI [true, false] f__law_take (lifA (aCons (nam 2) (aCons (cst (.int 12)) aNil)))) (xCons (lif (cst (.int 40))) xNil)))) (callI [true, false] f__law_take (lifA (aCons (nam 2) (aCons (cst (.int 3)) aNil))))) (henv (some (.fz (.scr ns))) (some (I t)) (some (.ol [I a0, I b0, I (97 * t)])) none none none none none none none none) = some (.nx (henv (some (.fz (.scr ns))) (some (I t)) (some (.ol [I a3, I b0, I c3])) (some (I many)) none none none none none none none)) :=
    x_asg rfl (xbin_of (xop_of (xcons_of q1 (xcons_of q2 (xcons_of (lif_of e_cst) e_xnil rfl) rfl) rfl) (k_lst (by simp [PySem.sizeLine]))) q3 rfl rfl pk) stow_f rfl rfl rfl
  have s2 : sAsg lk__law_heap 4 1 (lif (opr oLst aNil)) (henv (some (.fz (.scr ns))) (some (I t)) (some (.ol [I a3, I b0, I c3])) (some (I many)) none none none none none none none) = some (.nx (henv (some (.fz (.scr ns))) (some (I t)) (some (.ol [I a3, I b0, I c3])) (some (I many)) (some (oI [])) none none none none none none)) := x_asg rfl (lif_of (opr_of e_anil k_lstI0)) rfl rfl rfl rfl
  obtain ⟨r4, a4, c4, q4, l4, u4, z4⟩ := take_i (env := henv (some (.fz (.scr ns))) (some (I t)) (some (.ol [I a3, I b0, I c3])) (some (I many)) (some (oI [])) none none none none none none) (i := 2) (m := 4) (e := cst (.int 4)) rfl e_cst (by decide) (by decide) (by omega)
  obtain ⟨r4, rfl⟩ : ∃ r : Nat, r4 = r := ⟨r4.toNat, by omega⟩
  have it : itR1X (xCons (xbin oAdd (lif (cst (.int 1))) (callI [true, false] f__law_take (lifA (aCons (nam 2) (aCons (cst (.int 4)) aNil))))) xNil) (henv (some (.fz (.scr ns))) (some (I t)) (some (.ol [I a3, I b0, I c3])) (some (I many)) (some (oI [])) none none none none none none) = some ((rngI ((1 + r4 : Nat) : Int)).map .int, henv (some (.fz (.scr ns))) (some (I t)) (some (.ol [I a4, I b0, I c4])) (some (I many)) (some (oI [])) none none none none none none) := by
    refine x_r1X (xcons_of (xbin_of (lif_of (e_cst (d := .int 1))) q4 rfl rfl (k_add (i := 1) (j := (r4 : Int)))) e_xnil rfl) (by omega)
  obtain ⟨e', lp, rows, x2, x5, x6, x7, x8, x9, x10, he, h1, h2⟩ := lp_rng (lk := lk__law_heap) (t := .nm 5) (B := B__law_heap_2) (fun k e => ∃ (rows : List (List Nat)) (x2 x5 x6 x7 x8 x9 x10 : Option M), e = henv (some (.fz (.scr ns))) (some (I t)) x2 (some (I many)) (some (oD (rows.map rowD))) x5 x6 x7 x8 x9 x10 ∧ rows.length = k ∧ ∀ r ∈ rows, r.length ≤ 40 ∧ ∀ m ∈ r, m < 2 ^ many) ((1 + r4 : Nat) : Int)
    (fun k hk e ⟨rows, x2, x5, x6, x7, x8, x9, x10, he, h1, h2⟩ => by
      subst he
      obtain ⟨a, b, hp⟩ := pile_ok ns (t + 1 + k) (by omega) hn hb
      have hpe : f__law_pile [.fz (.scr ns), I ((t : Int) + 1 + (k : Int))] = some (.ol [I a, I b, I (97 * ((t + 1 + k : Nat) : Int))], [.fz (.scr ns), I ((t : Int) + 1 + (k : Int))]) := hp
      have g1 : sAsg lk__law_heap 2 9 (lif (opr (callP [false, false] f__law_pile) (aCons (nam 0) (aCons (T2.bin oAdd (T2.bin oAdd (nam 1) (cst (.int 1))) (nam 5)) aNil)))) (henv (some (.fz (.scr ns))) (some (I t)) x2 (some (I many)) (some (oD (rows.map rowD))) (some (I k)) x6 x7 x8 x9 x10) = some (.nx (henv (some (.fz (.scr ns))) (some (I t)) (some (.ol [I a, I b, I (97 * ((t + 1 + k : Nat) : Int))])) (some (I many)) (some (oD (rows.map rowD))) (some (I k)) x6 x7 x8 x9 x10)) :=
        x_asg rfl (lif_of (opr_of (acons_of (nam_fz rfl) (acons_of (bin_of (bin_of (nam_fz rfl) e_cst k_add) (nam_fz rfl) k_add) e_anil)) (callP_of rfl rfl hpe))) rfl rfl rfl rfl
      have g2 : sAsg lk__law_heap 6 1 (lif (opr oLst aNil)) (henv (some (.fz (.scr ns))) (some (I t)) (some (.ol [I a, I b, I (97 * ((t + 1 + k : Nat) : Int))])) (some (I many)) (some (oD (rows.map rowD))) (some (I k)) x6 x7 x8 x9 x10) = some (.nx (henv (some (.fz (.scr ns))) (some (I t)) (some (.ol [I a, I b, I (97 * ((t + 1 + k : Nat) : Int))])) (some (I many)) (some (oD (rows.map rowD))) (some (I k)) (some (oI [])) x7 x8 x9 x10)) := x_asg rfl (lif_of (opr_of e_anil k_lstI0)) rfl rfl rfl rfl
      obtain ⟨r, a', c', htk, t1, t2, t3⟩ := take_i (env := henv (some (.fz (.scr ns))) (some (I t)) (some (.ol [I a, I b, I (97 * ((t + 1 + k : Nat) : Int))])) (some (I many)) (some (oD (rows.map rowD))) (some (I k)) (some (oI [])) x7 x8 x9 x10) (i := 2) (m := 4) (e := cst (.int 4)) rfl e_cst (by decide) (by decide) (by omega)
      obtain ⟨r, rfl⟩ : ∃ r' : Nat, r = r' := ⟨r.toNat, by omega⟩
      obtain ⟨cnt, pk, hcnt⟩ := pick4 (r := r) (by omega) (henv (some (.fz (.scr ns))) (some (I t)) (some (.ol [I a', I b, I c'])) (some (I many)) (some (oD (rows.map rowD))) (some (I k)) (some (oI [])) x7 x8 x9 x10)
      obtain ⟨row, a2, c2, tu', ma', bi', lp, w1, w2⟩ := row_loop (some (.fz (.scr ns))) (some (I t)) (some (oD (rows.map rowD))) (some (I k)) x10 many hmany cnt hcnt a' b c' (by omega) x7 x8 x9
      have l4 : opr oLst (aCons (cst (.int 3)) (aCons (cst (.int 0)) (aCons (cst (.int 5)) (aCons (cst (.int 40)) aNil)))) (henv (some (.fz (.scr ns))) (some (I t)) (some (.ol [I a, I b, I (97 * ((t + 1 + k : Nat) : Int))])) (some (I many)) (some (oD (rows.map rowD))) (some (I k)) (some (oI [])) x7 x8 x9 x10) = some (.ol [I 3, I 0, I 5, I 40]) := rfl
      have it : itR1X (xCons (xbin oIdx (lif (opr oLst (aCons (cst (.int 3)) (aCons (cst (.int 0)) (aCons (cst (.int 5)) (aCons (cst (.int 40)) aNil)))))) (callI [true, false] f__law_take (lifA (aCons (nam 2) (aCons (cst (.int 4)) aNil))))) xNil) (henv (some (.fz (.scr ns))) (some (I t)) (some (.ol [I a, I b, I (97 * ((t + 1 + k : Nat) : Int))])) (some (I many)) (some (oD (rows.map rowD))) (some (I k)) (some (oI [])) x7 x8 x9 x10) = some ((rngI (cnt : Int)).map .int, henv (some (.fz (.scr ns))) (some (I t)) (some (.ol [I a', I b, I c'])) (some (I many)) (some (oD (rows.map rowD))) (some (I k)) (some (oI [])) x7 x8 x9 x10) :=
        x_r1X (xcons_of (xbin_of (lif_of l4) htk rfl rfl pk) e_xnil rfl) (by omega)
      have hl : rows.length ≤ 4 := by omega
      have g4 : sExp (xMutP 0 (nam 4) (aCons (nam 6) aNil) mAppend) (henv (some (.fz (.scr ns))) (some (I t)) (some (.ol [I a2, I b, I c2])) (some (I many)) (some (oD (rows.map rowD))) (some (I k)) (some (oD (row.map bitD))) tu' ma' bi' x10) = some (.nx (henv (some (.fz (.scr ns))) (some (I t)) (some (.ol [I a2, I b, I c2])) (some (I many)) (some (oD (rows.map rowD ++ [rowD row]))) (some (I k)) (some (.fz (rowD row))) tu' ma' bi' x10)) := by
        have hbd : (rows.length : Int) ≤ 4 := by omega
        (first | wtm_at "sx" | fail)
      refine ⟨henv (some (.fz (.scr ns))) (some (I t)) x2 (some (I many)) (some (oD (rows.map rowD))) (some (I k)) x6 x7 x8 x9 x10, _, rfl, seq_of g1 (seq_of g2 (seq_of (x_for it lp) g4)), rows ++ [row], some (.ol [I a2, I b, I c2]), some (I k), some (.fz (rowD row)), tu', ma', bi', x10, by simp, by simp [h1], fun r hr => ?_⟩
      rcases List.mem_append.mp hr with h | h
      · exact h2 r h
      · rw [List.mem_singleton.mp h]; exact ⟨by omega, w2⟩) (e := henv (some (.fz (.scr ns))) (some (I t)) (some (.ol [I a4, I b0, I c4])) (some (I many)) (some (oI [])) none none none none none none) ⟨[], _, _, _, _, _, _, _, rfl, rfl, fun x hx => by cases hx⟩
  subst he
  have hl4 : rows.length ≤ 4 := by omega
  have rt : sRet lk__law_heap (lif (opr oTup (aCons (nam 3) (aCons (nam 4) aNil)))) (henv (some (.fz (.scr ns))) (some (I t)) x2 (some (I many)) (some (oD (rows.map rowD))) x5 x6 x7 x8 x9 x10) = some (.rt (.fz (heapD many rows)) (henv (some (.fz (.scr ns))) (some (I t)) x2 (some (I many)) (some (.fz (.lst (rows.map rowD)))) x5 x6 x7 x8 x9 x10)) := by
    exact x_ret (lif_of (opr_of (acons_of (nam_fz (d := .int (many : Int)) rfl) (acons_of (nam_oD (ds := rows.map rowD) rfl) e_anil)) rfl)) rfl (retM_t1 rfl dat0_o)
  exact ⟨many, rows, run_rt rfl rfl rfl (seq_of s0 (seq_of s1 (seq_of s2 (seq_of (x_for it lp) rt)))) rfl, hmany, by omega, hl4, h2⟩
theorem law_view_text_ok (m : Nat) : f__law_view_text [.fz (bitD m)] = some (tS (vT m), [.fz (bitD m)]) := by
  have hl := bitsL_le m
  have hs := bitsL_small m
  unfold vT
  show f__law_view_text [.fz (lI (bitsL m))] = some (tS (if bitsL m = [] then [40, 41] else TL.joinL [32] ((bitsL m).map coT)), [.fz (lI (bitsL m))])
  generalize bitsL m = L at hl hs
  have t := eq_nilI (f := nam 0) (env := [some (.fz (lI L)), none]) (nam_fz rfl)
  by_cases h : L = []
  · subst h
    rfl
  · rw [show (L == []) = false by simpa using h] at t
    rw [if_neg h]
    have lc : lcF [1] (.nm 1) (itP true (nam 0)) cYes (opr (sop gStrD) (aCons (nam 1) aNil)) [some (.fz (lI L)), none] = some (.ol ((L.map coT).map fun w => .fz (tD w))) := by
      rw [List.map_map]
      refine x_lcG (F := D.int) (xs := L) (w := fun x => .fz (tD (coT x))) (e1 := fun x => [some (.fz (lI L)), some (I x)]) (items_lst (nam_fz rfl) items_f) (fun x _ => rfl) (fun x hx => ?_) (fun x _ => rfl) (by simp only [sizeLine]; omega) rfl
      have h0 := hs x hx
      exact k_strN (m := x.toNat) (nam_fz (by rw [show ((x.toNat : Nat) : Int) = x by omega]; rfl)) (pow40 (Nat.lt_of_le_of_lt (show x.toNat ≤ 40 by omega) (by decide)))
    have e : (L.map coT).map (fun w => M.fz (tD w)) = ((L.map coT).map tD).map .fz := by simp only [List.map_map, Function.comp_def]
    rw [e] at lc
    have j := bin_of (o := opM gJoin) (e_cst (d := tD [32])) lc (k_join (ps := L.map coT) (S := [32]) (dats_o (ds := (L.map coT).map tD) dats_n) (by
      have := sum_le (c := 2) (L.map coT) fun p hp => by
        obtain ⟨x, hx, rfl⟩ := List.mem_map.mp hp
        exact co_len (hs x hx).1 (hs x hx).2
      rw [List.length_map] at this ⊢
      simp only [List.length_cons, List.length_nil]
      omega))
    exact run_rt rfl rfl rfl (seq_of (if_f t e_nil) (ret_of j)) rfl
theorem mul_dash (env : En) (b : Bool) : sop gMulSI env [.fz (.str "-"), .fz (.int (if b then 1 else 0))] = some (tS (if b then [45] else [])) := by
  cases b
  · kernel_rfl
  · kernel_rfl
theorem row_text {f : En → Option M} {env : En} {r : List Nat} (hr : r.length ≤ 40) (hf : f env = some (.fz (rowD r))) (lc : lcF [3] (.nm 3) (itP true f) cYes (opr (callP [false] f__law_view_text) (aCons (nam 3) aNil)) env = some (.ol (((r.map vT).map tD).map .fz))) :
    T2.bin oAdd (T2.bin (opM gJoin) (cst (.str ", ")) (lcF [3] (.nm 3) (itP true f) cYes (opr (callP [false] f__law_view_text) (aCons (nam 3) aNil)))) (T2.bin (sop gMulSI) (cst (.str "-")) (opr (sop gInt) (aCons (T2.bin (sop (gEq false)) f (opr oLst aNil)) aNil))) env = some (tS (vsT r)) := by
  have s := sum_le (c := 300) (r.map vT) fun p hp => by
    obtain ⟨x, hx, rfl⟩ := List.mem_map.mp hp
    exact vT_len x
  have jl := joinL_len (S := [44, 32]) (c := 300) (by decide) (r.map vT) fun p hp => by
    obtain ⟨x, hx, rfl⟩ := List.mem_map.mp hp
    exact vT_len x
  rw [List.length_map] at s jl
  have j := bin_of (o := opM gJoin) (e_cst (d := tD [44, 32])) lc (k_join (ps := r.map vT) (S := [44, 32]) (dats_o (ds := (r.map vT).map tD) dats_n) (by rw [List.length_map]; simp only [List.length_cons, List.length_nil]; omega))
  have t : T2.bin (sop (gEq false)) f (opr oLst aNil) env = some (.fz (.bl (decide (r = [])))) := by
    cases r with
    | nil => exact bin_of hf (opr_of e_anil k_lstI0) (k_eqLF (xs := []) (ys := []) (dats_f (dats_o dats_n)))
    | cons m r =>
      have hg : gd 64 (rowD (m :: r)) = true := gd_lst (gdL_map fun m _ => gd_lI)
      exact bin_of hf (opr_of e_anil k_lstI0) (k_eqGF (dats_f (dats_o (ds := []) dats_n)) hg (gd_lst gdL_n))
  have d := bin_of (o := sop gMulSI) (e_cst (d := .str "-") (env := env)) (opr_of (acons_of t e_anil) k_intb) (mul_dash env (decide (r = [])))
  have a := bin_of (o := oAdd) j d (k_addS (by split <;> simp only [List.length_cons, List.length_nil] <;> omega))
  refine Eq.trans a ?_
  unfold vsT
  by_cases h : r = []
  · subst h
    rfl
  · rw [if_neg h, decide_eq_false h]
    simp
theorem law_heap_text_ok {many : Nat} {rows : List (List Nat)} (h : okW many rows) : f__law_heap_text [.fz (heapD many rows)] = some (tS (hT many rows), [.fz (heapD many rows)]) := by
  obtain ⟨hm, h1, h4, hr⟩ := h
  have nl : (TL.numL many).length ≤ 2 := TL.numL_len (by decide) (by omega)
  have sl := sum_le (c := 13000) (rows.map vsT) fun p hp => by
    obtain ⟨x, hx, rfl⟩ := List.mem_map.mp hp
    exact vsT_len (hr x hx).1
  have jl := joinL_len (S := [32, 47, 32]) (c := 13000) (by decide) (rows.map vsT) fun p hp => by
    obtain ⟨x, hx, rfl⟩ := List.mem_map.mp hp
    exact vsT_len (hr x hx).1
  rw [List.length_map] at sl jl
  have it : itX true (lif (T2.bin oIdx (nam 0) (cst (.int 1)))) [some (.fz (heapD many rows)), some (oI []), none, none] = some (rows.map rowD, [some (.fz (heapD many rows)), some (oI []), none, none]) :=
    itX_of (lif_of (bin_of (nam_fz (d := heapD many rows) rfl) (e_cst (d := .int 1)) (idx_t (d := .lst (rows.map rowD)) rfl))) stow_f rfl rfl
  obtain ⟨e', lp, x2, he⟩ := lp_map (lk := lk__law_heap_text) (t := .nm 2) (B := B__law_heap_text_0) (F := rowD) (fun pre e => ∃ x2, e = [some (.fz (heapD many rows)), some (oD ((pre.map vsT).map tD)), x2, none]) rows
    (fun pre r post hpre e ⟨x2, he⟩ => by
      subst he
      have hmem : r ∈ rows := hpre ▸ List.mem_append_right _ (List.mem_cons_self ..)
      have hpl : pre.length ≤ 4 := by
        have := congrArg List.length hpre
        rw [List.length_append] at this
        omega
      have hr40 := (hr r hmem).1
      refine ⟨[some (.fz (heapD many rows)), some (oD ((pre.map vsT).map tD)), some (.fz (rowD r)), none], [some (.fz (heapD many rows)), some (oD ((pre.map vsT).map tD ++ [tD (vsT r)])), some (.fz (rowD r)), none], rfl, ?_, some (.fz (rowD r)), by rw [List.map_append, List.map_append]; rfl⟩
      have lc : lcF [3] (.nm 3) (itP true (nam 2)) cYes (opr (callP [false] f__law_view_text) (aCons (nam 3) aNil)) [some (.fz (heapD many rows)), some (oD ((pre.map vsT).map tD)), some (.fz (rowD r)), none] = some (.ol (((r.map vT).map tD).map .fz)) := by
        rw [show ((r.map vT).map tD).map M.fz = r.map fun x => M.fz (tD (vT x)) by simp only [List.map_map, Function.comp_def]]
        exact x_lcG (F := bitD) (xs := r) (w := fun x => .fz (tD (vT x))) (e1 := fun x => [some (.fz (heapD many rows)), some (oD ((pre.map vsT).map tD)), some (.fz (rowD r)), some (.fz (bitD x))]) (items_lst (nam_fz rfl) items_f) (fun x _ => rfl) (fun x _ => opr_of (acons_of (nam_fz rfl) e_anil) (callP_of rfl rfl (law_view_text_ok x))) (fun x _ => rfl) (by simp only [sizeLine]; omega) rfl
      have rt := row_text (f := nam 2) (env := [some (.fz (heapD many rows)), some (oD ((pre.map vsT).map tD)), some (.fz (rowD r)), none]) hr40 (nam_fz rfl) lc
      have hl : ((pre.map vsT).map tD).length ≤ 4 := by rw [List.length_map, List.length_map]; exact hpl
      generalize (pre.map vsT).map tD = P at *
      unfold B__law_heap_text_0
      (first | wtm_at "sx" | fail)) (e := [some (.fz (heapD many rows)), some (oI []), none, none]) ⟨none, rfl⟩
  subst he
  have a0 : T2.bin oIdx (nam 0) (cst (.int 0)) [some (.fz (heapD many rows)), some (oD ((rows.map vsT).map tD)), x2, none] = some (I (many : Int)) := bin_of (nam_fz (d := heapD many rows) rfl) (e_cst (d := .int 0)) (idx_t rfl)
  have j := bin_of (o := opM gJoin) (env := [some (.fz (heapD many rows)), some (oD ((rows.map vsT).map tD)), x2, none]) (e_cst (d := tD [32, 47, 32])) (nam_oD (i := 1) (ds := (rows.map vsT).map tD) rfl) (k_join (ps := rows.map vsT) (S := [32, 47, 32]) (dats_b (ds := (rows.map vsT).map tD) rfl dats_n) (by rw [List.length_map]; simp only [List.length_cons, List.length_nil]; omega))
  have a1 := bin_of (o := oAdd) (k_strN (m := many) a0 (pow40 (Nat.lt_of_le_of_lt hm (by decide)))) (e_cst (d := tD [58, 32])) (k_addS (by simp only [List.length_cons, List.length_nil]; omega))
  have a2 := bin_of (o := oAdd) a1 j (k_addS (by rw [List.length_append]; simp only [List.length_cons, List.length_nil]; omega))
  rw [List.append_assoc] at a2
  have s0 : sAsg lk__law_heap_text 1 1 (lif (opr oLst aNil)) [some (.fz (heapD many rows)), none, none, none] = some (.nx [some (.fz (heapD many rows)), some (oI []), none, none]) := x_asg rfl (lif_of (opr_of e_anil k_lstI0)) rfl rfl rfl rfl
  exact run_rt rfl rfl rfl (seq_of s0 (seq_of (x_for it lp) (ret_of a2))) rfl
theorem cut_hi {a : List Nat} {k : Nat} : cutM a none (some (k : Int)) = a.take k := by
  unfold cutM
  rw [HT.sIx_none, HT.sIx_nat, List.drop_zero, Nat.sub_zero]
  by_cases h : k ≤ a.length
  · rw [Nat.min_eq_left h]
  · rw [Nat.min_eq_right (by omega), List.take_of_length_le (Nat.le_refl _), List.take_of_length_le (by omega)]
theorem cut_lo {a : List Nat} {k : Nat} : cutM a (some (k : Int)) none = a.drop k := by
  unfold cutM
  rw [HT.sIx_none, HT.sIx_nat]
  by_cases h : k ≤ a.length
  · rw [Nat.min_eq_left h, List.take_of_length_le (by rw [List.length_drop]; omega)]
  · rw [Nat.min_eq_right (by omega), List.drop_of_length_le (Nat.le_refl _), List.drop_of_length_le (show a.length ≤ k by omega)]
    simp
theorem cut_len {a : List Nat} {j k : Nat} : (cutM a (some (j : Int)) (some (k : Int))).length ≤ k - j := by
  unfold cutM
  rw [HT.sIx_nat, HT.sIx_nat, List.length_take]
  omega
theorem cut_mem {a : List Nat} {l h : Option Int} {c : Nat} (hc : c ∈ cutM a l h) : c ∈ a := List.mem_of_mem_drop (List.mem_of_mem_take hc)
theorem sPart_k {f : En → Option M} {env : En} {i : Int} (h : f env = some (I i)) : sPart (some f) env = some (some i) := by
  unfold sPart
  simp only [h]
theorem sl_hi {f e : En → Option M} {env : En} {a : List Nat} {k : Nat} (hl : a.length ≤ 1000000) (h : f env = some (tS a)) (he : e env = some (I (k : Int))) : oSl f none (some e) env = some (tS (a.take k)) := by
  have z := x_sl (lo := none) (hi := some e) h rfl (sPart_k he) (slM_t (env := env) (l := none) (h := some (k : Int)) hl)
  rw [cut_hi] at z
  exact z
theorem sl_lo {f e : En → Option M} {env : En} {a : List Nat} {k : Nat} (hl : a.length ≤ 1000000) (h : f env = some (tS a)) (he : e env = some (I (k : Int))) : oSl f (some e) none env = some (tS (a.drop k)) := by
  have z := x_sl (lo := some e) (hi := none) h (sPart_k he) rfl (slM_t (env := env) (l := some (k : Int)) (h := none) hl)
  rw [cut_lo] at z
  exact z
theorem sl_mid {f e g : En → Option M} {env : En} {a : List Nat} {j k : Nat} (hl : a.length ≤ 1000000) (h : f env = some (tS a)) (he : e env = some (I (j : Int))) (hg : g env = some (I (k : Int))) : oSl f (some e) (some g) env = some (tS (cutM a (some (j : Int)) (some (k : Int)))) :=
  x_sl (lo := some e) (hi := some g) h (sPart_k he) (sPart_k hg) (slM_t (env := env) (l := some (j : Int)) (h := some (k : Int)) hl)
theorem k_itemSn {env : En} {a : List Nat} {k c : Nat} (hl : a.length ≤ 1000000) (h : a[k]? = some c) : sop gSItem env [tS a, I (k : Int)] = some (tS [c]) := by
  have hk : k < a.length := (List.getElem?_eq_some_iff.mp h).1
  have h2 : (sS a).cps[((k : Int)).toNat]? = some c := by
    rw [Int.toNat_natCast]
    show a.toArray[k]? = some c
    rw [List.getElem?_toArray, h]
  refine sop_of (dats_f (dats_f dats_n)) (d := tD [c]) ?_ rfl
  unfold gSItem
  simp only [h2, sS_len]
  rw [if_pos ⟨by omega, by omega, by omega⟩]
abbrev SIG : List Nat := [32, 48, 49, 50, 51, 52, 53, 54, 55, 56, 57, 58, 47, 44, 40, 41, 45, 43, 97, 98]
abbrev bE (t : List Nat) (a b c : Int) (s at_ sg w sw fa : Option M) : En := [some (tS t), some (.ol [I a, I b, I c]), s, at_, sg, w, sw, fa]
def okT (n : Nat) (t : List Nat) : Prop := t.length ≤ n ∧ asc t
theorem asc_app {a b : List Nat} (ha : asc a) (hb : asc b) : asc (a ++ b) := fun c hc => (List.mem_append.mp hc).elim (ha c) (hb c)
theorem asc_take {a : List Nat} {k : Nat} (ha : asc a) : asc (a.take k) := fun c hc => ha c (List.mem_of_mem_take hc)
theorem asc_drop {a : List Nat} {k : Nat} (ha : asc a) : asc (a.drop k) := fun c hc => ha c (List.mem_of_mem_drop hc)
theorem asc_cut {a : List Nat} {l h : Option Int} (ha : asc a) : asc (cutM a l h) := fun c hc => ha c (cut_mem hc)
abbrev MOR : List (List Nat) := [[32, 47, 32, 45], [32, 47, 32, 48], [44, 32, 40, 41], [44, 32, 48], [32, 51, 57], [32, 52, 48], [47, 32, 40, 41], [32, 47, 32, 45, 32, 47, 32, 45]]
theorem bent_ok {t : List Nat} {n : Nat} (h : okT n t) (hn : n ≤ 90000) (a b c : Int) (hc : c.natAbs < 2 ^ 30) : ∃ (t' : List Nat) (a' c' : Int), f__law_bent [tS t, .ol [I a, I b, I c]] = some (tS t', [tS t, .ol [I a', I b, I c']]) ∧ okT (n + 10) t' ∧ c'.natAbs ≤ c.natAbs + 5 := by
  obtain ⟨hl, ha⟩ := h
  have hl6 : t.length ≤ 1000000 := by omega
  have s1 : sAsg lk__law_bent 2 0 (lif (cst (.str " 0123456789:/,()-+ab"))) (bE t a b c none none none none none none) = some (.nx (bE t a b c (some (tS SIG)) none none none none none)) := x_asg rfl (lif_of (e_cst (d := tD SIG))) stow_f rfl rfl rfl
  have e1 : T2.bin oAdd (opr (sop gLen) (aCons (nam 0) aNil)) (cst (.int 1)) (bE t a b c (some (tS SIG)) none none none none none) = some (I ((t.length : Int) + 1)) := bin_of (x_lenT' (nam_fz rfl) hl6) (e_cst (d := .int 1)) k_add
  obtain ⟨r1, a1, c1', q1, l1, u1, z1⟩ := take_i (env := bE t a b c (some (tS SIG)) none none none none none) (i := 1) rfl e1 (by omega) (by
    have : ((t.length : Int) + 1).natAbs < 2 ^ 9000 := Nat.lt_of_le_of_lt (show ((t.length : Int) + 1).natAbs ≤ 100000 by omega) (Nat.lt_of_lt_of_le (show 100000 < 2 ^ 17 by decide) (Nat.pow_le_pow_right (by decide) (by decide)))
    exact (Nat.log2_lt (by omega)).mpr this) (by omega)
  obtain ⟨k, rfl⟩ : ∃ k : Nat, r1 = k := ⟨r1.toNat, by omega⟩
  have s2 : sAsg lk__law_bent 3 0 (callI [true, false] f__law_take (lifA (aCons (nam 1) (aCons (T2.bin oAdd (opr (sop gLen) (aCons (nam 0) aNil)) (cst (.int 1))) aNil)))) (bE t a b c (some (tS SIG)) none none none none none) = some (.nx (bE t a1 b c1' (some (tS SIG)) (some (I (k : Int))) none none none none)) := x_asg rfl q1 stow_f rfl rfl rfl
  obtain ⟨r2, a2, c2, q2, l2, u2, z2⟩ := take_i (env := bE t a1 b c1' (some (tS SIG)) (some (I (k : Int))) none none none none) (i := 1) (m := 20) (e := cst (.int 20)) rfl e_cst (by decide) (by decide) (by omega)
  obtain ⟨j, rfl⟩ : ∃ j : Nat, r2 = j := ⟨r2.toNat, by omega⟩
  obtain ⟨sg, hsg⟩ : ∃ sg, SIG[j]? = some sg := ⟨_, List.getElem?_eq_getElem (by show j < 20; omega)⟩
  have hsc : asc [sg] := fun d hd => by
    rw [List.mem_singleton.mp hd]
    have h1 := List.mem_of_getElem? hsg
    have h2 : ∀ c ∈ SIG, c < 1114112 := by decide
    exact h2 sg h1
  have s3 : sAsg lk__law_bent 4 0 (xbin (sop gSItem) (lif (nam 2)) (callI [true, false] f__law_take (lifA (aCons (nam 1) (aCons (cst (.int 20)) aNil))))) (bE t a1 b c1' (some (tS SIG)) (some (I (k : Int))) none none none none) = some (.nx (bE t a2 b c2 (some (tS SIG)) (some (I (k : Int))) (some (tS [sg])) none none none)) :=
    x_asg rfl (xbin_of (lif_of (nam_fz (d := tD SIG) rfl)) q2 rfl rfl (k_itemSn (by decide) hsg)) stow_f rfl rfl rfl
  obtain ⟨r3, a3, c3, q3, l3, u3, z3⟩ := take_i (env := bE t a2 b c2 (some (tS SIG)) (some (I (k : Int))) (some (tS [sg])) none none none) (i := 1) (m := 8) (e := cst (.int 8)) rfl e_cst (by decide) (by decide) (by omega)
  obtain ⟨w, rfl⟩ : ∃ w : Nat, r3 = w := ⟨r3.toNat, by omega⟩
  have s4 : sAsg lk__law_bent 5 0 (callI [true, false] f__law_take (lifA (aCons (nam 1) (aCons (cst (.int 8)) aNil)))) (bE t a2 b c2 (some (tS SIG)) (some (I (k : Int))) (some (tS [sg])) none none none) = some (.nx (bE t a3 b c3 (some (tS SIG)) (some (I (k : Int))) (some (tS [sg])) (some (I (w : Int))) none none)) := x_asg rfl q3 stow_f rfl rfl rfl
  obtain ⟨E, hE⟩ : ∃ E : Option M → Option M → En, E = fun x y => bE t a3 b c3 (some (tS SIG)) (some (I (k : Int))) (some (tS [sg])) (some (I (w : Int))) x y := ⟨_, rfl⟩
  have n0 : ∀ x y, nam 0 (E x y) = some (tS t) := fun x y => by rw [hE]; exact nam_fz rfl
  have n3 : ∀ x y, nam 3 (E x y) = some (I (k : Int)) := fun x y => by rw [hE]; exact nam_fz rfl
  have n4 : ∀ x y, nam 4 (E x y) = some (tS [sg]) := fun x y => by rw [hE]; exact nam_fz rfl
  have n31 : ∀ x y, T2.bin oAdd (nam 3) (cst (.int 1)) (E x y) = some (I ((k + 1 : Nat) : Int)) := fun x y => bin_of (n3 x y) (e_cst (d := .int 1)) k_add
  have n32 : ∀ x y, T2.bin oAdd (nam 3) (cst (.int 2)) (E x y) = some (I ((k + 2 : Nat) : Int)) := fun x y => bin_of (n3 x y) (e_cst (d := .int 2)) k_add
  have wq : ∀ (m : Int) x y, tst (T2.bin (sop (gEq false)) (nam 5) (cst (.int m))) (E x y) = some ((w : Int) == m) := fun m x y => tst_of (bin_of (show nam 5 (E x y) = some (I (w : Int)) by rw [hE]; exact nam_fz rfl) (e_cst (d := .int m)) k_eqF)
  have wT : ∀ (m : Nat) x y, w = m → tst (T2.bin (sop (gEq false)) (nam 5) (cst (.int (m : Int)))) (E x y) = some true := fun m x y e => by rw [wq, e, beq_self_eq_true]
  have wF : ∀ (m : Nat) x y, w ≠ m → tst (T2.bin (sop (gEq false)) (nam 5) (cst (.int (m : Int)))) (E x y) = some false := fun m x y e => by rw [wq, beq_false_of_ne (by omega)]
  have tk : (t.take k).length ≤ k ∧ (t.take k).length ≤ t.length := by rw [List.length_take]; omega
  have out : ∀ (t' : List Nat) (x y : Option M), E x y = E x y → outs lk__law_bent (E x y) 0 [tS t, .ol [I a, I b, I c]] = some [tS t, .ol [I a3, I b, I c3]] := fun t' x y _ => by rw [hE]; rfl
  by_cases w0 : w = 0
  · have r := bin_of (o := oAdd) (bin_of (o := oAdd) (sl_hi hl6 (n0 none none) (n3 none none)) (n4 none none) (k_addS (by simp only [List.length_cons, List.length_nil]; omega))) (sl_lo hl6 (n0 none none) (n3 none none)) (k_addS (by simp only [List.length_append, List.length_drop, List.length_cons, List.length_nil]; omega))
    exact ⟨_, a3, c3, run_rt rfl rfl rfl (seq_of s1 (seq_of s2 (seq_of s3 (seq_of s4 (by rw [← show E none none = _ from congrFun (congrFun hE none) none]; exact seq_rt (if_t (wT 0 _ _ w0) (ret_of r))))))) (out [] none none rfl), ⟨by simp only [List.length_append, List.length_drop, List.length_cons, List.length_nil]; omega, asc_app (asc_app (asc_take ha) hsc) (asc_drop ha)⟩, by omega⟩
  by_cases w1 : w = 1
  · have r := bin_of (o := oAdd) (sl_hi hl6 (n0 none none) (n3 none none)) (sl_lo hl6 (n0 none none) (n31 none none)) (k_addS (by simp only [List.length_drop]; omega))
    exact ⟨_, a3, c3, run_rt rfl rfl rfl (seq_of s1 (seq_of s2 (seq_of s3 (seq_of s4 (by rw [← show E none none = _ from congrFun (congrFun hE none) none]; exact seq_of (if_f (wF 0 _ _ w0) e_nil) (seq_rt (if_t (wT 1 _ _ w1) (ret_of r)))))))) (out [] none none rfl), ⟨by simp only [List.length_append, List.length_drop]; omega, asc_app (asc_take ha) (asc_drop ha)⟩, by omega⟩
  by_cases w2 : w = 2
  · have r := bin_of (o := oAdd) (bin_of (o := oAdd) (sl_hi hl6 (n0 none none) (n3 none none)) (n4 none none) (k_addS (by simp only [List.length_cons, List.length_nil]; omega))) (sl_lo hl6 (n0 none none) (n31 none none)) (k_addS (by simp only [List.length_append, List.length_drop, List.length_cons, List.length_nil]; omega))
    exact ⟨_, a3, c3, run_rt rfl rfl rfl (seq_of s1 (seq_of s2 (seq_of s3 (seq_of s4 (by rw [← show E none none = _ from congrFun (congrFun hE none) none]; exact seq_of (if_f (wF 0 _ _ w0) e_nil) (seq_of (if_f (wF 1 _ _ w1) e_nil) (seq_rt (if_t (wT 2 _ _ w2) (ret_of r))))))))) (out [] none none rfl), ⟨by simp only [List.length_append, List.length_drop, List.length_cons, List.length_nil]; omega, asc_app (asc_app (asc_take ha) hsc) (asc_drop ha)⟩, by omega⟩
  by_cases w3 : w = 3
  · have m1 := cut_len (a := t) (j := k + 1) (k := k + 2)
    have m2 := cut_len (a := t) (j := k) (k := k + 1)
    have sw := bin_of (o := oAdd) (sl_mid hl6 (n0 none none) (n31 none none) (n32 none none)) (sl_mid hl6 (n0 none none) (n3 none none) (n31 none none)) (k_addS (by omega))
    obtain ⟨W, hW⟩ : ∃ W, cutM t (some ((k + 1 : Nat) : Int)) (some ((k + 2 : Nat) : Int)) ++ cutM t (some (k : Int)) (some ((k + 1 : Nat) : Int)) = W := ⟨_, rfl⟩
    have hw2 : W.length ≤ 2 ∧ asc W := by
      rw [← hW]
      exact ⟨by rw [List.length_append]; omega, asc_app (asc_cut ha) (asc_cut ha)⟩
    rw [hW] at sw
    have sa : sAsg lk__law_bent 6 0 (lif (T2.bin oAdd (oSl (nam 0) (some (T2.bin oAdd (nam 3) (cst (.int 1)))) (some (T2.bin oAdd (nam 3) (cst (.int 2))))) (oSl (nam 0) (some (nam 3)) (some (T2.bin oAdd (nam 3) (cst (.int 1))))))) (E none none) = some (.nx (E (some (tS W)) none)) := by
      refine x_asg rfl (lif_of sw) stow_f rfl ?_ ?_
      · rw [hE]; rfl
      · rw [hE]; rfl
    have n6 : nam 6 (E (some (tS W)) none) = some (tS W) := by rw [hE]; exact nam_fz rfl
    have r := bin_of (o := oAdd) (bin_of (o := oAdd) (sl_hi hl6 (n0 (some (tS W)) none) (n3 _ _)) n6 (k_addS (by omega))) (sl_lo hl6 (n0 (some (tS W)) none) (n32 _ _)) (k_addS (by simp only [List.length_append, List.length_drop]; omega))
    exact ⟨_, a3, c3, run_rt rfl rfl rfl (seq_of s1 (seq_of s2 (seq_of s3 (seq_of s4 (by rw [← show E none none = _ from congrFun (congrFun hE none) none]; exact seq_of (if_f (wF 0 _ _ w0) e_nil) (seq_of (if_f (wF 1 _ _ w1) e_nil) (seq_of (if_f (wF 2 _ _ w2) e_nil) (seq_rt (if_t (wT 3 _ _ w3) (seq_of sa (ret_of r))))))))))) (out [] (some (tS W)) none rfl), ⟨by simp only [List.length_append, List.length_drop]; omega, asc_app (asc_app (asc_take ha) hw2.2) (asc_drop ha)⟩, by omega⟩
  obtain ⟨r4, a4, c4, q4, l4, u4, z4⟩ := take_i (env := E none none) (i := 1) (m := 8) (e := cst (.int 8)) (by rw [hE]; rfl) e_cst (by decide) (by decide) (by omega)
  obtain ⟨f, rfl⟩ : ∃ f : Nat, r4 = f := ⟨r4.toNat, by omega⟩
  obtain ⟨G, hG⟩ : ∃ G : Int → Int → En, G = fun x y => bE t x b y (some (tS SIG)) (some (I (k : Int))) (some (tS [sg])) (some (I (w : Int))) none (some (I ((k + 1 + f : Nat) : Int))) := ⟨_, rfl⟩
  have sf : sAsg lk__law_bent 7 0 (xbin oAdd (lif (T2.bin oAdd (nam 3) (cst (.int 1)))) (callI [true, false] f__law_take (lifA (aCons (nam 1) (aCons (cst (.int 8)) aNil))))) (E none none) = some (.nx (G a4 c4)) := by
    refine x_asg rfl (xbin_of (lif_of (n31 none none)) q4 rfl rfl (k_add (i := ((k + 1 : Nat) : Int)) (j := (f : Int)))) stow_f rfl ?_ ?_
    · rw [hE]; rfl
    · rw [hE, hG]; rfl
  have g0 : ∀ x y, nam 0 (G x y) = some (tS t) := fun x y => by rw [hG]; exact nam_fz rfl
  have g3 : ∀ x y, nam 3 (G x y) = some (I (k : Int)) := fun x y => by rw [hG]; exact nam_fz rfl
  have g7 : ∀ x y, nam 7 (G x y) = some (I ((k + 1 + f : Nat) : Int)) := fun x y => by rw [hG]; exact nam_fz rfl
  have wq' : ∀ (m : Int) x y, tst (T2.bin (sop (gEq false)) (nam 5) (cst (.int m))) (G x y) = some ((w : Int) == m) := fun m x y => tst_of (bin_of (show nam 5 (G x y) = some (I (w : Int)) by rw [hG]; exact nam_fz rfl) (e_cst (d := .int m)) k_eqF)
  have vT : ∀ (m : Nat) x y, w = m → tst (T2.bin (sop (gEq false)) (nam 5) (cst (.int (m : Int)))) (G x y) = some true := fun m x y e => by rw [wq', e, beq_self_eq_true]
  have vF : ∀ (m : Nat) x y, w ≠ m → tst (T2.bin (sop (gEq false)) (nam 5) (cst (.int (m : Int)))) (G x y) = some false := fun m x y e => by rw [wq', beq_false_of_ne (by omega)]
  have outG : ∀ x y, outs lk__law_bent (G x y) 0 [tS t, .ol [I a, I b, I c]] = some [tS t, .ol [I x, I b, I y]] := fun x y => by rw [hG]; rfl
  by_cases w4 : w = 4
  · have r := bin_of (o := oAdd) (sl_hi hl6 (g0 a4 c4) (g7 a4 c4)) (sl_lo hl6 (g0 a4 c4) (g3 a4 c4)) (k_addS (by simp only [List.length_take, List.length_drop]; omega))
    exact ⟨_, a4, c4, run_rt rfl rfl rfl (seq_of s1 (seq_of s2 (seq_of s3 (seq_of s4 (by rw [← show E none none = _ from congrFun (congrFun hE none) none]; exact seq_of (if_f (wF 0 _ _ w0) e_nil) (seq_of (if_f (wF 1 _ _ w1) e_nil) (seq_of (if_f (wF 2 _ _ w2) e_nil) (seq_of (if_f (wF 3 _ _ w3) e_nil) (seq_of sf (seq_rt (if_t (vT 4 _ _ w4) (ret_of r))))))))))))  (outG _ _), ⟨by simp only [List.length_append, List.length_take, List.length_drop]; omega, asc_app (asc_take ha) (asc_drop ha)⟩, by omega⟩
  by_cases w5 : w = 5
  · have r := bin_of (o := oAdd) (sl_hi hl6 (g0 a4 c4) (g3 a4 c4)) (sl_lo hl6 (g0 a4 c4) (g7 a4 c4)) (k_addS (by simp only [List.length_take, List.length_drop]; omega))
    exact ⟨_, a4, c4, run_rt rfl rfl rfl (seq_of s1 (seq_of s2 (seq_of s3 (seq_of s4 (by rw [← show E none none = _ from congrFun (congrFun hE none) none]; exact seq_of (if_f (wF 0 _ _ w0) e_nil) (seq_of (if_f (wF 1 _ _ w1) e_nil) (seq_of (if_f (wF 2 _ _ w2) e_nil) (seq_of (if_f (wF 3 _ _ w3) e_nil) (seq_of sf (seq_of (if_f (vF 4 _ _ w4) e_nil) (seq_rt (if_t (vT 5 _ _ w5) (ret_of r)))))))))))))  (outG _ _), ⟨by simp only [List.length_append, List.length_take, List.length_drop]; omega, asc_app (asc_take ha) (asc_drop ha)⟩, by omega⟩
  by_cases w6 : w = 6
  · obtain ⟨r5, a5, c5, q5, l5, u5, z5⟩ := take_i (env := G a4 c4) (i := 1) (m := 8) (e := cst (.int 8)) (by rw [hG]; rfl) e_cst (by decide) (by decide) (by omega)
    obtain ⟨g, rfl⟩ : ∃ g : Nat, r5 = g := ⟨r5.toNat, by omega⟩
    obtain ⟨m, hm⟩ : ∃ m, MOR[g]? = some m := ⟨_, List.getElem?_eq_getElem (by show g < 8; omega)⟩
    have hmm : m.length ≤ 8 ∧ asc m := by
      have h1 := List.mem_of_getElem? hm
      have h2 : ∀ c ∈ MOR, c.length ≤ 8 ∧ ∀ d ∈ c, d < 1114112 := by decide
      exact h2 m h1
    have eG : (G a4 c4).put 1 (.ol [I a5, I b, I c5]) = G a5 c5 := by rw [hG]; rfl
    rw [eG] at q5
    have lm : opr oLst (aCons (cst (.str " / -")) (aCons (cst (.str " / 0")) (aCons (cst (.str ", ()")) (aCons (cst (.str ", 0")) (aCons (cst (.str " 39")) (aCons (cst (.str " 40")) (aCons (cst (.str "/ ()")) (aCons (cst (.str " / - / -")) aNil)))))))) (G a4 c4) = some (oD (MOR.map tD)) := rfl
    have im : oIdx (G a5 c5) [oD (MOR.map tD), I (g : Int)] = some (tS m) := by
      have h1 : L2.atI ((MOR.map tD).map M.fz) (g : Int) = some (tS m) := atI_nat (by rw [List.getElem?_map, List.getElem?_map, hm]; rfl)
      show (match oIx true (G a5 c5) [oD (MOR.map tD), I (g : Int)] with
        | some m => some m
        | none => _) = _
      have h2 : oIx true (G a5 c5) [oD (MOR.map tD), I (g : Int)] = some (tS m) := h1
      rw [h2]
    have r := xbin_of (o := oAdd) (lif_of (g0 a4 c4)) (xbin_of (o := oIdx) (lif_of lm) q5 rfl rfl im) rfl rfl (k_addS (a := t) (b := m) (by omega))
    exact ⟨_, a5, c5, run_rt rfl rfl rfl (seq_of s1 (seq_of s2 (seq_of s3 (seq_of s4 (by rw [← show E none none = _ from congrFun (congrFun hE none) none]; exact seq_of (if_f (wF 0 _ _ w0) e_nil) (seq_of (if_f (wF 1 _ _ w1) e_nil) (seq_of (if_f (wF 2 _ _ w2) e_nil) (seq_of (if_f (wF 3 _ _ w3) e_nil) (seq_of sf (seq_of (if_f (vF 4 _ _ w4) e_nil) (seq_of (if_f (vF 5 _ _ w5) e_nil) (seq_rt (if_t (vT 6 _ _ w6) (x_ret r rfl retM_fz)))))))))))))) (outG _ _), ⟨by rw [List.length_append]; omega, asc_app ha hmm.2⟩, by omega⟩
  · exact ⟨t, a4, c4, run_rt rfl rfl rfl (seq_of s1 (seq_of s2 (seq_of s3 (seq_of s4 (by rw [← show E none none = _ from congrFun (congrFun hE none) none]; exact seq_of (if_f (wF 0 _ _ w0) e_nil) (seq_of (if_f (wF 1 _ _ w1) e_nil) (seq_of (if_f (wF 2 _ _ w2) e_nil) (seq_of (if_f (wF 3 _ _ w3) e_nil) (seq_of sf (seq_of (if_f (vF 4 _ _ w4) e_nil) (seq_of (if_f (vF 5 _ _ w5) e_nil) (seq_of (if_f (vF 6 _ _ w6) e_nil) (ret_of (g0 a4 c4))))))))))))))  (outG _ _), ⟨by omega, ha⟩, by omega⟩
theorem asc_join {S : List Nat} (hS : asc S) : ∀ {ps : List (List Nat)}, (∀ p ∈ ps, asc p) → asc (TL.joinL S ps)
  | [], _ => fun c hc => by cases hc
  | [p], h => h p List.mem_cons_self
  | p :: q :: r, h => asc_app (h p List.mem_cons_self) (asc_app hS (asc_join hS fun x hx => h x (List.mem_cons_of_mem _ hx)))
theorem asc_num (m : Nat) : asc (TL.numL m) := fun c hc => by
  have := fig_rng (num_sign c hc)
  omega
theorem asc_lit {l : List Nat} (h : (l.all fun c => decide (c < 1114112)) = true) : asc l := fun c hc => of_decide_eq_true (List.all_eq_true.mp h c hc)
theorem asc_hT (many : Nat) (rows : List (List Nat)) : asc (hT many rows) := by
  refine asc_app (asc_num many) (asc_app (asc_lit rfl) (asc_join (asc_lit rfl) fun p hp => ?_))
  obtain ⟨r, _, rfl⟩ := List.mem_map.mp hp
  unfold vsT
  split
  · exact asc_lit rfl
  · refine asc_join (asc_lit rfl) fun p hp => ?_
    obtain ⟨m, _, rfl⟩ := List.mem_map.mp hp
    unfold vT
    split
    · exact asc_lit rfl
    · refine asc_join (asc_lit rfl) fun p hp => ?_
      obtain ⟨x, _, rfl⟩ := List.mem_map.mp hp
      exact asc_num _
theorem okT_hT {many : Nat} {rows : List (List Nat)} (h : okW many rows) : okT 60000 (hT many rows) := by
  obtain ⟨hm, _, h4, hr⟩ := h
  have nl : (TL.numL many).length ≤ 2 := TL.numL_len (by decide) (by omega)
  have jl := joinL_len (S := [32, 47, 32]) (c := 13000) (by decide) (rows.map vsT) fun p hp => by
    obtain ⟨x, hx, rfl⟩ := List.mem_map.mp hp
    exact vsT_len (hr x hx).1
  rw [List.length_map] at jl
  refine ⟨?_, asc_hT many rows⟩
  unfold hT
  rw [List.length_append, List.length_append]
  simp only [List.length_cons, List.length_nil]
  omega
def oddL : List (List Nat) := match f__law_odd [] with
  | some (.ol ms, _) => ms.map fun m => match m with
    | .fz (.str x) => TL.tl x
    | _ => []
  | _ => []
theorem odd_f : f__law_odd [] = some (oD (oddL.map tD), []) := by kernel_rfl
theorem odd_l : (oddL.all fun d => decide (d.length ≤ 1000) && d.all fun c => decide (c < 1114112)) = true := by kernel_rfl
theorem odd_ok {d : List Nat} (h : d ∈ oddL) : okT 1000 d := by
  have := List.all_eq_true.mp odd_l d h
  rw [Bool.and_eq_true] at this
  exact ⟨of_decide_eq_true this.1, asc_lit this.2⟩
abbrev lE (s t x p m : Option M) : En := [s, t, x, p, m]
theorem law_turn (s t : Option M) (m : Option M) {T : List Nat} {n : Nat} (h : okT n T) (hn : n ≤ 80000) (a b c : Int) (hc : c.natAbs < 2 ^ 30) : ∃ (T' : List Nat) (a' c' : Int), B_law_0 (lE s t (some (tS T)) (some (.ol [I a, I b, I c])) m) = some (.nx (lE s t (some (tS T')) (some (.ol [I a', I b, I c'])) m)) ∧ okT (n + 10) T' ∧ c'.natAbs ≤ c.natAbs + 5 := by
  obtain ⟨T', a', c', hb, h1, h2⟩ := bent_ok h (by omega) a b c hc
  have s1 : sAsg lk_law 2 0 (callJ [false, true] f__law_bent (lifA (aCons (nam 2) (aCons (nam 3) aNil)))) (lE s t (some (tS T)) (some (.ol [I a, I b, I c])) m) = some (.nx (lE s t (some (tS T')) (some (.ol [I a', I b, I c'])) m)) :=
    x_asg rfl (x_callJ (i := 3) (d := tD T) (rest := []) (n := .ol [I a, I b, I c]) (lifA_of (acons_of (nam_fz rfl) (acons_of rfl e_anil))) rfl rfl rfl hb rfl) stow_f rfl rfl rfl
  have t1 := not_of (tst_of (opr_of (acons_of (nam_fz (i := 2) (d := tD T') (env := lE s t (some (tS T')) (some (.ol [I a', I b, I c'])) m) rfl) e_anil) (callP_of (io := [false]) (F := f__law_judged) rfl rfl (judged_ok (by have := h1.1; omega) h1.2))))
  exact ⟨T', a', c', seq_of s1 (if_f t1 e_nil), h1, h2⟩
theorem law_body (ns : List Int) (hn : ns.length ≤ 63) (hb : ∀ z ∈ ns, Builtin.Int.intBits z ≤ 1048576) (k : Nat) (hk : k < 9) (x p m : Option M) : ∃ x' p' m', B_law_1 (lE (some (.fz (.scr ns))) (some (I (k : Int))) x p m) = some (.nx (lE (some (.fz (.scr ns))) (some (I (k : Int))) x' p' m')) := by
  obtain ⟨many, rows, hp, ok⟩ := heap_ok ns (6 * k) (by omega) hn hb
  obtain ⟨a, b, hq⟩ := pile_ok ns (6 * k + 5) (by omega) hn hb
  have hm : cMul 6 (k : Int) = true := cMul_ok 7 7 (by decide) (by omega) (by decide)
  have six : ∀ x p, T2.bin oMul (cst (.int 6)) (nam 1) (lE (some (.fz (.scr ns))) (some (I (k : Int))) x p m) = some (I ((6 * k : Nat) : Int)) := fun x p => bin_of (e_cst (d := .int 6)) (nam_fz (i := 1) (d := .int (k : Int)) rfl) (k_mul hm)
  have s1 : sAsg lk_law 2 0 (lif (opr (callP [false] f__law_heap_text) (aCons (opr (callP [false, false] f__law_heap) (aCons (nam 0) (aCons (T2.bin oMul (cst (.int 6)) (nam 1)) aNil))) aNil))) (lE (some (.fz (.scr ns))) (some (I (k : Int))) x p m) = some (.nx (lE (some (.fz (.scr ns))) (some (I (k : Int))) (some (tS (hT many rows))) p m)) :=
    x_asg rfl (lif_of (opr_of (acons_of (opr_of (acons_of (nam_fz (d := .scr ns) rfl) (acons_of (six x p) e_anil)) (callP_of rfl rfl hp)) e_anil) (callP_of rfl rfl (law_heap_text_ok ok)))) stow_f rfl rfl rfl
  have s2 : sAsg lk_law 3 9 (lif (opr (callP [false, false] f__law_pile) (aCons (nam 0) (aCons (T2.bin oAdd (T2.bin oMul (cst (.int 6)) (nam 1)) (cst (.int 5))) aNil)))) (lE (some (.fz (.scr ns))) (some (I (k : Int))) (some (tS (hT many rows))) p m) = some (.nx (lE (some (.fz (.scr ns))) (some (I (k : Int))) (some (tS (hT many rows))) (some (.ol [I a, I b, I (97 * ((6 * k + 5 : Nat) : Int))])) m)) :=
    x_asg rfl (lif_of (opr_of (acons_of (nam_fz (d := .scr ns) rfl) (acons_of (bin_of (six _ p) (e_cst (d := .int 5)) k_add) e_anil)) (callP_of rfl rfl hq))) rfl rfl rfl rfl
  obtain ⟨e', lp, T, a', c', m', he, _, _⟩ := lp_rng (lk := lk_law) (t := .nm 4) (B := B_law_0) (fun j e => ∃ (T : List Nat) (a' c' : Int) (m' : Option M), e = lE (some (.fz (.scr ns))) (some (I (k : Int))) (some (tS T)) (some (.ol [I a', I b, I c'])) m' ∧ okT (60000 + 10 * j) T ∧ c'.natAbs ≤ 100000 + 5 * j) 3
    (fun j hj e ⟨T, a', c', m', he, h1, h2⟩ => by
      subst he
      obtain ⟨T2, a2, c2, hb2, w1, w2⟩ := law_turn (some (.fz (.scr ns))) (some (I (k : Int))) (some (I (j : Int))) h1 (by omega) a' b c' (by omega)
      exact ⟨lE (some (.fz (.scr ns))) (some (I (k : Int))) (some (tS T)) (some (.ol [I a', I b, I c'])) (some (I (j : Int))), _, rfl, hb2, T2, a2, c2, some (I (j : Int)), rfl, w1, by omega⟩) (e := lE (some (.fz (.scr ns))) (some (I (k : Int))) (some (tS (hT many rows))) (some (.ol [I a, I b, I (97 * ((6 * k + 5 : Nat) : Int))])) m) ⟨_, _, _, _, rfl, okT_hT ok, by omega⟩
  subst he
  have it : lifI (itR1 (aCons (cst (.int 3)) aNil)) (lE (some (.fz (.scr ns))) (some (I (k : Int))) (some (tS (hT many rows))) (some (.ol [I a, I b, I (97 * ((6 * k + 5 : Nat) : Int))])) m) = some ((rngI 3).map .int, lE (some (.fz (.scr ns))) (some (I (k : Int))) (some (tS (hT many rows))) (some (.ol [I a, I b, I (97 * ((6 * k + 5 : Nat) : Int))])) m) := rfl
  exact ⟨_, _, _, seq_of s1 (seq_of s2 (x_for it lp))⟩
theorem law_true (ns : List Int) (hn : ns.length ≤ 63) (hb : ∀ z ∈ ns, Builtin.Int.intBits z ≤ 1048576) : ∃ ms, f_law [.fz (.scr ns)] = some (.fz (.bl true), ms) := by
  obtain ⟨e', lp, x1, x2, x3, x4, he⟩ := lp_rng (lk := lk_law) (t := .nm 1) (B := B_law_1) (fun _ e => ∃ x1 x2 x3 x4, e = lE (some (.fz (.scr ns))) x1 x2 x3 x4) 9
    (fun k hk e ⟨x1, x2, x3, x4, he⟩ => by
      subst he
      obtain ⟨x', p', m', hb'⟩ := law_body ns hn hb k (by omega) x2 x3 x4
      exact ⟨lE (some (.fz (.scr ns))) (some (I (k : Int))) x2 x3 x4, _, rfl, hb', _, _, _, _, rfl⟩) (e := lE (some (.fz (.scr ns))) none none none none) ⟨_, _, _, _, rfl⟩
  subst he
  have it : lifI (itR1 (aCons (cst (.int 9)) aNil)) (lE (some (.fz (.scr ns))) none none none none) = some ((rngI 9).map .int, lE (some (.fz (.scr ns))) none none none none) := rfl
  obtain ⟨e2, lp2, y2, he2⟩ := lp_map (lk := lk_law) (t := .nm 2) (B := B_law_2) (F := tD) (fun _ e => ∃ y2, e = lE (some (.fz (.scr ns))) x1 y2 x3 x4) oddL
    (fun pre d post hd e ⟨y2, he⟩ => by
      subst he
      have hm : d ∈ oddL := by rw [← hd]; simp
      have ok := odd_ok hm
      have t1 := not_of (tst_of (opr_of (acons_of (nam_fz (i := 2) (d := tD d) (env := lE (some (.fz (.scr ns))) x1 (some (tS d)) x3 x4) rfl) e_anil) (callP_of (io := [false]) (F := f__law_judged) rfl rfl (judged_ok (by have := ok.1; omega) ok.2))))
      exact ⟨lE (some (.fz (.scr ns))) x1 (some (tS d)) x3 x4, _, rfl, if_f t1 e_nil, _, rfl⟩) (e := lE (some (.fz (.scr ns))) x1 x2 x3 x4) ⟨_, rfl⟩
  subst he2
  have it2 : itX true (lif (opr (callP [] f__law_odd) aNil)) (lE (some (.fz (.scr ns))) x1 x2 x3 x4) = some (oddL.map tD, lE (some (.fz (.scr ns))) x1 x2 x3 x4) := itX_of (lif_of (opr_of e_anil (callP_of (io := []) rfl rfl odd_f))) (stow_z _) rfl rfl
  exact ⟨_, run_rt rfl rfl rfl (seq_of (x_for it lp) (seq_of (x_for it2 lp2) (ret_of e_cst))) rfl⟩
end G78
end
section
namespace G78
open PySem PySem.Spec PyProof.Rows L2 T2
set_option Elab.async false
set_option linter.all false
set_option maxRecDepth 100000
set_option maxHeartbeats 4000000
theorem ex_fun {K : PySem.W.Frag} {n m : Str} {s : Stmt} {fa : Addr} {fd : FuncData} {P Q : FuncData → Prop} (_ : L2.Fun K n m s fa fd) (h1 : P fd) (h2 : Q fd) : ∃ fd, P fd ∧ Q fd := ⟨fd, h1, h2⟩
def spL (K : PySem.W.Frag) : Sp := fun vs H Q E => ∀ ca : ClsA, SpI K (f_law (ca := ca)) vs H Q E
theorem all_mk {l : PySem.W.OpenLaw} {w : World} {K : PySem.W.Frag} {h : Heap} {mg : Str → Option Value} {fa : Addr} (X : K.In h) (G : h.Ns mainGlobals mg) (hfa : mg "law" = some (.ref fa))
    {C_NoText : Addr}
    {C_NoTable : Addr}
    {C_NoGroup : Addr}
    {C_NoCount : Addr}
    {C_NoPlace : Addr}
    {C_NoLine : Addr}
    {C_TooMany : Addr}
    {C_NoHeap : Addr}
    {C_TellError : Addr}
    {f__law_odd_a : Addr} {od__law_odd an__law_odd : Option Addr} {sl__law_odd : Array (Option Value)} {oc__law_odd kV__law_odd dc__law_odd pm__law_odd cd__law_odd ct__law_odd : Value}
    {f__law_view_text_a : Addr} {od__law_view_text an__law_view_text : Option Addr} {sl__law_view_text : Array (Option Value)} {oc__law_view_text kV__law_view_text dc__law_view_text pm__law_view_text cd__law_view_text ct__law_view_text : Value}
    {f__law_heap_text_a : Addr} {od__law_heap_text an__law_heap_text : Option Addr} {sl__law_heap_text : Array (Option Value)} {oc__law_heap_text kV__law_heap_text dc__law_heap_text pm__law_heap_text cd__law_heap_text ct__law_heap_text : Value}
    {f__law_pile_a : Addr} {od__law_pile an__law_pile : Option Addr} {sl__law_pile : Array (Option Value)} {oc__law_pile kV__law_pile dc__law_pile pm__law_pile cd__law_pile ct__law_pile : Value}
    {f__law_mixed_a : Addr} {od__law_mixed an__law_mixed : Option Addr} {sl__law_mixed : Array (Option Value)} {oc__law_mixed kV__law_mixed dc__law_mixed pm__law_mixed cd__law_mixed ct__law_mixed : Value}
    {f__law_take_a : Addr} {od__law_take an__law_take : Option Addr} {sl__law_take : Array (Option Value)} {oc__law_take kV__law_take dc__law_take pm__law_take cd__law_take ct__law_take : Value}
    {f__law_heap_a : Addr} {od__law_heap an__law_heap : Option Addr} {sl__law_heap : Array (Option Value)} {oc__law_heap kV__law_heap dc__law_heap pm__law_heap cd__law_heap ct__law_heap : Value}
    {f__law_bent_a : Addr} {od__law_bent an__law_bent : Option Addr} {sl__law_bent : Array (Option Value)} {oc__law_bent kV__law_bent dc__law_bent pm__law_bent cd__law_bent ct__law_bent : Value}
    {f__law_count_a : Addr} {od__law_count an__law_count : Option Addr} {sl__law_count : Array (Option Value)} {oc__law_count kV__law_count dc__law_count pm__law_count cd__law_count ct__law_count : Value}
    {f__law_view_read_a : Addr} {od__law_view_read an__law_view_read : Option Addr} {sl__law_view_read : Array (Option Value)} {oc__law_view_read kV__law_view_read dc__law_view_read pm__law_view_read cd__law_view_read ct__law_view_read : Value}
    {f__law_heap_read_a : Addr} {od__law_heap_read an__law_heap_read : Option Addr} {sl__law_heap_read : Array (Option Value)} {oc__law_heap_read kV__law_heap_read dc__law_heap_read pm__law_heap_read cd__law_heap_read ct__law_heap_read : Value}
    {f_look_a : Addr} {od_look an_look : Option Addr} {sl_look : Array (Option Value)} {oc_look kV_look dc_look pm_look cd_look ct_look : Value}
    {f_number_in_a : Addr} {od_number_in an_number_in : Option Addr} {sl_number_in : Array (Option Value)} {oc_number_in kV_number_in dc_number_in pm_number_in cd_number_in ct_number_in : Value}
    {f_view_read_a : Addr} {od_view_read an_view_read : Option Addr} {sl_view_read : Array (Option Value)} {oc_view_read kV_view_read dc_view_read pm_view_read cd_view_read ct_view_read : Value}
    {f_views_read_a : Addr} {od_views_read an_views_read : Option Addr} {sl_views_read : Array (Option Value)} {oc_views_read kV_views_read dc_views_read pm_views_read cd_views_read ct_views_read : Value}
    {f_read_heap_a : Addr} {od_read_heap an_read_heap : Option Addr} {sl_read_heap : Array (Option Value)} {oc_read_heap kV_read_heap dc_read_heap pm_read_heap cd_read_heap ct_read_heap : Value}
    {f__law_is_text_a : Addr} {od__law_is_text an__law_is_text : Option Addr} {sl__law_is_text : Array (Option Value)} {oc__law_is_text kV__law_is_text dc__law_is_text pm__law_is_text cd__law_is_text ct__law_is_text : Value}
    {f__law_judged_a : Addr} {od__law_judged an__law_judged : Option Addr} {sl__law_judged : Array (Option Value)} {oc__law_judged kV__law_judged dc__law_judged pm__law_judged cd__law_judged ct__law_judged : Value}
    {f_law_a : Addr} {od_law an_law : Option Addr} {sl_law : Array (Option Value)} {oc_law kV_law dc_law pm_law cd_law ct_law : Value}
    (x1_NoText : PySem.W.nsIn K mainGlobals "NoText" = some (some (.ref C_NoText)))
    (x1_NoTable : PySem.W.nsIn K mainGlobals "NoTable" = some (some (.ref C_NoTable)))
    (x1_NoGroup : PySem.W.nsIn K mainGlobals "NoGroup" = some (some (.ref C_NoGroup)))
    (x1_NoCount : PySem.W.nsIn K mainGlobals "NoCount" = some (some (.ref C_NoCount)))
    (x1_NoPlace : PySem.W.nsIn K mainGlobals "NoPlace" = some (some (.ref C_NoPlace)))
    (x1_NoLine : PySem.W.nsIn K mainGlobals "NoLine" = some (some (.ref C_NoLine)))
    (x1_TooMany : PySem.W.nsIn K mainGlobals "TooMany" = some (some (.ref C_TooMany)))
    (x1_NoHeap : PySem.W.nsIn K mainGlobals "NoHeap" = some (some (.ref C_NoHeap)))
    (x1_TellError : PySem.W.nsIn K mainGlobals "TellError" = some (some (.ref C_TellError)))
    (q_NoText : PySem.W.excIn K C_NoText [.type "ValueError", .type "Exception", .type "BaseException", .type "object"] "ValueError.__new__" = true)
    (kp_NoText : PySem.W.keepIn K (.ref C_NoText) = true)
    (sb_NoText : PySem.W.subIn K (.ref C_NoText) (.type "BaseException") = some true)
    (ty_NoText : PySem.W.typeIn K (.ref C_NoText) = some (.type "type"))
    (kn_NoTable : PySem.W.kitOne K (.type "NoneType") (.ref C_NoTable) = some false)
    (cl_NoText : PySem.W.findIn K (.ref C_NoText) "__class__" = some (some (.builtin "object.__class__")))
    (sp_class : PySem.W.specialIn K (.builtin "object.__class__") "__get__" = some (some (.builtin "getset_descriptor.__get__")))
    (tk_class : PySem.W.takesIn K (.builtin "object.__class__") = some true)
    (mr_NoText : PySem.W.mroIn K C_NoText (.type "object") = some true)
    (ga_NoText : PySem.W.findIn K (.ref C_NoText) "__getattribute__" = some (some (.builtin "BaseException.__getattribute__")))
    (gg_NoText : PySem.W.findIn K (.ref C_NoText) "__getattr__" = some none)
    (eC_NoText : PySem.W.subIn K (.ref C_NoText) (.type "BaseException") = some true)
    (hD_NoText : PySem.W.hasDictIn K C_NoText = true)
    (ki_NoText_NoTable : PySem.W.kitOne K (.ref C_NoText) (.ref C_NoTable) = some false)
    (kn_NoGroup : PySem.W.kitOne K (.type "NoneType") (.ref C_NoGroup) = some false)
    (ki_NoText_NoGroup : PySem.W.kitOne K (.ref C_NoText) (.ref C_NoGroup) = some false)
    (kn_NoCount : PySem.W.kitOne K (.type "NoneType") (.ref C_NoCount) = some false)
    (ki_NoText_NoCount : PySem.W.kitOne K (.ref C_NoText) (.ref C_NoCount) = some false)
    (kn_NoPlace : PySem.W.kitOne K (.type "NoneType") (.ref C_NoPlace) = some false)
    (ki_NoText_NoPlace : PySem.W.kitOne K (.ref C_NoText) (.ref C_NoPlace) = some false)
    (kn_NoLine : PySem.W.kitOne K (.type "NoneType") (.ref C_NoLine) = some false)
    (ki_NoText_NoLine : PySem.W.kitOne K (.ref C_NoText) (.ref C_NoLine) = some false)
    (kn_TooMany : PySem.W.kitOne K (.type "NoneType") (.ref C_TooMany) = some false)
    (ki_NoText_TooMany : PySem.W.kitOne K (.ref C_NoText) (.ref C_TooMany) = some false)
    (kn_NoHeap : PySem.W.kitOne K (.type "NoneType") (.ref C_NoHeap) = some false)
    (ki_NoText_NoHeap : PySem.W.kitOne K (.ref C_NoText) (.ref C_NoHeap) = some false)
    (kn_NoText : PySem.W.kitOne K (.type "NoneType") (.ref C_NoText) = some false)
    (ki_NoText_NoText : PySem.W.kitOne K (.ref C_NoText) (.ref C_NoText) = some true)
    (kn_ValueError : PySem.W.kitOne K (.type "NoneType") (.type "ValueError") = some false)
    (ki_NoText_ValueError : PySem.W.kitOne K (.ref C_NoText) (.type "ValueError") = some true)
    (eC_TellError : PySem.W.subIn K (.ref C_TellError) (.type "BaseException") = some true)
    (hD_TellError : PySem.W.hasDictIn K C_TellError = true)
    (tC_TellError : PySem.W.typeIn K (.ref C_TellError) = some (.type "type"))
    (sb_NoText_TellError : PySem.W.subIn K (.ref C_NoText) (.ref C_TellError) = some true)
    (a__law_odd : PySem.W.nsIn K mainGlobals "_law_odd" = some (some (.ref f__law_odd_a)))
    (l__law_odd : K.lookup f__law_odd_a = some ⟨oc__law_odd, od__law_odd, .func (PySem.W.fnOf "_law_odd" "_law_odd" (defArgs s__law_odd) (defBody s__law_odd) (defScope s__law_odd) .none kV__law_odd dc__law_odd pm__law_odd an__law_odd cd__law_odd ct__law_odd), sl__law_odd⟩)
    (c__law_odd : PySem.W.codeIn K cd__law_odd "_law_odd" = true) (k__law_odd : PySem.W.keepIn K (.ref f__law_odd_a) = true)
    (a__law_view_text : PySem.W.nsIn K mainGlobals "_law_view_text" = some (some (.ref f__law_view_text_a)))
    (l__law_view_text : K.lookup f__law_view_text_a = some ⟨oc__law_view_text, od__law_view_text, .func (PySem.W.fnOf "_law_view_text" "_law_view_text" (defArgs s__law_view_text) (defBody s__law_view_text) (defScope s__law_view_text) .none kV__law_view_text dc__law_view_text pm__law_view_text an__law_view_text cd__law_view_text ct__law_view_text), sl__law_view_text⟩)
    (c__law_view_text : PySem.W.codeIn K cd__law_view_text "_law_view_text" = true) (k__law_view_text : PySem.W.keepIn K (.ref f__law_view_text_a) = true)
    (a__law_heap_text : PySem.W.nsIn K mainGlobals "_law_heap_text" = some (some (.ref f__law_heap_text_a)))
    (l__law_heap_text : K.lookup f__law_heap_text_a = some ⟨oc__law_heap_text, od__law_heap_text, .func (PySem.W.fnOf "_law_heap_text" "_law_heap_text" (defArgs s__law_heap_text) (defBody s__law_heap_text) (defScope s__law_heap_text) .none kV__law_heap_text dc__law_heap_text pm__law_heap_text an__law_heap_text cd__law_heap_text ct__law_heap_text), sl__law_heap_text⟩)
    (c__law_heap_text : PySem.W.codeIn K cd__law_heap_text "_law_heap_text" = true) (k__law_heap_text : PySem.W.keepIn K (.ref f__law_heap_text_a) = true)
    (a__law_pile : PySem.W.nsIn K mainGlobals "_law_pile" = some (some (.ref f__law_pile_a)))
    (l__law_pile : K.lookup f__law_pile_a = some ⟨oc__law_pile, od__law_pile, .func (PySem.W.fnOf "_law_pile" "_law_pile" (defArgs s__law_pile) (defBody s__law_pile) (defScope s__law_pile) .none kV__law_pile dc__law_pile pm__law_pile an__law_pile cd__law_pile ct__law_pile), sl__law_pile⟩)
    (c__law_pile : PySem.W.codeIn K cd__law_pile "_law_pile" = true) (k__law_pile : PySem.W.keepIn K (.ref f__law_pile_a) = true)
    (a__law_mixed : PySem.W.nsIn K mainGlobals "_law_mixed" = some (some (.ref f__law_mixed_a)))
    (l__law_mixed : K.lookup f__law_mixed_a = some ⟨oc__law_mixed, od__law_mixed, .func (PySem.W.fnOf "_law_mixed" "_law_mixed" (defArgs s__law_mixed) (defBody s__law_mixed) (defScope s__law_mixed) .none kV__law_mixed dc__law_mixed pm__law_mixed an__law_mixed cd__law_mixed ct__law_mixed), sl__law_mixed⟩)
    (c__law_mixed : PySem.W.codeIn K cd__law_mixed "_law_mixed" = true) (k__law_mixed : PySem.W.keepIn K (.ref f__law_mixed_a) = true)
    (a__law_take : PySem.W.nsIn K mainGlobals "_law_take" = some (some (.ref f__law_take_a)))
    (l__law_take : K.lookup f__law_take_a = some ⟨oc__law_take, od__law_take, .func (PySem.W.fnOf "_law_take" "_law_take" (defArgs s__law_take) (defBody s__law_take) (defScope s__law_take) .none kV__law_take dc__law_take pm__law_take an__law_take cd__law_take ct__law_take), sl__law_take⟩)
    (c__law_take : PySem.W.codeIn K cd__law_take "_law_take" = true) (k__law_take : PySem.W.keepIn K (.ref f__law_take_a) = true)
    (a__law_heap : PySem.W.nsIn K mainGlobals "_law_heap" = some (some (.ref f__law_heap_a)))
    (l__law_heap : K.lookup f__law_heap_a = some ⟨oc__law_heap, od__law_heap, .func (PySem.W.fnOf "_law_heap" "_law_heap" (defArgs s__law_heap) (defBody s__law_heap) (defScope s__law_heap) .none kV__law_heap dc__law_heap pm__law_heap an__law_heap cd__law_heap ct__law_heap), sl__law_heap⟩)
    (c__law_heap : PySem.W.codeIn K cd__law_heap "_law_heap" = true) (k__law_heap : PySem.W.keepIn K (.ref f__law_heap_a) = true)
    (a__law_bent : PySem.W.nsIn K mainGlobals "_law_bent" = some (some (.ref f__law_bent_a)))
    (l__law_bent : K.lookup f__law_bent_a = some ⟨oc__law_bent, od__law_bent, .func (PySem.W.fnOf "_law_bent" "_law_bent" (defArgs s__law_bent) (defBody s__law_bent) (defScope s__law_bent) .none kV__law_bent dc__law_bent pm__law_bent an__law_bent cd__law_bent ct__law_bent), sl__law_bent⟩)
    (c__law_bent : PySem.W.codeIn K cd__law_bent "_law_bent" = true) (k__law_bent : PySem.W.keepIn K (.ref f__law_bent_a) = true)
    (a__law_count : PySem.W.nsIn K mainGlobals "_law_count" = some (some (.ref f__law_count_a)))
    (l__law_count : K.lookup f__law_count_a = some ⟨oc__law_count, od__law_count, .func (PySem.W.fnOf "_law_count" "_law_count" (defArgs s__law_count) (defBody s__law_count) (defScope s__law_count) .none kV__law_count dc__law_count pm__law_count an__law_count cd__law_count ct__law_count), sl__law_count⟩)
    (c__law_count : PySem.W.codeIn K cd__law_count "_law_count" = true) (k__law_count : PySem.W.keepIn K (.ref f__law_count_a) = true)
    (a__law_view_read : PySem.W.nsIn K mainGlobals "_law_view_read" = some (some (.ref f__law_view_read_a)))
    (l__law_view_read : K.lookup f__law_view_read_a = some ⟨oc__law_view_read, od__law_view_read, .func (PySem.W.fnOf "_law_view_read" "_law_view_read" (defArgs s__law_view_read) (defBody s__law_view_read) (defScope s__law_view_read) .none kV__law_view_read dc__law_view_read pm__law_view_read an__law_view_read cd__law_view_read ct__law_view_read), sl__law_view_read⟩)
    (c__law_view_read : PySem.W.codeIn K cd__law_view_read "_law_view_read" = true) (k__law_view_read : PySem.W.keepIn K (.ref f__law_view_read_a) = true)
    (a__law_heap_read : PySem.W.nsIn K mainGlobals "_law_heap_read" = some (some (.ref f__law_heap_read_a)))
    (l__law_heap_read : K.lookup f__law_heap_read_a = some ⟨oc__law_heap_read, od__law_heap_read, .func (PySem.W.fnOf "_law_heap_read" "_law_heap_read" (defArgs s__law_heap_read) (defBody s__law_heap_read) (defScope s__law_heap_read) .none kV__law_heap_read dc__law_heap_read pm__law_heap_read an__law_heap_read cd__law_heap_read ct__law_heap_read), sl__law_heap_read⟩)
    (c__law_heap_read : PySem.W.codeIn K cd__law_heap_read "_law_heap_read" = true) (k__law_heap_read : PySem.W.keepIn K (.ref f__law_heap_read_a) = true)
    (a_look : PySem.W.nsIn K mainGlobals "look" = some (some (.ref f_look_a)))
    (l_look : K.lookup f_look_a = some ⟨oc_look, od_look, .func (PySem.W.fnOf "look" "look" (defArgs s_look) (defBody s_look) (defScope s_look) .none kV_look dc_look pm_look an_look cd_look ct_look), sl_look⟩)
    (c_look : PySem.W.codeIn K cd_look "look" = true) (k_look : PySem.W.keepIn K (.ref f_look_a) = true)
    (a_number_in : PySem.W.nsIn K mainGlobals "number_in" = some (some (.ref f_number_in_a)))
    (l_number_in : K.lookup f_number_in_a = some ⟨oc_number_in, od_number_in, .func (PySem.W.fnOf "number_in" "number_in" (defArgs s_number_in) (defBody s_number_in) (defScope s_number_in) .none kV_number_in dc_number_in pm_number_in an_number_in cd_number_in ct_number_in), sl_number_in⟩)
    (c_number_in : PySem.W.codeIn K cd_number_in "number_in" = true) (k_number_in : PySem.W.keepIn K (.ref f_number_in_a) = true)
    (a_view_read : PySem.W.nsIn K mainGlobals "view_read" = some (some (.ref f_view_read_a)))
    (l_view_read : K.lookup f_view_read_a = some ⟨oc_view_read, od_view_read, .func (PySem.W.fnOf "view_read" "view_read" (defArgs s_view_read) (defBody s_view_read) (defScope s_view_read) .none kV_view_read dc_view_read pm_view_read an_view_read cd_view_read ct_view_read), sl_view_read⟩)
    (c_view_read : PySem.W.codeIn K cd_view_read "view_read" = true) (k_view_read : PySem.W.keepIn K (.ref f_view_read_a) = true)
    (a_views_read : PySem.W.nsIn K mainGlobals "views_read" = some (some (.ref f_views_read_a)))
    (l_views_read : K.lookup f_views_read_a = some ⟨oc_views_read, od_views_read, .func (PySem.W.fnOf "views_read" "views_read" (defArgs s_views_read) (defBody s_views_read) (defScope s_views_read) .none kV_views_read dc_views_read pm_views_read an_views_read cd_views_read ct_views_read), sl_views_read⟩)
    (c_views_read : PySem.W.codeIn K cd_views_read "views_read" = true) (k_views_read : PySem.W.keepIn K (.ref f_views_read_a) = true)
    (a_read_heap : PySem.W.nsIn K mainGlobals "read_heap" = some (some (.ref f_read_heap_a)))
    (l_read_heap : K.lookup f_read_heap_a = some ⟨oc_read_heap, od_read_heap, .func (PySem.W.fnOf "read_heap" "read_heap" (defArgs s_read_heap) (defBody s_read_heap) (defScope s_read_heap) .none kV_read_heap dc_read_heap pm_read_heap an_read_heap cd_read_heap ct_read_heap), sl_read_heap⟩)
    (c_read_heap : PySem.W.codeIn K cd_read_heap "read_heap" = true) (k_read_heap : PySem.W.keepIn K (.ref f_read_heap_a) = true)
    (a__law_is_text : PySem.W.nsIn K mainGlobals "_law_is_text" = some (some (.ref f__law_is_text_a)))
    (l__law_is_text : K.lookup f__law_is_text_a = some ⟨oc__law_is_text, od__law_is_text, .func (PySem.W.fnOf "_law_is_text" "_law_is_text" (defArgs s__law_is_text) (defBody s__law_is_text) (defScope s__law_is_text) .none kV__law_is_text dc__law_is_text pm__law_is_text an__law_is_text cd__law_is_text ct__law_is_text), sl__law_is_text⟩)
    (c__law_is_text : PySem.W.codeIn K cd__law_is_text "_law_is_text" = true) (k__law_is_text : PySem.W.keepIn K (.ref f__law_is_text_a) = true)
    (a__law_judged : PySem.W.nsIn K mainGlobals "_law_judged" = some (some (.ref f__law_judged_a)))
    (l__law_judged : K.lookup f__law_judged_a = some ⟨oc__law_judged, od__law_judged, .func (PySem.W.fnOf "_law_judged" "_law_judged" (defArgs s__law_judged) (defBody s__law_judged) (defScope s__law_judged) .none kV__law_judged dc__law_judged pm__law_judged an__law_judged cd__law_judged ct__law_judged), sl__law_judged⟩)
    (c__law_judged : PySem.W.codeIn K cd__law_judged "_law_judged" = true) (k__law_judged : PySem.W.keepIn K (.ref f__law_judged_a) = true)
    (a_law : PySem.W.nsIn K mainGlobals "law" = some (some (.ref f_law_a)))
    (l_law : K.lookup f_law_a = some ⟨oc_law, od_law, .func (PySem.W.fnOf "law" "law" (defArgs s_law) (defBody s_law) (defScope s_law) .none kV_law dc_law pm_law an_law cd_law ct_law), sl_law⟩)
    (c_law : PySem.W.codeIn K cd_law "law" = true) (k_law : PySem.W.keepIn K (.ref f_law_a) = true)
    (z_str : PySem.W.nsIn K mainGlobals "str" = some none)
    (z_int : PySem.W.nsIn K mainGlobals "int" = some none)
    (z_len : PySem.W.nsIn K mainGlobals "len" = some none)
    (z_abs : PySem.W.nsIn K mainGlobals "abs" = some none)
    (z_range : PySem.W.nsIn K mainGlobals "range" = some none)
    (z_enumerate : PySem.W.nsIn K mainGlobals "enumerate" = some none)
    (z_isinstance : PySem.W.nsIn K mainGlobals "isinstance" = some none)
    (z_ValueError : PySem.W.nsIn K mainGlobals "ValueError" = some none)
    {t_MOST_FIGURES : Tok} (v_MOST_FIGURES : PySem.W.nsIn K mainGlobals "MOST_FIGURES" = some (some (.int 40 t_MOST_FIGURES)))
    {t_FIGURES : Tok} (v_FIGURES : PySem.W.nsIn K mainGlobals "FIGURES" = some (some (.str "0123456789" t_FIGURES)))
    {t_MOST_VIEWS : Tok} (v_MOST_VIEWS : PySem.W.nsIn K mainGlobals "MOST_VIEWS" = some (some (.int 40 t_MOST_VIEWS)))
    {t_MOST_COINS : Tok} (v_MOST_COINS : PySem.W.nsIn K mainGlobals "MOST_COINS" = some (some (.int 40 t_MOST_COINS)))
    {t_LETTERS : Tok} (v_LETTERS : PySem.W.nsIn K mainGlobals "LETTERS" = some (some (.str "abcd" t_LETTERS)))
    : ∃ fd : FuncData, (∀ (s : Shared) (v : Value), BindsTo s fd ⟨[v], []⟩ [("_law_script", v)]) ∧ ∀ base : Heap, K.In base → base.Ns mainGlobals mg → FnG l.prog w K mg base CX0 7 fa fd ["_law_script"] (spL K) := by
  let ca : ClsA := ⟨fun n => [C_NoText, C_NoTable, C_NoGroup, C_NoCount, C_NoPlace, C_NoLine, C_TooMany, C_NoHeap, C_TellError].getD n 0⟩
  have e := hfa.symm.trans (PySem.W.mg_of X G a_law)
  cases e
  have T : Txt K mg := ⟨PySem.W.mg_none_of X G z_str, PySem.W.mg_none_of X G z_int, PySem.W.mg_none_of X G z_len, PySem.W.mg_none_of X G z_abs, PySem.W.mg_none_of X G z_range, PySem.W.mg_none_of X G z_enumerate, PySem.W.mg_none_of X G z_isinstance, PySem.W.mg_none_of X G z_ValueError, ⟨_, PySem.W.mg_of X G v_MOST_FIGURES⟩, ⟨_, PySem.W.mg_of X G v_FIGURES⟩, ⟨_, PySem.W.mg_of X G v_MOST_VIEWS⟩, ⟨_, PySem.W.mg_of X G v_MOST_COINS⟩, ⟨_, PySem.W.mg_of X G v_LETTERS⟩, (PySem.W.mg_of X G x1_NoText), q_NoText, kp_NoText, sb_NoText, ty_NoText, (PySem.W.mg_of X G x1_NoTable), kn_NoTable, ⟨ga_NoText, gg_NoText, eC_NoText, hD_NoText, cl_NoText, sp_class, tk_class, mr_NoText⟩, ki_NoText_NoTable, (PySem.W.mg_of X G x1_NoGroup), kn_NoGroup, ki_NoText_NoGroup, (PySem.W.mg_of X G x1_NoCount), kn_NoCount, ki_NoText_NoCount, (PySem.W.mg_of X G x1_NoPlace), kn_NoPlace, ki_NoText_NoPlace, (PySem.W.mg_of X G x1_NoLine), kn_NoLine, ki_NoText_NoLine, (PySem.W.mg_of X G x1_TooMany), kn_TooMany, ki_NoText_TooMany, (PySem.W.mg_of X G x1_NoHeap), kn_NoHeap, ki_NoText_NoHeap, kn_NoText, ki_NoText_NoText, kn_ValueError, ki_NoText_ValueError, (PySem.W.exm_ref eC_TellError hD_TellError tC_TellError sb_NoText_TellError), (PySem.W.mg_of X G x1_TellError)⟩
  have F__law_odd := fun_mk (st := s__law_odd) l__law_odd c__law_odd k__law_odd
  have b__law_odd := F__law_odd.binds (ps := []) fun _ _ _ _ _ _ us hl => match us, hl with | [], _ => rfl
  have F__law_view_text := fun_mk (st := s__law_view_text) l__law_view_text c__law_view_text k__law_view_text
  have b__law_view_text := F__law_view_text.binds (ps := ["_law_view"]) fun _ _ _ _ _ _ us hl => match us, hl with | [_], _ => rfl
  have F__law_heap_text := fun_mk (st := s__law_heap_text) l__law_heap_text c__law_heap_text k__law_heap_text
  have b__law_heap_text := F__law_heap_text.binds (ps := ["_law_heap_here"]) fun _ _ _ _ _ _ us hl => match us, hl with | [_], _ => rfl
  have F__law_pile := fun_mk (st := s__law_pile) l__law_pile c__law_pile k__law_pile
  have b__law_pile := F__law_pile.binds (ps := ["_law_script", "_law_k"]) fun _ _ _ _ _ _ us hl => match us, hl with | [_, _], _ => rfl
  have F__law_mixed := fun_mk (st := s__law_mixed) l__law_mixed c__law_mixed k__law_mixed
  have b__law_mixed := F__law_mixed.binds (ps := ["_law_cell", "_law_k"]) fun _ _ _ _ _ _ us hl => match us, hl with | [_, _], _ => rfl
  have F__law_take := fun_mk (st := s__law_take) l__law_take c__law_take k__law_take
  have b__law_take := F__law_take.binds (ps := ["_law_pile_here", "_law_many"]) fun _ _ _ _ _ _ us hl => match us, hl with | [_, _], _ => rfl
  have F__law_heap := fun_mk (st := s__law_heap) l__law_heap c__law_heap k__law_heap
  have b__law_heap := F__law_heap.binds (ps := ["_law_script", "_law_start"]) fun _ _ _ _ _ _ us hl => match us, hl with | [_, _], _ => rfl
  have F__law_bent := fun_mk (st := s__law_bent) l__law_bent c__law_bent k__law_bent
  have b__law_bent := F__law_bent.binds (ps := ["_law_text", "_law_pile_here"]) fun _ _ _ _ _ _ us hl => match us, hl with | [_, _], _ => rfl
  have F__law_count := fun_mk (st := s__law_count) l__law_count c__law_count k__law_count
  have b__law_count := F__law_count.binds (ps := ["_law_text"]) fun _ _ _ _ _ _ us hl => match us, hl with | [_], _ => rfl
  have F__law_view_read := fun_mk (st := s__law_view_read) l__law_view_read c__law_view_read k__law_view_read
  have b__law_view_read := F__law_view_read.binds (ps := ["_law_many", "_law_text"]) fun _ _ _ _ _ _ us hl => match us, hl with | [_, _], _ => rfl
  have F__law_heap_read := fun_mk (st := s__law_heap_read) l__law_heap_read c__law_heap_read k__law_heap_read
  have b__law_heap_read := F__law_heap_read.binds (ps := ["_law_text"]) fun _ _ _ _ _ _ us hl => match us, hl with | [_], _ => rfl
  have F_look := fun_mk (st := s_look) l_look c_look k_look
  have b_look := F_look.binds (ps := ["good"]) fun _ _ _ _ _ _ us hl => match us, hl with | [_], _ => rfl
  have F_number_in := fun_mk (st := s_number_in) l_number_in c_number_in k_number_in
  have b_number_in := F_number_in.binds (ps := ["text"]) fun _ _ _ _ _ _ us hl => match us, hl with | [_], _ => rfl
  have F_view_read := fun_mk (st := s_view_read) l_view_read c_view_read k_view_read
  have b_view_read := F_view_read.binds (ps := ["many", "text"]) fun _ _ _ _ _ _ us hl => match us, hl with | [_, _], _ => rfl
  have F_views_read := fun_mk (st := s_views_read) l_views_read c_views_read k_views_read
  have b_views_read := F_views_read.binds (ps := ["many", "text"]) fun _ _ _ _ _ _ us hl => match us, hl with | [_, _], _ => rfl
  have F_read_heap := fun_mk (st := s_read_heap) l_read_heap c_read_heap k_read_heap
  have b_read_heap := F_read_heap.binds (ps := ["text"]) fun _ _ _ _ _ _ us hl => match us, hl with | [_], _ => rfl
  have F__law_is_text := fun_mk (st := s__law_is_text) l__law_is_text c__law_is_text k__law_is_text
  have b__law_is_text := F__law_is_text.binds (ps := ["_law_caught"]) fun _ _ _ _ _ _ us hl => match us, hl with | [_], _ => rfl
  have F__law_judged := fun_mk (st := s__law_judged) l__law_judged c__law_judged k__law_judged
  have b__law_judged := F__law_judged.binds (ps := ["_law_text"]) fun _ _ _ _ _ _ us hl => match us, hl with | [_], _ => rfl
  have F_law := fun_mk (st := s_law) l_law c_law k_law
  refine ex_fun F_law (fun s v => BindsTo.of_eq rfl) fun base _ _ => ?_
  have D__law_odd : Df l.prog w K mg base "_law_odd" 1 [] f__law_odd := ⟨_, _, PySem.W.mg_of X G a__law_odd, k__law_odd, b__law_odd, ok__law_odd T F__law_odd⟩
  have D__law_view_text : Df l.prog w K mg base "_law_view_text" 1 ["_law_view"] f__law_view_text := ⟨_, _, PySem.W.mg_of X G a__law_view_text, k__law_view_text, b__law_view_text, ok__law_view_text T F__law_view_text⟩
  have D__law_heap_text : Df l.prog w K mg base "_law_heap_text" 2 ["_law_heap_here"] f__law_heap_text := ⟨_, _, PySem.W.mg_of X G a__law_heap_text, k__law_heap_text, b__law_heap_text, ok__law_heap_text T F__law_heap_text D__law_view_text⟩
  have D__law_pile : Df l.prog w K mg base "_law_pile" 1 ["_law_script", "_law_k"] f__law_pile := ⟨_, _, PySem.W.mg_of X G a__law_pile, k__law_pile, b__law_pile, ok__law_pile T F__law_pile⟩
  have D__law_mixed : Df l.prog w K mg base "_law_mixed" 1 ["_law_cell", "_law_k"] f__law_mixed := ⟨_, _, PySem.W.mg_of X G a__law_mixed, k__law_mixed, b__law_mixed, ok__law_mixed T F__law_mixed⟩
  have D__law_take : Df l.prog w K mg base "_law_take" 2 ["_law_pile_here", "_law_many"] f__law_take := ⟨_, _, PySem.W.mg_of X G a__law_take, k__law_take, b__law_take, ok__law_take T F__law_take D__law_mixed⟩
  have D__law_heap : Df l.prog w K mg base "_law_heap" 3 ["_law_script", "_law_start"] f__law_heap := ⟨_, _, PySem.W.mg_of X G a__law_heap, k__law_heap, b__law_heap, ok__law_heap T F__law_heap D__law_pile D__law_take⟩
  have D__law_bent : Df l.prog w K mg base "_law_bent" 3 ["_law_text", "_law_pile_here"] f__law_bent := ⟨_, _, PySem.W.mg_of X G a__law_bent, k__law_bent, b__law_bent, ok__law_bent T F__law_bent D__law_take⟩
  have D__law_count : Df l.prog w K mg base "_law_count" 1 ["_law_text"] f__law_count := ⟨_, _, PySem.W.mg_of X G a__law_count, k__law_count, b__law_count, ok__law_count T F__law_count⟩
  have D__law_view_read : Df l.prog w K mg base "_law_view_read" 2 ["_law_many", "_law_text"] f__law_view_read := ⟨_, _, PySem.W.mg_of X G a__law_view_read, k__law_view_read, b__law_view_read, ok__law_view_read T F__law_view_read D__law_count⟩
  have D__law_heap_read : Df l.prog w K mg base "_law_heap_read" 3 ["_law_text"] f__law_heap_read := ⟨_, _, PySem.W.mg_of X G a__law_heap_read, k__law_heap_read, b__law_heap_read, ok__law_heap_read T F__law_heap_read D__law_count D__law_view_read⟩
  have D_look : Df l.prog w K mg base "look" 1 ["good"] f_look := ⟨_, _, PySem.W.mg_of X G a_look, k_look, b_look, ok_look T F_look⟩
  have DR_look : Dr l.prog w K mg base "look" 1 ["good"] g_look := ⟨_, _, PySem.W.mg_of X G a_look, k_look, b_look, okr_look T F_look⟩
  have D_number_in : Df l.prog w K mg base "number_in" 2 ["text"] f_number_in := ⟨_, _, PySem.W.mg_of X G a_number_in, k_number_in, b_number_in, ok_number_in T F_number_in D_look⟩
  have DR_number_in : Dr l.prog w K mg base "number_in" 2 ["text"] g_number_in := ⟨_, _, PySem.W.mg_of X G a_number_in, k_number_in, b_number_in, okr_number_in T F_number_in D_look DR_look⟩
  have D_view_read : Df l.prog w K mg base "view_read" 3 ["many", "text"] f_view_read := ⟨_, _, PySem.W.mg_of X G a_view_read, k_view_read, b_view_read, ok_view_read T F_view_read D_number_in D_look⟩
  have DR_view_read : Dr l.prog w K mg base "view_read" 3 ["many", "text"] g_view_read := ⟨_, _, PySem.W.mg_of X G a_view_read, k_view_read, b_view_read, okr_view_read T F_view_read D_number_in D_look DR_number_in DR_look⟩
  have D_views_read : Df l.prog w K mg base "views_read" 4 ["many", "text"] f_views_read := ⟨_, _, PySem.W.mg_of X G a_views_read, k_views_read, b_views_read, ok_views_read T F_views_read D_look D_view_read⟩
  have DR_views_read : Dr l.prog w K mg base "views_read" 4 ["many", "text"] g_views_read := ⟨_, _, PySem.W.mg_of X G a_views_read, k_views_read, b_views_read, okr_views_read T F_views_read D_look D_view_read DR_look DR_view_read⟩
  have D_read_heap : Df l.prog w K mg base "read_heap" 5 ["text"] f_read_heap := ⟨_, _, PySem.W.mg_of X G a_read_heap, k_read_heap, b_read_heap, ok_read_heap T F_read_heap D_look D_number_in D_views_read⟩
  have DR_read_heap : Dr l.prog w K mg base "read_heap" 5 ["text"] g_read_heap := ⟨_, _, PySem.W.mg_of X G a_read_heap, k_read_heap, b_read_heap, okr_read_heap T F_read_heap D_look D_number_in D_views_read DR_look DR_number_in DR_views_read⟩
  have D__law_is_text : Df l.prog w K mg base "_law_is_text" 1 ["_law_caught"] f__law_is_text := ⟨_, _, PySem.W.mg_of X G a__law_is_text, k__law_is_text, b__law_is_text, ok__law_is_text T F__law_is_text⟩
  have D__law_judged : Df l.prog w K mg base "_law_judged" 6 ["_law_text"] f__law_judged := ⟨_, _, PySem.W.mg_of X G a__law_judged, k__law_judged, b__law_judged, ok__law_judged T F__law_judged D__law_heap_read D_read_heap D__law_is_text DR_read_heap⟩
  exact fnOk_imp (ok_law T F_law D__law_heap_text D__law_heap D__law_pile D__law_bent D__law_judged D__law_odd) fun vs H Q E h => h ca
end G78
open PySem PySem.W PyProof.Rows in
set_option maxRecDepth 100000 in
set_option maxHeartbeats 0 in
theorem PySem.Challenge.cw_telltight_k78_heap_texts_refused_holds : PySem.Challenge.rw_telltight_k78_heap_texts_refused.Holds := by
  w_on; o_law; k_head; (case hw => w_witness2)
  k_fill
  refine T2.walk_g (l := PySem.Challenge.rw_telltight_k78_heap_texts_refused) (n := 63) (k := 7) (x := "_law_script") (sp := fun w => G78.spL _) rfl (by decide) rfl ⟨rfl, by decide, by decide⟩ (fun w h Y => PySem.W.kIn_of Y) ?F (fun _ _ a ns hl hb hS => fun ca => T2.law_sp (G78.law_true (ca := ca)) hl hb hS)
  case F =>
    intro w mg fa h KX G hmg
    refine' G78.all_mk KX G hmg ?x1_NoText ?x1_NoTable ?x1_NoGroup ?x1_NoCount ?x1_NoPlace ?x1_NoLine ?x1_TooMany ?x1_NoHeap ?x1_TellError ?q_NoText ?kp_NoText ?sb_NoText ?ty_NoText ?kn_NoTable ?cl_NoText ?sp_class ?tk_class ?mr_NoText ?ga_NoText ?gg_NoText ?eC_NoText ?hD_NoText ?ki_NoText_NoTable ?kn_NoGroup ?ki_NoText_NoGroup ?kn_NoCount ?ki_NoText_NoCount ?kn_NoPlace ?ki_NoText_NoPlace ?kn_NoLine ?ki_NoText_NoLine ?kn_TooMany ?ki_NoText_TooMany ?kn_NoHeap ?ki_NoText_NoHeap ?kn_NoText ?ki_NoText_NoText ?kn_ValueError ?ki_NoText_ValueError ?eC_TellError ?hD_TellError ?tC_TellError ?sb_NoText_TellError ?a__law_odd ?l__law_odd ?c__law_odd ?k__law_odd ?a__law_view_text ?l__law_view_text ?c__law_view_text ?k__law_view_text ?a__law_heap_text ?l__law_heap_text ?c__law_heap_text ?k__law_heap_text ?a__law_pile ?l__law_pile ?c__law_pile ?k__law_pile ?a__law_mixed ?l__law_mixed ?c__law_mixed ?k__law_mixed ?a__law_take ?l__law_take ?c__law_take ?k__law_take ?a__law_heap ?l__law_heap ?c__law_heap ?k__law_heap ?a__law_bent ?l__law_bent ?c__law_bent ?k__law_bent ?a__law_count ?l__law_count ?c__law_count ?k__law_count ?a__law_view_read ?l__law_view_read ?c__law_view_read ?k__law_view_read ?a__law_heap_read ?l__law_heap_read ?c__law_heap_read ?k__law_heap_read ?a_look ?l_look ?c_look ?k_look ?a_number_in ?l_number_in ?c_number_in ?k_number_in ?a_view_read ?l_view_read ?c_view_read ?k_view_read ?a_views_read ?l_views_read ?c_views_read ?k_views_read ?a_read_heap ?l_read_heap ?c_read_heap ?k_read_heap ?a__law_is_text ?l__law_is_text ?c__law_is_text ?k__law_is_text ?a__law_judged ?l__law_judged ?c__law_judged ?k__law_judged ?a_law ?l_law ?c_law ?k_law ?z_str ?z_int ?z_len ?z_abs ?z_range ?z_enumerate ?z_isinstance ?z_ValueError ?v_MOST_FIGURES ?v_FIGURES ?v_MOST_VIEWS ?v_MOST_COINS ?v_LETTERS
    (case x1_NoText => k_is)
    (case x1_NoTable => k_is)
    (case x1_NoGroup => k_is)
    (case x1_NoCount => k_is)
    (case x1_NoPlace => k_is)
    (case x1_NoLine => k_is)
    (case x1_TooMany => k_is)
    (case x1_NoHeap => k_is)
    (case x1_TellError => k_is)
    (case q_NoText => k_exc)
    (case kp_NoText => k_is)
    (case sb_NoText => k_is)
    (case ty_NoText => k_is)
    (case kn_NoTable => first | k_is | kit_is)
    (case cl_NoText => k_is)
    (case sp_class => k_is)
    (case tk_class => k_is)
    (case mr_NoText => k_is)
    (case ga_NoText => k_is)
    (case gg_NoText => k_is)
    (case eC_NoText => k_is)
    (case hD_NoText => k_is)
    (case ki_NoText_NoTable => first | k_is | kit_is)
    (case kn_NoGroup => first | k_is | kit_is)
    (case ki_NoText_NoGroup => first | k_is | kit_is)
    (case kn_NoCount => first | k_is | kit_is)
    (case ki_NoText_NoCount => first | k_is | kit_is)
    (case kn_NoPlace => first | k_is | kit_is)
    (case ki_NoText_NoPlace => first | k_is | kit_is)
    (case kn_NoLine => first | k_is | kit_is)
    (case ki_NoText_NoLine => first | k_is | kit_is)
    (case kn_TooMany => first | k_is | kit_is)
    (case ki_NoText_TooMany => first | k_is | kit_is)
    (case kn_NoHeap => first | k_is | kit_is)
    (case ki_NoText_NoHeap => first | k_is | kit_is)
    (case kn_NoText => first | k_is | kit_is)
    (case ki_NoText_NoText => first | k_is | kit_is)
    (case kn_ValueError => first | k_is | kit_is)
    (case ki_NoText_ValueError => first | k_is | kit_is)
    (case eC_TellError => k_is)
    (case hD_TellError => k_is)
    (case tC_TellError => k_is)
    (case sb_NoText_TellError => k_is)
    (case a__law_odd => k_is)
    (case l__law_odd => k_is)
    (case c__law_odd => k_is)
    (case k__law_odd => k_is)
    (case a__law_view_text => k_is)
    (case l__law_view_text => k_is)
    (case c__law_view_text => k_is)
    (case k__law_view_text => k_is)
    (case a__law_heap_text => k_is)
    (case l__law_heap_text => k_is)
    (case c__law_heap_text => k_is)
    (case k__law_heap_text => k_is)
    (case a__law_pile => k_is)
    (case l__law_pile => k_is)
    (case c__law_pile => k_is)
    (case k__law_pile => k_is)
    (case a__law_mixed => k_is)
    (case l__law_mixed => k_is)
    (case c__law_mixed => k_is)
    (case k__law_mixed => k_is)
    (case a__law_take => k_is)
    (case l__law_take => k_is)
    (case c__law_take => k_is)
    (case k__law_take => k_is)
    (case a__law_heap => k_is)
    (case l__law_heap => k_is)
    (case c__law_heap => k_is)
    (case k__law_heap => k_is)
    (case a__law_bent => k_is)
    (case l__law_bent => k_is)
    (case c__law_bent => k_is)
    (case k__law_bent => k_is)
    (case a__law_count => k_is)
    (case l__law_count => k_is)
    (case c__law_count => k_is)
    (case k__law_count => k_is)
    (case a__law_view_read => k_is)
    (case l__law_view_read => k_is)
    (case c__law_view_read => k_is)
    (case k__law_view_read => k_is)
    (case a__law_heap_read => k_is)
    (case l__law_heap_read => k_is)
    (case c__law_heap_read => k_is)
    (case k__law_heap_read => k_is)
    (case a_look => k_is)
    (case l_look => k_is)
    (case c_look => k_is)
    (case k_look => k_is)
    (case a_number_in => k_is)
    (case l_number_in => k_is)
    (case c_number_in => k_is)
    (case k_number_in => k_is)
    (case a_view_read => k_is)
    (case l_view_read => k_is)
    (case c_view_read => k_is)
    (case k_view_read => k_is)
    (case a_views_read => k_is)
    (case l_views_read => k_is)
    (case c_views_read => k_is)
    (case k_views_read => k_is)
    (case a_read_heap => k_is)
    (case l_read_heap => k_is)
    (case c_read_heap => k_is)
    (case k_read_heap => k_is)
    (case a__law_is_text => k_is)
    (case l__law_is_text => k_is)
    (case c__law_is_text => k_is)
    (case k__law_is_text => k_is)
    (case a__law_judged => k_is)
    (case l__law_judged => k_is)
    (case c__law_judged => k_is)
    (case k__law_judged => k_is)
    (case a_law => k_is)
    (case l_law => k_is)
    (case c_law => k_is)
    (case k_law => k_is)
    (case z_str => k_is)
    (case z_int => k_is)
    (case z_len => k_is)
    (case z_abs => k_is)
    (case z_range => k_is)
    (case z_enumerate => k_is)
    (case z_isinstance => k_is)
    (case z_ValueError => k_is)
    (case v_MOST_FIGURES => k_is)
    (case v_FIGURES => k_is)
    (case v_MOST_VIEWS => k_is)
    (case v_MOST_COINS => k_is)
    (case v_LETTERS => k_is)
end
