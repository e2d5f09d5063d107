import PyProof.Rows.All
import Wide.All
import OpenK.AllK
import Wide.FinOn
import HandS.ForMost
import HandS.WideBits
import HandS.Deep
import HandS.IsInst
import HandS.Conv
import HandS.NoneIn
import HandS.Style
import HandS.RevRange
import KE.SortData
import HandS.TupLen
import HandS.TupSets
import HandS.DictTup
import KE.KDictList
import HandS.Zip
import HandS.EndBits
import PyProof.ReprRoads
import PyProof.ReprLen
import PyProof.Rows.RegStrFacts
import HandS.RaiseMore
import HandS.Text
import HandS.Replace
import PyProof.EnumMake
import PyProof.Draws
import KE.KxIndex
import HandS.Exc
import HandS.ExcInit
import HandS.ExcOwn
import HandS.ExcIs
import HandS.Small
import HandS.TryOnly
import KE.KExcIs
import HandS.ClsMeth
import HandS.ExcField
import HandS.Words
import HandS.SetFor
import HandS.Strs
import PySem.Challenge.RW_telltight_k70_why_a_heap_keeps_it
section
set_option Elab.async false
set_option linter.all false
set_option maxRecDepth 100000
namespace T2
open PySem PySem.Spec PyProof.Rows L2
/-- data that nobody changes any more -/
inductive D where
  | non | bl (b : Bool) | int (i : Int) | str (x : Str)
  | lst (xs : List D) | tup (xs : List D) | ins (C : Addr) (fs : List (Str × D)) | scr (ns : List Int) | dic (ks : List Key) (ds : List D) | any | exc (n : Nat) (C : Addr) (fs : List (Str × D))
/-- a step of a path down an owned tree -/
inductive Pa where
  | ix (k : Nat) | fd (f : Str)
  deriving DecidableEq
/-- a tree whose nodes are owned: frozen leaves; what a slot's tree has at a path; a list, a tuple, an instance -/
inductive M where
  | fz (d : D) | bp (i : Nat) (p : List Pa)
  | ol (xs : List M) | ot (xs : List M) | oi (C : Addr) (fs : List (Str × M)) | od (lk : Bool) (kvs : List (Key × D)) | odt (ks : List (List Int))
/-- a caught exception at a: its class, its own dict -/
def excV (a C : Addr) (d : Option Addr) : HO := .ext fun h => ∃ o vs, h.get? a = some o ∧ o.cls = .ref C ∧ o.dict = d ∧ o.data = .fields vs
def toV : D → V
  | .non => .non | .bl b => .bl b | .int i => .int i | .str x => .str x | _ => .non
def scal : D → Bool
  | .non => true | .bl _ => true | .int _ => true | .str _ => true | _ => false
/-- a dict's keys with values -/
def zipK (kvs : List (Key × D)) (vs : List V) : List (Key × V) := (kvs.map (·.1)).zip vs
/-- a key of a dict of tuples: a tuple of numbers -/
def tupI (k : List Int) : D := .tup (k.map D.int)
def entI (x : List Int × Addr) : DictEntry := ⟨reduceHash (Builtin.Tuple.tupleHashOf (x.1.map hashInt)), .ref x.2, .bool true⟩
/-- the dict at p has the keys ks, which stand at vs, each with the value True -/
def dTI (p : Addr) (ks : List (List Int)) (vs : List V) : Heap → Prop := fun h => ks.length ≤ sizeLine ∧ (p == sysModules) = false ∧ ks.Nodup ∧ ∃ bs : List Addr, vs = bs.map V.ref ∧ bs.length = ks.length ∧
  ∃ o es ep, h.get? p = some o ∧ o.ExactDict ∧ o.data = .dict es ep ∧ es.toList = (ks.zip bs).map entI
/-- what stands at p is o, locked or not -/
def lkd (lk : Bool) (H : Hp) (p : Addr) (o : HO) : Prop := (lk = false ∧ H p = some o) ∨ (lk = true ∧ ∃ od, H p = some (.frz od o))
theorem lkd.mono {lk : Bool} {H H' : Hp} {p : Addr} {o : HO} (h : lkd lk H p o) (s : ∀ o, H p = some o → H' p = some o) : lkd lk H' p o := by
  rcases h with ⟨h1, h2⟩ | ⟨h1, od, h2⟩
  · exact .inl ⟨h1, s _ h2⟩
  · exact .inr ⟨h1, od, s _ h2⟩
theorem lkd.there {lk : Bool} {H : Hp} {p : Addr} {o : HO} (h : lkd lk H p o) : ∃ u, H p = some u := by
  rcases h with ⟨h1, h2⟩ | ⟨h1, od, h2⟩
  · exact ⟨_, h2⟩
  · exact ⟨_, h2⟩
section
variable (K : PySem.W.Frag)
mutual
/-- v is the data d in the heap F -/
def Rep (F : Hp) : D → V → Prop
  | .non, v => v = .non
  | .bl b, v => v = .bl b
  | .int i, v => v = .int i
  | .str x, v => v = .str x
  | .lst xs, v => ∃ a vs, v = .ref a ∧ F a = some (.lst vs) ∧ RepL F xs vs
  | .tup xs, v => ∃ a vs, v = .ref a ∧ F a = some (.tup vs) ∧ RepL F xs vs
  | .ins C fs, v => ∃ a dx gs, v = .ref a ∧ F a = some (.ins C dx gs) ∧ F dx = some (.own a) ∧ RepF F fs gs
  | .scr ns, v => ∃ a, v = .ref a ∧ SqL K F a (ns.map V.int)
  | .dic ks ds, v => ∃ a vs, v = .ref a ∧ ks.length = ds.length ∧ Rd F a (.dK (ks.zip vs)) ∧ RepL F ds vs
  | .any, v => ∃ a, v = .ref a
  | .exc _ C fs, v => ∃ a d gs, v = .ref a ∧ F a = some (excV a C d) ∧ (d = none ∨ ∃ dx, d = some dx ∧ F dx = some (.xd gs)) ∧ (d = none → gs = []) ∧ RepF F fs gs
def RepL (F : Hp) : List D → List V → Prop
  | [], vs => vs = []
  | d :: ds, vs => ∃ v r, vs = v :: r ∧ Rep F d v ∧ RepL F ds r
def RepF (F : Hp) : List (Str × D) → List (Str × V) → Prop
  | [], vs => vs = []
  | d :: ds, vs => ∃ v r, vs = (d.1, v) :: r ∧ Rep F d.2 v ∧ RepF F ds r
end
mutual
/-- v is the tree m: its frozen leaves in F, its own nodes at A, in H; br: what the places of slots are -/
def Own (br : Nat → List Pa → V → Prop) (F H : Hp) : M → V → List Addr → Prop
  | .fz d, v, A => A = [] ∧ Rep K F d v
  | .bp i p, v, A => A = [] ∧ br i p v
  | .ol ms, v, A => ∃ p vs B, v = .ref p ∧ A = p :: B ∧ F p = none ∧ H p = some (.lst vs) ∧ OwnL br F H ms vs B
  | .ot ms, v, A => ∃ p vs B, v = .ref p ∧ A = p :: B ∧ F p = none ∧ H p = some (.tup vs) ∧ OwnL br F H ms vs B
  | .oi C fs, v, A => ∃ p dx gs B, v = .ref p ∧ A = p :: dx :: B ∧ F p = none ∧ F dx = none ∧ H p = some (.ins C dx gs) ∧ H dx = some (.own p) ∧ OwnF br F H fs gs B
  | .od lk kvs, v, A => ∃ p vs, v = .ref p ∧ A = [p] ∧ F p = none ∧ lkd lk H p (.dK (zipK kvs vs)) ∧ RepL K F (kvs.map (·.2)) vs
  | .odt ks, v, A => ∃ p vs, v = .ref p ∧ A = [p] ∧ F p = none ∧ H p = some (.ext (dTI p ks vs)) ∧ RepL K F (ks.map tupI) vs
def OwnL (br : Nat → List Pa → V → Prop) (F H : Hp) : List M → List V → List Addr → Prop
  | [], vs, A => vs = [] ∧ A = []
  | m :: ms, vs, A => ∃ v r B C, vs = v :: r ∧ A = B ++ C ∧ Own br F H m v B ∧ OwnL br F H ms r C
def OwnF (br : Nat → List Pa → V → Prop) (F H : Hp) : List (Str × M) → List (Str × V) → List Addr → Prop
  | [], vs, A => vs = [] ∧ A = []
  | m :: ms, vs, A => ∃ v r B C, vs = (m.1, v) :: r ∧ A = B ++ C ∧ Own br F H m.2 v B ∧ OwnF br F H ms r C
end
end
/-- no places of slots -/
def noBr : Nat → List Pa → V → Prop := fun _ _ _ => False
def frz (F H : Hp) (A : List Addr) : Hp := fun a => if a ∈ A then H a else F a
theorem rep_sc {K : PySem.W.Frag} {F : Hp} : ∀ {d : D} {v : V}, scal d = true → (Rep K F d v ↔ v = toV d)
  | .non, v, h => by simp only [Rep, toV]
  | .bl b, v, h => by simp only [Rep, toV]
  | .int b, v, h => by simp only [Rep, toV]
  | .str b, v, h => by simp only [Rep, toV]
  | .lst xs, v, h => by cases h
  | .tup xs, v, h => by cases h
  | .ins C xs, v, h => by cases h
  | .scr xs, v, h => by cases h
  | .dic _ _, v, h => by cases h
  | .any, v, h => by cases h
  | .exc _ _ _, v, h => by cases h
section
variable {K : PySem.W.Frag}
mutual
theorem Rep.mono {F F' : Hp} (s : Same F F') : ∀ (d : D) (v : V), Rep K F d v → Rep K F' d v
  | .non, v, h => by simpa only [Rep] using h
  | .bl b, v, h => by simpa only [Rep] using h
  | .int i, v, h => by simpa only [Rep] using h
  | .str x, v, h => by simpa only [Rep] using h
  | .lst xs, v, h => by
    simp only [Rep] at h ⊢
    obtain ⟨a, vs, e, q, r⟩ := h
    exact ⟨a, vs, e, s _ _ q, RepL.mono s xs vs r⟩
  | .tup xs, v, h => by
    simp only [Rep] at h ⊢
    obtain ⟨a, vs, e, q, r⟩ := h
    exact ⟨a, vs, e, s _ _ q, RepL.mono s xs vs r⟩
  | .ins C fs, v, h => by
    simp only [Rep] at h ⊢
    obtain ⟨a, dx, gs, e, q, q2, r⟩ := h
    exact ⟨a, dx, gs, e, s _ _ q, s _ _ q2, RepF.mono s fs gs r⟩
  | .scr ns, v, h => by
    simp only [Rep] at h ⊢
    obtain ⟨a, e, q⟩ := h
    exact ⟨a, e, s.seq q⟩
  | .dic ks ds, v, h => by
    simp only [Rep] at h ⊢
    obtain ⟨a, vs, e, l, q, r⟩ := h
    exact ⟨a, vs, e, l, q.imp (s _ _) (fun ⟨o, z⟩ => ⟨o, s _ _ z⟩), RepL.mono s ds vs r⟩
  | .any, v, h => by simpa only [Rep] using h
  | .exc _ C fs, v, h => by
    simp only [Rep] at h ⊢
    obtain ⟨a, d, gs, e, q, q2, q3, r⟩ := h
    exact ⟨a, d, gs, e, s _ _ q, q2.imp id (fun ⟨dx, z1, z2⟩ => ⟨dx, z1, s _ _ z2⟩), q3, RepF.mono s fs gs r⟩
theorem RepL.mono {F F' : Hp} (s : Same F F') : ∀ (ds : List D) (vs : List V), RepL K F ds vs → RepL K F' ds vs
  | [], vs, h => by simpa only [RepL] using h
  | d :: ds, vs, h => by
    simp only [RepL] at h ⊢
    obtain ⟨v, r, e, q, q2⟩ := h
    exact ⟨v, r, e, Rep.mono s d v q, RepL.mono s ds r q2⟩
theorem RepF.mono {F F' : Hp} (s : Same F F') : ∀ (ds : List (Str × D)) (vs : List (Str × V)), RepF K F ds vs → RepF K F' ds vs
  | [], vs, h => by simpa only [RepF] using h
  | d :: ds, vs, h => by
    simp only [RepF] at h ⊢
    obtain ⟨v, r, e, q, q2⟩ := h
    exact ⟨v, r, e, Rep.mono s d.2 v q, RepF.mono s ds r q2⟩
end
mutual
/-- a tree stays: F grows away from its nodes, H keeps its nodes, places stay -/
theorem Own.mono {br br' : Nat → List Pa → V → Prop} {F H F' H' : Hp} (s : Same F F') (hb : ∀ i p v, br i p v → br' i p v) : ∀ (m : M) (v : V) (A : List Addr), Own K br F H m v A → (∀ a ∈ A, F' a = none ∧ ∀ o, H a = some o → H' a = some o) → Own K br' F' H' m v A
  | .fz d, v, A, h, k => by
    simp only [Own] at h ⊢
    exact ⟨h.1, Rep.mono s d v h.2⟩
  | .bp i p, v, A, h, k => by
    simp only [Own] at h ⊢
    exact ⟨h.1, hb _ _ _ h.2⟩
  | .ol ms, v, A, h, k => by
    simp only [Own] at h ⊢
    obtain ⟨p, vs, B, e, rfl, f, q, r⟩ := h
    exact ⟨p, vs, B, e, rfl, (k p List.mem_cons_self).1, (k p List.mem_cons_self).2 _ q, OwnL.mono s hb ms vs B r fun a ha => k a (List.mem_cons_of_mem _ ha)⟩
  | .ot ms, v, A, h, k => by
    simp only [Own] at h ⊢
    obtain ⟨p, vs, B, e, rfl, f, q, r⟩ := h
    exact ⟨p, vs, B, e, rfl, (k p List.mem_cons_self).1, (k p List.mem_cons_self).2 _ q, OwnL.mono s hb ms vs B r fun a ha => k a (List.mem_cons_of_mem _ ha)⟩
  | .oi C fs, v, A, h, k => by
    simp only [Own] at h ⊢
    obtain ⟨p, dx, gs, B, e, rfl, f, f2, q, q2, r⟩ := h
    have kp := k p List.mem_cons_self
    have kd := k dx (List.mem_cons_of_mem _ List.mem_cons_self)
    exact ⟨p, dx, gs, B, e, rfl, kp.1, kd.1, kp.2 _ q, kd.2 _ q2, OwnF.mono s hb fs gs B r fun a ha => k a (List.mem_cons_of_mem _ (List.mem_cons_of_mem _ ha))⟩
  | .od lk kvs, v, A, h, k => by
    simp only [Own] at h ⊢
    obtain ⟨p, vs, e, rfl, f, q, r⟩ := h
    have kp := k p List.mem_cons_self
    exact ⟨p, vs, e, rfl, kp.1, q.mono kp.2, RepL.mono s _ _ r⟩
  | .odt kvs, v, A, h, k => by
    simp only [Own] at h ⊢
    obtain ⟨p, vs, e, rfl, f, q, r⟩ := h
    have kp := k p List.mem_cons_self
    exact ⟨p, vs, e, rfl, kp.1, kp.2 _ q, RepL.mono s _ _ r⟩
theorem OwnL.mono {br br' : Nat → List Pa → V → Prop} {F H F' H' : Hp} (s : Same F F') (hb : ∀ i p v, br i p v → br' i p v) : ∀ (ms : List M) (vs : List V) (A : List Addr), OwnL K br F H ms vs A → (∀ a ∈ A, F' a = none ∧ ∀ o, H a = some o → H' a = some o) → OwnL K br' F' H' ms vs A
  | [], vs, A, h, k => by simpa only [OwnL] using h
  | m :: ms, vs, A, h, k => by
    simp only [OwnL] at h ⊢
    obtain ⟨v, r, B, C, e, rfl, q, q2⟩ := h
    exact ⟨v, r, B, C, e, rfl, Own.mono s hb m v B q fun a ha => k a (List.mem_append_left _ ha), OwnL.mono s hb ms r C q2 fun a ha => k a (List.mem_append_right _ ha)⟩
theorem OwnF.mono {br br' : Nat → List Pa → V → Prop} {F H F' H' : Hp} (s : Same F F') (hb : ∀ i p v, br i p v → br' i p v) : ∀ (ms : List (Str × M)) (vs : List (Str × V)) (A : List Addr), OwnF K br F H ms vs A → (∀ a ∈ A, F' a = none ∧ ∀ o, H a = some o → H' a = some o) → OwnF K br' F' H' ms vs A
  | [], vs, A, h, k => by simpa only [OwnF] using h
  | m :: ms, vs, A, h, k => by
    simp only [OwnF] at h ⊢
    obtain ⟨v, r, B, C, e, rfl, q, q2⟩ := h
    exact ⟨v, r, B, C, e, rfl, Own.mono s hb m.2 v B q fun a ha => k a (List.mem_append_left _ ha), OwnF.mono s hb ms r C q2 fun a ha => k a (List.mem_append_right _ ha)⟩
end
mutual
/-- the nodes stand in H and not in F -/
theorem Own.at {br : Nat → List Pa → V → Prop} {F H : Hp} : ∀ (m : M) (v : V) (A : List Addr), Own K br F H m v A → ∀ a ∈ A, F a = none ∧ ∃ o, H a = some o
  | .fz d, v, A, h => by
    simp only [Own] at h
    rw [h.1]
    intro a ha
    cases ha
  | .bp i p, v, A, h => by
    simp only [Own] at h
    rw [h.1]
    intro a ha
    cases ha
  | .ol ms, v, A, h => by
    simp only [Own] at h
    obtain ⟨p, vs, B, e, rfl, f, q, r⟩ := h
    intro a ha
    rcases List.mem_cons.mp ha with rfl | ha
    · exact ⟨f, _, q⟩
    · exact OwnL.at ms vs B r a ha
  | .ot ms, v, A, h => by
    simp only [Own] at h
    obtain ⟨p, vs, B, e, rfl, f, q, r⟩ := h
    intro a ha
    rcases List.mem_cons.mp ha with rfl | ha
    · exact ⟨f, _, q⟩
    · exact OwnL.at ms vs B r a ha
  | .oi C fs, v, A, h => by
    simp only [Own] at h
    obtain ⟨p, dx, gs, B, e, rfl, f, f2, q, q2, r⟩ := h
    intro a ha
    rcases List.mem_cons.mp ha with rfl | ha
    · exact ⟨f, _, q⟩
    rcases List.mem_cons.mp ha with rfl | ha
    · exact ⟨f2, _, q2⟩
    · exact OwnF.at fs gs B r a ha
  | .od lk kvs, v, A, h => by
    simp only [Own] at h
    obtain ⟨p, vs, e, rfl, f, q, r⟩ := h
    intro a ha
    rw [List.mem_singleton.mp ha]
    exact ⟨f, q.there⟩
  | .odt kvs, v, A, h => by
    simp only [Own] at h
    obtain ⟨p, vs, e, rfl, f, q, r⟩ := h
    intro a ha
    rw [List.mem_singleton.mp ha]
    exact ⟨f, _, q⟩
theorem OwnL.at {br : Nat → List Pa → V → Prop} {F H : Hp} : ∀ (ms : List M) (vs : List V) (A : List Addr), OwnL K br F H ms vs A → ∀ a ∈ A, F a = none ∧ ∃ o, H a = some o
  | [], vs, A, h => by
    simp only [OwnL] at h
    rw [h.2]
    intro a ha
    cases ha
  | m :: ms, vs, A, h => by
    simp only [OwnL] at h
    obtain ⟨v, r, B, C, e, rfl, q, q2⟩ := h
    intro a ha
    rcases List.mem_append.mp ha with ha | ha
    · exact Own.at m v B q a ha
    · exact OwnL.at ms r C q2 a ha
theorem OwnF.at {br : Nat → List Pa → V → Prop} {F H : Hp} : ∀ (ms : List (Str × M)) (vs : List (Str × V)) (A : List Addr), OwnF K br F H ms vs A → ∀ a ∈ A, F a = none ∧ ∃ o, H a = some o
  | [], vs, A, h => by
    simp only [OwnF] at h
    rw [h.2]
    intro a ha
    cases ha
  | m :: ms, vs, A, h => by
    simp only [OwnF] at h
    obtain ⟨v, r, B, C, e, rfl, q, q2⟩ := h
    intro a ha
    rcases List.mem_append.mp ha with ha | ha
    · exact Own.at m.2 v B q a ha
    · exact OwnF.at ms r C q2 a ha
end
theorem same_frz {F H : Hp} {A : List Addr} (s : Same F H) : Same F (frz F H A) := fun b o e => by
  unfold frz
  split
  · exact s _ _ e
  · exact e
theorem frz_same {F H : Hp} {A : List Addr} (s : Same F H) : Same (frz F H A) H := fun b o e => by
  unfold frz at e
  split at e
  · exact e
  · exact s _ _ e
end
mutual
/-- the data of a tree, bp: those of the places -/
def datW (bp : Nat → List Pa → Option D) : M → Option D
  | .fz d => some d
  | .bp i p => bp i p
  | .ol ms => (datWL bp ms).map D.lst
  | .ot ms => (datWL bp ms).map D.tup
  | .oi C fs => (datWF bp fs).map (D.ins C)
  | .od _ kvs => some (.dic (kvs.map (·.1)) (kvs.map (·.2)))
  | .odt _ => none
def datWL (bp : Nat → List Pa → Option D) : List M → Option (List D)
  | [] => some []
  | m :: ms => match datW bp m, datWL bp ms with
    | some d, some ds => some (d :: ds)
    | _, _ => none
def datWF (bp : Nat → List Pa → Option D) : List (Str × M) → Option (List (Str × D))
  | [] => some []
  | m :: ms => match datW bp m.2, datWF bp ms with
    | some d, some ds => some ((m.1, d) :: ds)
    | _, _ => none
end
/-- a clean tree's data -/
def dat0 : M → Option D := datW fun _ _ => none
def getF : List (Str × M) → Str → Option M
  | [], _ => none
  | p :: r, f => if p.1 = f then some p.2 else getF r f
def setF : List (Str × M) → Str → M → List (Str × M)
  | [], f, m => [(f, m)]
  | p :: r, f, m => if p.1 = f then (f, m) :: r else p :: setF r f m
def getP : M → List Pa → Option M
  | m, [] => some m
  | .ol ms, .ix k :: r => match ms[k]? with
    | some m => getP m r
    | none => none
  | .ot ms, .ix k :: r => match ms[k]? with
    | some m => getP m r
    | none => none
  | .oi _ fs, .fd f :: r => match getF fs f with
    | some m => getP m r
    | none => none
  | _, _ => none
def setP : M → List Pa → M → Option M
  | _, [], n => some n
  | .ol ms, .ix k :: r, n => match ms[k]? with
    | some m => (setP m r n).map fun m' => .ol (ms.set k m')
    | none => none
  | .ot ms, .ix k :: r, n => match ms[k]? with
    | some m => (setP m r n).map fun m' => .ot (ms.set k m')
    | none => none
  | .oi C fs, .fd f :: r, n => match getF fs f with
    | some m => (setP m r n).map fun m' => .oi C (setF fs f m')
    | none => none
  | _, _, _ => none
/-- the slots: a tree each, or nothing known -/
abbrev En := List (Option M)
def En.get (env : En) (i : Nat) : Option M := match env[i]? with
  | some (some m) => some m
  | _ => none
def En.place (env : En) (i : Nat) (p : List Pa) : Option M := match env.get i with
  | some m => getP m p
  | none => none
/-- the data of a result -/
def dat (env : En) : M → Option D := datW fun i p => match env.place i p with
  | some m => dat0 m
  | none => none
section
variable {K : PySem.W.Frag}
mutual
theorem datW_ok {br : Nat → List Pa → V → Prop} {bp : Nat → List Pa → Option D} {F H G : Hp} (s : Same F G) (hb : ∀ i p v d, br i p v → bp i p = some d → Rep K G d v) : ∀ (m : M) (v : V) (A : List Addr) (d : D), Own K br F H m v A → datW bp m = some d → (∀ a ∈ A, ∀ o, H a = some o → G a = some o) → Rep K G d v
  | .fz d, v, A, d', h, e, hA => by
    simp only [Own, datW, Option.some.injEq] at h e
    subst e
    exact Rep.mono s _ _ h.2
  | .bp i p, v, A, d', h, e, hA => by
    simp only [Own, datW] at h e
    exact hb i p v d' h.2 e
  | .ol ms, v, A, d', h, e, hA => by
    simp only [Own, datW, Option.map_eq_some_iff] at h e
    obtain ⟨p, vs, B, rfl, rfl, f, q, r⟩ := h
    obtain ⟨ds, e, rfl⟩ := e
    simp only [Rep]
    exact ⟨p, vs, rfl, hA p List.mem_cons_self _ q, datWL_ok s hb ms vs B ds r e fun a ha => hA a (List.mem_cons_of_mem _ ha)⟩
  | .ot ms, v, A, d', h, e, hA => by
    simp only [Own, datW, Option.map_eq_some_iff] at h e
    obtain ⟨p, vs, B, rfl, rfl, f, q, r⟩ := h
    obtain ⟨ds, e, rfl⟩ := e
    simp only [Rep]
    exact ⟨p, vs, rfl, hA p List.mem_cons_self _ q, datWL_ok s hb ms vs B ds r e fun a ha => hA a (List.mem_cons_of_mem _ ha)⟩
  | .oi C fs, v, A, d', h, e, hA => by
    simp only [Own, datW, Option.map_eq_some_iff] at h e
    obtain ⟨p, dx, gs, B, rfl, rfl, f, f2, q, q2, r⟩ := h
    obtain ⟨ds, e, rfl⟩ := e
    simp only [Rep]
    exact ⟨p, dx, gs, rfl, hA p List.mem_cons_self _ q, hA dx (List.mem_cons_of_mem _ List.mem_cons_self) _ q2, datWF_ok s hb fs gs B ds r e fun a ha => hA a (List.mem_cons_of_mem _ (List.mem_cons_of_mem _ ha))⟩
  | .od lk kvs, v, A, d', h, e, hA => by
    simp only [Own, datW, Option.some.injEq] at h e
    subst e
    obtain ⟨p, vs, rfl, rfl, f, q, r⟩ := h
    simp only [Rep]
    refine ⟨p, vs, rfl, by simp, ?_, RepL.mono s _ _ r⟩
    rcases q with ⟨_, q⟩ | ⟨_, od, q⟩
    · exact .inl (hA p List.mem_cons_self _ q)
    · exact .inr ⟨od, hA p List.mem_cons_self _ q⟩
  | .odt kvs, v, A, d', h, e, hA => by
    simp only [datW] at e
    cases e
theorem datWL_ok {br : Nat → List Pa → V → Prop} {bp : Nat → List Pa → Option D} {F H G : Hp} (s : Same F G) (hb : ∀ i p v d, br i p v → bp i p = some d → Rep K G d v) : ∀ (ms : List M) (vs : List V) (A : List Addr) (ds : List D), OwnL K br F H ms vs A → datWL bp ms = some ds → (∀ a ∈ A, ∀ o, H a = some o → G a = some o) → RepL K G ds vs
  | [], vs, A, ds, h, e, hA => by
    simp only [OwnL, datWL, Option.some.injEq] at h e
    subst e
    simp only [RepL]
    exact h.1
  | m :: ms, vs, A, ds, h, e, hA => by
    simp only [OwnL] at h
    obtain ⟨v, r, B, C, rfl, rfl, q, q2⟩ := h
    simp only [datWL] at e
    split at e
    · rename_i d ds' e1 e2
      cases e
      simp only [RepL]
      exact ⟨v, r, rfl, datW_ok s hb m v B d q e1 (fun a ha => hA a (List.mem_append_left _ ha)), datWL_ok s hb ms r C ds' q2 e2 fun a ha => hA a (List.mem_append_right _ ha)⟩
    · cases e
theorem datWF_ok {br : Nat → List Pa → V → Prop} {bp : Nat → List Pa → Option D} {F H G : Hp} (s : Same F G) (hb : ∀ i p v d, br i p v → bp i p = some d → Rep K G d v) : ∀ (ms : List (Str × M)) (vs : List (Str × V)) (A : List Addr) (ds : List (Str × D)), OwnF K br F H ms vs A → datWF bp ms = some ds → (∀ a ∈ A, ∀ o, H a = some o → G a = some o) → RepF K G ds vs
  | [], vs, A, ds, h, e, hA => by
    simp only [OwnF, datWF, Option.some.injEq] at h e
    subst e
    simp only [RepF]
    exact h.1
  | m :: ms, vs, A, ds, h, e, hA => by
    simp only [OwnF] at h
    obtain ⟨v, r, B, C, rfl, rfl, q, q2⟩ := h
    simp only [datWF] at e
    split at e
    · rename_i d ds' e1 e2
      cases e
      simp only [RepF]
      exact ⟨v, r, rfl, datW_ok s hb m.2 v B d q e1 (fun a ha => hA a (List.mem_append_left _ ha)), datWF_ok s hb ms r C ds' q2 e2 fun a ha => hA a (List.mem_append_right _ ha)⟩
    · cases e
end
end
end T2
end
section
set_option Elab.async false
set_option linter.all false
set_option maxRecDepth 100000
namespace T2
open PySem PySem.Spec PyProof.Rows L2
def ValP (H : Hp) : V → List Pa → V → Prop
  | w, [], v => v = w
  | w, .ix k :: r, v => ∃ a vs u, w = .ref a ∧ (H a = some (.lst vs) ∨ H a = some (.tup vs)) ∧ vs[k]? = some u ∧ ValP H u r v
  | w, .fd f :: r, v => ∃ a C dx gs u, w = .ref a ∧ H a = some (.ins C dx gs) ∧ gs.lookup f = some u ∧ ValP H u r v
theorem ValP.mono {H H' : Hp} (s : Same H H') : ∀ {p : List Pa} {w v : V}, ValP H w p v → ValP H' w p v
  | [], w, v, h => h
  | .ix k :: r, w, v, h => by
    obtain ⟨a, vs, u, e, q, g, h⟩ := h
    exact ⟨a, vs, u, e, q.imp (s _ _) (s _ _), g, ValP.mono s h⟩
  | .fd f :: r, w, v, h => by
    obtain ⟨a, C, dx, gs, u, e, q, g, h⟩ := h
    exact ⟨a, C, dx, gs, u, e, s _ _ q, g, ValP.mono s h⟩
theorem OwnL.get {K : PySem.W.Frag} {br : Nat → List Pa → V → Prop} {F H : Hp} : ∀ {ms : List M} {vs : List V} {A : List Addr} {k : Nat} {m : M}, OwnL K br F H ms vs A → ms[k]? = some m → ∃ v B, vs[k]? = some v ∧ Own K br F H m v B ∧ B.Sublist A
  | [], vs, A, k, m, h, e => by cases e
  | n :: ms, vs, A, 0, m, h, e => by
    simp only [OwnL] at h
    obtain ⟨v, r, B, C, rfl, rfl, q, q2⟩ := h
    cases e
    exact ⟨v, B, rfl, q, List.sublist_append_left B C⟩
  | n :: ms, vs, A, k + 1, m, h, e => by
    simp only [OwnL] at h
    obtain ⟨v, r, B, C, rfl, rfl, q, q2⟩ := h
    obtain ⟨w, D, e1, e2, e3⟩ := OwnL.get (k := k) q2 (by simpa using e)
    exact ⟨w, D, by simpa using e1, e2, e3.trans (List.sublist_append_right B C)⟩
theorem OwnL.len {K : PySem.W.Frag} {br : Nat → List Pa → V → Prop} {F H : Hp} : ∀ {ms : List M} {vs : List V} {A : List Addr}, OwnL K br F H ms vs A → ms.length = vs.length
  | [], vs, A, h => by
    simp only [OwnL] at h
    rw [h.1]
    rfl
  | n :: ms, vs, A, h => by
    simp only [OwnL] at h
    obtain ⟨v, r, B, C, rfl, rfl, q, q2⟩ := h
    simp only [List.length_cons, OwnL.len q2]
theorem OwnF.get {K : PySem.W.Frag} {br : Nat → List Pa → V → Prop} {F H : Hp} : ∀ {ms : List (Str × M)} {vs : List (Str × V)} {A : List Addr} {f : Str} {m : M}, OwnF K br F H ms vs A → getF ms f = some m → ∃ v B, vs.lookup f = some v ∧ Own K br F H m v B ∧ B.Sublist A
  | [], vs, A, k, m, h, e => by cases e
  | n :: ms, vs, A, f, m, h, e => by
    simp only [OwnF] at h
    obtain ⟨v, r, B, C, rfl, rfl, q, q2⟩ := h
    unfold getF at e
    split at e
    · rename_i hf
      cases e
      exact ⟨v, B, by rw [List.lookup_cons, hf]; simp, q, List.sublist_append_left B C⟩
    · rename_i hf
      obtain ⟨w, D, e1, e2, e3⟩ := OwnF.get q2 e
      refine ⟨w, D, ?_, e2, e3.trans (List.sublist_append_right B C)⟩
      rw [List.lookup_cons]
      have : (f == n.1) = false := by simpa using fun z => hf z.symm
      simp only [this, e1]
/-- the subtree at a path stands at the value that is read there -/
theorem Own.path {K : PySem.W.Frag} {F H : Hp} : ∀ {p : List Pa} {m : M} {w : V} {A : List Addr} {n : M} {v : V}, Own K noBr F H m w A → getP m p = some n → ValP H w p v → ∃ B, Own K noBr F H n v B ∧ B.Sublist A
  | [], m, w, A, n, v, h, e, q => by
    have e' : m = n := by
      unfold getP at e
      cases m <;> exact Option.some.inj e
    have q' : v = w := q
    subst e' q'
    exact ⟨A, h, List.Sublist.refl _⟩
  | .ix k :: r, m, w, A, n, v, h, e, q => by
    obtain ⟨a, vs, u, rfl, q, g, q2⟩ := q
    cases m with
    | ol ms =>
      simp only [Own] at h
      obtain ⟨p, vs', B, e1, rfl, f, q3, h⟩ := h
      cases e1
      have : vs = vs' := by rcases q with q | q <;> rw [q3] at q <;> cases q <;> rfl
      subst this
      simp only [getP] at e
      split at e
      · rename_i m' hm
        obtain ⟨u', B', e1, e2, e3⟩ := OwnL.get h hm
        rw [g] at e1
        cases e1
        obtain ⟨C, c1, c2⟩ := Own.path e2 e q2
        exact ⟨C, c1, c2.trans (e3.trans (List.sublist_cons_self _ _))⟩
      · cases e
    | ot ms =>
      simp only [Own] at h
      obtain ⟨p, vs', B, e1, rfl, f, q3, h⟩ := h
      cases e1
      have : vs = vs' := by rcases q with q | q <;> rw [q3] at q <;> cases q <;> rfl
      subst this
      simp only [getP] at e
      split at e
      · rename_i m' hm
        obtain ⟨u', B', e1, e2, e3⟩ := OwnL.get h hm
        rw [g] at e1
        cases e1
        obtain ⟨C, c1, c2⟩ := Own.path e2 e q2
        exact ⟨C, c1, c2.trans (e3.trans (List.sublist_cons_self _ _))⟩
      · cases e
    | fz d => cases e
    | bp i p => cases e
    | oi C fs => cases e
    | od lk kvs => cases e
    | odt _ => cases e
  | .fd f :: r, m, w, A, n, v, h, e, q => by
    obtain ⟨a, C, dx, gs, u, rfl, q, g, q2⟩ := q
    cases m with
    | oi C fs =>
      simp only [Own] at h
      obtain ⟨p, dx', gs', B, e1, rfl, f1, f2, q3, q4, h⟩ := h
      cases e1
      rw [q3] at q
      cases q
      simp only [getP] at e
      split at e
      · rename_i m' hm
        obtain ⟨u', B', e1, e2, e3⟩ := OwnF.get h hm
        rw [g] at e1
        cases e1
        obtain ⟨C, c1, c2⟩ := Own.path e2 e q2
        exact ⟨C, c1, c2.trans (e3.trans ((List.sublist_cons_self _ _).trans (List.sublist_cons_self _ _)))⟩
      · cases e
    | fz d => cases e
    | bp i p => cases e
    | ol ms => cases e
    | ot ms => cases e
    | od lk kvs => cases e
    | odt _ => cases e
/-- what holds of the slots -/
structure EnvOk (K : PySem.W.Frag) (F H : Hp) (σ : L2.St) (env : En) (fp : Nat → List Addr) : Prop where
  len : env.length = σ.length
  sub : Same F H
  slot : ∀ i m, env.get i = some m → ∃ v, σ[i]? = some (some v) ∧ Own K noBr F H m v (fp i)
  nd : ∀ i m, env.get i = some m → (fp i).Nodup
  dj : ∀ i j m n a, env.get i = some m → env.get j = some n → a ∈ fp i → a ∈ fp j → i = j
/-- a step that changes nothing that stands; A: temporary nodes that may freeze -/
structure Step (A : List Addr) (F H F' H' : Hp) : Prop where
  fr : Same F F'
  hpA : ∀ b o, H b = some o → b ∉ A → H' b = some o
  stay : ∀ a, H' a = none → H a = none
  sub : Same F' H'
  nw : ∀ a, F' a ≠ none → F a ≠ none ∨ H a = none ∨ a ∈ A
  lok : ∀ a od u, H a = some (.frz od u) → H' a = some (.frz od u)
theorem Step.mk' {A : List Addr} {F H F' H' : Hp} (fr : Same F F') (hp : Same H H') (sub : Same F' H') (nw : ∀ a, F' a ≠ none → F a ≠ none ∨ H a = none ∨ a ∈ A) : Step A F H F' H' := ⟨fr, fun b o e _ => hp b o e, fun a e => hp.free e, sub, nw, fun a od u e => hp _ _ e⟩
theorem Step.hp {F H F' H' : Hp} (s : Step [] F H F' H') : Same H H' := fun b o e => s.hpA b o e (by simp)
theorem Step.refl {F H : Hp} (s : Same F H) : Step [] F H F H := .mk' (Same.refl _) (Same.refl _) s fun a h => .inl h
theorem Step.trans {A : List Addr} {F H F1 H1 F2 H2 : Hp} (s : Step [] F H F1 H1) (t : Step A F1 H1 F2 H2) (hA : ∀ a ∈ A, H a = none) : Step [] F H F2 H2 :=
  ⟨s.fr.trans t.fr, fun b o e _ => t.hpA b o (s.hp b o e) (fun z => by
    rw [hA b z] at e
    cases e), fun a e => s.stay a (t.stay a e), t.sub, fun a h => by
    rcases t.nw a h with h | h | h
    · rcases s.nw a h with h | h | h
      · exact .inl h
      · exact .inr (.inl h)
      · cases h
    · exact .inr (.inl (s.hp.free h))
    · exact .inr (.inl (hA a h)), fun a od u e => t.lok a od u (s.lok a od u e)⟩
/-- the places of slots -/
def plc (H : Hp) (σ : L2.St) (env : En) : Nat → List Pa → V → Prop := fun i p v => ∃ w, σ[i]? = some (some w) ∧ ValP H w p v ∧ ∃ m, env.place i p = some m
theorem plc.mono {H H' : Hp} {σ : L2.St} {env : En} (s : Same H H') : ∀ i p v, plc H σ env i p v → plc H' σ env i p v := fun i p v ⟨w, e, h, m⟩ => ⟨w, e, h.mono s, m⟩
section
variable {K : PySem.W.Frag} {F H F' H' : Hp} {σ : L2.St} {env : En} {fp : Nat → List Addr} {A B : List Addr}
theorem EnvOk.step (ok : EnvOk K F H σ env fp) (s : Step A F H F' H') (hA : ∀ a ∈ A, ∀ i m, env.get i = some m → a ∉ fp i) : EnvOk K F' H' σ env fp := by
  refine ⟨ok.len, s.sub, fun i m e => ?_, ok.nd, ok.dj⟩
  obtain ⟨v, e1, e2⟩ := ok.slot i m e
  refine ⟨v, e1, e2.mono s.fr (fun _ _ _ h => h) _ _ _ fun a ha => ⟨?_, fun o q => s.hpA a o q fun z => hA a z i m e ha⟩⟩
  obtain ⟨h1, o, h2⟩ := e2.at _ _ _ a ha
  cases q : F' a with
  | none => rfl
  | some u =>
    rcases s.nw a (by rw [q]; simp) with z | z | z
    · exact absurd h1 z
    · rw [h2] at z
      cases z
    · exact absurd ha (hA a z i m e)
theorem Own.step {m : M} {v : V} (h : Own K (plc H σ env) F H m v B) (s : Step [] F H F' H') : Own K (plc H' σ env) F' H' m v B := by
  refine h.mono s.fr (plc.mono s.hp) _ _ _ fun a ha => ⟨?_, s.hp a⟩
  obtain ⟨h1, o, h2⟩ := h.at _ _ _ a ha
  cases q : F' a with
  | none => rfl
  | some u =>
    rcases s.nw a (by rw [q]; simp) with z | z | z
    · exact absurd h1 z
    · rw [h2] at z
      cases z
    · cases z
theorem OwnL.step {ms : List M} {vs : List V} (h : OwnL K (plc H σ env) F H ms vs B) (s : Step [] F H F' H') : OwnL K (plc H' σ env) F' H' ms vs B := by
  refine h.mono s.fr (plc.mono s.hp) _ _ _ fun a ha => ⟨?_, s.hp a⟩
  obtain ⟨h1, o, h2⟩ := h.at _ _ _ a ha
  cases q : F' a with
  | none => rfl
  | some u =>
    rcases s.nw a (by rw [q]; simp) with z | z | z
    · exact absurd h1 z
    · rw [h2] at z
      cases z
    · cases z
theorem EnvOk.data (ok : EnvOk K F H σ env fp) {m : M} {v : V} {d : D} (h : Own K (plc H σ env) F H m v B) (e : dat env m = some d) : Rep K H d v := by
  refine datW_ok ok.sub (fun i p v d hp hd => ?_) m v B d h e fun a _ o q => q
  obtain ⟨w, e1, e2, n, e3⟩ := hp
  rw [e3] at hd
  unfold En.place at e3
  split at e3
  · rename_i m' hm
    obtain ⟨w', g1, g2⟩ := ok.slot i m' hm
    rw [e1] at g1
    cases g1
    obtain ⟨C, c1, _⟩ := g2.path e3 e2
    exact datW_ok ok.sub (fun _ _ _ _ z => z.elim) n v C d c1 hd fun a _ o q => q
  · cases e3
theorem EnvOk.dataL (ok : EnvOk K F H σ env fp) {ms : List M} {vs : List V} {ds : List D} (h : OwnL K (plc H σ env) F H ms vs B) (e : datWL (fun i p => match env.place i p with
  | some m => dat0 m
  | none => none) ms = some ds) : RepL K H ds vs := by
  refine datWL_ok ok.sub (fun i p v d hp hd => ?_) ms vs B ds h e fun a _ o q => q
  obtain ⟨w, e1, e2, n, e3⟩ := hp
  rw [e3] at hd
  unfold En.place at e3
  split at e3
  · rename_i m' hm
    obtain ⟨w', g1, g2⟩ := ok.slot i m' hm
    rw [e1] at g1
    cases g1
    obtain ⟨C, c1, _⟩ := g2.path e3 e2
    exact datW_ok ok.sub (fun _ _ _ _ z => z.elim) n v C d c1 hd fun a _ o q => q
  · cases e3
end
theorem own_fz {K : PySem.W.Frag} {br : Nat → List Pa → V → Prop} {F H : Hp} {d : D} {v : V} (h : Rep K F d v) : Own K br F H (.fz d) v [] := by
  simp only [Own]
  exact ⟨trivial, h⟩
theorem own_bp {K : PySem.W.Frag} {br : Nat → List Pa → V → Prop} {F H : Hp} {i : Nat} {p : List Pa} {v : V} (h : br i p v) : Own K br F H (.bp i p) v [] := by
  simp only [Own]
  exact ⟨trivial, h⟩
theorem ownL_nil {K : PySem.W.Frag} {br : Nat → List Pa → V → Prop} {F H : Hp} : OwnL K br F H [] [] [] := by
  simp only [OwnL]
  exact ⟨trivial, trivial⟩
section
variable (K : PySem.W.Frag)
/-- an expression: its result from the slots -/
def tD (f : En → Option M) : TE := fun σ H Q => ∃ env m F fp, f env = some m ∧ EnvOk K F H σ env fp ∧
  ∀ v F' H' A, Step [] F H F' H' → Own K (plc H' σ env) F' H' m v A → A.Nodup → (∀ a ∈ A, H a = none) → Q v H'
def tDA (f : En → Option (List M)) : TA := fun σ H Q => ∃ env ms F fp, f env = some ms ∧ EnvOk K F H σ env fp ∧
  ∀ vs F' H' A, Step [] F H F' H' → OwnL K (plc H' σ env) F' H' ms vs A → A.Nodup → (∀ a ∈ A, H a = none) → Q vs H'
def tDT (f : En → Option Bool) : TT := fun σ H Q => ∃ env b F fp, f env = some b ∧ EnvOk K F H σ env fp ∧ ∀ F' H', Step [] F H F' H' → Q b H'
end
def PD (X : Cx) (e : Expr) (f : En → Option M) : Prop := PE X e (tD X.K f)
def PDA (X : Cx) (es : List Expr) (f : En → Option (List M)) : Prop := PA X es (tDA X.K f)
def PDT (X : Cx) (e : Expr) (f : En → Option Bool) : Prop := PT X e (tDT X.K f)
theorem PE.imp {X : Cx} {e : Expr} {t u : TE} (h : PE X e t) (i : ∀ σ H Q, u σ H Q → t σ H Q) : PE X e u := ⟨fun pins s σ H Q I q => h.run pins s σ H Q I (i _ _ _ q)⟩
theorem PT.imp {X : Cx} {e : Expr} {t u : TT} (h : PT X e t) (i : ∀ σ H Q, u σ H Q → t σ H Q) : PT X e u := ⟨fun pins s σ H Q I q => h.run pins s σ H Q I (i _ _ _ q)⟩
theorem PA.imp {X : Cx} {e : List Expr} {t u : TA} (h : PA X e t) (i : ∀ σ H Q, u σ H Q → t σ H Q) : PA X e u := ⟨fun pos pins s σ H Q I q => h.run pos pins s σ H Q I (i _ _ _ q)⟩
/-- an operation on results, by the layer's rule r on values -/
def OpS (K : PySem.W.Frag) (op : En → List M → Option M) (r : List V → Hp → VK → Prop) : Prop :=
  ∀ (σ : L2.St) (env : En) (F H : Hp) (fp : Nat → List Addr) (ms : List M) (vs : List V) (A : List Addr) (m : M) (Q : VK), EnvOk K F H σ env fp → OwnL K (plc H σ env) F H ms vs A → A.Nodup →
    (∀ a ∈ A, ∀ i n, env.get i = some n → a ∉ fp i) → op env ms = some m →
    (∀ v F' H' B, Step A F H F' H' → Own K (plc H' σ env) F' H' m v B → B.Nodup → (∀ a ∈ B, H a = none ∨ a ∈ A) → Q v H') → r vs H Q
/-- an operation behind an argument list -/
def opr (op : En → List M → Option M) (fs : En → Option (List M)) : En → Option M := fun env => match fs env with
  | some ms => op env ms
  | none => none
section
variable {K : PySem.W.Frag} {F H F' H' : Hp} {σ : L2.St} {env : En} {fp : Nat → List Addr} {A B : List Addr}
/-- behind the arguments: the operation -/
theorem tDA.op {f : En → Option (List M)} {op : En → List M → Option M} {r : List V → Hp → VK → Prop} (ho : OpS K op r) {Q : VK} (h : tD K (opr op f) σ H Q) : tDA K f σ H fun vs H1 => r vs H1 Q := by
  obtain ⟨env, m, F, fp, e, ok, q⟩ := h
  unfold opr at e
  split at e
  · rename_i ms hms
    refine ⟨env, ms, F, fp, hms, ok, fun vs F' H' A s hO hn hA => ?_⟩
    have dj : ∀ a ∈ A, ∀ i n, env.get i = some n → a ∉ fp i := fun a ha i n hi hin => by
      obtain ⟨v, e1, e2⟩ := ok.slot i n hi
      obtain ⟨_, o, z⟩ := e2.at _ _ _ a hin
      rw [hA a ha] at z
      cases z
    refine ho σ env F' H' fp ms vs A m Q (ok.step s fun a ha => by cases ha) hO hn dj e fun v F2 H2 B s2 hB hnB hAB => ?_
    refine q v F2 H2 B (s.trans s2 hA) hB hnB fun a ha => ?_
    rcases hAB a ha with z | z
    · exact s.hp.free z
    · exact hA a z
  · cases e
end
section
variable {X : Cx} {e : Expr} {es : List Expr} {f : En → Option M} {fs : En → Option (List M)} {pos : Pos}
/-- the slots' own names -/
def nam (i : Nat) : En → Option M := fun env => match env.get i with
  | some (.fz d) => some (.fz d)
  | some _ => some (.bp i [])
  | none => none
theorem pd_name (i : Nat) {x : Str} (hN : X.N[i]? = some x := by rfl) (hv : Vis X.env.scope x := by first | exact Or.inl rfl | exact Or.inr (Or.inl rfl) | exact Or.inr (Or.inr rfl)) (hd : (x == ("__debug__" : Str)) = false := by decide)
    (hcd : (x == ("__classdict__" : Str)) = false := by decide) : PD X (.Name x pos) (nam i) := by
  refine PE.imp (pe_var hN hv hd hcd) fun σ H Q h => ?_
  obtain ⟨env, m, F, fp, e, ok, q⟩ := h
  unfold nam at e
  split at e
  · rename_i d hm
    cases e
    obtain ⟨v, e1, e2⟩ := ok.slot i _ hm
    simp only [Own] at e2
    exact ⟨v, e1, q v F H [] (.refl ok.sub) (own_fz e2.2) .nil fun a z => by cases z⟩
  · rename_i m' hne hm
    cases e
    obtain ⟨v, e1, e2⟩ := ok.slot i _ hm
    refine ⟨v, e1, q v F H [] (.refl ok.sub) (own_bp ?_) .nil fun a z => by cases z⟩
    refine ⟨v, e1, rfl, m', ?_⟩
    unfold En.place
    rw [hm]
    unfold getP
    cases m' <;> rfl
  · cases e
def cst (d : D) : En → Option M := fun _ => some (.fz d)
theorem pd_cst {e : Expr} {d : D} (h : PE X e (tC (toV d))) (hs : scal d = true) : PD X e (cst d) := by
  refine PE.imp h fun σ H Q h => ?_
  obtain ⟨env, m, F, fp, e, ok, q⟩ := h
  cases e
  exact q _ F H [] (.refl ok.sub) (own_fz ((rep_sc hs).mpr rfl)) .nil fun a z => by cases z
theorem pd_int {i : Int} {j} : PD X (.Constant (.int i) j pos) (cst (.int i)) := pd_cst (d := .int i) pe_int rfl
theorem pd_bl {b j} : PD X (.Constant (.bool b) j pos) (cst (.bl b)) := pd_cst (d := .bl b) pe_bl rfl
/-- a module's constant -/
theorem pd_glob {x : Str} {d : D} {u : Value} (hg : Gl X x) (hm : X.mg x = some u) (r : RelV (toV d) u) (hs : scal d = true) (hd : (x == ("__debug__" : Str)) = false := by decide) : PD X (.Name x pos) (cst d) := pd_cst (pe_glob hg hm r hd) hs
def aNil : En → Option (List M) := fun _ => some []
def aCons (f : En → Option M) (fs : En → Option (List M)) : En → Option (List M) := fun env => match f env, fs env with
  | some m, some ms => some (m :: ms)
  | _, _ => none
theorem pda_nil : PDA X [] aNil := by
  refine PA.imp pa_nil fun σ H Q h => ?_
  obtain ⟨env, m, F, fp, e, ok, q⟩ := h
  cases e
  exact q [] F H [] (.refl ok.sub) ownL_nil .nil fun a z => by cases z
theorem pda_cons (ha : PD X e f) (hr : PDA X es fs) (hs : starEach (e :: es) X.env = (false, eval e X.env) :: starEach es X.env := by rfl) : PDA X (e :: es) (aCons f fs) := by
  refine PA.imp (pa_cons ha hr hs) fun σ H Q h => ?_
  obtain ⟨env, m, F, fp, e, ok, q⟩ := h
  unfold aCons at e
  split at e
  · rename_i m1 ms e1 e2
    cases e
    refine ⟨env, m1, F, fp, e1, ok, fun v F1 H1 A s1 o1 n1 a1 => ?_⟩
    refine ⟨env, ms, F1, fp, e2, ok.step s1 (fun a z => by cases z), fun vs F2 H2 B s2 o2 n2 a2 => ?_⟩
    have no : ∀ a ∈ A, a ∉ B := fun a ha hb => by
      obtain ⟨_, o, z⟩ := o1.at _ _ _ a ha
      rw [a2 a hb] at z
      cases z
    refine q (v :: vs) F2 H2 (A ++ B) (s1.trans s2 fun a z => by cases z) ?_ ?_ fun a ha => ?_
    · simp only [OwnL]
      exact ⟨v, vs, A, B, rfl, rfl, o1.step s2, o2⟩
    · exact List.nodup_append.mpr ⟨n1, n2, fun a ha b hb e => no a ha (e ▸ hb)⟩
    · rcases List.mem_append.mp ha with z | z
      · exact a1 a z
      · exact s1.hp.free (a2 a z)
  · cases e
end
end T2
end
section
set_option Elab.async false
set_option linter.all false
set_option maxRecDepth 100000
namespace T2
open PySem PySem.Spec PyProof.Rows L2
def plD (env : En) : Nat → List Pa → Option D := fun i p => match env.place i p with
  | some m => dat0 m
  | none => none
def dats (env : En) (ms : List M) : Option (List D) := datWL (plD env) ms
/-- an operation on data that gives a plain value -/
def sop (g : List D → Option D) : En → List M → Option M := fun env ms => match dats env ms with
  | some ds => match g ds with
    | some d => if scal d then some (.fz d) else none
    | none => none
  | none => none
def r2L (r : R2) : List V → Hp → VK → Prop := fun vs H Q => ∃ x y, vs = [x, y] ∧ r x y H Q
def r1L (r : V → Hp → VK → Prop) : List V → Hp → VK → Prop := fun vs H Q => ∃ x, vs = [x] ∧ r x H Q
section
variable {K : PySem.W.Frag}
theorem scalS {g : List D → Option D} {r : List V → Hp → VK → Prop} (hr : ∀ (H : Hp) (ds : List D) (vs : List V) (d : D) (Q : VK), RepL K H ds vs → g ds = some d → scal d = true → Q (toV d) H → r vs H Q) : OpS K (sop g) r := by
  intro σ env F H fp ms vs A m Q ok hO hn dj e q
  unfold sop at e
  split at e
  · rename_i ds hd
    split at e
    · rename_i d hg
      split at e
      · rename_i hs
        cases e
        exact hr H ds vs d Q (ok.dataL hO hd) hg hs (q _ F H [] (.mk' (.refl _) (.refl _) ok.sub fun a h => .inl h) (own_fz ((rep_sc hs).mpr rfl)) .nil fun a z => by cases z)
      · cases e
    · cases e
  · cases e
def oOr (f g : En → List M → Option M) : En → List M → Option M := fun env ms => match f env ms with
  | some m => some m
  | none => g env ms
theorem OpS.or {f g : En → List M → Option M} {r r' : List V → Hp → VK → Prop} (hf : OpS K f r) (hg : OpS K g r') : OpS K (oOr f g) (fun vs H Q => r vs H Q ∨ r' vs H Q) := by
  intro σ env F H fp ms vs A m Q ok hO hn dj e q
  unfold oOr at e
  split at e
  · rename_i m' hm
    cases e
    exact .inl (hf σ env F H fp ms vs A m Q ok hO hn dj hm q)
  · exact .inr (hg σ env F H fp ms vs A m Q ok hO hn dj e q)
theorem OpS.imp {f : En → List M → Option M} {r r' : List V → Hp → VK → Prop} (hf : OpS K f r) (h : ∀ vs H Q, r vs H Q → r' vs H Q) : OpS K f r' := fun σ env F H fp ms vs A m Q ok hO hn dj e q => h _ _ _ (hf σ env F H fp ms vs A m Q ok hO hn dj e q)
theorem OpS.or2 {f g : En → List M → Option M} {r r' : R2} (hf : OpS K f (r2L r)) (hg : OpS K g (r2L r')) : OpS K (oOr f g) (r2L fun x y H Q => r x y H Q ∨ r' x y H Q) :=
  (hf.or hg).imp fun vs H Q h => by
    rcases h with ⟨x, y, e, h⟩ | ⟨x, y, e, h⟩
    · exact ⟨x, y, e, .inl h⟩
    · exact ⟨x, y, e, .inr h⟩
theorem repL1 {H : Hp} {d : D} {vs : List V} (h : RepL K H [d] vs) : ∃ v, vs = [v] ∧ Rep K H d v := by
  simp only [RepL] at h
  obtain ⟨v, r, rfl, q, rfl⟩ := h
  exact ⟨v, rfl, q⟩
theorem repL2 {H : Hp} {d e : D} {vs : List V} (h : RepL K H [d, e] vs) : ∃ v w, vs = [v, w] ∧ Rep K H d v ∧ Rep K H e w := by
  simp only [RepL] at h
  obtain ⟨v, r, rfl, q, w, r', rfl, q', rfl⟩ := h
  exact ⟨v, w, rfl, q, q'⟩
def gII (c : Int → Int → Bool) (f : Int → Int → Int) : List D → Option D
  | [.int i, .int j] => if c i j then some (.int (f i j)) else none
  | _ => none
def gIB (f : Int → Int → Bool) : List D → Option D
  | [.int i, .int j] => some (.bl (f i j))
  | _ => none
theorem sII {c : Int → Int → Bool} {f : Int → Int → Int} {C : Int → Int → Prop} {g : Int → Int → V} (hc : ∀ i j, c i j = true → C i j) (hg : ∀ i j, C i j → g i j = .int (f i j)) : OpS K (sop (gII c f)) (r2L (rI C g)) :=
  scalS fun H ds vs d Q h e hs q => by
    unfold gII at e
    split at e
    · rename_i i j
      split at e
      · rename_i hh
        cases e
        obtain ⟨v, w, rfl, q1, q2⟩ := repL2 h
        simp only [Rep] at q1 q2
        exact ⟨v, w, rfl, i, j, q1, q2, hc i j hh, by rw [hg i j (hc i j hh)]; exact q⟩
      · cases e
    · cases e
theorem sII0 {f : Int → Int → Int} : OpS K (sop (gII (fun _ _ => true) f)) (r2L (rI0 fun i j => .int (f i j))) :=
  scalS fun H ds vs d Q h e hs q => by
    unfold gII at e
    split at e
    · rename_i i j
      cases e
      obtain ⟨v, w, rfl, q1, q2⟩ := repL2 h
      simp only [Rep] at q1 q2
      exact ⟨v, w, rfl, i, j, q1, q2, q⟩
    · cases e
theorem sIB {f : Int → Int → Bool} : OpS K (sop (gIB f)) (r2L (rI0 fun i j => .bl (f i j))) :=
  scalS fun H ds vs d Q h e hs q => by
    unfold gIB at e
    split at e
    · rename_i i j
      cases e
      obtain ⟨v, w, rfl, q1, q2⟩ := repL2 h
      simp only [Rep] at q1 q2
      exact ⟨v, w, rfl, i, j, q1, q2, q⟩
    · cases e
def cMul (i j : Int) : Bool := decide ((Builtin.Int.intBits i : Int) + (Builtin.Int.intBits j : Int) ≤ 134217728)
def cDiv (i j : Int) : Bool := decide (0 < j ∧ j.natAbs.log2 < 9000)
def cMod (i j : Int) : Bool := decide (0 < j)
def cPow (i j : Int) : Bool := decide (0 ≤ j ∧ j ≤ 1000000 ∧ i.natAbs < 2 ^ 64)
def cShr (i j : Int) : Bool := decide (0 ≤ j)
def iAdd := gII (fun _ _ => true) fun i j => i + j
def iSub := gII (fun _ _ => true) fun i j => i - j
def iMul := gII cMul fun i j => i * j
def iDiv := gII cDiv fun i j => i / j
def iMod := gII cMod fun i j => i % j
def iPow := gII cPow fun i j => i ^ j.toNat
def iShl := gII cPow fun i j => i * 2 ^ j.toNat
def iShr := gII cShr fun i j => i / 2 ^ j.toNat
def iAnd := gII (fun _ _ => true) fun i j => Builtin.bitAnd i j
def iOr := gII (fun _ _ => true) fun i j => Builtin.bitOr i j
def iXor := gII (fun _ _ => true) fun i j => Builtin.bitXor i j
theorem s_add : OpS K (sop iAdd) (r2L (rI0 fun i j => .int (i + j))) := sII0
theorem s_sub : OpS K (sop iSub) (r2L (rI0 fun i j => .int (i - j))) := sII0
theorem s_mul : OpS K (sop iMul) (r2L (rI CMulX fun i j => .int (i * j))) := sII (fun i j h => by unfold cMul at h; have h := of_decide_eq_true h; exact h) fun _ _ _ => rfl
theorem s_div : OpS K (sop iDiv) (r2L (rI CDivW fun i j => .int (i / j))) := sII (fun i j h => by unfold cDiv at h; have h := of_decide_eq_true h; exact h) fun _ _ _ => rfl
theorem s_mod : OpS K (sop iMod) (r2L (rI (fun _ j => 0 < j) fun i j => .int (i % j))) := sII (fun i j h => by unfold cMod at h; have h := of_decide_eq_true h; exact h) fun _ _ _ => rfl
theorem s_pow : OpS K (sop iPow) (r2L (rI CPow fun i j => .int (i ^ j.toNat))) := sII (fun i j h => by unfold cPow at h; have h := of_decide_eq_true h; exact h) fun _ _ _ => rfl
theorem s_shl : OpS K (sop iShl) (r2L (rI CPow fun i j => .int (i * 2 ^ j.toNat))) := sII (fun i j h => by unfold cPow at h; have h := of_decide_eq_true h; exact h) fun _ _ _ => rfl
theorem s_shr : OpS K (sop iShr) (r2L (rI (fun _ j => 0 ≤ j) fun i j => .int (i / 2 ^ j.toNat))) := sII (fun i j h => by unfold cShr at h; have h := of_decide_eq_true h; exact h) fun _ _ _ => rfl
theorem s_and : OpS K (sop iAnd) (r2L (rI0 fun i j => .int (Builtin.bitAnd i j))) := sII0
theorem s_or : OpS K (sop iOr) (r2L (rI0 fun i j => .int (Builtin.bitOr i j))) := sII0
theorem s_xor : OpS K (sop iXor) (r2L (rI0 fun i j => .int (Builtin.bitXor i j))) := sII0
def iLt := gIB fun i j => decide (i < j)
def iLe := gIB fun i j => decide (i ≤ j)
def iGt := gIB fun i j => decide (j < i)
def iGe := gIB fun i j => decide (j ≤ i)
theorem s_lt : OpS K (sop iLt) (r2L (rI0 fun i j => .bl (decide (i < j)))) := sIB
theorem s_gt : OpS K (sop iGt) (r2L (rI0 fun i j => .bl (decide (j < i)))) := sIB
theorem s_ge : OpS K (sop iGe) (r2L (rI0 fun i j => .bl (decide (j ≤ i)))) := sIB
/-- texts joined -/
def gStr : List D → Option D
  | [.str x, .str y] => if decide (x.length + y.length ≤ sizeLine) then some (.str (x ++ y)) else none
  | _ => none
theorem s_addS : OpS K (sop gStr) (r2L fun x y H Q => ∃ i j, x = .str i ∧ y = .str j ∧ i.length + j.length ≤ sizeLine ∧ Q (.str (i ++ j)) H) :=
  scalS fun H ds vs d Q h e hs q => by
    unfold gStr at e
    split at e
    · rename_i i j
      split at e
      · rename_i hh
        cases e
        obtain ⟨v, w, rfl, q1, q2⟩ := repL2 h
        simp only [Rep] at q1 q2
        exact ⟨v, w, rfl, i, j, q1, q2, of_decide_eq_true hh, q⟩
      · cases e
    · cases e
/-- one int -/
def gU (f : Int → Int) : List D → Option D
  | [.int i] => some (.int (f i))
  | _ => none
theorem sU {f : Int → Int} : OpS K (sop (gU f)) (r1L (rU fun i => .int (f i))) :=
  scalS fun H ds vs d Q h e hs q => by
    unfold gU at e
    split at e
    · rename_i i
      cases e
      obtain ⟨v, rfl, q1⟩ := repL1 h
      simp only [Rep] at q1
      exact ⟨v, rfl, i, q1, q⟩
    · cases e
mutual
def pyD : D → Option PyData
  | .non => some .none
  | .bl b => some (.bool b)
  | .int i => some (.int i)
  | .str x => some (.str x)
  | .lst ds => (pyDL ds).map .list
  | .tup ds => (pyDL ds).map .tuple
  | .ins _ _ => none
  | .dic _ _ => none
  | .any => none
  | .exc _ _ _ => none
  | .scr ns => some (.list (ns.map .int))
def pyDL : List D → Option (List PyData)
  | [] => some []
  | d :: ds => match pyD d, pyDL ds with
    | some x, some xs => some (x :: xs)
    | _, _ => none
end
theorem dpAll_ints {H : Hp} : ∀ ns : List Int, DpAll K H (ns.map V.int) (ns.map .int)
  | [] => .nil
  | n :: ns => .cons (.int n) (dpAll_ints ns)
mutual
theorem pyD_ok {H : Hp} : ∀ (d : D) (v : V) (x : PyData), Rep K H d v → pyD d = some x → Dp K H v x
  | .non, v, x, h, e => by
    simp only [Rep, pyD, Option.some.injEq] at h e
    subst h e
    exact .non
  | .bl b, v, x, h, e => by
    simp only [Rep, pyD, Option.some.injEq] at h e
    subst h e
    exact .bl b
  | .int b, v, x, h, e => by
    simp only [Rep, pyD, Option.some.injEq] at h e
    subst h e
    exact .int b
  | .str b, v, x, h, e => by
    simp only [Rep, pyD, Option.some.injEq] at h e
    subst h e
    exact .str b
  | .lst ds, v, x, h, e => by
    simp only [Rep, pyD, Option.map_eq_some_iff] at h e
    obtain ⟨a, vs, rfl, q, r⟩ := h
    obtain ⟨xs, e, rfl⟩ := e
    exact .lst (.of q) (pyDL_ok ds vs xs r e)
  | .tup ds, v, x, h, e => by
    simp only [Rep, pyD, Option.map_eq_some_iff] at h e
    obtain ⟨a, vs, rfl, q, r⟩ := h
    obtain ⟨xs, e, rfl⟩ := e
    exact .tup (.of q) (pyDL_ok ds vs xs r e)
  | .ins C fs, v, x, h, e => by cases e
  | .dic _ _, v, x, h, e => by cases e
  | .any, v, x, h, e => by cases e
  | .exc _ _ _, v, x, h, e => by cases e
  | .scr ns, v, x, h, e => by
    simp only [Rep, pyD, Option.some.injEq] at h e
    obtain ⟨a, rfl, q⟩ := h
    subst e
    exact .lst q (dpAll_ints ns)
theorem pyDL_ok {H : Hp} : ∀ (ds : List D) (vs : List V) (xs : List PyData), RepL K H ds vs → pyDL ds = some xs → DpAll K H vs xs
  | [], vs, xs, h, e => by
    simp only [RepL, pyDL, Option.some.injEq] at h e
    subst h e
    exact .nil
  | d :: ds, vs, xs, h, e => by
    simp only [RepL] at h
    obtain ⟨v, r, rfl, q, q2⟩ := h
    simp only [pyDL] at e
    split at e
    · rename_i x xs' e1 e2
      cases e
      exact .cons (pyD_ok d v x q e1) (pyDL_ok ds r xs' q2 e2)
    · cases e
end
/-- equal, as Python has it -/
def gEq (neg : Bool) : List D → Option D
  | [a, b] => match pyD a, pyD b with
    | some x, some y => if SeqAt.shaped x && SeqAt.shaped y then some (.bl (if neg then !PyData.eqv x y else PyData.eqv x y)) else none
    | _, _ => none
  | _ => none
theorem s_eq : OpS K (sop (gEq false)) (r2L (rEqD K)) := scalS fun H ds vs d Q h e hs q => by
  unfold gEq at e
  split at e
  · rename_i a b
    split at e
    · rename_i x y e1 e2
      split at e
      · rename_i hh
        cases e
        obtain ⟨v, w, rfl, q1, q2⟩ := repL2 h
        have hh := Bool.and_eq_true_iff.mp hh
        exact ⟨v, w, rfl, x, y, pyD_ok a v x q1 e1, pyD_ok b w y q2 e2, hh.1, hh.2, q⟩
      · cases e
    · cases e
  · cases e
theorem s_ne : OpS K (sop (gEq true)) (r2L (rNeD K)) := scalS fun H ds vs d Q h e hs q => by
  unfold gEq at e
  split at e
  · rename_i a b
    split at e
    · rename_i x y e1 e2
      split at e
      · rename_i hh
        cases e
        obtain ⟨v, w, rfl, q1, q2⟩ := repL2 h
        have hh := Bool.and_eq_true_iff.mp hh
        exact ⟨v, w, rfl, x, y, pyD_ok a v x q1 e1, pyD_ok b w y q2 e2, hh.1, hh.2, q⟩
      · cases e
    · cases e
  · cases e
end
section
variable {K : PySem.W.Frag}
theorem tDA.cons {f : En → Option M} {fs : En → Option (List M)} {σ : L2.St} {H : Hp} {R : List V → Hp → Prop} (h : tDA K (aCons f fs) σ H R) : tD K f σ H fun v H1 => tDA K fs σ H1 fun vs H2 => R (v :: vs) H2 := by
  obtain ⟨env, m, F, fp, e, ok, q⟩ := h
  unfold aCons at e
  split at e
  · rename_i m1 ms e1 e2
    cases e
    refine ⟨env, m1, F, fp, e1, ok, fun v F1 H1 A s1 o1 n1 a1 => ?_⟩
    refine ⟨env, ms, F1, fp, e2, ok.step s1 (fun a z => by cases z), fun vs F2 H2 B s2 o2 n2 a2 => ?_⟩
    have no : ∀ a ∈ A, a ∉ B := fun a ha hb => by
      obtain ⟨_, o, z⟩ := o1.at _ _ _ a ha
      rw [a2 a hb] at z
      cases z
    refine q (v :: vs) F2 H2 (A ++ B) (s1.trans s2 fun a z => by cases z) ?_ ?_ fun a ha => ?_
    · simp only [OwnL]
      exact ⟨v, vs, A, B, rfl, rfl, o1.step s2, o2⟩
    · exact List.nodup_append.mpr ⟨n1, n2, fun a ha b hb e => no a ha (e ▸ hb)⟩
    · rcases List.mem_append.mp ha with z | z
      · exact a1 a z
      · exact s1.hp.free (a2 a z)
  · cases e
theorem tDA.nil {σ : L2.St} {H : Hp} {R : List V → Hp → Prop} (h : tDA K aNil σ H R) : R [] H := by
  obtain ⟨env, m, F, fp, e, ok, q⟩ := h
  cases e
  exact q [] F H [] (.refl ok.sub) ownL_nil .nil fun a z => by cases z
theorem tD.mono {f : En → Option M} {σ : L2.St} {H : Hp} {Q R : VK} (h : tD K f σ H Q) (i : ∀ v H', Q v H' → R v H') : tD K f σ H R := by
  obtain ⟨env, m, F, fp, e, ok, q⟩ := h
  exact ⟨env, m, F, fp, e, ok, fun v F' H' A a b c d => i _ _ (q v F' H' A a b c d)⟩
theorem tDA.two {f g : En → Option M} {σ : L2.St} {H : Hp} {R : List V → Hp → Prop} (h : tDA K (aCons f (aCons g aNil)) σ H R) : tD K f σ H fun v H1 => tD K g σ H1 fun w H2 => R [v, w] H2 :=
  h.cons.mono fun v H1 h1 => (tDA.cons h1).mono fun w H2 h2 => tDA.nil h2
theorem tDA.one {f : En → Option M} {σ : L2.St} {H : Hp} {R : List V → Hp → Prop} (h : tDA K (aCons f aNil) σ H R) : tD K f σ H fun v H1 => R [v] H1 :=
  h.cons.mono fun v H1 h1 => tDA.nil h1
end
section
variable {X : Cx} {a b : Expr} {fa fb : En → Option M} {pos : Pos} {o : En → List M → Option M}
abbrev bin (o : En → List M → Option M) (f g : En → Option M) : En → Option M := opr o (aCons f (aCons g aNil))
abbrev una (o : En → List M → Option M) (f : En → Option M) : En → Option M := opr o (aCons f aNil)
theorem pd_op2 {e : Expr} {r : R2} {o : En → List M → Option M} (h : PE X e (tOp r (tD X.K fa) (tD X.K fb))) (ho : OpS X.K o (r2L r)) : PD X e (bin o fa fb) := by
  refine PE.imp h fun σ H Q q => ?_
  refine (tDA.op ho q).two.mono fun v H1 h1 => h1.mono fun w H2 h2 => ?_
  obtain ⟨x, y, e, h2⟩ := h2
  cases e
  exact h2
theorem pd_bin {op : Operator} {r : R2} (hr : OpR X (binaryOp op) r) (ho : OpS X.K o (r2L r)) (ha : PD X a fa) (hb : PD X b fb) : PD X (.BinOp a op b pos) (bin o fa fb) := pd_op2 (pe_op hr ha hb) ho
theorem pd_cmp {op : CmpOp} {r : R2} (hr : OpR X (compareOp op) r) (ho : OpS X.K o (r2L r)) (ha : PD X a fa) (hb : PD X b fb) (hm : behindInMarks op b = false) : PD X (.Compare a [op] [b] pos) (bin o fa fb) := pd_op2 (pe_cmpR hr ha hb hm) ho
theorem pd_ixr {r : R2} (hr : IxR X r) (ho : OpS X.K o (r2L r)) (ha : PD X a fa) (hb : PD X b fb) (hs : PlainIx b) : PD X (.Subscript a b pos) (bin o fa fb) := pd_op2 (pe_ix hr ha hb hs) ho
theorem pd_un {op : UnaryOp} {r : V → Hp → VK → Prop} (hr : UnR X (unaryOp op) r) (ho : OpS X.K o (r1L r)) (ha : PD X a fa) : PD X (.UnaryOp op a pos) (una o fa) := by
  refine PE.imp (pe_un hr ha) fun σ H Q q => ?_
  refine (tDA.op ho q).one.mono fun v H1 h1 => ?_
  obtain ⟨x, e, h1⟩ := h1
  cases e
  exact h1
theorem pd_callB {x : Str} {p : Pos} {e : Expr} {es : List Expr} {id : String} {r : List V → Hp → VK → Prop} {fs : En → Option (List M)} (hc : CallR X (.builtin id) r) (ho : OpS X.K o r) (hg : Gl X x) (hm : X.mg x = none) (hv : bootBuiltins x = some (.builtin id)) (ha : PDA X (e :: es) fs)
    (hn : x ≠ "__name__" := by decide) (hdb : (x == ("__debug__" : Str)) = false := by decide)
    (he : starEach (e :: es) X.env = (false, eval e X.env) :: starEach es X.env := by rfl) (hpl : (backTo pos (starEach es X.env)).any (·.1) = false := by rfl) : PD X (.Call (.Name x p) (e :: es) [] pos) (opr o fs) :=
  PE.imp (pe_callB hc hg hm hv ha hn hdb he hpl) fun σ H Q q => tDA.op ho q
end
end T2
end
section
set_option Elab.async false
set_option linter.all false
set_option maxRecDepth 100000
namespace T2
open PySem PySem.Spec PyProof.Rows L2
def allFz : List M → Option (List D)
  | [] => some []
  | .fz d :: ms => match allFz ms with
    | some ds => some (d :: ds)
    | none => none
  | _ :: _ => none
/-- a tuple of results: frozen where all are -/
def mkT (ms : List M) : M := match allFz ms with
  | some ds => .fz (.tup ds)
  | none => .ot ms
/-- a child of a place -/
def kid (i : Nat) (p : List Pa) : Nat → List M → List M
  | _, [] => []
  | k, .fz d :: r => .fz d :: kid i p (k + 1) r
  | k, _ :: r => .bp i (p ++ [.ix k]) :: kid i p (k + 1) r
/-- the items of a list (true) or a tuple (false) -/
def elems (env : En) : M → Option (Bool × List M)
  | .fz (.lst ds) => some (true, ds.map .fz)
  | .fz (.tup ds) => some (false, ds.map .fz)
  | .ol ms => some (true, ms)
  | .ot ms => some (false, ms)
  | .bp i p => match env.place i p with
    | some (.fz (.lst ds)) => some (true, ds.map .fz)
    | some (.fz (.tup ds)) => some (false, ds.map .fz)
    | some (.ol ms) => some (true, kid i p 0 ms)
    | some (.ot ms) => some (false, kid i p 0 ms)
    | _ => none
  | _ => none
section
variable {K : PySem.W.Frag} {F H F' H' : Hp} {σ : L2.St} {env : En} {fp : Nat → List Addr} {A B : List Addr} {br : Nat → List Pa → V → Prop}
theorem ownL_fz : ∀ {ds : List D} {vs : List V}, RepL K F ds vs → OwnL K br F H (ds.map .fz) vs []
  | [], vs, h => by
    simp only [RepL] at h
    subst h
    exact ownL_nil
  | d :: ds, vs, h => by
    simp only [RepL] at h
    obtain ⟨v, r, rfl, q, q2⟩ := h
    simp only [List.map_cons, OwnL]
    exact ⟨v, r, [], [], rfl, rfl, own_fz q, ownL_fz q2⟩
theorem allFz_ok : ∀ {ms : List M} {vs : List V} {A : List Addr} {ds : List D}, OwnL K br F H ms vs A → allFz ms = some ds → RepL K F ds vs ∧ A = []
  | [], vs, A, ds, h, e => by
    cases e
    simp only [OwnL] at h
    simp only [RepL]
    exact h
  | m :: ms, vs, A, ds, h, e => by
    cases m with
    | fz d =>
      simp only [allFz] at e
      split at e
      · rename_i ds' e'
        cases e
        simp only [OwnL, Own] at h
        obtain ⟨v, r, B, C, rfl, rfl, ⟨rfl, q⟩, q2⟩ := h
        obtain ⟨h1, rfl⟩ := allFz_ok q2 e'
        simp only [RepL]
        exact ⟨⟨v, r, rfl, q, h1⟩, rfl⟩
      · cases e
    | bp i p => cases e
    | ol _ => cases e
    | ot _ => cases e
    | oi _ _ => cases e
    | od _ _ => cases e
    | odt _ => cases e
theorem ValP.snoc {H : Hp} {a : Addr} {vs : List V} {k : Nat} {u : V} (q : H a = some (.lst vs) ∨ H a = some (.tup vs)) (g : vs[k]? = some u) : ∀ {p : List Pa} {w : V}, ValP H w p (.ref a) → ValP H w (p ++ [.ix k]) u
  | [], w, h => by
    have h : V.ref a = w := h
    subst h
    exact ⟨a, vs, u, rfl, q, g, rfl⟩
  | .ix j :: r, w, h => by
    obtain ⟨b, vs', u', e, q', g', h⟩ := h
    exact ⟨b, vs', u', e, q', g', ValP.snoc q g h⟩
  | .fd f :: r, w, h => by
    obtain ⟨b, C, dx, gs, u', e, q', g', h⟩ := h
    exact ⟨b, C, dx, gs, u', e, q', g', ValP.snoc q g h⟩
theorem getP_snoc {ms : List M} {k : Nat} {n : M} (hn : ms[k]? = some n) : ∀ {p : List Pa} {m : M}, getP m p = some (.ol ms) ∨ getP m p = some (.ot ms) → getP m (p ++ [.ix k]) = some n
  | [], m, h => by
    have h : m = .ol ms ∨ m = .ot ms := by
      rcases h with h | h
      · exact .inl (by unfold getP at h; cases m <;> exact Option.some.inj h)
      · exact .inr (by unfold getP at h; cases m <;> exact Option.some.inj h)
    rcases h with rfl | rfl
    · show getP (.ol ms) [.ix k] = some n
      simp only [getP, hn]
    · show getP (.ot ms) [.ix k] = some n
      simp only [getP, hn]
  | .ix j :: r, m, h => by
    cases m with
    | ol xs =>
      simp only [List.cons_append, getP] at h ⊢
      cases e : xs[j]? with
      | none => rw [e] at h; simp at h
      | some x => rw [e] at h; exact getP_snoc hn h
    | ot xs =>
      simp only [List.cons_append, getP] at h ⊢
      cases e : xs[j]? with
      | none => rw [e] at h; simp at h
      | some x => rw [e] at h; exact getP_snoc hn h
    | fz d => rcases h with h | h <;> cases h
    | bp i p => rcases h with h | h <;> cases h
    | oi C fs => rcases h with h | h <;> cases h
    | od _ _ => rcases h with h | h <;> cases h
    | odt _ => rcases h with h | h <;> cases h
  | .fd f :: r, m, h => by
    cases m with
    | oi C xs =>
      simp only [List.cons_append, getP] at h ⊢
      cases e : getF xs f with
      | none => rw [e] at h; simp at h
      | some x => rw [e] at h; exact getP_snoc hn h
    | fz d => rcases h with h | h <;> cases h
    | bp i p => rcases h with h | h <;> cases h
    | ol xs => rcases h with h | h <;> cases h
    | ot xs => rcases h with h | h <;> cases h
    | od _ _ => rcases h with h | h <;> cases h
    | odt _ => rcases h with h | h <;> cases h
theorem kid_ok {i : Nat} {p : List Pa} {w : V} {a : Addr} {vs : List V} (hw : σ[i]? = some (some w)) (hv : ValP H w p (.ref a)) (q : H a = some (.lst vs) ∨ H a = some (.tup vs)) :
    ∀ {r : List M} {us : List V} {C : List Addr} (k : Nat), (∀ (j : Nat) (n : M), r[j]? = some n → (env.place i (p ++ [.ix (k + j)])) = some n) → (∀ j, us[j]? = vs[k + j]?) → OwnL K noBr F H r us C → OwnL K (plc H σ env) F H (kid i p k r) us []
  | [], us, C, k, hp, hu, h => by
    simp only [OwnL] at h
    rw [h.1]
    exact ownL_nil
  | n :: r, us, C, k, hp, hu, h => by
    simp only [OwnL] at h
    obtain ⟨v, us', B, C, rfl, rfl, h1, h2⟩ := h
    have ih := kid_ok hw hv q (k + 1) (fun j n' e => by rw [Nat.add_assoc, Nat.add_comm 1 j]; exact hp (j + 1) n' (by simpa using e)) (fun j => by
      have := hu (j + 1)
      rw [Nat.add_assoc, Nat.add_comm 1 j]
      simpa using this) h2
    have hk : vs[k]? = some v := by
      have := hu 0
      simpa using this.symm
    have bpk : Own K (plc H σ env) F H (.bp i (p ++ [.ix k])) v [] := own_bp ⟨w, hw, hv.snoc q hk, n, by
      have := hp 0 n rfl
      simpa using this⟩
    cases n with
    | fz d =>
      simp only [Own] at h1
      simp only [kid, OwnL]
      exact ⟨v, us', [], [], rfl, rfl, own_fz h1.2, ih⟩
    | bp j p' => simp only [Own, noBr] at h1; exact h1.2.elim
    | ol _ => simp only [kid, OwnL]; exact ⟨v, us', [], [], rfl, rfl, bpk, ih⟩
    | ot _ => simp only [kid, OwnL]; exact ⟨v, us', [], [], rfl, rfl, bpk, ih⟩
    | oi _ _ => simp only [kid, OwnL]; exact ⟨v, us', [], [], rfl, rfl, bpk, ih⟩
    | od _ _ => simp only [kid, OwnL]; exact ⟨v, us', [], [], rfl, rfl, bpk, ih⟩
    | odt _ => simp only [kid, OwnL]; exact ⟨v, us', [], [], rfl, rfl, bpk, ih⟩
theorem elems_ok (ok : EnvOk K F H σ env fp) {m : M} {v : V} {b : Bool} {ms : List M} (h : Own K (plc H σ env) F H m v A) (e : elems env m = some (b, ms)) :
    ∃ a vs B, v = .ref a ∧ (b = true → H a = some (.lst vs)) ∧ (b = false → H a = some (.tup vs)) ∧ OwnL K (plc H σ env) F H ms vs B ∧ B.Sublist A := by
  cases m with
  | fz d =>
    cases d with
    | lst ds =>
      cases e
      simp only [Own, Rep] at h
      obtain ⟨rfl, a, vs, rfl, q, r⟩ := h
      exact ⟨a, vs, [], rfl, fun _ => ok.sub _ _ q, (fun z => nomatch z), ownL_fz r, List.Sublist.refl _⟩
    | tup ds =>
      cases e
      simp only [Own, Rep] at h
      obtain ⟨rfl, a, vs, rfl, q, r⟩ := h
      exact ⟨a, vs, [], rfl, (fun z => nomatch z), fun _ => ok.sub _ _ q, ownL_fz r, List.Sublist.refl _⟩
    | non => cases e
    | bl _ => cases e
    | int _ => cases e
    | str _ => cases e
    | ins _ _ => cases e
    | dic _ _ => cases e
    | any => cases e
    | exc _ _ _ => cases e
    | scr _ => cases e
  | ol xs =>
    cases e
    simp only [Own] at h
    obtain ⟨p, vs, B, rfl, rfl, f, q, r⟩ := h
    exact ⟨p, vs, B, rfl, fun _ => q, (fun z => nomatch z), r, List.sublist_cons_self _ _⟩
  | ot xs =>
    cases e
    simp only [Own] at h
    obtain ⟨p, vs, B, rfl, rfl, f, q, r⟩ := h
    exact ⟨p, vs, B, rfl, (fun z => nomatch z), fun _ => q, r, List.sublist_cons_self _ _⟩
  | oi C fs => cases e
  | od _ _ => cases e
  | odt _ => cases e
  | bp i p =>
    simp only [Own] at h
    obtain ⟨rfl, w, hw, hv, n, hn⟩ := h
    simp only [elems, hn] at e
    have hn' := hn
    unfold En.place at hn
    split at hn
    · rename_i m' hm
      obtain ⟨w', g1, g2⟩ := ok.slot i m' hm
      rw [hw] at g1
      cases g1
      obtain ⟨C, c1, _⟩ := g2.path hn hv
      have pl : ∀ (k : Nat) (ms : List M) (x : M), (getP m' p = some (.ol ms) ∨ getP m' p = some (.ot ms)) → ms[k]? = some x → env.place i (p ++ [.ix k]) = some x := fun k ms x z1 z2 => by
        unfold En.place
        rw [hm]
        exact getP_snoc z2 z1
      cases n with
      | fz d =>
        cases d with
        | lst ds =>
          cases e
          simp only [Own, Rep] at c1
          obtain ⟨rfl, a, vs, rfl, q, r⟩ := c1
          exact ⟨a, vs, [], rfl, fun _ => ok.sub _ _ q, (fun z => nomatch z), ownL_fz r, List.Sublist.refl _⟩
        | tup ds =>
          cases e
          simp only [Own, Rep] at c1
          obtain ⟨rfl, a, vs, rfl, q, r⟩ := c1
          exact ⟨a, vs, [], rfl, (fun z => nomatch z), fun _ => ok.sub _ _ q, ownL_fz r, List.Sublist.refl _⟩
        | non => cases e
        | bl _ => cases e
        | int _ => cases e
        | str _ => cases e
        | ins _ _ => cases e
        | dic _ _ => cases e
        | any => cases e
        | exc _ _ _ => cases e
        | scr _ => cases e
      | ol xs =>
        cases e
        simp only [Own] at c1
        obtain ⟨a, vs, B, rfl, rfl, f, q, r⟩ := c1
        exact ⟨a, vs, [], rfl, fun _ => q, (fun z => nomatch z), kid_ok hw hv (.inl q) 0 (fun j x z => by rw [Nat.zero_add]; exact pl j xs x (.inl hn) z) (fun j => by rw [Nat.zero_add]) r, List.Sublist.refl _⟩
      | ot xs =>
        cases e
        simp only [Own] at c1
        obtain ⟨a, vs, B, rfl, rfl, f, q, r⟩ := c1
        exact ⟨a, vs, [], rfl, (fun z => nomatch z), fun _ => q, kid_ok hw hv (.inr q) 0 (fun j x z => by rw [Nat.zero_add]; exact pl j xs x (.inr hn) z) (fun j => by rw [Nat.zero_add]) r, List.Sublist.refl _⟩
      | bp _ _ => cases e
      | oi _ _ => cases e
      | od _ _ => cases e
      | odt _ => cases e
    · cases hn
/-- a new list -/
theorem newL (ok : EnvOk K F H σ env fp) {ms : List M} {vs : List V} {p : Addr} (h : OwnL K (plc H σ env) F H ms vs B) (hB : B.Sublist A) (hn : A.Nodup) (hp : H p = none) {Q : VK}
    (q : ∀ v F' H' B, Step A F H F' H' → Own K (plc H' σ env) F' H' (.ol ms) v B → B.Nodup → (∀ a ∈ B, H a = none ∨ a ∈ A) → Q v H') : Q (.ref p) (upd H p (.lst vs)) := by
  have s : Same H (upd H p (.lst vs)) := fun b o e => by rw [upd_ne (ne_of_none e hp)]; exact e
  have np : p ∉ B := fun z => by
    obtain ⟨_, o, e⟩ := h.at _ _ _ p z
    rw [hp] at e
    cases e
  have fp0 : F p = none := ok.sub.free hp
  refine q (.ref p) F _ (p :: B) (.mk' (.refl _) s (ok.sub.trans s) fun a h => .inl h) ?_ (List.nodup_cons.mpr ⟨np, hn.sublist hB⟩) fun a ha => ?_
  · simp only [Own]
    exact ⟨p, vs, B, rfl, rfl, fp0, upd_same, h.mono (.refl _) (plc.mono s) _ _ _ fun a ha => ⟨(h.at _ _ _ a ha).1, s a⟩⟩
  · rcases List.mem_cons.mp ha with rfl | ha
    · exact .inl hp
    · exact .inr (hB.subset ha)
/-- a new tuple -/
theorem newT (ok : EnvOk K F H σ env fp) {ms : List M} {vs : List V} {p : Addr} (h : OwnL K (plc H σ env) F H ms vs B) (hB : B.Sublist A) (hn : A.Nodup) (hp : H p = none) {Q : VK}
    (q : ∀ v F' H' B, Step A F H F' H' → Own K (plc H' σ env) F' H' (mkT ms) v B → B.Nodup → (∀ a ∈ B, H a = none ∨ a ∈ A) → Q v H') : Q (.ref p) (upd H p (.tup vs)) := by
  have s : Same H (upd H p (.tup vs)) := fun b o e => by rw [upd_ne (ne_of_none e hp)]; exact e
  have fp0 : F p = none := ok.sub.free hp
  unfold mkT at q
  split at q
  · rename_i ds hd
    obtain ⟨r, _⟩ := allFz_ok h hd
    have sF : Same F (upd F p (.tup vs)) := fun b o e => by rw [upd_ne (ne_of_none e fp0)]; exact e
    refine q (.ref p) (upd F p (.tup vs)) _ [] (.mk' sF s (fun b o e => ?_) fun a z => ?_) (own_fz ?_) .nil fun a z => by cases z
    · by_cases hb : b = p
      · subst hb
        rw [upd_same] at e ⊢
        exact e
      · rw [upd_ne hb] at e ⊢
        exact ok.sub _ _ e
    · by_cases hb : a = p
      · subst hb
        exact .inr (.inl hp)
      · rw [upd_ne hb] at z
        exact .inl z
    · simp only [Rep]
      exact ⟨p, vs, rfl, upd_same, RepL.mono sF _ _ r⟩
  · have np : p ∉ B := fun z => by
      obtain ⟨_, o, e⟩ := h.at _ _ _ p z
      rw [hp] at e
      cases e
    refine q (.ref p) F _ (p :: B) (.mk' (.refl _) s (ok.sub.trans s) fun a h => .inl h) ?_ (List.nodup_cons.mpr ⟨np, hn.sublist hB⟩) fun a ha => ?_
    · simp only [Own]
      exact ⟨p, vs, B, rfl, rfl, fp0, upd_same, h.mono (.refl _) (plc.mono s) _ _ _ fun a ha => ⟨(h.at _ _ _ a ha).1, s a⟩⟩
    · rcases List.mem_cons.mp ha with rfl | ha
      · exact .inl hp
      · exact .inr (hB.subset ha)
/-- a part of what was there -/
theorem keepS (ok : EnvOk K F H σ env fp) {m : M} {v : V} (h : Own K (plc H σ env) F H m v B) (hB : B.Sublist A) (hn : A.Nodup) {Q : VK}
    (q : ∀ v F' H' B, Step A F H F' H' → Own K (plc H' σ env) F' H' m v B → B.Nodup → (∀ a ∈ B, H a = none ∨ a ∈ A) → Q v H') : Q v H :=
  q v F H B (.mk' (.refl _) (.refl _) ok.sub fun a h => .inl h) h (hn.sublist hB) fun a ha => .inr (hB.subset ha)
theorem ownL1 {m : M} {vs : List V} (h : OwnL K br F H [m] vs A) : ∃ v, vs = [v] ∧ Own K br F H m v A := by
  simp only [OwnL] at h
  obtain ⟨v, r, B, C, rfl, rfl, q, rfl, rfl⟩ := h
  rw [List.append_nil]
  exact ⟨v, rfl, q⟩
theorem ownL2 {m n : M} {vs : List V} (h : OwnL K br F H [m, n] vs A) : ∃ v w B C, vs = [v, w] ∧ A = B ++ C ∧ Own K br F H m v B ∧ Own K br F H n w C := by
  simp only [OwnL] at h
  obtain ⟨v, r, B, C, rfl, rfl, q, w, r', D, E, rfl, rfl, q2, rfl, rfl⟩ := h
  rw [List.append_nil]
  exact ⟨v, w, B, D, rfl, rfl, q, q2⟩
theorem OwnL.append : ∀ {ms ns : List M} {vs ws : List V} {A B : List Addr}, OwnL K br F H ms vs A → OwnL K br F H ns ws B → OwnL K br F H (ms ++ ns) (vs ++ ws) (A ++ B)
  | [], ns, vs, ws, A, B, h, h' => by
    simp only [OwnL] at h
    obtain ⟨rfl, rfl⟩ := h
    exact h'
  | m :: ms, ns, vs, ws, A, B, h, h' => by
    simp only [OwnL] at h
    obtain ⟨v, r, C, D, rfl, rfl, q, q2⟩ := h
    simp only [List.cons_append, OwnL]
    exact ⟨v, r ++ ws, C, D ++ B, rfl, by rw [List.append_assoc], q, q2.append h'⟩
theorem OwnL.take : ∀ {ms : List M} {vs : List V} {A : List Addr} (n : Nat), OwnL K br F H ms vs A → ∃ B, OwnL K br F H (ms.take n) (vs.take n) B ∧ B.Sublist A
  | _, vs, A, 0, h => ⟨[], by rw [List.take_zero, List.take_zero]; exact ownL_nil, List.nil_sublist _⟩
  | [], vs, A, n + 1, h => by
    simp only [OwnL] at h
    obtain ⟨rfl, rfl⟩ := h
    exact ⟨[], ownL_nil, List.nil_sublist _⟩
  | m :: ms, vs, A, n + 1, h => by
    simp only [OwnL] at h
    obtain ⟨v, r, C, D, rfl, rfl, q, q2⟩ := h
    obtain ⟨B, h1, h2⟩ := q2.take n
    refine ⟨C ++ B, ?_, List.Sublist.append (List.Sublist.refl _) h2⟩
    simp only [List.take_succ_cons, OwnL]
    exact ⟨v, r.take n, C, B, rfl, rfl, q, h1⟩
theorem OwnL.drop : ∀ {ms : List M} {vs : List V} {A : List Addr} (n : Nat), OwnL K br F H ms vs A → ∃ B, OwnL K br F H (ms.drop n) (vs.drop n) B ∧ B.Sublist A
  | ms, vs, A, 0, h => ⟨A, by rw [List.drop_zero, List.drop_zero]; exact h, List.Sublist.refl _⟩
  | [], vs, A, n + 1, h => by
    simp only [OwnL] at h
    obtain ⟨rfl, rfl⟩ := h
    exact ⟨[], ownL_nil, List.nil_sublist _⟩
  | m :: ms, vs, A, n + 1, h => by
    simp only [OwnL] at h
    obtain ⟨v, r, C, D, rfl, rfl, q, q2⟩ := h
    obtain ⟨B, h1, h2⟩ := q2.drop n
    exact ⟨B, h1, h2.trans (List.sublist_append_right _ _)⟩
end
def oLst : En → List M → Option M := fun _ ms => if ms.length ≤ sizeLine then some (.ol ms) else none
def oTup : En → List M → Option M := fun _ ms => if ms.length ≤ sizeLine then some (mkT ms) else none
section
variable {K : PySem.W.Frag}
theorem s_lst : OpS K oLst (fun xs H Q => xs.length ≤ sizeLine ∧ ∀ p, H p = none → Q (.ref p) (upd H p (.lst xs))) := by
  intro σ env F H fp ms vs A m Q ok hO hn dj e q
  unfold oLst at e
  split at e
  · rename_i hl
    cases e
    exact ⟨by rw [← hO.len]; exact hl, fun p hp => newL ok hO (List.Sublist.refl _) hn hp q⟩
  · cases e
theorem s_tup : OpS K oTup (fun xs H Q => xs.length ≤ sizeLine ∧ ∀ p, H p = none → Q (.ref p) (upd H p (.tup xs))) := by
  intro σ env F H fp ms vs A m Q ok hO hn dj e q
  unfold oTup at e
  split at e
  · rename_i hl
    cases e
    exact ⟨by rw [← hO.len]; exact hl, fun p hp => newT ok hO (List.Sublist.refl _) hn hp q⟩
  · cases e
/-- l[i], t[i] -/
def oIx (b : Bool) : En → List M → Option M := fun env ms => match ms with
  | [m, .fz (.int i)] => match elems env m with
    | some (c, xs) => if c = b then atI xs i else none
    | none => none
  | _ => none
theorem atI_own {br : Nat → List Pa → V → Prop} {F H : Hp} {ms : List M} {vs : List V} {A : List Addr} {i : Int} {m : M} (h : OwnL K br F H ms vs A) (e : atI ms i = some m) : ∃ v B, atI vs i = some v ∧ Own K br F H m v B ∧ B.Sublist A := by
  unfold atI at e ⊢
  rw [h.len] at e
  cases hj : ixN vs.length i with
  | none => rw [hj] at e; cases e
  | some j =>
    rw [hj] at e
    exact h.get e
theorem s_ixL : OpS K (oIx true) (r2L (rIxL K)) := by
  intro σ env F H fp ms vs A m Q ok hO hn dj e q
  unfold oIx at e
  split at e
  · rename_i x i
    split at e
    · rename_i c xs hx
      split at e
      · rename_i hc
        subst hc
        obtain ⟨v, w, B, C, rfl, rfl, h1, h2⟩ := ownL2 hO
        simp only [Own, Rep] at h2
        obtain ⟨rfl, rfl⟩ := h2
        obtain ⟨a, us, D, rfl, hl, _, h3, hs⟩ := elems_ok ok h1 hx
        obtain ⟨u, E, e1, e2, e3⟩ := atI_own h3 e
        exact ⟨_, _, rfl, a, us, i, u, rfl, rfl, SqL.of (hl rfl), e1, keepS ok e2 (e3.trans (hs.trans (List.sublist_append_left _ _))) hn q⟩
      · cases e
    · cases e
  · cases e
theorem s_ixT : OpS K (oIx false) (r2L (rIxT K)) := by
  intro σ env F H fp ms vs A m Q ok hO hn dj e q
  unfold oIx at e
  split at e
  · rename_i x i
    split at e
    · rename_i c xs hx
      split at e
      · rename_i hc
        subst hc
        obtain ⟨v, w, B, C, rfl, rfl, h1, h2⟩ := ownL2 hO
        simp only [Own, Rep] at h2
        obtain ⟨rfl, rfl⟩ := h2
        obtain ⟨a, us, D, rfl, _, hl, h3, hs⟩ := elems_ok ok h1 hx
        obtain ⟨u, E, e1, e2, e3⟩ := atI_own h3 e
        exact ⟨_, _, rfl, a, us, i, u, rfl, rfl, SqT.of (hl rfl), e1, keepS ok e2 (e3.trans (hs.trans (List.sublist_append_left _ _))) hn q⟩
      · cases e
    · cases e
  · cases e
/-- the script at a place; a text at a place -/
def gIxR : List D → Option D
  | [.scr ns, .int i] => match atI ns i with
    | some n => some (.int n)
    | none => none
  | _ => none
def gIxS : List D → Option D
  | [.str z, .int i] => if decide (z.length ≤ sizeLine) then (match atI z.cps.toList i with
    | some c => some (.str ⟨#[c]⟩)
    | none => none) else none
  | _ => none
theorem atI_map {α β : Type} {f : α → β} {xs : List α} {i : Int} {x : α} (h : atI xs i = some x) : atI (xs.map f) i = some (f x) := by
  unfold atI at h ⊢
  rw [List.length_map]
  cases hj : ixN xs.length i with
  | none => rw [hj] at h; cases h
  | some j =>
    rw [hj] at h
    show (xs.map f)[j]? = _
    rw [List.getElem?_map, show xs[j]? = some x from h]
    rfl
theorem s_ixR : OpS K (sop gIxR) (r2L (rIxL K)) := scalS fun H ds vs d Q h e hs q => by
  unfold gIxR at e
  split at e
  · rename_i ns i
    split at e
    · rename_i n hn
      cases e
      obtain ⟨v, w, rfl, q1, q2⟩ := repL2 h
      simp only [Rep] at q1 q2
      obtain ⟨a, rfl, q1⟩ := q1
      exact ⟨_, _, rfl, a, _, i, .int n, rfl, q2, q1, atI_map hn, q⟩
    · cases e
  · cases e
theorem s_ixS : OpS K (sop gIxS) (r2L rIxS) := scalS fun H ds vs d Q h e hs q => by
  unfold gIxS at e
  split at e
  · rename_i z i
    split at e
    · rename_i hl
      split at e
      · rename_i c hc
        cases e
        obtain ⟨v, w, rfl, q1, q2⟩ := repL2 h
        simp only [Rep] at q1 q2
        exact ⟨_, _, rfl, z, i, c, q1, q2, of_decide_eq_true hl, hc, q⟩
      · cases e
    · cases e
  · cases e
/-- o[i] of any of these -/
def oIdx : En → List M → Option M := oOr (oIx true) (oOr (oIx false) (oOr (sop gIxS) (sop gIxR)))
theorem s_idx : OpS K oIdx (r2L fun x y H Q => rIxL K x y H Q ∨ rIxT K x y H Q ∨ rIxS x y H Q) :=
  ((s_ixL.or2 (s_ixT.or2 (s_ixS.or2 s_ixR)))).imp fun vs H Q ⟨x, y, e, h⟩ => ⟨x, y, e, by
    rcases h with h | h | h | h
    · exact .inl h
    · exact .inr (.inl h)
    · exact .inr (.inr h)
    · exact .inl h⟩
/-- lists joined -/
def oCat : En → List M → Option M := fun env ms => match ms with
  | [m, n] => match elems env m, elems env n with
    | some (true, xs), some (true, ys) => if xs.length + ys.length ≤ sizeLine then some (.ol (xs ++ ys)) else none
    | _, _ => none
  | _ => none
theorem s_cat : OpS K oCat (r2L rCat) := by
  intro σ env F H fp ms vs A m Q ok hO hn dj e q
  unfold oCat at e
  split at e
  · rename_i x y
    split at e
    · rename_i xs ys hx hy
      split at e
      · rename_i hl
        cases e
        obtain ⟨v, w, B, C, rfl, rfl, h1, h2⟩ := ownL2 hO
        obtain ⟨a, us, D, rfl, l1, _, h3, s1⟩ := elems_ok ok h1 hx
        obtain ⟨b, ws, E, rfl, l2, _, h4, s2⟩ := elems_ok ok h2 hy
        refine ⟨_, _, rfl, a, b, us, ws, rfl, rfl, l1 rfl, l2 rfl, by rw [← h3.len, ← h4.len]; exact hl, fun p hp => newL ok (h3.append h4) (s1.append s2) hn hp q⟩
      · cases e
    · cases e
  · cases e
end
section
variable {X : Cx} {es : List Expr} {fs : En → Option (List M)} {pos : Pos}
theorem pd_lst (h : PDA X es fs) : PD X (.List es pos) (opr oLst fs) := PE.imp (pe_lst h) fun σ H Q q => tDA.op s_lst q
theorem pd_tup {x1} (h : PDA X es fs) : PD X (.Tuple es x1 pos) (opr oTup fs) := PE.imp (pe_tup h) fun σ H Q q => tDA.op s_tup q
end
end T2
end
section
set_option Elab.async false
set_option linter.all false
set_option maxRecDepth 100000
namespace T2
open PySem PySem.Spec PyProof.Rows L2
/-- the nodes of the slots -/
def Ond (env : En) (fp : Nat → List Addr) (a : Addr) : Prop := ∃ i m, env.get i = some m ∧ a ∈ fp i
/-- from one state to a later one; T: temporary nodes that may freeze -/
structure Go (K : PySem.W.Frag) (T : List Addr) (σ : L2.St) (env : En) (fp : Nat → List Addr) (F H : Hp) (σ' : L2.St) (env' : En) (fp' : Nat → List Addr) (F' H' : Hp) : Prop where
  fr : Same F F'
  keep : ∀ a o, H a = some o → ¬ Ond env fp a → a ∉ T → H' a = some o
  stay : ∀ a, H' a = none → H a = none
  nw : ∀ a, F' a ≠ none → F a ≠ none ∨ H a = none ∨ Ond env fp a ∨ a ∈ T
  nf : ∀ a, Ond env' fp' a → H a = none ∨ Ond env fp a ∨ a ∈ T
  ok : EnvOk K F' H' σ' env' fp'
  lok : ∀ a od u, H a = some (.frz od u) → H' a = some (.frz od u)
section
variable {K : PySem.W.Frag} {F H F' H' F1 H1 F2 H2 : Hp} {σ σ' σ1 σ2 : L2.St} {env env' env1 env2 : En} {fp fp' fp1 fp2 : Nat → List Addr} {A B T : List Addr}
theorem Go.refl (ok : EnvOk K F H σ env fp) : Go K [] σ env fp F H σ env fp F H := ⟨.refl _, fun _ _ h _ _ => h, fun _ h => h, fun _ h => .inl h, fun _ h => .inr (.inl h), ok, fun _ _ _ e => e⟩
theorem Go.trans (g : Go K [] σ env fp F H σ1 env1 fp1 F1 H1) (h : Go K T σ1 env1 fp1 F1 H1 σ2 env2 fp2 F2 H2) (hT : ∀ a ∈ T, H a = none ∨ Ond env fp a) : Go K [] σ env fp F H σ2 env2 fp2 F2 H2 := by
  have ond : ∀ a, Ond env1 fp1 a → H a = none ∨ Ond env fp a := fun a z => by
    rcases g.nf a z with z | z | z
    · exact .inl z
    · exact .inr z
    · cases z
  refine ⟨g.fr.trans h.fr, fun a o e no _ => h.keep a o (g.keep a o e no (by simp)) (fun z => ?_) (fun z => ?_), fun a z => g.stay a (h.stay a z), fun a z => ?_, fun a z => ?_, h.ok, fun a od u e => h.lok a od u (g.lok a od u e)⟩
  · rcases ond a z with z | z
    · rw [z] at e
      cases e
    · exact no z
  · rcases hT a z with z | z
    · rw [z] at e
      cases e
    · exact no z
  · rcases h.nw a z with z | z | z | z
    · rcases g.nw a z with z | z | z | z
      · exact .inl z
      · exact .inr (.inl z)
      · exact .inr (.inr (.inl z))
      · cases z
    · exact .inr (.inl (g.stay a z))
    · rcases ond a z with z | z
      · exact .inr (.inl z)
      · exact .inr (.inr (.inl z))
    · rcases hT a z with z | z
      · exact .inr (.inl z)
      · exact .inr (.inr (.inl z))
  · rcases h.nf a z with z | z | z
    · exact .inl (g.stay a z)
    · rcases ond a z with z | z
      · exact .inl z
      · exact .inr (.inl z)
    · rcases hT a z with z | z
      · exact .inl z
      · exact .inr (.inl z)
/-- temporary nodes stay -/
theorem Go.tmp (g : Go K T σ env fp F H σ' env' fp' F' H') (hA : ∀ a ∈ A, F a = none ∧ (∃ o, H a = some o) ∧ ¬ Ond env fp a ∧ a ∉ T) : ∀ a ∈ A, F' a = none ∧ ∀ o, H a = some o → H' a = some o := fun a ha => by
  obtain ⟨h1, ⟨o, h2⟩, h3, h4⟩ := hA a ha
  refine ⟨?_, fun o e => g.keep a o e h3 h4⟩
  cases q : F' a with
  | none => rfl
  | some u =>
    rcases g.nw a (by rw [q]; simp) with z | z | z | z
    · exact absurd h1 z
    · rw [h2] at z
      cases z
    · exact absurd z h3
    · exact absurd z h4
theorem Step.go (s : Step A F H F' H') (ok : EnvOk K F H σ env fp) (hA : ∀ a ∈ A, ∀ i m, env.get i = some m → a ∉ fp i) : Go K A σ env fp F H σ env fp F' H' :=
  ⟨s.fr, fun a o e _ z => s.hpA a o e z, s.stay, fun a h => by
    rcases s.nw a h with z | z | z
    · exact .inl z
    · exact .inr (.inl z)
    · exact .inr (.inr (.inr z)), fun a h => .inr (.inl h), ok.step s hA, s.lok⟩
theorem EnvOk.at (ok : EnvOk K F H σ env fp) {a : Addr} (h : Ond env fp a) : F a = none ∧ ∃ o, H a = some o := by
  obtain ⟨i, m, e, ha⟩ := h
  obtain ⟨v, _, q⟩ := ok.slot i m e
  exact q.at _ _ _ a ha
end
def En.put (env : En) (i : Nat) (m : M) : En := env.set i (some m)
def En.kill (env : En) (i : Nat) : En := env.set i none
theorem En.get_put {env : En} {i j : Nat} {m : M} (hi : i < env.length) : (env.put i m).get j = if j = i then some m else env.get j := by
  unfold En.put En.get
  by_cases h : j = i
  · subst h
    rw [if_pos rfl, List.getElem?_set_self hi]
  · rw [if_neg h, List.getElem?_set_ne (Ne.symm h)]
theorem En.get_kill {env : En} {i j : Nat} : (env.kill i).get j = if j = i then none else env.get j := by
  unfold En.kill En.get
  by_cases h : j = i
  · subst h
    rw [if_pos rfl]
    by_cases hi : j < env.length
    · rw [List.getElem?_set_self hi]
    · rw [List.getElem?_eq_none (by rw [List.length_set]; omega)]
  · rw [if_neg h, List.getElem?_set_ne (Ne.symm h)]
theorem En.get_lt {env : En} {i : Nat} {m : M} (h : env.get i = some m) : i < env.length := by
  unfold En.get at h
  cases e : env[i]? with
  | none => rw [e] at h; cases h
  | some o => exact (List.getElem?_eq_some_iff.mp e).1
mutual
/-- the slots that a result speaks of -/
def slots : M → List Nat
  | .fz _ => []
  | .bp i _ => [i]
  | .ol ms => slotsL ms
  | .ot ms => slotsL ms
  | .oi _ fs => slotsF fs
  | .od _ _ => []
  | .odt _ => []
def slotsL : List M → List Nat
  | [] => []
  | m :: ms => slots m ++ slotsL ms
def slotsF : List (Str × M) → List Nat
  | [] => []
  | m :: ms => slots m.2 ++ slotsF ms
end
/-- slots become frozen -/
def frS : List Nat → En → Option En
  | [], env => some env
  | i :: S, env => match env.get i with
    | some m => match dat0 m with
      | some d => frS S (env.put i (.fz d))
      | none => none
    | none => none
section
variable {K : PySem.W.Frag} {F H F' H' : Hp} {σ : L2.St} {env env' : En} {fp : Nat → List Addr} {A B : List Addr}
mutual
/-- the data of a result in a heap G that holds its nodes and those of the slots that it speaks of -/
theorem dat_in {G : Hp} (s : Same F G) (ok : EnvOk K F H σ env fp) : ∀ (m : M) (v : V) (A : List Addr) (d : D), Own K (plc H σ env) F H m v A → dat env m = some d → (∀ a ∈ A, ∀ o, H a = some o → G a = some o) → (∀ i ∈ slots m, ∀ n, env.get i = some n → ∀ a ∈ fp i, ∀ o, H a = some o → G a = some o) → Rep K G d v
  | .fz d, v, A, d', h, e, hA, hS => by
    simp only [Own, dat, datW, Option.some.injEq] at h e
    subst e
    exact Rep.mono s _ _ h.2
  | .bp i p, v, A, d', h, e, hA, hS => by
    simp only [Own, dat, datW] at h e
    obtain ⟨_, w, e1, e2, n, e3⟩ := h
    rw [e3] at e
    unfold En.place at e3
    split at e3
    · rename_i m' hm
      obtain ⟨w', g1, g2⟩ := ok.slot i m' hm
      rw [e1] at g1
      cases g1
      obtain ⟨C, c1, c2⟩ := g2.path e3 e2
      exact datW_ok s (fun _ _ _ _ z => z.elim) n v C d' c1 e fun a ha => hS i (by simp [slots]) m' hm a (c2.subset ha)
    · cases e3
  | .ol ms, v, A, d', h, e, hA, hS => by
    simp only [Own, dat, datW, Option.map_eq_some_iff] at h e
    obtain ⟨p, vs, B, rfl, rfl, f, q, r⟩ := h
    obtain ⟨ds, e, rfl⟩ := e
    simp only [Rep]
    exact ⟨p, vs, rfl, hA p List.mem_cons_self _ q, datL_in s ok ms vs B ds r e (fun a ha => hA a (List.mem_cons_of_mem _ ha)) (by simpa only [slots] using hS)⟩
  | .ot ms, v, A, d', h, e, hA, hS => by
    simp only [Own, dat, datW, Option.map_eq_some_iff] at h e
    obtain ⟨p, vs, B, rfl, rfl, f, q, r⟩ := h
    obtain ⟨ds, e, rfl⟩ := e
    simp only [Rep]
    exact ⟨p, vs, rfl, hA p List.mem_cons_self _ q, datL_in s ok ms vs B ds r e (fun a ha => hA a (List.mem_cons_of_mem _ ha)) (by simpa only [slots] using hS)⟩
  | .oi C fs, v, A, d', h, e, hA, hS => by
    simp only [Own, dat, datW, Option.map_eq_some_iff] at h e
    obtain ⟨p, dx, gs, B, rfl, rfl, f, f2, q, q2, r⟩ := h
    obtain ⟨ds, e, rfl⟩ := e
    simp only [Rep]
    exact ⟨p, dx, gs, rfl, hA p List.mem_cons_self _ q, hA dx (List.mem_cons_of_mem _ List.mem_cons_self) _ q2, datF_in s ok fs gs B ds r e (fun a ha => hA a (List.mem_cons_of_mem _ (List.mem_cons_of_mem _ ha))) (by simpa only [slots] using hS)⟩
  | .od lk kvs, v, A, d', h, e, hA, hS => by
    have h2 : Own K noBr F H (.od lk kvs) v A := by simpa only [Own] using h
    exact datW_ok (bp := fun _ _ => none) s (fun _ _ _ _ z => z.elim) (.od lk kvs) v A d' h2 e hA
  | .odt kvs, v, A, d', h, e, hA, hS => by
    simp only [dat, datW] at e
    cases e
theorem datL_in {G : Hp} (s : Same F G) (ok : EnvOk K F H σ env fp) : ∀ (ms : List M) (vs : List V) (A : List Addr) (ds : List D), OwnL K (plc H σ env) F H ms vs A → dats env ms = some ds → (∀ a ∈ A, ∀ o, H a = some o → G a = some o) → (∀ i ∈ slotsL ms, ∀ n, env.get i = some n → ∀ a ∈ fp i, ∀ o, H a = some o → G a = some o) → RepL K G ds vs
  | [], vs, A, ds, h, e, hA, hS => by
    simp only [OwnL, dats, datWL, Option.some.injEq] at h e
    subst e
    simp only [RepL]
    exact h.1
  | m :: ms, vs, A, ds, h, e, hA, hS => by
    simp only [OwnL] at h
    obtain ⟨v, r, B, C, rfl, rfl, q, q2⟩ := h
    simp only [dats, datWL] at e
    split at e
    · rename_i d ds' e1 e2
      cases e
      simp only [RepL]
      exact ⟨v, r, rfl, dat_in s ok m v B d q e1 (fun a ha => hA a (List.mem_append_left _ ha)) (fun i hi => hS i (by simp only [slotsL]; exact List.mem_append_left _ hi)),
        datL_in s ok ms r C ds' q2 e2 (fun a ha => hA a (List.mem_append_right _ ha)) (fun i hi => hS i (by simp only [slotsL]; exact List.mem_append_right _ hi))⟩
    · cases e
theorem datF_in {G : Hp} (s : Same F G) (ok : EnvOk K F H σ env fp) : ∀ (ms : List (Str × M)) (vs : List (Str × V)) (A : List Addr) (ds : List (Str × D)), OwnF K (plc H σ env) F H ms vs A → datWF (plD env) ms = some ds → (∀ a ∈ A, ∀ o, H a = some o → G a = some o) → (∀ i ∈ slotsF ms, ∀ n, env.get i = some n → ∀ a ∈ fp i, ∀ o, H a = some o → G a = some o) → RepF K G ds vs
  | [], vs, A, ds, h, e, hA, hS => by
    simp only [OwnF, datWF, Option.some.injEq] at h e
    subst e
    simp only [RepF]
    exact h.1
  | m :: ms, vs, A, ds, h, e, hA, hS => by
    simp only [OwnF] at h
    obtain ⟨v, r, B, C, rfl, rfl, q, q2⟩ := h
    simp only [datWF] at e
    split at e
    · rename_i d ds' e1 e2
      cases e
      simp only [RepF]
      exact ⟨v, r, rfl, dat_in s ok m.2 v B d q e1 (fun a ha => hA a (List.mem_append_left _ ha)) (fun i hi => hS i (by simp only [slotsF]; exact List.mem_append_left _ hi)),
        datF_in s ok ms r C ds' q2 e2 (fun a ha => hA a (List.mem_append_right _ ha)) (fun i hi => hS i (by simp only [slotsF]; exact List.mem_append_right _ hi))⟩
    · cases e
end
/-- slots freeze -/
theorem frS_ok : ∀ {S : List Nat} {env env' : En} {fp : Nat → List Addr} {F : Hp}, EnvOk K F H σ env fp → frS S env = some env' →
    ∃ F' fp', Go K [] σ env fp F H σ env' fp' F' H ∧ (∀ i ∈ S, ∀ n, env.get i = some n → ∀ a ∈ fp i, F' a = H a) ∧ (∀ a, Ond env' fp' a → Ond env fp a) ∧ (∀ a, ¬ Ond env fp a → F' a = F a)
  | [], env, env', fp, F, ok, e => by
    cases e
    exact ⟨F, fp, Go.refl ok, (fun i z => by cases z), fun a h => h, fun a _ => rfl⟩
  | i :: S, env, env', fp, F, ok, e => by
    simp only [frS] at e
    split at e
    · rename_i m hm
      split at e
      · rename_i d hd
        obtain ⟨v, g1, g2⟩ := ok.slot i m hm
        have hlt := En.get_lt hm
        have at' := g2.at _ _ _
        have s1 : Same F (frz F H (fp i)) := same_frz ok.sub
        have s2 : Same (frz F H (fp i)) H := frz_same ok.sub
        have fzv : Rep K (frz F H (fp i)) d v := datW_ok s1 (fun _ _ _ _ z => z.elim) m v (fp i) d g2 hd fun a ha o q => by
          unfold frz
          rw [if_pos ha]
          exact q
        have ok1 : EnvOk K (frz F H (fp i)) H σ (env.put i (.fz d)) (fun j => if j = i then [] else fp j) := by
          refine ⟨by unfold En.put; rw [List.length_set]; exact ok.len, s2, fun j n hj => ?_, fun j n hj => ?_, fun j k n n' a hj hk ha hb => ?_⟩
          · rw [En.get_put hlt] at hj
            by_cases h : j = i
            · subst h
              rw [if_pos rfl] at hj
              cases hj
              refine ⟨v, g1, ?_⟩
              rw [if_pos rfl]
              exact own_fz fzv
            · rw [if_neg h] at hj
              obtain ⟨w, k1, k2⟩ := ok.slot j n hj
              refine ⟨w, k1, ?_⟩
              rw [if_neg h]
              refine k2.mono s1 (fun _ _ _ z => z) _ _ _ fun a ha => ⟨?_, fun o q => q⟩
              unfold frz
              rw [if_neg fun z => h (ok.dj j i n m a hj hm ha z)]
              exact (k2.at _ _ _ a ha).1
          · by_cases h : j = i
            · simp only [if_pos h]
              exact .nil
            · rw [En.get_put hlt, if_neg h] at hj
              simp only [if_neg h]
              exact ok.nd j n hj
          · by_cases h : j = i
            · simp only [if_pos h] at ha
              cases ha
            · by_cases h' : k = i
              · simp only [if_pos h'] at hb
                cases hb
              · rw [En.get_put hlt, if_neg h] at hj
                rw [En.get_put hlt, if_neg h'] at hk
                simp only [if_neg h] at ha
                simp only [if_neg h'] at hb
                exact ok.dj j k n n' a hj hk ha hb
        have on1 : ∀ a, Ond (env.put i (.fz d)) (fun j => if j = i then [] else fp j) a → Ond env fp a := fun a ⟨j, n, hj, ha⟩ => by
          by_cases h : j = i
          · simp only [if_pos h] at ha
            cases ha
          · rw [En.get_put hlt, if_neg h] at hj
            simp only [if_neg h] at ha
            exact ⟨j, n, hj, ha⟩
        have go1 : Go K [] σ env fp F H σ (env.put i (.fz d)) (fun j => if j = i then [] else fp j) (frz F H (fp i)) H := by
          refine ⟨s1, fun a o q _ _ => q, fun a q => q, fun a z => ?_, fun a z => .inr (.inl (on1 a z)), ok1, fun _ _ _ e => e⟩
          unfold frz at z
          split at z
          · rename_i ha
            exact .inr (.inr (.inl ⟨i, m, hm, ha⟩))
          · exact .inl z
        obtain ⟨F2, fp2, go2, h2, o2, k2⟩ := frS_ok ok1 e
        refine ⟨F2, fp2, go1.trans go2 (fun a z => by cases z), fun j hj n hn a ha => ?_, fun a z => on1 a (o2 a z), fun a no => ?_⟩
        · by_cases h : j = i
          · subst h
            have e1 : frz F H (fp j) a = H a := by unfold frz; rw [if_pos ha]
            obtain ⟨_, o, ho⟩ := at' a (by
              have : n = m := Option.some.inj (hn.symm.trans hm)
              exact ha)
            rw [ho] at e1 ⊢
            exact go2.fr _ _ e1
          · rcases List.mem_cons.mp hj with z | z
            · exact absurd z h
            · refine h2 j z n ?_ a ?_
              · rw [En.get_put hlt, if_neg h]
                exact hn
              · simp only [if_neg h]
                exact ha
        · rw [k2 a fun z => no (on1 a z)]
          unfold frz
          rw [if_neg fun z => no ⟨i, m, hm, z⟩]
      · cases e
    · cases e
/-- results freeze: their nodes, the slots that they speak of -/
theorem frL_ok {ms : List M} {vs : List V} {ds : List D} (ok : EnvOk K F H σ env fp) (h : OwnL K (plc H σ env) F H ms vs A) (hA : ∀ a ∈ A, ¬ Ond env fp a) (e : dats env ms = some ds) (e' : frS (slotsL ms) env = some env') :
    ∃ F' fp', Go K A σ env fp F H σ env' fp' F' H ∧ RepL K F' ds vs ∧ (∀ a, Ond env' fp' a → Ond env fp a) := by
  obtain ⟨F1, fp1, g, h1, h2, h3⟩ := frS_ok ok e'
  have s1 : Same F1 (frz F1 H A) := same_frz g.ok.sub
  have s2 : Same (frz F1 H A) H := frz_same g.ok.sub
  have ok2 : EnvOk K (frz F1 H A) H σ env' fp1 := by
    refine ⟨g.ok.len, s2, fun j n hj => ?_, g.ok.nd, g.ok.dj⟩
    obtain ⟨w, k1, k2⟩ := g.ok.slot j n hj
    refine ⟨w, k1, k2.mono s1 (fun _ _ _ z => z) _ _ _ fun a ha => ⟨?_, fun o q => q⟩⟩
    unfold frz
    rw [if_neg fun z => hA a z (h2 a ⟨j, n, hj, ha⟩)]
    exact (k2.at _ _ _ a ha).1
  refine ⟨frz F1 H A, fp1, ⟨g.fr.trans s1, fun a o q h _ => g.keep a o q h (by simp), g.stay, fun a z => ?_, fun a z => .inr (.inl (h2 a z)), ok2, g.lok⟩, ?_, h2⟩
  · unfold frz at z
    split at z
    · rename_i ha
      exact .inr (.inr (.inr ha))
    · rcases g.nw a z with z | z | z | z
      · exact .inl z
      · exact .inr (.inl z)
      · exact .inr (.inr (.inl z))
      · cases z
  · refine datL_in (g.fr.trans s1) ok ms vs A ds h e (fun a ha o q => ?_) fun i hi n hn a ha o q => ?_
    · unfold frz
      rw [if_pos ha]
      exact q
    · have := h1 i hi n hn a ha
      rw [q] at this
      exact s1 _ _ this
end
mutual
def shut : Nat → M → Option M
  | _, .fz d => some (.fz d)
  | 0, m => (dat0 m).map .fz
  | k + 1, .ol ms => (shutL k ms).map .ol
  | k + 1, .ot ms => (shutL k ms).map .ot
  | k + 1, .oi C fs => (shutF k fs).map (.oi C)
  | _ + 1, .od lk kvs => some (.od lk kvs)
  | _ + 1, .odt kvs => some (.odt kvs)
  | _, .bp _ _ => none
def shutL : Nat → List M → Option (List M)
  | _, [] => some []
  | k, m :: ms => match shut k m, shutL k ms with
    | some n, some ns => some (n :: ns)
    | _, _ => none
def shutF : Nat → List (Str × M) → Option (List (Str × M))
  | _, [] => some []
  | k, m :: ms => match shut k m.2, shutF k ms with
    | some n, some ns => some ((m.1, n) :: ns)
    | _, _ => none
end
section
variable {K : PySem.W.Frag} {F H : Hp} {br : Nat → List Pa → V → Prop}
/-- what freezes but A' -/
def Fr (F H F' : Hp) (A A' : List Addr) : Prop := Same F F' ∧ (∀ a ∈ A', F' a = none) ∧ ∀ a ∈ A, a ∉ A' → ∀ o, H a = some o → F' a = some o
theorem Fr.left {F' : Hp} {B C B' C' : List Addr} (h : Fr F H F' (B ++ C) (B' ++ C')) (hn : (B ++ C).Nodup) (hC : C'.Sublist C) : Fr F H F' B B' :=
  ⟨h.1, fun a ha => h.2.1 a (List.mem_append_left _ ha), fun a ha hb => h.2.2 a (List.mem_append_left _ ha) fun z => by
    rcases List.mem_append.mp z with z | z
    · exact hb z
    · exact (List.nodup_append.mp hn).2.2 a ha a (hC.subset z) rfl⟩
theorem Fr.right {F' : Hp} {B C B' C' : List Addr} (h : Fr F H F' (B ++ C) (B' ++ C')) (hn : (B ++ C).Nodup) (hB : B'.Sublist B) : Fr F H F' C C' :=
  ⟨h.1, fun a ha => h.2.1 a (List.mem_append_right _ ha), fun a ha hb => h.2.2 a (List.mem_append_right _ ha) fun z => by
    rcases List.mem_append.mp z with z | z
    · exact (List.nodup_append.mp hn).2.2 a (hB.subset z) a ha rfl
    · exact hb z⟩
theorem Fr.cons {F' : Hp} {p : Addr} {B B' : List Addr} (h : Fr F H F' (p :: B) (p :: B')) (hn : (p :: B).Nodup) : Fr F H F' B B' ∧ F' p = none :=
  ⟨⟨h.1, fun a ha => h.2.1 a (List.mem_cons_of_mem _ ha), fun a ha hb => h.2.2 a (List.mem_cons_of_mem _ ha) fun z => by
    rcases List.mem_cons.mp z with rfl | z
    · exact (List.nodup_cons.mp hn).1 ha
    · exact hb z⟩, h.2.1 p List.mem_cons_self⟩
theorem shut0 {m : M} {v : V} {A : List Addr} {m' : M} (h : Own K br F H m v A) (e : (dat0 m).map M.fz = some m') : ∃ A', A'.Sublist A ∧ ∀ F', Fr F H F' A A' → Own K noBr F' H m' v A' := by
  obtain ⟨d, hd, rfl⟩ := Option.map_eq_some_iff.mp e
  exact ⟨[], List.nil_sublist _, fun F' hF => own_fz (datW_ok hF.1 (fun _ _ _ _ _ z => by cases z) m v A d h hd fun a ha => hF.2.2 a ha (by simp))⟩
mutual
theorem shut_ok : ∀ (k : Nat) (m : M) (v : V) (A : List Addr) (m' : M), Own K br F H m v A → A.Nodup → shut k m = some m' → ∃ A', A'.Sublist A ∧ ∀ F', Fr F H F' A A' → Own K noBr F' H m' v A'
  | 0, .fz d, v, A, m', h, hn, e => by
    simp only [shut, Option.some.injEq] at e
    subst e
    simp only [Own] at h
    exact ⟨[], List.nil_sublist _, fun F' hF => own_fz (Rep.mono hF.1 _ _ h.2)⟩
  | k + 1, .fz d, v, A, m', h, hn, e => by
    simp only [shut, Option.some.injEq] at e
    subst e
    simp only [Own] at h
    exact ⟨[], List.nil_sublist _, fun F' hF => own_fz (Rep.mono hF.1 _ _ h.2)⟩
  | 0, .ol ms, v, A, m', h, hn, e => shut0 h (by simpa only [shut] using e)
  | 0, .ot ms, v, A, m', h, hn, e => shut0 h (by simpa only [shut] using e)
  | 0, .oi C ms, v, A, m', h, hn, e => shut0 h (by simpa only [shut] using e)
  | 0, .bp i p, v, A, m', h, hn, e => shut0 h (by simpa only [shut] using e)
  | 0, .od lk kvs, v, A, m', h, hn, e => shut0 h (by simpa only [shut] using e)
  | k + 1, .od lk kvs, v, A, m', h, hn, e => by
    simp only [shut, Option.some.injEq] at e
    subst e
    simp only [Own] at h
    obtain ⟨p, vs, rfl, rfl, f, q, r⟩ := h
    refine ⟨[p], List.Sublist.refl _, fun F' hF => ?_⟩
    simp only [Own]
    exact ⟨p, vs, rfl, rfl, hF.2.1 p List.mem_cons_self, q, RepL.mono hF.1 _ _ r⟩
  | 0, .odt kvs, v, A, m', h, hn, e => shut0 h (by simpa only [shut] using e)
  | k + 1, .odt kvs, v, A, m', h, hn, e => by
    simp only [shut, Option.some.injEq] at e
    subst e
    simp only [Own] at h
    obtain ⟨p, vs, rfl, rfl, f, q, r⟩ := h
    refine ⟨[p], List.Sublist.refl _, fun F' hF => ?_⟩
    simp only [Own]
    exact ⟨p, vs, rfl, rfl, hF.2.1 p List.mem_cons_self, q, RepL.mono hF.1 _ _ r⟩
  | k + 1, .ol ms, v, A, m', h, hn, e => by
    simp only [shut] at e
    obtain ⟨ns, e1, rfl⟩ := Option.map_eq_some_iff.mp e
    simp only [Own] at h
    obtain ⟨p, vs, B, rfl, rfl, f, q, r⟩ := h
    obtain ⟨B', h1, h2⟩ := shutL_ok k ms vs B ns r (List.nodup_cons.mp hn).2 e1
    refine ⟨p :: B', h1.cons_cons p, fun F' hF => ?_⟩
    obtain ⟨h3, h4⟩ := hF.cons hn
    simp only [Own]
    exact ⟨p, vs, B', rfl, rfl, h4, q, h2 F' h3⟩
  | k + 1, .ot ms, v, A, m', h, hn, e => by
    simp only [shut] at e
    obtain ⟨ns, e1, rfl⟩ := Option.map_eq_some_iff.mp e
    simp only [Own] at h
    obtain ⟨p, vs, B, rfl, rfl, f, q, r⟩ := h
    obtain ⟨B', h1, h2⟩ := shutL_ok k ms vs B ns r (List.nodup_cons.mp hn).2 e1
    refine ⟨p :: B', h1.cons_cons p, fun F' hF => ?_⟩
    obtain ⟨h3, h4⟩ := hF.cons hn
    simp only [Own]
    exact ⟨p, vs, B', rfl, rfl, h4, q, h2 F' h3⟩
  | k + 1, .oi C fs, v, A, m', h, hn, e => by
    simp only [shut] at e
    obtain ⟨ns, e1, rfl⟩ := Option.map_eq_some_iff.mp e
    simp only [Own] at h
    obtain ⟨p, dx, gs, B, rfl, rfl, f, f2, q, q2, r⟩ := h
    obtain ⟨B', h1, h2⟩ := shutF_ok k fs gs B ns r (List.nodup_cons.mp (List.nodup_cons.mp hn).2).2 e1
    refine ⟨p :: dx :: B', (h1.cons_cons dx).cons_cons p, fun F' hF => ?_⟩
    obtain ⟨h3, h4⟩ := hF.cons hn
    obtain ⟨h5, h6⟩ := h3.cons (List.nodup_cons.mp hn).2
    simp only [Own]
    exact ⟨p, dx, gs, B', rfl, rfl, h4, h6, q, q2, h2 F' h5⟩
  | k + 1, .bp i p, v, A, m', h, hn, e => by simp only [shut] at e; cases e
theorem shutL_ok : ∀ (k : Nat) (ms : List M) (vs : List V) (A : List Addr) (ms' : List M), OwnL K br F H ms vs A → A.Nodup → shutL k ms = some ms' → ∃ A', A'.Sublist A ∧ ∀ F', Fr F H F' A A' → OwnL K noBr F' H ms' vs A'
  | k, [], vs, A, ms', h, hn, e => by
    simp only [shutL, Option.some.injEq] at e
    subst e
    simp only [OwnL] at h
    obtain ⟨rfl, rfl⟩ := h
    exact ⟨[], List.Sublist.refl _, fun F' hF => ownL_nil⟩
  | k, m :: ms, vs, A, ms', h, hn, e => by
    simp only [shutL] at e
    split at e
    · rename_i n ns e1 e2
      cases e
      simp only [OwnL] at h
      obtain ⟨v, r, B, C, rfl, rfl, q, q2⟩ := h
      have hn' := List.nodup_append.mp hn
      obtain ⟨B', b1, b2⟩ := shut_ok k m v B n q hn'.1 e1
      obtain ⟨C', c1, c2⟩ := shutL_ok k ms r C ns q2 hn'.2.1 e2
      refine ⟨B' ++ C', List.Sublist.append b1 c1, fun F' hF => ?_⟩
      simp only [OwnL]
      exact ⟨v, r, B', C', rfl, rfl, b2 F' (hF.left hn c1), c2 F' (hF.right hn b1)⟩
    · cases e
theorem shutF_ok : ∀ (k : Nat) (ms : List (Str × M)) (vs : List (Str × V)) (A : List Addr) (ms' : List (Str × M)), OwnF K br F H ms vs A → A.Nodup → shutF k ms = some ms' → ∃ A', A'.Sublist A ∧ ∀ F', Fr F H F' A A' → OwnF K noBr F' H ms' vs A'
  | k, [], vs, A, ms', h, hn, e => by
    simp only [shutF, Option.some.injEq] at e
    subst e
    simp only [OwnF] at h
    obtain ⟨rfl, rfl⟩ := h
    refine ⟨[], List.Sublist.refl _, fun F' hF => ?_⟩
    simp only [OwnF]
    exact ⟨trivial, trivial⟩
  | k, m :: ms, vs, A, ms', h, hn, e => by
    simp only [shutF] at e
    split at e
    · rename_i n ns e1 e2
      cases e
      simp only [OwnF] at h
      obtain ⟨v, r, B, C, rfl, rfl, q, q2⟩ := h
      have hn' := List.nodup_append.mp hn
      obtain ⟨B', b1, b2⟩ := shut_ok k m.2 v B n q hn'.1 e1
      obtain ⟨C', c1, c2⟩ := shutF_ok k ms r C ns q2 hn'.2.1 e2
      refine ⟨B' ++ C', List.Sublist.append b1 c1, fun F' hF => ?_⟩
      simp only [OwnF]
      exact ⟨v, r, B', C', rfl, rfl, b2 F' (hF.left hn c1), c2 F' (hF.right hn b1)⟩
    · cases e
end
end
def frz2 (F H : Hp) (A A' : List Addr) : Hp := fun a => if a ∈ A ∧ a ∉ A' then H a else F a
/-- a result goes into a slot, a list ..: k levels stay owned where it is a temporary tree, else it freezes, and the slots that it speaks of -/
def stow (k : Nat) (env : En) (m : M) : Option (M × En) := match slots m with
  | [] => (shut k m).map fun n => (n, env)
  | _ => match dat env m, frS (slots m) env with
    | some d, some env' => some (.fz d, env')
    | _, _ => none
section
variable {K : PySem.W.Frag} {F H : Hp} {σ : L2.St} {env env' : En} {fp : Nat → List Addr} {A : List Addr}
theorem stow_ok {k : Nat} {m m' : M} {v : V} (ok : EnvOk K F H σ env fp) (h : Own K (plc H σ env) F H m v A) (hn : A.Nodup) (hA : ∀ a ∈ A, ¬ Ond env fp a) (e : stow k env m = some (m', env')) :
    ∃ F' fp' A', Go K A σ env fp F H σ env' fp' F' H ∧ Own K noBr F' H m' v A' ∧ A'.Sublist A ∧ (∀ a, Ond env' fp' a → Ond env fp a) := by
  unfold stow at e
  split at e
  · obtain ⟨n, e1, q⟩ := Option.map_eq_some_iff.mp e
    cases q
    obtain ⟨A', h1, h2⟩ := shut_ok k m v A m' h hn e1
    have hF : Fr F H (frz2 F H A A') A A' := by
      refine ⟨fun b o q => ?_, fun a ha => ?_, fun a ha hb o q => ?_⟩
      · unfold frz2
        split
        · exact ok.sub _ _ q
        · exact q
      · unfold frz2
        rw [if_neg fun z => z.2 ha]
        exact (h.at _ _ _ a (h1.subset ha)).1
      · unfold frz2
        rw [if_pos ⟨ha, hb⟩]
        exact q
    refine ⟨frz2 F H A A', fp, A', ⟨hF.1, fun a o q _ _ => q, fun a q => q, fun a z => ?_, fun a z => .inr (.inl z), ?_, fun _ _ _ e => e⟩, h2 _ hF, h1, fun a z => z⟩
    · unfold frz2 at z
      split at z
      · rename_i hb
        exact .inr (.inr (.inr hb.1))
      · exact .inl z
    · refine ⟨ok.len, fun b o q => ?_, fun j n hj => ?_, ok.nd, ok.dj⟩
      · unfold frz2 at q
        split at q
        · exact q
        · exact ok.sub _ _ q
      · obtain ⟨w, k1, k2⟩ := ok.slot j n hj
        refine ⟨w, k1, k2.mono hF.1 (fun _ _ _ z => z) _ _ _ fun a ha => ⟨?_, fun o q => q⟩⟩
        unfold frz2
        rw [if_neg fun z => hA a z.1 ⟨j, n, hj, ha⟩]
        exact (k2.at _ _ _ a ha).1
  · split at e
    · rename_i d env1 hd hs
      cases e
      have hL : OwnL K (plc H σ env) F H [m] [v] A := by
        simp only [OwnL]
        exact ⟨v, [], A, [], rfl, by rw [List.append_nil], h, by trivial, by trivial⟩
      have hd' : dats env [m] = some [d] := by
        unfold dats
        simp only [datWL]
        rw [show datW (plD env) m = some d from hd]
      have hs' : frS (slotsL [m]) env = some env' := by
        simp only [slotsL, List.append_nil]
        exact hs
      obtain ⟨F', fp', g, r, o⟩ := frL_ok ok hL hA hd' hs'
      refine ⟨F', fp', [], g, ?_, List.nil_sublist _, o⟩
      obtain ⟨w, e1, e2⟩ := repL1 r
      cases e1
      exact own_fz e2
    · cases e
end
end T2
end
section
set_option Elab.async false
set_option linter.all false
set_option maxRecDepth 100000
namespace T2
open PySem PySem.Spec PyProof.Rows L2
section
variable (K : PySem.W.Frag)
/-- an expression that may change what slots own -/
def tX (g : En → Option (M × En)) : TE := fun σ H Q => ∃ env m env' F fp, g env = some (m, env') ∧ EnvOk K F H σ env fp ∧
  ∀ v F' H' fp' A, Go K [] σ env fp F H σ env' fp' F' H' → Own K (plc H' σ env') F' H' m v A → A.Nodup → (∀ a ∈ A, H a = none ∨ Ond env fp a) → (∀ a ∈ A, ¬ Ond env' fp' a) → Q v H'
def tXA (g : En → Option (List M × En)) : TA := fun σ H Q => ∃ env ms env' F fp, g env = some (ms, env') ∧ EnvOk K F H σ env fp ∧
  ∀ vs F' H' fp' A, Go K [] σ env fp F H σ env' fp' F' H' → OwnL K (plc H' σ env') F' H' ms vs A → A.Nodup → (∀ a ∈ A, H a = none ∨ Ond env fp a) → (∀ a ∈ A, ¬ Ond env' fp' a) → Q vs H'
def tXT (g : En → Option (Bool × En)) : TT := fun σ H Q => ∃ env b env' F fp, g env = some (b, env') ∧ EnvOk K F H σ env fp ∧ ∀ F' H' fp', Go K [] σ env fp F H σ env' fp' F' H' → Q b H'
end
def PX (X : Cx) (e : Expr) (g : En → Option (M × En)) : Prop := PE X e (tX X.K g)
def PXA (X : Cx) (es : List Expr) (g : En → Option (List M × En)) : Prop := PA X es (tXA X.K g)
def PXT (X : Cx) (e : Expr) (g : En → Option (Bool × En)) : Prop := PT X e (tXT X.K g)
/-- what changes nothing -/
def lif (f : En → Option M) : En → Option (M × En) := fun env => match f env with | some m => some (m, env) | none => none
def lifA (f : En → Option (List M)) : En → Option (List M × En) := fun env => match f env with | some m => some (m, env) | none => none
def lifT (f : En → Option Bool) : En → Option (Bool × En) := fun env => match f env with | some m => some (m, env) | none => none
section
variable {K : PySem.W.Frag} {F H F' H' F1 H1 F2 H2 : Hp} {σ σ' σ1 σ2 : L2.St} {env env' env1 env2 : En} {fp fp' fp1 fp2 : Nat → List Addr} {A B T : List Addr}
theorem tX.of {f : En → Option M} {Q : VK} (h : tX K (lif f) σ H Q) : tD K f σ H Q := by
  obtain ⟨env, m, env', F, fp, e, ok, q⟩ := h
  unfold lif at e
  split at e
  · rename_i m' hm
    cases e
    refine ⟨env, m, F, fp, hm, ok, fun v F' H' A s o n a => q v F' H' fp A (s.go ok fun a z => by cases z) o n (fun b hb => .inl (a b hb)) fun b hb z => ?_⟩
    obtain ⟨_, o', z⟩ := ok.at z
    rw [a b hb] at z
    cases z
  · cases e
theorem tXA.of {f : En → Option (List M)} {Q : List V → Hp → Prop} (h : tXA K (lifA f) σ H Q) : tDA K f σ H Q := by
  obtain ⟨env, m, env', F, fp, e, ok, q⟩ := h
  unfold lifA at e
  split at e
  · rename_i m' hm
    cases e
    refine ⟨env, m, F, fp, hm, ok, fun v F' H' A s o n a => q v F' H' fp A (s.go ok fun a z => by cases z) o n (fun b hb => .inl (a b hb)) fun b hb z => ?_⟩
    obtain ⟨_, o', z⟩ := ok.at z
    rw [a b hb] at z
    cases z
  · cases e
theorem tXT.of {f : En → Option Bool} {Q : Bool → Hp → Prop} (h : tXT K (lifT f) σ H Q) : tDT K f σ H Q := by
  obtain ⟨env, m, env', F, fp, e, ok, q⟩ := h
  unfold lifT at e
  split at e
  · rename_i m' hm
    cases e
    exact ⟨env, m, F, fp, hm, ok, fun F' H' s => q F' H' fp (s.go ok fun a z => by cases z)⟩
  · cases e
mutual
/-- a result that stays when slots change -/
def alv (env : En) : M → Bool
  | .fz _ => true
  | .bp i p => p.isEmpty && (env.get i).isSome
  | .ol ms => alvL env ms
  | .ot ms => alvL env ms
  | .oi _ fs => alvF env fs
  | .od _ _ => true
  | .odt _ => true
def alvL (env : En) : List M → Bool
  | [] => true
  | m :: ms => alv env m && alvL env ms
def alvF (env : En) : List (Str × M) → Bool
  | [] => true
  | m :: ms => alv env m.2 && alvF env ms
end
mutual
theorem Own.alive (s : Same F F') : ∀ (m : M) (v : V) (A : List Addr), Own K (plc H σ env) F H m v A → alv env' m = true → (∀ a ∈ A, F' a = none ∧ ∀ o, H a = some o → H' a = some o) → Own K (plc H' σ env') F' H' m v A
  | .fz d, v, A, h, e, k => by
    simp only [Own] at h ⊢
    exact ⟨h.1, Rep.mono s d v h.2⟩
  | .bp i p, v, A, h, e, k => by
    simp only [Own] at h ⊢
    simp only [alv, Bool.and_eq_true, List.isEmpty_iff] at e
    obtain ⟨h1, w, h2, h3, h4⟩ := h
    obtain ⟨rfl, e2⟩ := e
    obtain ⟨m', hm⟩ := Option.isSome_iff_exists.mp e2
    refine ⟨h1, w, h2, h3, m', ?_⟩
    unfold En.place
    rw [hm]
    unfold getP
    cases m' <;> rfl
  | .ol ms, v, A, h, e, k => by
    simp only [Own] at h ⊢
    simp only [alv] at e
    obtain ⟨p, vs, B, e1, rfl, f, q, r⟩ := h
    exact ⟨p, vs, B, e1, rfl, (k p List.mem_cons_self).1, (k p List.mem_cons_self).2 _ q, OwnL.alive s ms vs B r e fun a ha => k a (List.mem_cons_of_mem _ ha)⟩
  | .ot ms, v, A, h, e, k => by
    simp only [Own] at h ⊢
    simp only [alv] at e
    obtain ⟨p, vs, B, e1, rfl, f, q, r⟩ := h
    exact ⟨p, vs, B, e1, rfl, (k p List.mem_cons_self).1, (k p List.mem_cons_self).2 _ q, OwnL.alive s ms vs B r e fun a ha => k a (List.mem_cons_of_mem _ ha)⟩
  | .oi C fs, v, A, h, e, k => by
    simp only [Own] at h ⊢
    simp only [alv] at e
    obtain ⟨p, dx, gs, B, e1, rfl, f, f2, q, q2, r⟩ := h
    have kp := k p List.mem_cons_self
    have kd := k dx (List.mem_cons_of_mem _ List.mem_cons_self)
    exact ⟨p, dx, gs, B, e1, rfl, kp.1, kd.1, kp.2 _ q, kd.2 _ q2, OwnF.alive s fs gs B r e fun a ha => k a (List.mem_cons_of_mem _ (List.mem_cons_of_mem _ ha))⟩
  | .od lk kvs, v, A, h, e, k => by
    simp only [Own] at h ⊢
    obtain ⟨p, vs, e1, rfl, f, q, r⟩ := h
    have kp := k p List.mem_cons_self
    exact ⟨p, vs, e1, rfl, kp.1, q.mono kp.2, RepL.mono s _ _ r⟩
  | .odt kvs, v, A, h, e, k => by
    simp only [Own] at h ⊢
    obtain ⟨p, vs, e1, rfl, f, q, r⟩ := h
    have kp := k p List.mem_cons_self
    exact ⟨p, vs, e1, rfl, kp.1, kp.2 _ q, RepL.mono s _ _ r⟩
theorem OwnL.alive (s : Same F F') : ∀ (ms : List M) (vs : List V) (A : List Addr), OwnL K (plc H σ env) F H ms vs A → alvL env' ms = true → (∀ a ∈ A, F' a = none ∧ ∀ o, H a = some o → H' a = some o) → OwnL K (plc H' σ env') F' H' ms vs A
  | [], vs, A, h, e, k => by simpa only [OwnL] using h
  | m :: ms, vs, A, h, e, k => by
    simp only [OwnL] at h ⊢
    simp only [alvL, Bool.and_eq_true] at e
    obtain ⟨v, r, B, C, e1, rfl, q, q2⟩ := h
    exact ⟨v, r, B, C, e1, rfl, Own.alive s m v B q e.1 fun a ha => k a (List.mem_append_left _ ha), OwnL.alive s ms r C q2 e.2 fun a ha => k a (List.mem_append_right _ ha)⟩
theorem OwnF.alive (s : Same F F') : ∀ (ms : List (Str × M)) (vs : List (Str × V)) (A : List Addr), OwnF K (plc H σ env) F H ms vs A → alvF env' ms = true → (∀ a ∈ A, F' a = none ∧ ∀ o, H a = some o → H' a = some o) → OwnF K (plc H' σ env') F' H' ms vs A
  | [], vs, A, h, e, k => by simpa only [OwnF] using h
  | m :: ms, vs, A, h, e, k => by
    simp only [OwnF] at h ⊢
    simp only [alvF, Bool.and_eq_true] at e
    obtain ⟨v, r, B, C, e1, rfl, q, q2⟩ := h
    exact ⟨v, r, B, C, e1, rfl, Own.alive s m.2 v B q e.1 fun a ha => k a (List.mem_append_left _ ha), OwnF.alive s ms r C q2 e.2 fun a ha => k a (List.mem_append_right _ ha)⟩
end
def xNil : En → Option (List M × En) := fun env => some ([], env)
def xCons (g : En → Option (M × En)) (gs : En → Option (List M × En)) : En → Option (List M × En) := fun env => match g env with
  | some (m, e1) => match gs e1 with
    | some (ms, e2) => if alv e2 m then some (m :: ms, e2) else none
    | none => none
  | none => none
theorem tXA.nil {R : List V → Hp → Prop} (h : tXA K xNil σ H R) : R [] H := by
  obtain ⟨env, m, env', F, fp, e, ok, q⟩ := h
  cases e
  exact q [] F H fp [] (Go.refl ok) ownL_nil .nil (fun a z => by cases z) fun a z => by cases z
theorem tX.mono {f : En → Option (M × En)} {Q R : VK} (h : tX K f σ H Q) (i : ∀ v H', Q v H' → R v H') : tX K f σ H R := by
  obtain ⟨env, m, env', F, fp, e, ok, q⟩ := h
  exact ⟨env, m, env', F, fp, e, ok, fun v F' H' fp' A a b c d e => i _ _ (q v F' H' fp' A a b c d e)⟩
theorem tXA.mono {f : En → Option (List M × En)} {Q R : List V → Hp → Prop} (h : tXA K f σ H Q) (i : ∀ v H', Q v H' → R v H') : tXA K f σ H R := by
  obtain ⟨env, m, env', F, fp, e, ok, q⟩ := h
  exact ⟨env, m, env', F, fp, e, ok, fun v F' H' fp' A a b c d e => i _ _ (q v F' H' fp' A a b c d e)⟩
theorem tXA.cons {f : En → Option (M × En)} {fs : En → Option (List M × En)} {R : List V → Hp → Prop} (h : tXA K (xCons f fs) σ H R) : tX K f σ H fun v H1 => tXA K fs σ H1 fun vs H2 => R (v :: vs) H2 := by
  obtain ⟨env, m, env', F, fp, e, ok, q⟩ := h
  unfold xCons at e
  split at e
  · rename_i m1 e1 h1
    split at e
    · rename_i ms e2 h2
      split at e
      · rename_i ha
        cases e
        refine ⟨env, m1, e1, F, fp, h1, ok, fun v F1 H1 fp1 A g1 o1 n1 a1 b1 => ?_⟩
        refine ⟨e1, ms, env', F1, fp1, h2, g1.ok, fun vs F2 H2 fp2 B g2 o2 n2 a2 b2 => ?_⟩
        have st := g2.tmp (A := A) fun a ha => ⟨(o1.at _ _ _ a ha).1, (o1.at _ _ _ a ha).2, b1 a ha, by simp⟩
        have on1 : ∀ a, Ond e1 fp1 a → H a = none ∨ Ond env fp a := fun a z => by
          rcases g1.nf a z with z | z | z
          · exact .inl z
          · exact .inr z
          · cases z
        have no : ∀ a ∈ A, a ∉ B := fun a ha hb => by
          rcases a2 a hb with z | z
          · obtain ⟨_, o, z'⟩ := o1.at _ _ _ a ha
            rw [z] at z'
            cases z'
          · exact b1 a ha z
        refine q (v :: vs) F2 H2 fp2 (A ++ B) (g1.trans g2 fun a z => by cases z) ?_ ?_ (fun a ha => ?_) fun a ha => ?_
        · simp only [OwnL]
          exact ⟨v, vs, A, B, rfl, rfl, Own.alive g2.fr _ _ _ o1 ha st, o2⟩
        · exact List.nodup_append.mpr ⟨n1, n2, fun a ha b hb e => no a ha (e ▸ hb)⟩
        · rcases List.mem_append.mp ha with z | z
          · exact a1 a z
          · rcases a2 a z with z | z
            · exact .inl (g1.stay a z)
            · exact on1 a z
        · rcases List.mem_append.mp ha with z | z
          · intro w
            rcases g2.nf a w with w | w | w
            · obtain ⟨_, o, z'⟩ := o1.at _ _ _ a z
              rw [w] at z'
              cases z'
            · exact b1 a z w
            · cases w
          · exact b2 a z
      · cases e
    · cases e
  · cases e
/-- an operation behind arguments -/
def xop (op : En → List M → Option M) (gs : En → Option (List M × En)) : En → Option (M × En) := fun env => match gs env with
  | some (ms, e1) => match op e1 ms with
    | some m => some (m, e1)
    | none => none
  | none => none
theorem tXA.two {f g : En → Option (M × En)} {R : List V → Hp → Prop} (h : tXA K (xCons f (xCons g xNil)) σ H R) : tX K f σ H fun v H1 => tX K g σ H1 fun w H2 => R [v, w] H2 :=
  h.cons.mono fun v H1 h1 => (tXA.cons h1).mono fun w H2 h2 => tXA.nil h2
theorem tXA.one {f : En → Option (M × En)} {R : List V → Hp → Prop} (h : tXA K (xCons f xNil) σ H R) : tX K f σ H fun v H1 => R [v] H1 :=
  h.cons.mono fun v H1 h1 => tXA.nil h1
end
section
variable {X : Cx} {e a b : Expr} {es : List Expr} {f : En → Option M} {g ga gb : En → Option (M × En)} {gs : En → Option (List M × En)} {pos : Pos} {o : En → List M → Option M}
theorem px_of (h : PD X e f) : PX X e (lif f) := PE.imp h fun _ _ _ q => tX.of q
theorem pxa_of {fs : En → Option (List M)} (h : PDA X es fs) : PXA X es (lifA fs) := PA.imp h fun _ _ _ q => tXA.of q
theorem pxt_of {f : En → Option Bool} (h : PDT X e f) : PXT X e (lifT f) := PT.imp h fun _ _ _ q => tXT.of q
theorem pxa_nil : PXA X [] xNil := PA.imp pa_nil fun _ _ _ q => tXA.nil q
theorem pxa_cons (ha : PX X e g) (hr : PXA X es gs) (hs : starEach (e :: es) X.env = (false, eval e X.env) :: starEach es X.env := by rfl) : PXA X (e :: es) (xCons g gs) := PA.imp (pa_cons ha hr hs) fun _ _ _ q => q.cons
abbrev xbin (o : En → List M → Option M) (f g : En → Option (M × En)) := xop o (xCons f (xCons g xNil))
theorem pd_callT {x : Str} {p : Pos} {T : String} {r : List V → Hp → VK → Prop} {fs : En → Option (List M)} (hc : CallR X (.type T) r) (ho : OpS X.K o r) (hg : Gl X x) (hm : X.mg x = none) (hv : bootBuiltins x = some (.type T)) (ha : PDA X (e :: es) fs)
    (hn : x ≠ "__name__" := by decide) (hdb : (x == ("__debug__" : Str)) = false := by decide)
    (he : starEach (e :: es) X.env = (false, eval e X.env) :: starEach es X.env := by rfl) (hpl : (backTo pos (starEach es X.env)).any (·.1) = false := by rfl) : PD X (.Call (.Name x p) (e :: es) [] pos) (opr o fs) :=
  PE.imp (pe_callTy hc hg hm hv ha hn hdb he hpl) fun σ H Q q => tDA.op ho q
def tst (f : En → Option M) : En → Option Bool := fun env => match f env with
  | some (.fz (.bl b)) => some b
  | _ => none
def xtst (g : En → Option (M × En)) : En → Option (Bool × En) := fun env => match g env with
  | some (.fz (.bl b), e) => some (b, e)
  | _ => none
theorem tDT.test {K : PySem.W.Frag} {f : En → Option M} {σ : L2.St} {H : Hp} {Q : Bool → Hp → Prop} (h : tDT K (tst f) σ H Q) : tD K f σ H fun x H1 => ∃ c, x = .bl c ∧ Q c H1 := by
  obtain ⟨env, b, F, fp, e, ok, q⟩ := h
  unfold tst at e
  split at e
  · rename_i b' hb
    cases e
    refine ⟨env, _, F, fp, hb, ok, fun v F' H' A s o n a => ?_⟩
    simp only [Own, Rep] at o
    exact ⟨b, o.2, q F' H' s⟩
  · cases e
theorem tXT.test {K : PySem.W.Frag} {f : En → Option (M × En)} {σ : L2.St} {H : Hp} {Q : Bool → Hp → Prop} (h : tXT K (xtst f) σ H Q) : tX K f σ H fun x H1 => ∃ c, x = .bl c ∧ Q c H1 := by
  obtain ⟨env, b, env', F, fp, e, ok, q⟩ := h
  unfold xtst at e
  split at e
  · rename_i b' e' hb
    cases e
    refine ⟨env, _, _, F, fp, hb, ok, fun v F' H' fp' A g o n a b => ?_⟩
    simp only [Own, Rep] at o
    exact ⟨_, o.2, q F' H' fp' g⟩
  · cases e
theorem pdt_val (h : PD X e f) (he : ∀ whole, isTrue e X.env whole = (do let v ← whole; standAt e.pos; holding [v] (truthy v)) := by intro _; rfl) : PDT X e (tst f) := PT.imp (pt_val h he) fun σ H Q q => q.test
theorem pdt_cmp {fa fb : En → Option M} {op : CmpOp} {r : R2} (hr : OpR X (compareOp op) r) (ho : OpS X.K o (r2L r)) (ha : PD X a fa) (hb : PD X b fb) (hm : behindInMarks op b = false) : PDT X (.Compare a [op] [b] pos) (tst (bin o fa fb)) := by
  refine PT.imp (pt_cmpR hr ha hb hm) fun σ H Q q => ?_
  refine (tDA.op ho q.test).two.mono fun v H1 h1 => h1.mono fun w H2 h2 => ?_
  obtain ⟨x, y, e, h2⟩ := h2
  cases e
  exact h2
end
def PDW (X : Cx) (e : Expr) (f : En → Option Bool) : Prop := PW X e (tDT X.K f)
theorem PW.imp {X : Cx} {e : Expr} {t u : TT} (h : PW X e t) (i : ∀ σ H Q, u σ H Q → t σ H Q) : PW X e u := ⟨fun w pins s σ H Q I q => h.run w pins s σ H Q I (i _ _ _ q)⟩
def dAnd (f g : En → Option Bool) : En → Option Bool := fun env => match f env with
  | some true => g env
  | some false => some false
  | none => none
def dOr (f g : En → Option Bool) : En → Option Bool := fun env => match f env with
  | some false => g env
  | some true => some true
  | none => none
def dNot (f : En → Option Bool) : En → Option Bool := fun env => match f env with
  | some b => some (!b)
  | none => none
def xAnd (f g : En → Option (Bool × En)) : En → Option (Bool × En) := fun env => match f env with
  | some (true, e) => g e
  | some (false, e) => some (false, e)
  | none => none
def xOr (f g : En → Option (Bool × En)) : En → Option (Bool × En) := fun env => match f env with
  | some (false, e) => g e
  | some (true, e) => some (true, e)
  | none => none
def xNot (f : En → Option (Bool × En)) : En → Option (Bool × En) := fun env => match f env with
  | some (b, e) => some (!b, e)
  | none => none
section
variable {K : PySem.W.Frag} {σ : L2.St} {H : Hp}
theorem tDT.and {f g : En → Option Bool} {Q : Bool → Hp → Prop} (h : tDT K (dAnd f g) σ H Q) : tDT K f σ H fun c H1 => if c = true then tDT K g σ H1 Q else Q false H1 := by
  obtain ⟨env, b, F, fp, e, ok, q⟩ := h
  unfold dAnd at e
  split at e
  · rename_i hb
    refine ⟨env, true, F, fp, hb, ok, fun F1 H1 s => ?_⟩
    exact iteT (⟨env, b, F1, fp, e, ok.step s (fun a z => by cases z), fun F2 H2 s2 => q F2 H2 (s.trans s2 fun a z => by cases z)⟩)
  · rename_i hb
    cases e
    exact ⟨env, false, F, fp, hb, ok, fun F1 H1 s => iteF (q F1 H1 s)⟩
  · cases e
theorem tDT.or {f g : En → Option Bool} {Q : Bool → Hp → Prop} (h : tDT K (dOr f g) σ H Q) : tDT K f σ H fun c H1 => if c = true then Q true H1 else tDT K g σ H1 Q := by
  obtain ⟨env, b, F, fp, e, ok, q⟩ := h
  unfold dOr at e
  split at e
  · rename_i hb
    refine ⟨env, false, F, fp, hb, ok, fun F1 H1 s => ?_⟩
    exact iteF (⟨env, b, F1, fp, e, ok.step s (fun a z => by cases z), fun F2 H2 s2 => q F2 H2 (s.trans s2 fun a z => by cases z)⟩)
  · rename_i hb
    cases e
    exact ⟨env, true, F, fp, hb, ok, fun F1 H1 s => iteT (q F1 H1 s)⟩
  · cases e
theorem tDT.not {f : En → Option Bool} {Q : Bool → Hp → Prop} (h : tDT K (dNot f) σ H Q) : tDT K f σ H fun c H1 => Q (!c) H1 := by
  obtain ⟨env, b, F, fp, e, ok, q⟩ := h
  unfold dNot at e
  split at e
  · rename_i b' hb
    cases e
    exact ⟨env, b', F, fp, hb, ok, q⟩
  · cases e
theorem tXT.and {f g : En → Option (Bool × En)} {Q : Bool → Hp → Prop} (h : tXT K (xAnd f g) σ H Q) : tXT K f σ H fun c H1 => if c = true then tXT K g σ H1 Q else Q false H1 := by
  obtain ⟨env, b, env', F, fp, e, ok, q⟩ := h
  unfold xAnd at e
  split at e
  · rename_i e1 hb
    refine ⟨env, true, e1, F, fp, hb, ok, fun F1 H1 fp1 s => ?_⟩
    exact iteT (⟨e1, b, env', F1, fp1, e, s.ok, fun F2 H2 fp2 s2 => q F2 H2 fp2 (s.trans s2 fun a z => by cases z)⟩)
  · rename_i e1 hb
    cases e
    exact ⟨env, false, _, F, fp, hb, ok, fun F1 H1 fp1 s => iteF (q F1 H1 fp1 s)⟩
  · cases e
theorem tXT.or {f g : En → Option (Bool × En)} {Q : Bool → Hp → Prop} (h : tXT K (xOr f g) σ H Q) : tXT K f σ H fun c H1 => if c = true then Q true H1 else tXT K g σ H1 Q := by
  obtain ⟨env, b, env', F, fp, e, ok, q⟩ := h
  unfold xOr at e
  split at e
  · rename_i e1 hb
    refine ⟨env, false, e1, F, fp, hb, ok, fun F1 H1 fp1 s => ?_⟩
    exact iteF (⟨e1, b, env', F1, fp1, e, s.ok, fun F2 H2 fp2 s2 => q F2 H2 fp2 (s.trans s2 fun a z => by cases z)⟩)
  · rename_i e1 hb
    cases e
    exact ⟨env, true, _, F, fp, hb, ok, fun F1 H1 fp1 s => iteT (q F1 H1 fp1 s)⟩
  · cases e
theorem tXT.not {f : En → Option (Bool × En)} {Q : Bool → Hp → Prop} (h : tXT K (xNot f) σ H Q) : tXT K f σ H fun c H1 => Q (!c) H1 := by
  obtain ⟨env, b, env', F, fp, e, ok, q⟩ := h
  unfold xNot at e
  split at e
  · rename_i b' e' hb
    cases e
    exact ⟨env, b', _, F, fp, hb, ok, q⟩
  · cases e
end
section
variable {X : Cx} {a b : Expr} {rest : List Expr} {f g : En → Option Bool} {xf xg : En → Option (Bool × En)} {pos : Pos}
theorem pdw_and1 (h : PDT X a f) : PDW X (.BoolOp .And [a] pos) f := pw_and1 h
theorem pdw_or1 (h : PDT X a f) : PDW X (.BoolOp .Or [a] pos) f := pw_or1 h
theorem pdw_and (h : PDT X a f) (hb : PDW X (.BoolOp .And (b :: rest) pos) g) : PDW X (.BoolOp .And (a :: b :: rest) pos) (dAnd f g) := PW.imp (pw_and h hb) fun σ H Q q => q.and
theorem pdw_or (h : PDT X a f) (hb : PDW X (.BoolOp .Or (b :: rest) pos) g) : PDW X (.BoolOp .Or (a :: b :: rest) pos) (dOr f g) := PW.imp (pw_or h hb) fun σ H Q q => q.or
theorem PDW.t {e : Expr} (h : PDW X e f) : PDT X e f := PW.pt h
theorem pdt_not (h : PDT X a f) : PDT X (.UnaryOp .Not a pos) (dNot f) := PT.imp (pt_not h) fun σ H Q q => q.not
end
def val (f : En → Option Bool) : En → Option M := fun env => match f env with
  | some b => some (.fz (.bl b))
  | none => none
section
variable {X : Cx} {a b : Expr} {rest : List Expr} {f g : En → Option M} {pos : Pos}
def vAnd (f g : En → Option M) : En → Option M := fun env => match f env with
  | some (.fz (.bl true)) => g env
  | some (.fz (.bl false)) => some (.fz (.bl false))
  | _ => none
def vOr (f g : En → Option M) : En → Option M := fun env => match f env with
  | some (.fz (.bl false)) => g env
  | some (.fz (.bl true)) => some (.fz (.bl true))
  | _ => none
theorem pd_one {op} (h : PD X a f) : PD X (.BoolOp op [a] pos) f := pe_one h
theorem pd_and (ha : PD X a f) (hb : PD X (.BoolOp .And (b :: rest) pos) g) : PD X (.BoolOp .And (a :: b :: rest) pos) (vAnd f g) := by
  refine PE.imp (pe_and ha hb) fun σ H Q h => ?_
  obtain ⟨env, m, F, fp, e, ok, q⟩ := h
  unfold vAnd at e
  split at e
  · rename_i h1
    refine ⟨env, _, F, fp, h1, ok, fun v F1 H1 A s o n aa => ?_⟩
    simp only [Own, Rep] at o
    refine ⟨true, o.2, ?_⟩
    exact iteT (⟨env, m, F1, fp, e, ok.step s (fun a z => by cases z), fun v2 F2 H2 A2 s2 o2 n2 a2 => q v2 F2 H2 A2 (s.trans s2 fun a z => by cases z) o2 n2 fun a ha => s.hp.free (a2 a ha)⟩)
  · rename_i h1
    cases e
    refine ⟨env, _, F, fp, h1, ok, fun v F1 H1 A s o n aa => ?_⟩
    simp only [Own, Rep] at o
    refine ⟨false, o.2, ?_⟩
    exact iteF (q _ F1 H1 [] s (own_fz (by simp only [Rep])) .nil fun a z => by cases z)
  · cases e
/-- a if t else b -/
def dIf (t : En → Option Bool) (f g : En → Option M) : En → Option M := fun env => match t env with
  | some true => f env
  | some false => g env
  | none => none
end
end T2
end
section
set_option Elab.async false
set_option linter.all false
set_option maxRecDepth 100000
namespace T2
open PySem PySem.Spec PyProof.Rows L2
/-- how a statement ends -/
inductive Fl where
  | nx (e : En) | rt (m : M) (e : En) | bk (e : En) | ct (e : En)
/-- the slots lk keep their values -/
def Lk (lk : Nat → Bool) (σ σ' : L2.St) : Prop := ∀ i, lk i = true → σ'[i]? = σ[i]?
theorem Lk.trans {lk : Nat → Bool} {σ σ1 σ2 : L2.St} (a : Lk lk σ σ1) (b : Lk lk σ1 σ2) : Lk lk σ σ2 := fun i h => (b i h).trans (a i h)
section
variable (K : PySem.W.Frag) (lk : Nat → Bool)
def Fin (D : Ends) (σ : L2.St) (env : En) (fp : Nat → List Addr) (F H : Hp) : Fl → Prop
  | .nx e' => ∀ σ' F' H' fp', Go K [] σ env fp F H σ' e' fp' F' H' → Lk lk σ σ' → D.nx σ' H'
  | .bk e' => ∀ σ' F' H' fp', Go K [] σ env fp F H σ' e' fp' F' H' → Lk lk σ σ' → D.bk σ' H'
  | .ct e' => ∀ σ' F' H' fp', Go K [] σ env fp F H σ' e' fp' F' H' → Lk lk σ σ' → D.ct σ' H'
  | .rt m e' => ∀ v σ' F' H' fp' A, Go K [] σ env fp F H σ' e' fp' F' H' → Lk lk σ σ' → Own K noBr F' H' m v A → A.Nodup → (∀ a ∈ A, H a = none ∨ Ond env fp a) → (∀ a ∈ A, ¬ Ond e' fp' a) → D.rt v H'
def tS (f : En → Option Fl) : TS := fun D σ H => ∃ env r F fp, f env = some r ∧ EnvOk K F H σ env fp ∧ Fin K lk D σ env fp F H r
end
def PDS (X : Cx) (lk : Nat → Bool) (st : Stmt) (f : En → Option Fl) : Prop := PS X st (tS X.K lk f)
def PDSs (X : Cx) (lk : Nat → Bool) (sts : List Stmt) (f : En → Option Fl) : Prop := PSs X sts (tS X.K lk f)
theorem PS.imp {X : Cx} {e : Stmt} {t u : TS} (h : PS X e t) (i : ∀ D σ H, u D σ H → t D σ H) : PS X e u := ⟨fun pins s σ H Q I q => h.run pins s σ H Q I (i _ _ _ q)⟩
theorem PSs.imp {X : Cx} {e : List Stmt} {t u : TS} (h : PSs X e t) (i : ∀ D σ H, u D σ H → t D σ H) : PSs X e u := ⟨fun pins s σ H Q I q => h.run pins s σ H Q I (i _ _ _ q)⟩
section
variable {K : PySem.W.Frag} {lk : Nat → Bool} {F H F' H' F1 H1 F2 H2 : Hp} {σ σ' σ1 σ2 : L2.St} {env env' env1 env2 : En} {fp fp' fp1 fp2 : Nat → List Addr} {A B T : List Addr} {D : Ends}
theorem Go.ond (g : Go K [] σ env fp F H σ1 env1 fp1 F1 H1) {a : Addr} (h : Ond env1 fp1 a) : H a = none ∨ Ond env fp a := by
  rcases g.nf a h with z | z | z
  · exact .inl z
  · exact .inr z
  · cases z
theorem Fin.after {r : Fl} (q : Fin K lk D σ env fp F H r) (g : Go K [] σ env fp F H σ1 env1 fp1 F1 H1) (l : Lk lk σ σ1) : Fin K lk D σ1 env1 fp1 F1 H1 r := by
  cases r with
  | nx e => exact fun σ' F' H' fp' g' l' => q σ' F' H' fp' (g.trans g' fun a z => by cases z) (l.trans l')
  | bk e => exact fun σ' F' H' fp' g' l' => q σ' F' H' fp' (g.trans g' fun a z => by cases z) (l.trans l')
  | ct e => exact fun σ' F' H' fp' g' l' => q σ' F' H' fp' (g.trans g' fun a z => by cases z) (l.trans l')
  | rt m e => exact fun v σ' F' H' fp' A g' l' o n a b => q v σ' F' H' fp' A (g.trans g' fun a z => by cases z) (l.trans l') o n (fun c hc => by
      rcases a c hc with z | z
      · exact .inl (g.stay c z)
      · exact g.ond z) b
end
def sNil : En → Option Fl := fun env => some (.nx env)
def sSeq (f g : En → Option Fl) : En → Option Fl := fun env => match f env with
  | some (.nx e) => g e
  | r => r
section
variable {X : Cx} {lk : Nat → Bool} {st : Stmt} {sts : List Stmt} {f g : En → Option Fl} {pos : Pos}
theorem pds_nil : PDSs X lk [] sNil := by
  refine PSs.imp pss_nil fun D σ H h => ?_
  obtain ⟨env, r, F, fp, e, ok, q⟩ := h
  cases e
  exact q σ F H fp (Go.refl ok) fun i _ => rfl
theorem pds_cons (h1 : PDS X lk st f) (h2 : PDSs X lk sts g) : PDSs X lk (st :: sts) (sSeq f g) := by
  refine PSs.imp (pss_cons h1 h2) fun D σ H h => ?_
  obtain ⟨env, r, F, fp, e, ok, q⟩ := h
  unfold sSeq at e
  split at e
  · rename_i e1 h1
    exact ⟨env, _, F, fp, h1, ok, fun σ1 F1 H1 fp1 g1 l1 => ⟨e1, r, F1, fp1, e, g1.ok, q.after g1 l1⟩⟩
  · rename_i r' hne
    cases r with
    | nx e1 => exact absurd e (hne e1)
    | rt m e1 => exact ⟨env, _, F, fp, e, ok, q⟩
    | bk e1 => exact ⟨env, _, F, fp, e, ok, q⟩
    | ct e1 => exact ⟨env, _, F, fp, e, ok, q⟩
theorem pds_one (h1 : PDS X lk st f) : PDSs X lk [st] f := pss_one h1
theorem pds_never : PDS X lk st (fun _ => none) := by
  refine PS.imp ps_never fun D σ H h => ?_
  obtain ⟨env, r, F, fp, e, ok, q⟩ := h
  cases e
/-- if -/
def sIf (t : En → Option (Bool × En)) (f g : En → Option Fl) : En → Option Fl := fun env => match t env with
  | some (true, e) => f e
  | some (false, e) => g e
  | none => none
theorem pds_if {c : Expr} {a b : List Stmt} {t : En → Option (Bool × En)} (hc : PXT X c t) (ha : PDSs X lk a f) (hb : PDSs X lk b g) : PDS X lk (.If c a b pos) (sIf t f g) := by
  refine PS.imp (ps_if hc ha hb) fun D σ H h => ?_
  obtain ⟨env, r, F, fp, e, ok, q⟩ := h
  unfold sIf at e
  split at e
  · rename_i e1 h1
    exact ⟨env, true, e1, F, fp, h1, ok, fun F1 H1 fp1 g1 => iteT ⟨e1, r, F1, fp1, e, g1.ok, q.after g1 fun i _ => rfl⟩⟩
  · rename_i e1 h1
    exact ⟨env, false, e1, F, fp, h1, ok, fun F1 H1 fp1 g1 => iteF ⟨e1, r, F1, fp1, e, g1.ok, q.after g1 fun i _ => rfl⟩⟩
  · cases e
/-- an expression for what it does -/
def sExp (g : En → Option (M × En)) : En → Option Fl := fun env => match g env with
  | some (_, e) => some (.nx e)
  | none => none
theorem pds_expr {e : Expr} {g : En → Option (M × En)} (he : PX X e g) (hs : swapsWith e none pos.line X.env = pure false := by rfl) : PDS X lk (.Expr e pos) (sExp g) := by
  refine PS.imp (ps_expr he hs) fun D σ H h => ?_
  obtain ⟨env, r, F, fp, e, ok, q⟩ := h
  unfold sExp at e
  split at e
  · rename_i m e1 h1
    cases e
    exact ⟨env, m, e1, F, fp, h1, ok, fun v F' H' fp' A g1 o n a b => q σ F' H' fp' g1 fun i _ => rfl⟩
  · cases e
end
section
variable {K : PySem.W.Frag} {lk : Nat → Bool} {F H F' H' F1 H1 F2 H2 : Hp} {σ σ' σ1 σ2 : L2.St} {env env' env1 env2 : En} {fp fp' fp1 fp2 : Nat → List Addr} {A B T : List Addr} {D : Ends}
theorem set_ok {i : Nat} {m : M} {v : V} (ok : EnvOk K F H σ env fp) (h : Own K noBr F H m v A) (hn : A.Nodup) (hA : ∀ a ∈ A, ¬ Ond env fp a) (hi : i < env.length) : Go K A σ env fp F H (σ.set i (some v)) (env.put i m) (fun j => if j = i then A else fp j) F H := by
  refine ⟨.refl _, fun _ _ e _ _ => e, fun _ e => e, fun _ e => .inl e, fun a ⟨j, n, hj, ha⟩ => ?_, ?_, fun _ _ _ e => e⟩
  · by_cases e : j = i
    · simp only [if_pos e] at ha
      exact .inr (.inr ha)
    · simp only [if_neg e] at ha
      rw [En.get_put hi, if_neg e] at hj
      exact .inr (.inl ⟨j, n, hj, ha⟩)
  · refine ⟨?_, ok.sub, fun j n hj => ?_, fun j n hj => ?_, fun j k n n' a hj hk ha hb => ?_⟩
    · unfold En.put
      rw [List.length_set, List.length_set]
      exact ok.len
    · rw [En.get_put hi] at hj
      by_cases e : j = i
      · subst e
        rw [if_pos rfl] at hj
        cases hj
        refine ⟨v, List.getElem?_set_self (by rw [← ok.len]; exact hi), ?_⟩
        simp only [if_pos]
        exact h
      · rw [if_neg e] at hj
        obtain ⟨w, k1, k2⟩ := ok.slot j n hj
        refine ⟨w, by rw [List.getElem?_set_ne (Ne.symm e)]; exact k1, ?_⟩
        simp only [if_neg e]
        exact k2
    · by_cases e : j = i
      · simp only [if_pos e]
        exact hn
      · rw [En.get_put hi, if_neg e] at hj
        simp only [if_neg e]
        exact ok.nd j n hj
    · by_cases e : j = i
      · simp only [if_pos e] at ha
        by_cases e' : k = i
        · rw [e, e']
        · simp only [if_neg e'] at hb
          rw [En.get_put hi, if_neg e'] at hk
          exact absurd ⟨k, n', hk, hb⟩ (hA a ha)
      · simp only [if_neg e] at ha
        rw [En.get_put hi, if_neg e] at hj
        by_cases e' : k = i
        · simp only [if_pos e'] at hb
          exact absurd ⟨j, n, hj, ha⟩ (hA a hb)
        · simp only [if_neg e'] at hb
          rw [En.get_put hi, if_neg e'] at hk
          exact ok.dj j k n n' a hj hk ha hb
/-- behind a result: it is stored -/
theorem stow_go {k : Nat} {m m' : M} {v : V} {env2 : En} (g : Go K [] σ env fp F H σ env1 fp1 F1 H1) (o : Own K (plc H1 σ env1) F1 H1 m v A) (n : A.Nodup) (a : ∀ a ∈ A, H a = none ∨ Ond env fp a) (b : ∀ a ∈ A, ¬ Ond env1 fp1 a) (e : stow k env1 m = some (m', env2)) :
    ∃ F2 fp2 A', Go K [] σ env fp F H σ env2 fp2 F2 H1 ∧ Own K noBr F2 H1 m' v A' ∧ A'.Nodup ∧ (∀ a ∈ A', H a = none ∨ Ond env fp a) ∧ (∀ a ∈ A', ¬ Ond env2 fp2 a) := by
  obtain ⟨F2, fp2, A', g2, o2, s2, k2⟩ := stow_ok g.ok o n b e
  exact ⟨F2, fp2, A', g.trans g2 a, o2, n.sublist s2, fun c hc => a c (s2.subset hc), fun c hc z => b c (s2.subset hc) (k2 c z)⟩
end
/-- name = e: the first k levels stay owned -/
def sAsg (lk : Nat → Bool) (i k : Nat) (g : En → Option (M × En)) : En → Option Fl := fun env => match g env with
  | some (m, e1) => match stow k e1 m with
    | some (m', e2) => if lk i = false ∧ i < e2.length then some (.nx (e2.put i m')) else none
    | none => none
  | none => none
theorem Lk.set {lk : Nat → Bool} {σ : L2.St} {i : Nat} {v : V} (h : lk i = false) : Lk lk σ (σ.set i (some v)) := fun j hj => by
  have : i ≠ j := fun e => by
    subst e
    rw [h] at hj
    cases hj
  rw [List.getElem?_set_ne this]
section
variable {X : Cx} {lk : Nat → Bool} {i k : Nat} {g : En → Option (M × En)}
theorem pds_asg {st : Stmt} (h : PS X st (tAsg (tX X.K g) (gName i))) : PDS X lk st (sAsg lk i k g) := by
  refine PS.imp h fun D σ H h => ?_
  obtain ⟨env, r, F, fp, e, ok, q⟩ := h
  unfold sAsg at e
  split at e
  · rename_i m e1 h1
    split at e
    · rename_i m' e2 h2
      split at e
      · rename_i hi
        cases e
        refine ⟨env, m, e1, F, fp, h1, ok, fun v F1 H1 fp1 A g1 o n a b => ?_⟩
        obtain ⟨F2, fp2, A', g2, o2, n2, a2, b2⟩ := stow_go g1 o n a b h2
        exact q _ F2 H1 _ (g2.trans (set_ok g2.ok o2 n2 b2 hi.2) a2) (Lk.set hi.1)
      · cases e
    · cases e
  · cases e
theorem pds_set {x : Str} {e : Expr} {pos pos' : Pos} (hN : X.N.Nodup) (he : PX X e g) (hi : X.N[i]? = some x := by rfl) (hx : Loc X.env.scope x := by first | exact .inl rfl | exact .inr rfl) (hs : swapsWith e (some (.Name x pos')) pos.line X.env = pure false := by rfl)
    (hf : X.fn x = true ∨ X.env.scope.names.lookup x = some .local := by first | exact .inl rfl | exact .inr rfl | assumption) : PDS X lk (.Assign [.Name x pos'] e pos) (sAsg lk i k g) := pds_asg (ps_set hN hi hx he hs hf)
end
def sRet (lk : Nat → Bool) (g : En → Option (M × En)) : En → Option Fl := fun env => match g env with
  | some (.bp i [], e1) => match e1.get i with
    | some m => if lk i = false then some (.rt m (e1.kill i)) else none
    | none => none
  | some (m, e1) => match stow 9 e1 m with
    | some (m', e2) => some (.rt m' e2)
    | none => none
  | none => none
section
variable {X : Cx} {lk : Nat → Bool} {g : En → Option (M × En)} {e : Expr} {pos : Pos}
theorem kill_ok {K : PySem.W.Frag} {F H : Hp} {σ : L2.St} {env : En} {fp : Nat → List Addr} {i : Nat} (ok : EnvOk K F H σ env fp) : Go K [] σ env fp F H σ (env.kill i) fp F H := by
  refine ⟨.refl _, fun _ _ e _ _ => e, fun _ e => e, fun _ e => .inl e, fun a ⟨j, n, hj, ha⟩ => ?_, ?_, fun _ _ _ e => e⟩
  · rw [En.get_kill] at hj
    split at hj
    · cases hj
    · exact .inr (.inl ⟨j, n, hj, ha⟩)
  · refine ⟨by unfold En.kill; rw [List.length_set]; exact ok.len, ok.sub, fun j n hj => ?_, fun j n hj => ?_, fun j k n n' a hj hk ha hb => ?_⟩
    · rw [En.get_kill] at hj
      split at hj
      · cases hj
      · exact ok.slot j n hj
    · rw [En.get_kill] at hj
      split at hj
      · cases hj
      · exact ok.nd j n hj
    · rw [En.get_kill] at hj hk
      split at hj
      · cases hj
      · split at hk
        · cases hk
        · exact ok.dj j k n n' a hj hk ha hb
theorem pds_ret (he : PX X e g) : PDS X lk (.Return (some e) pos) (sRet lk g) := by
  refine PS.imp (ps_ret he) fun D σ H h => ?_
  obtain ⟨env, r, F, fp, e, ok, q⟩ := h
  unfold sRet at e
  split at e
  · rename_i i e1 h1
    split at e
    · rename_i m hm
      split at e
      · rename_i hl
        cases e
        refine ⟨env, _, e1, F, fp, h1, ok, fun v F1 H1 fp1 A g1 o n a b => ?_⟩
        simp only [Own] at o
        obtain ⟨_, w, hw, hv, _⟩ := o
        have hv : v = w := hv
        subst hv
        obtain ⟨u, k1, k2⟩ := g1.ok.slot i m hm
        rw [hw] at k1
        cases k1
        refine q v σ F1 H1 fp1 (fp1 i) (g1.trans (kill_ok g1.ok) fun a z => by cases z) (fun _ _ => rfl) k2 (g1.ok.nd i m hm) (fun c hc => g1.ond ⟨i, m, hm, hc⟩) fun c hc ⟨j, n, hj, hc'⟩ => ?_
        rw [En.get_kill] at hj
        split at hj
        · cases hj
        · rename_i hne
          exact hne (g1.ok.dj j i n m c hj hm hc' hc)
      · cases e
    · cases e
  · rename_i m e1 hne h1
    split at e
    · rename_i m' e2 h2
      cases e
      refine ⟨env, m, e1, F, fp, h1, ok, fun v F1 H1 fp1 A g1 o n a b => ?_⟩
      obtain ⟨F2, fp2, A', g2, o2, n2, a2, b2⟩ := stow_go g1 o n a b h2
      exact q v σ F2 H1 fp2 A' g2 (fun _ _ => rfl) o2 n2 a2 b2
    · cases e
  · cases e
end
inductive Tg where
  | nm (i : Nat) | tp (ts : List Tg)
mutual
def asT (lk : Nat → Bool) : Tg → D → En → Option En
  | .nm i, d, env => if lk i = false ∧ i < env.length then some (env.put i (.fz d)) else none
  | .tp ts, .tup ds, env => if ts.length = ds.length then asTs lk ts ds env else none
  | .tp ts, .lst ds, env => if ts.length = ds.length then asTs lk ts ds env else none
  | .tp _, _, _ => none
def asTs (lk : Nat → Bool) : List Tg → List D → En → Option En
  | [], [], env => some env
  | t :: ts, d :: ds, env => match asT lk t d env with
    | some e => asTs lk ts ds e
    | none => none
  | _, _, _ => none
end
mutual
theorem asT_len {lk : Nat → Bool} : ∀ (t : Tg) (d : D) (env env' : En), asT lk t d env = some env' → env'.length = env.length
  | .nm i, d, env, env', e => by
    simp only [asT] at e
    split at e
    · cases e
      unfold En.put
      rw [List.length_set]
    · cases e
  | .tp ts, .tup ds, env, env', e => by
    simp only [asT] at e
    split at e
    · exact asTs_len ts ds env env' e
    · cases e
  | .tp ts, .non, env, env', e => by simp only [asT] at e; cases e
  | .tp ts, .bl _, env, env', e => by simp only [asT] at e; cases e
  | .tp ts, .int _, env, env', e => by simp only [asT] at e; cases e
  | .tp ts, .str _, env, env', e => by simp only [asT] at e; cases e
  | .tp ts, .lst ds, env, env', e => by
    simp only [asT] at e
    split at e
    · exact asTs_len ts ds env env' e
    · cases e
  | .tp ts, .ins _ _, env, env', e => by simp only [asT] at e; cases e
  | .tp ts, .dic _ _, env, env', e => by simp only [asT] at e; cases e
  | .tp ts, .any, env, env', e => by simp only [asT] at e; cases e
  | .tp ts, .exc _ _ _, env, env', e => by simp only [asT] at e; cases e
  | .tp ts, .scr _, env, env', e => by simp only [asT] at e; cases e
theorem asTs_len {lk : Nat → Bool} : ∀ (ts : List Tg) (ds : List D) (env env' : En), asTs lk ts ds env = some env' → env'.length = env.length
  | [], [], env, env', e => by simp only [asTs, Option.some.injEq] at e; rw [e]
  | t :: ts, d :: ds, env, env', e => by
    simp only [asTs] at e
    split at e
    · rename_i e1 h1
      rw [asTs_len ts ds e1 env' e, asT_len t d env e1 h1]
    · cases e
  | [], d :: ds, env, env', e => by simp only [asTs] at e; cases e
  | t :: ts, [], env, env', e => by simp only [asTs] at e; cases e
end
section
variable (K : PySem.W.Frag) (lk : Nat → Bool)
/-- a target takes data -/
def tT (t : Tg) : TG := fun v σ H Q => ∃ d env env' F fp, Rep K F d v ∧ asT lk t d env = some env' ∧ EnvOk K F H σ env fp ∧ ∀ σ' fp', Go K [] σ env fp F H σ' env' fp' F H → Lk lk σ σ' → Q σ' H
def tTs (t : List Tg) : TGs := fun vs σ H Q => ∃ ds env env' F fp, RepL K F ds vs ∧ asTs lk t ds env = some env' ∧ EnvOk K F H σ env fp ∧ ∀ σ' fp', Go K [] σ env fp F H σ' env' fp' F H → Lk lk σ σ' → Q σ' H
end
def PT' (X : Cx) (lk : Nat → Bool) (e : Expr) (t : Tg) : Prop := PG X e (tT X.K lk t)
def PTs' (X : Cx) (lk : Nat → Bool) (es : List Expr) (t : List Tg) : Prop := PGs X es (tTs X.K lk t)
theorem PG.imp {X : Cx} {e : Expr} {t u : TG} (h : PG X e t) (i : ∀ v σ H Q, u v σ H Q → t v σ H Q) : PG X e u := ⟨fun pins s σ H v w Q I r q => h.run pins s σ H v w Q I r (i _ _ _ _ q)⟩
theorem PGs.imp {X : Cx} {e : List Expr} {t u : TGs} (h : PGs X e t) (i : ∀ v σ H Q, u v σ H Q → t v σ H Q) : PGs X e u := ⟨fun pins s σ H v w Q I r q => h.run pins s σ H v w Q I r (i _ _ _ _ q)⟩
section
variable {X : Cx} {lk : Nat → Bool} {e : Expr} {es : List Expr} {t : Tg} {ts : List Tg} {pos : Pos}
theorem pt_nm {i : Nat} {x : Str} (hN : X.N.Nodup) (hi : X.N[i]? = some x := by rfl) (hx : Loc X.env.scope x := by first | exact .inl rfl | exact .inr rfl) (hf : X.fn x = true ∨ X.env.scope.names.lookup x = some .local := by first | exact .inl rfl | exact .inr rfl | assumption) : PT' X lk (.Name x pos) (.nm i) := by
  refine PG.imp (pg_name hN hi hx hf) fun v σ H Q h => ?_
  obtain ⟨d, env, env', F, fp, r, e, ok, q⟩ := h
  simp only [asT] at e
  split at e
  · rename_i hi
    cases e
    have g := set_ok (i := i) (v := v) ok (own_fz (br := noBr) (H := H) r) .nil (fun a z => by cases z) hi.2
    exact q _ _ g (Lk.set hi.1)
  · cases e
theorem pts_nil' : PTs' X lk [] [] := by
  refine PGs.imp pgs_nil fun v σ H Q h => ?_
  obtain ⟨ds, env, env', F, fp, r, e, ok, q⟩ := h
  cases ds with
  | nil =>
    simp only [asTs, Option.some.injEq] at e
    subst e
    simp only [RepL] at r
    exact ⟨r, q σ fp (Go.refl ok) fun _ _ => rfl⟩
  | cons d ds => simp only [asTs] at e; cases e
theorem pts_cons' (h1 : PT' X lk e t) (h2 : PTs' X lk es ts) (hs : (assignEach (e :: es) X.env).map (·.2) = assign e X.env :: (assignEach es X.env).map (·.2) := by rfl) : PTs' X lk (e :: es) (t :: ts) := by
  refine PGs.imp (pgs_cons h1 h2 hs) fun v σ H Q h => ?_
  obtain ⟨ds, env, env', F, fp, r, e, ok, q⟩ := h
  cases ds with
  | nil => simp only [asTs] at e; cases e
  | cons d ds =>
    simp only [asTs] at e
    split at e
    · rename_i e1 h1
      simp only [RepL] at r
      obtain ⟨w, vs, rfl, r1, r2⟩ := r
      refine ⟨w, vs, rfl, d, env, e1, F, fp, r1, h1, ok, fun σ1 fp1 g1 l1 => ?_⟩
      exact ⟨ds, e1, env', F, fp1, r2, e, g1.ok, fun σ2 fp2 g2 l2 => q σ2 fp2 (g1.trans g2 fun a z => by cases z) (l1.trans l2)⟩
    · cases e
theorem RepL.len {K : PySem.W.Frag} {F : Hp} : ∀ {ds : List D} {vs : List V}, RepL K F ds vs → ds.length = vs.length
  | [], vs, h => by
    simp only [RepL] at h
    rw [h]
    rfl
  | d :: ds, vs, h => by
    simp only [RepL] at h
    obtain ⟨v, r, rfl, _, q⟩ := h
    simp only [List.length_cons, RepL.len q]
theorem PG.or {e : Expr} {t u : TG} (h : PG X e t) (h' : PG X e u) : PG X e (fun v σ H Q => t v σ H Q ∨ u v σ H Q) := ⟨fun pins s σ H v w Q I r q => q.elim (h.run pins s σ H v w Q I r) (h'.run pins s σ H v w Q I r)⟩
theorem pt_tp {k : Nat} {n : Nat} (hc : X.calm = true) (h : PTs' X lk es ts) (hn : (assignEach es X.env).length = n := by rfl) (hl : ts.length = n := by rfl) (hst : (assignEach es X.env).findIdx? (·.1) = none := by rfl) : PT' X lk (.Tuple es k pos) (.tp ts) := by
  refine PG.imp (PG.or (pg_tup hc h hn hst) (pg_unl hc h hn hst)) fun v σ H Q h => ?_
  obtain ⟨d, env, env', F, fp, r, e, ok, q⟩ := h
  cases d with
  | tup ds =>
    simp only [asT] at e
    split at e
    · rename_i hl'
      simp only [Rep] at r
      obtain ⟨a, vs, rfl, r1, r2⟩ := r
      exact .inl ⟨a, vs, rfl, SqT.of (ok.sub _ _ r1), by rw [← r2.len, ← hl', hl], ds, env, env', F, fp, r2, e, ok, q⟩
    · cases e
  | non => cases e
  | bl _ => cases e
  | int _ => cases e
  | str _ => cases e
  | lst ds =>
    simp only [asT] at e
    split at e
    · rename_i hl'
      simp only [Rep] at r
      obtain ⟨a, vs, rfl, r1, r2⟩ := r
      exact .inr ⟨a, vs, rfl, SqL.of (ok.sub _ _ r1), by rw [← r2.len, ← hl', hl], ds, env, env', F, fp, r2, e, ok, q⟩
    · cases e
  | ins _ _ => cases e
  | dic _ _ => cases e
  | any => cases e
  | exc _ _ _ => cases e
  | scr _ => cases e
/-- targets = e, frozen -/
def sUnp (lk : Nat → Bool) (t : Tg) (g : En → Option (M × En)) : En → Option Fl := fun env => match g env with
  | some (m, e1) => match stow 0 e1 m with
    | some (.fz d, e2) => match asT lk t d e2 with
      | some e3 => some (.nx e3)
      | none => none
    | _ => none
  | none => none
theorem pds_unp {tg : Expr} {g : En → Option (M × En)} (he : PX X e g) (ht : PT' X lk tg t) (hs : swapsWithSole [tg] e pos.line X.env = pure false := by rfl) (hw : swappedStores [tg] e X.env = pure none := by rfl)
    (h1 : (assignEach [tg] X.env).map (·.2) = [assign tg X.env] := by rfl) : PDS X lk (.Assign [tg] e pos) (sUnp lk t g) := by
  refine PS.imp (ps_asg he ht hs hw h1) fun D σ H h => ?_
  obtain ⟨env, r, F, fp, e, ok, q⟩ := h
  unfold sUnp at e
  split at e
  · rename_i m e1 h1
    split at e
    · rename_i d e2 h2
      split at e
      · rename_i e3 h3
        cases e
        refine ⟨env, m, e1, F, fp, h1, ok, fun v F1 H1 fp1 A g1 o n a b => ?_⟩
        obtain ⟨F2, fp2, A', g2, o2, n2, a2, b2⟩ := stow_go g1 o n a b h2
        simp only [Own] at o2
        exact ⟨d, e2, e3, F2, fp2, o2.2, h3, g2.ok, fun σ' fp' g3 l3 => q σ' F2 H1 fp' (g2.trans g3 fun a z => by cases z) l3⟩
      · cases e
    · cases e
  · cases e
end
end T2
end
section
set_option Elab.async false
set_option linter.all false
set_option maxRecDepth 100000
namespace T2
open PySem PySem.Spec PyProof.Rows L2
structure ItOk (K : PySem.W.Frag) (J : It) (F0 G0 : Hp) (ds : List D) : Prop where
  go : ∀ i F H d, Same F0 F → Same G0 H → Same F H → ds[i]? = some d → J.go i H ∧ ∀ x H', J.yld i H x H' → ∃ F', Step [] F H F' H' ∧ Rep K F' d x
  stop : ∀ i F H, Same F0 F → Same G0 H → Same F H → ds.length ≤ i → J.stop i H
section
variable (K : PySem.W.Frag)
def tI (it : En → Option (List D × En)) : TI := fun σ H R => ∃ env ds env' F fp, it env = some (ds, env') ∧ EnvOk K F H σ env fp ∧ ∀ J F' H' fp', Go K [] σ env fp F H σ env' fp' F' H' → ItOk K J F' F' ds → R J H'
def tIp (it : En → Option (List D)) : TI := fun σ H R => ∃ env ds F fp, it env = some ds ∧ EnvOk K F H σ env fp ∧ ∀ J F' H', Step [] F H F' H' → ItOk K J F' H' ds → R J H'
end
def PDI (X : Cx) (tg e : Expr) (it : En → Option (List D × En)) : Prop := PI X tg e (tI X.K it)
def PDP (X : Cx) (tg e : Expr) (it : En → Option (List D)) : Prop := PI X tg e (tIp X.K it)
theorem PI.imp {X : Cx} {tg e : Expr} {t u : TI} (h : PI X tg e t) (i : ∀ σ H R, u σ H R → t σ H R) : PI X tg e u := ⟨fun pins s σ H R I q => h.run pins s σ H R I (i _ _ _ q)⟩
/-- what is walked stands by itself -/
def tIr (K : PySem.W.Frag) (it : En → Option (List D)) : TI := fun σ H R => ∃ env ds F fp, it env = some ds ∧ EnvOk K F H σ env fp ∧ ∀ J F' H', Step [] F H F' H' → (∀ G, ItOk K J F' G ds) → R J H'
def PDR (X : Cx) (tg e : Expr) (it : En → Option (List D)) : Prop := PI X tg e (tIr X.K it)
def lifI (it : En → Option (List D)) : En → Option (List D × En) := fun env => match it env with
  | some ds => some (ds, env)
  | none => none
theorem pdi_of {X : Cx} {tg e : Expr} {it : En → Option (List D)} (h : PDR X tg e it) : PDI X tg e (lifI it) := PI.imp h fun σ H R h => by
  obtain ⟨env, ds, env', F, fp, e, ok, q⟩ := h
  unfold lifI at e
  split at e
  · rename_i ds' hd
    cases e
    exact ⟨env, ds, F, fp, hd, ok, fun J F' H' s j => q J F' H' fp (s.go ok fun a z => by cases z) (j F')⟩
  · cases e
theorem pdp_of {X : Cx} {tg e : Expr} {it : En → Option (List D)} (h : PDR X tg e it) : PDP X tg e it := PI.imp h fun σ H R h => by
  obtain ⟨env, ds, F, fp, e, ok, q⟩ := h
  exact ⟨env, ds, F, fp, e, ok, fun J F' H' s j => q J F' H' s (j H')⟩
section
variable {K : PySem.W.Frag} {F H F' H' : Hp}
theorem RepL.get : ∀ {ds : List D} {vs : List V} {i : Nat} {d : D}, RepL K F ds vs → ds[i]? = some d → ∃ v, vs[i]? = some v ∧ Rep K F d v
  | [], vs, i, d, h, e => by cases e
  | d' :: ds, vs, 0, d, h, e => by
    simp only [RepL] at h
    obtain ⟨v, r, rfl, h1, h2⟩ := h
    cases e
    exact ⟨v, rfl, h1⟩
  | d' :: ds, vs, i + 1, d, h, e => by
    simp only [RepL] at h
    obtain ⟨v, r, rfl, h1, h2⟩ := h
    exact RepL.get (ds := ds) (vs := r) (i := i) h2 (by simpa using e)
theorem seqT {H H' : Hp} {a : Addr} {xs : List V} (e : Same H H') (h : SqT K H a xs) : SqT K H' a xs := by
  rcases h with (h | ⟨o, h⟩) | h
  · exact .inl (.inl (e _ _ h))
  · exact .inl (.inr ⟨o, e _ _ h⟩)
  · exact .inr h
theorem it_list {G : Hp} {a : Addr} {vs : List V} {ds : List D} (h : SqL K G a vs) (r : RepL K F ds vs) : ItOk K (Itl K a) F G ds := by
  refine ⟨fun i F1 H1 d s1 sg s2 hd => ?_, fun i F1 H1 s1 sg s2 hl => ⟨vs, sg.seq h, by rw [← r.len]; exact hl⟩⟩
  have q : SqL K H1 a vs := sg.seq h
  obtain ⟨v, hv, rv⟩ := r.get hd
  refine ⟨⟨vs, v, q, hv⟩, fun x H2 ⟨e1, e2⟩ => ?_⟩
  subst e1
  have e3 := e2 vs q
  rw [hv] at e3
  cases e3
  exact ⟨F1, .refl s2, Rep.mono s1 _ _ rv⟩
theorem it_tup {G : Hp} {a : Addr} {vs : List V} {ds : List D} (h : SqT K G a vs) (r : RepL K F ds vs) : ItOk K (Itt K a) F G ds := by
  refine ⟨fun i F1 H1 d s1 sg s2 hd => ?_, fun i F1 H1 s1 sg s2 hl => ⟨vs, seqT sg h, by rw [← r.len]; exact hl⟩⟩
  have q : SqT K H1 a vs := seqT sg h
  obtain ⟨v, hv, rv⟩ := r.get hd
  refine ⟨⟨vs, v, q, hv⟩, fun x H2 ⟨e1, e2⟩ => ?_⟩
  subst e1
  have e3 := e2 vs q
  rw [hv] at e3
  cases e3
  exact ⟨F1, .refl s2, Rep.mono s1 _ _ rv⟩
theorem repL_ints : ∀ ns : List Int, RepL K F (ns.map .int) (ns.map V.int)
  | [] => by simp only [List.map_nil, RepL]
  | n :: ns => by
    simp only [List.map_cons, RepL]
    exact ⟨_, _, rfl, by simp only [Rep], repL_ints ns⟩
def rngD (lo : Int) (n : Nat) : List D := (List.range n).map fun i => .int (lo + (i : Nat))
theorem it_rng {G : Hp} {lo : Int} {n : Nat} : ItOk K (Itr lo n) F G (rngD lo n) := by
  refine ⟨fun i F1 H1 d s1 sg s2 hd => ?_, fun i F1 H1 s1 sg s2 hl => ?_⟩
  · unfold rngD at hd
    rw [List.getElem?_map] at hd
    obtain ⟨j, hj, rfl⟩ := Option.map_eq_some_iff.mp hd
    obtain ⟨hlt, e⟩ := List.getElem?_eq_some_iff.mp hj
    rw [List.getElem_range] at e
    subst e
    rw [List.length_range] at hlt
    refine ⟨hlt, fun x H2 ⟨e1, e2⟩ => ?_⟩
    subst e1 e2
    exact ⟨F1, .refl s2, by simp only [Rep]⟩
  · unfold rngD at hl
    rw [List.length_map, List.length_range] at hl
    exact hl
end
/-- the items of data -/
def itemsD : D → Option (List D)
  | .lst ds => some ds
  | .tup ds => some ds
  | .scr ns => some (ns.map .int)
  | _ => none
def isLst : D → Bool
  | .lst _ => true
  | .scr _ => true
  | _ => false
/-- what is walked, behind an expression: it freezes -/
def itX (b : Bool) (g : En → Option (M × En)) : En → Option (List D × En) := fun env => match g env with
  | some (m, e1) => match stow 0 e1 m with
    | some (.fz d, e2) => if isLst d = b then (match itemsD d with
      | some ds => some (ds, e2)
      | none => none) else none
    | _ => none
  | none => none
/-- the same, where nothing of the slots freezes -/
def items (env : En) (m : M) : Option D := match slots m with
  | [] => dat0 m
  | _ => match elems env m with
    | some (true, ms) => (allFz ms).map .lst
    | some (false, ms) => (allFz ms).map .tup
    | none => none
def itP (b : Bool) (f : En → Option M) : En → Option (List D) := fun env => match f env with
  | some m => match items env m with
    | some d => if isLst d = b then itemsD d else none
    | none => none
  | none => none
section
variable {X : Cx} {e tg : Expr} {g : En → Option (M × En)} {f : En → Option M}
theorem pdi_lst (h : PX X e g) : PDI X tg e (itX true g) := PI.imp (pi_list h) fun σ H R h => by
  obtain ⟨env, ds, env', F, fp, e, ok, q⟩ := h
  unfold itX at e
  split at e
  · rename_i m e1 h1
    split at e
    · rename_i d e2 h2
      split at e
      · rename_i hb
        split at e
        · rename_i ds' hd
          cases e
          refine ⟨env, m, e1, F, fp, h1, ok, fun v F1 H1 fp1 A g1 o n a b => ?_⟩
          obtain ⟨F2, fp2, A', g2, o2, n2, a2, b2⟩ := stow_go g1 o n a b h2
          simp only [Own] at o2
          cases d with
          | lst xs =>
            cases hd
            have o3 := o2.2
            simp only [Rep] at o3
            obtain ⟨p, vs, rfl, r1, r2⟩ := o3
            exact ⟨p, rfl, ⟨vs, SqL.of (g2.ok.sub _ _ r1)⟩, q _ F2 H1 fp2 g2 (it_list (SqL.of r1) r2)⟩
          | scr ns =>
            cases hd
            have o3 := o2.2
            simp only [Rep] at o3
            obtain ⟨p, rfl, r1⟩ := o3
            exact ⟨p, rfl, ⟨_, g2.ok.sub.seq r1⟩, q _ F2 H1 fp2 g2 (it_list r1 (repL_ints ns))⟩
          | non => cases hb
          | bl _ => cases hb
          | int _ => cases hb
          | str _ => cases hb
          | ins _ _ => cases hb
          | dic _ _ => cases hb
          | any => cases hb
          | exc _ _ _ => cases hb
          | tup _ => cases hb
        · cases e
      · cases e
    · cases e
  · cases e
/-- the data of a result whose slots stay -/
theorem items_ok {K : PySem.W.Frag} {F H : Hp} {σ : L2.St} {env : En} {fp : Nat → List Addr} {A : List Addr} {m : M} {v : V} {d : D} {ds : List D} (ok : EnvOk K F H σ env fp) (h : Own K (plc H σ env) F H m v A) (hA : ∀ a ∈ A, ¬ Ond env fp a) (e : items env m = some d) (hd : itemsD d = some ds) :
    ∃ F', Step A F H F' H ∧ ∃ p vs, v = .ref p ∧ RepL K F' ds vs ∧ (isLst d = true → SqL K H p vs) ∧ (isLst d = false → SqT K H p vs) := by
  unfold items at e
  split at e
  · rename_i hs
    have st : Step A F H (frz F H A) H := .mk' (same_frz ok.sub) (.refl _) (frz_same ok.sub) fun a z => by
      unfold frz at z
      split at z
      · rename_i ha
        exact .inr (.inr ha)
      · exact .inl z
    have e' : datW (fun _ _ => none) m = some d := e
    have r : Rep K (frz F H A) d v := datW_ok (same_frz ok.sub) (fun _ _ _ _ _ z => by cases z) m v A d h e' fun a ha o q => by
      unfold frz
      rw [if_pos ha]
      exact q
    refine ⟨frz F H A, st, ?_⟩
    cases d with
    | lst xs =>
      cases hd
      simp only [Rep] at r
      obtain ⟨p, vs, rfl, r1, r2⟩ := r
      exact ⟨p, vs, rfl, r2, fun _ => SqL.of (frz_same ok.sub _ _ r1), fun z => nomatch z⟩
    | tup xs =>
      cases hd
      simp only [Rep] at r
      obtain ⟨p, vs, rfl, r1, r2⟩ := r
      exact ⟨p, vs, rfl, r2, (fun z => nomatch z), fun _ => SqT.of (frz_same ok.sub _ _ r1)⟩
    | scr ns =>
      cases hd
      simp only [Rep] at r
      obtain ⟨p, rfl, r1⟩ := r
      exact ⟨p, _, rfl, repL_ints ns, fun _ => (frz_same ok.sub).seq r1, fun z => nomatch z⟩
    | non => cases hd
    | bl _ => cases hd
    | int _ => cases hd
    | str _ => cases hd
    | ins _ _ => cases hd
    | dic _ _ => cases hd
    | any => cases hd
    | exc _ _ _ => cases hd
  · have st : Step A F H F H := .mk' (.refl _) (.refl _) ok.sub fun a z => .inl z
    split at e
    · rename_i ms hm
      obtain ⟨xs, hx, rfl⟩ := Option.map_eq_some_iff.mp e
      cases hd
      obtain ⟨p, vs, B, rfl, q1, _, o, _⟩ := elems_ok ok h hm
      obtain ⟨r, _⟩ := allFz_ok o hx
      exact ⟨F, st, p, vs, rfl, r, fun _ => SqL.of (q1 rfl), fun z => nomatch z⟩
    · rename_i ms hm
      obtain ⟨xs, hx, rfl⟩ := Option.map_eq_some_iff.mp e
      cases hd
      obtain ⟨p, vs, B, rfl, _, q1, o, _⟩ := elems_ok ok h hm
      obtain ⟨r, _⟩ := allFz_ok o hx
      exact ⟨F, st, p, vs, rfl, r, (fun z => nomatch z), fun _ => SqT.of (q1 rfl)⟩
    · cases e
theorem itP_ok {K : PySem.W.Frag} {σ : L2.St} {H : Hp} {R : It → Hp → Prop} {b : Bool} (h : tIp K (itP b f) σ H R) : tD K f σ H fun x H1 => ∃ p, x = .ref p ∧ (b = true → (∃ xs, SqL K H1 p xs) ∧ R (Itl K p) H1) ∧ (b = false → (∃ xs, SqT K H1 p xs) ∧ R (Itt K p) H1) := by
  obtain ⟨env, ds, F, fp, e, ok, q⟩ := h
  unfold itP at e
  split at e
  · rename_i m h1
    split at e
    · rename_i d h2
      split at e
      · rename_i hb
        refine ⟨env, m, F, fp, h1, ok, fun v F1 H1 A s o n a => ?_⟩
        have no : ∀ c ∈ A, ¬ Ond env fp c := fun c hc z => by
          obtain ⟨_, o', z'⟩ := ok.at z
          rw [a c hc] at z'
          cases z'
        obtain ⟨F2, s2, p, vs, rfl, r, r1, r2⟩ := items_ok (ok.step s fun a z => by cases z) o no h2 e
        refine ⟨p, rfl, fun z => ?_, fun z => ?_⟩
        · exact ⟨⟨vs, r1 (hb.trans z)⟩, q _ F2 H1 (s.trans s2 a) (it_list (r1 (hb.trans z)) r)⟩
        · exact ⟨⟨vs, r2 (hb.trans z)⟩, q _ F2 H1 (s.trans s2 a) (it_tup (r2 (hb.trans z)) r)⟩
      · cases e
    · cases e
  · cases e
theorem pdp_lst (h : PD X e f) : PDP X tg e (itP true f) := PI.imp (pi_list h) fun σ H R h => (itP_ok h).mono fun x H1 ⟨p, e, q, _⟩ => ⟨p, e, (q rfl).1, (q rfl).2⟩
theorem pdp_tup (h : PD X e f) : PDP X tg e (itP false f) := PI.imp (pi_tup h) fun σ H R h => (itP_ok h).mono fun x H1 ⟨p, e, _, q⟩ => ⟨p, e, (q rfl).1, (q rfl).2⟩
/-- range -/
def inR (i : Int) : Bool := decide (-(2 ^ 62) ≤ i ∧ i < 2 ^ 62)
def itR1 (fs : En → Option (List M)) : En → Option (List D) := fun env => match fs env with
  | some [.fz (.int j)] => if inR j then some (rngD 0 j.toNat) else none
  | _ => none
def itR2 (fs : En → Option (List M)) : En → Option (List D) := fun env => match fs env with
  | some [.fz (.int i), .fz (.int j)] => if inR i && inR j then some (rngD i (j - i).toNat) else none
  | _ => none
theorem pdr_range1 {a : Expr} {fs : En → Option (List M)} {p pos : Pos} (hg : Gl X "range") (hm : X.mg "range" = none) (ha : PDA X [a] fs) (hs : starEach [a] X.env = [(false, eval a X.env)] := by rfl) : PDR X tg (.Call (.Name "range" p) [a] [] pos) (itR1 fs) :=
  PI.imp (pi_range1 hg hm ha hs) fun σ H R h => by
    obtain ⟨env, ds, F, fp, e, ok, q⟩ := h
    unfold itR1 at e
    split at e
    · rename_i j hj
      split at e
      · rename_i hr
        cases e
        refine ⟨env, [.fz (.int j)], F, fp, hj, ok, fun vs F1 H1 A s o n a => ?_⟩
        obtain ⟨v, rfl, o1⟩ := ownL1 o
        simp only [Own, Rep] at o1
        unfold inR at hr
        have hr := of_decide_eq_true hr
        exact ⟨j, by rw [o1.2], hr.1, hr.2, q _ F1 H1 s fun G => it_rng⟩
      · cases e
    · cases e
theorem pdr_range2 {a b : Expr} {fs : En → Option (List M)} {p pos : Pos} (hg : Gl X "range") (hm : X.mg "range" = none) (ha : PDA X [a, b] fs) (hs : starEach [a, b] X.env = [(false, eval a X.env), (false, eval b X.env)] := by rfl) (hs2 : starEach [b] X.env = [(false, eval b X.env)] := by rfl) : PDR X tg (.Call (.Name "range" p) [a, b] [] pos) (itR2 fs) :=
  PI.imp (pi_range2 hg hm ha hs hs2) fun σ H R h => by
    obtain ⟨env, ds, F, fp, e, ok, q⟩ := h
    unfold itR2 at e
    split at e
    · rename_i i j hj
      split at e
      · rename_i hr
        cases e
        refine ⟨env, [.fz (.int i), .fz (.int j)], F, fp, hj, ok, fun vs F1 H1 A s o n a => ?_⟩
        obtain ⟨v, w, B, C, rfl, _, o1, o'⟩ := ownL2 o
        simp only [Own, Rep] at o1 o'
        unfold inR at hr
        rw [Bool.and_eq_true] at hr
        have h1 := of_decide_eq_true hr.1
        have h2 := of_decide_eq_true hr.2
        exact ⟨i, j, by rw [o1.2, o'.2], ⟨h1.1, h1.2, h2.1, h2.2⟩, q _ F1 H1 s fun G => it_rng⟩
      · cases e
    · cases e
end
def lpF (lk : Nat → Bool) (t : Tg) (body : En → Option Fl) : List D → En → Option Fl
  | [], env => some (.nx env)
  | d :: ds, env => match asT lk t d env with
    | some e1 => match body e1 with
      | some (.nx e2) => lpF lk t body ds e2
      | some (.ct e2) => lpF lk t body ds e2
      | some (.bk e2) => some (.nx e2)
      | some (.rt m e2) => some (.rt m e2)
      | none => none
    | none => none
def sFor (lk : Nat → Bool) (t : Tg) (it : En → Option (List D × En)) (body : En → Option Fl) : En → Option Fl := fun env => match it env with
  | some (ds, e1) => lpF lk t body ds e1
  | none => none
section
variable {X : Cx} {lk : Nat → Bool} {iter tg : Expr} {body : List Stmt} {t : Tg} {it : En → Option (List D × En)} {f : En → Option Fl} {pos : Pos}
theorem pds_for (hp : PassesOwn (model X.prog X.w) X.A X.env X.xe) (hc : X.calm = true) (hi : PDI X tg iter it) (hg : PT' X lk tg t) (hb : PDSs X lk body f)
    (hs : ∀ x, foldedSetIterable iter X.env x = pure x := by intro _; rfl) : PDS X lk (.For tg iter body [] pos) (sFor lk t it f) := by
  refine PS.imp (ps_for hp hc hi hg hb hs) fun D σ H h => ?_
  obtain ⟨env, r, F, fp, e, ok, q⟩ := h
  unfold sFor at e
  split at e
  · rename_i ds e1 h1
    refine ⟨env, ds, e1, F, fp, h1, ok, fun J F1 H1 fp1 g1 ji => ?_⟩
    refine ⟨fun i m σ' H' => m = ds.length - i ∧ i ≤ ds.length ∧ ∃ env' F' fp', lpF lk t f (ds.drop i) env' = some r ∧ Go X.K [] σ env fp F H σ' env' fp' F' H' ∧ Lk lk σ σ' ∧ Same F1 F',
      ⟨_, rfl, Nat.zero_le _, e1, F1, fp1, by rw [List.drop_zero]; exact e, g1, fun _ _ => rfl, .refl _⟩, fun i m σ' H' hW => ?_⟩
    obtain ⟨rfl, hi, env', F', fp', hl, g, l, s⟩ := hW
    by_cases hlt : i < ds.length
    · right
      obtain ⟨d, hd⟩ : ∃ d, ds[i]? = some d := ⟨_, List.getElem?_eq_getElem hlt⟩
      have hdrop : ds.drop i = d :: ds.drop (i + 1) := by
        rw [List.drop_eq_getElem_cons hlt]
        rw [List.getElem?_eq_getElem hlt] at hd
        cases hd
        rfl
      rw [hdrop] at hl
      simp only [lpF] at hl
      obtain ⟨j1, j2⟩ := ji.go i F' H' d s (s.trans g.ok.sub) g.ok.sub hd
      refine ⟨j1, fun σ2 H2 => ∃ env2 F2 fp2, lpF lk t f (ds.drop (i + 1)) env2 = some r ∧ Go X.K [] σ env fp F H σ2 env2 fp2 F2 H2 ∧ Lk lk σ σ2 ∧ Same F1 F2,
        fun σ2 H2 ⟨env2, F2, fp2, a, b, c, d'⟩ => ⟨ds.length - (i + 1), by omega, rfl, hlt, env2, F2, fp2, a, b, c, d'⟩, fun x H2 hy => ?_⟩
      obtain ⟨F2, s2, rx⟩ := j2 x H2 hy
      split at hl
      · rename_i e3 h3
        have g2 := g.trans (s2.go g.ok fun a z => by cases z) (fun a z => by cases z)
        refine ⟨d, env', e3, F2, fp', rx, h3, g2.ok, fun σ3 fp3 g3 l3 => ?_⟩
        have g4 := g2.trans g3 (fun a z => by cases z)
        split at hl
        · rename_i e4 h4
          exact ⟨e3, _, F2, fp3, h4, g4.ok, fun σ5 F5 H5 fp5 g5 l5 => ⟨e4, F5, fp5, hl, g4.trans g5 (fun a z => by cases z), (l.trans l3).trans l5, (s.trans s2.fr).trans g5.fr⟩⟩
        · rename_i e4 h4
          exact ⟨e3, _, F2, fp3, h4, g4.ok, fun σ5 F5 H5 fp5 g5 l5 => ⟨e4, F5, fp5, hl, g4.trans g5 (fun a z => by cases z), (l.trans l3).trans l5, (s.trans s2.fr).trans g5.fr⟩⟩
        · rename_i e4 h4
          cases hl
          exact ⟨e3, _, F2, fp3, h4, g4.ok, fun σ5 F5 H5 fp5 g5 l5 => q σ5 F5 H5 fp5 (g4.trans g5 fun a z => by cases z) ((l.trans l3).trans l5)⟩
        · rename_i m4 e4 h4
          cases hl
          exact ⟨e3, _, F2, fp3, h4, g4.ok, q.after g4 (l.trans l3)⟩
        · cases hl
      · cases hl
    · left
      have hi' : i = ds.length := by omega
      subst hi'
      rw [List.drop_length] at hl
      cases hl
      exact ⟨ji.stop _ F' H' s (s.trans g.ok.sub) g.ok.sub (Nat.le_refl _), q σ' F' H' fp' g l⟩
  · cases e
/-- while -/
def lpW (c : En → Option (Bool × En)) (body : En → Option Fl) : Nat → En → Option Fl
  | 0, _ => none
  | n + 1, env => match c env with
    | some (true, e1) => match body e1 with
      | some (.nx e2) => lpW c body n e2
      | some (.ct e2) => lpW c body n e2
      | some (.bk e2) => some (.nx e2)
      | some (.rt m e2) => some (.rt m e2)
      | none => none
    | some (false, e1) => some (.nx e1)
    | none => none
def sWh (n : Nat) (c : En → Option (Bool × En)) (body : En → Option Fl) : En → Option Fl := fun env => lpW c body n env
theorem pds_while {c : Expr} {n : Nat} {ct : En → Option (Bool × En)} (hp : PassesOwn (model X.prog X.w) X.A X.env X.xe) (hc : PXT X c ct) (hb : PDSs X lk body f) : PDS X lk (.While c body [] pos) (sWh n ct f) := by
  refine PS.imp (ps_while hp hc hb) fun D σ H h => ?_
  obtain ⟨env, r, F, fp, e, ok, q⟩ := h
  unfold sWh at e
  refine ⟨fun m σ' H' => ∃ env' F' fp', lpW ct f m env' = some r ∧ Go X.K [] σ env fp F H σ' env' fp' F' H' ∧ Lk lk σ σ', ⟨n, env, F, fp, e, Go.refl ok, fun _ _ => rfl⟩, fun m σ' H' hW => ?_⟩
  obtain ⟨env', F', fp', hl, g, l⟩ := hW
  cases m with
  | zero => simp only [lpW] at hl; cases hl
  | succ m =>
    simp only [lpW] at hl
    split at hl
    · rename_i e1 h1
      refine ⟨env', true, e1, F', fp', h1, g.ok, fun F1 H1 fp1 g1 => iteT ?_⟩
      have g2 := g.trans g1 (fun a z => by cases z)
      refine ⟨fun σ2 H2 => ∃ env2 F2 fp2, lpW ct f m env2 = some r ∧ Go X.K [] σ env fp F H σ2 env2 fp2 F2 H2 ∧ Lk lk σ σ2, fun σ2 H2 z => ⟨m, Nat.lt_succ_self _, z⟩, ?_⟩
      split at hl
      · rename_i e4 h4
        exact ⟨e1, _, F1, fp1, h4, g2.ok, fun σ5 F5 H5 fp5 g5 l5 => ⟨e4, F5, fp5, hl, g2.trans g5 (fun a z => by cases z), l.trans l5⟩⟩
      · rename_i e4 h4
        exact ⟨e1, _, F1, fp1, h4, g2.ok, fun σ5 F5 H5 fp5 g5 l5 => ⟨e4, F5, fp5, hl, g2.trans g5 (fun a z => by cases z), l.trans l5⟩⟩
      · rename_i e4 h4
        cases hl
        exact ⟨e1, _, F1, fp1, h4, g2.ok, fun σ5 F5 H5 fp5 g5 l5 => q σ5 F5 H5 fp5 (g2.trans g5 fun a z => by cases z) (l.trans l5)⟩
      · rename_i m4 e4 h4
        cases hl
        exact ⟨e1, _, F1, fp1, h4, g2.ok, q.after g2 l⟩
      · cases hl
    · rename_i e1 h1
      cases hl
      exact ⟨env', false, e1, F', fp', h1, g.ok, fun F1 H1 fp1 g1 => iteF (q σ' F1 H1 fp1 (g.trans g1 fun a z => by cases z) l)⟩
    · cases hl
end
end T2
end
section
set_option Elab.async false
set_option linter.all false
set_option maxRecDepth 100000
namespace T2
open PySem PySem.Spec PyProof.Rows L2
def En.wipe (env : En) : List Nat → En
  | [] => env
  | v :: vs => (env.wipe vs).kill v
def lkOf (vs : List Nat) : Nat → Bool := fun j => !vs.contains j
def lcL (vs : List Nat) (t : Tg) (cond : En → Option Bool) (elt : En → Option M) (env : En) : List D → Option (List M)
  | [] => some []
  | d :: ds => match asT (lkOf vs) t d (env.wipe vs) with
    | some e1 => match cond e1 with
      | some true => match elt e1 with
        | some m => if (slots m).isEmpty then (match lcL vs t cond elt env ds with
          | some ms => some (m :: ms)
          | none => none) else none
        | none => none
      | some false => lcL vs t cond elt env ds
      | none => none
    | none => none
def lcF (vs : List Nat) (t : Tg) (it : En → Option (List D)) (cond : En → Option Bool) (elt : En → Option M) : En → Option M := fun env => match it env with
  | some ds => match lcL vs t cond elt env ds with
    | some ms => if ms.length ≤ sizeLine then some (.ol ms) else none
    | none => none
  | none => none
section
variable {K : PySem.W.Frag} {F H F' H' : Hp} {σ σ' : L2.St} {env env' : En} {fp fp' : Nat → List Addr} {A : List Addr}
theorem En.get_wipe {vs : List Nat} {i : Nat} {m : M} (h : (env.wipe vs).get i = some m) : env.get i = some m ∧ i ∉ vs := by
  induction vs with
  | nil => exact ⟨h, by simp⟩
  | cons v vs ih =>
    simp only [En.wipe] at h
    rw [En.get_kill] at h
    split at h
    · cases h
    · rename_i hne
      obtain ⟨h1, h2⟩ := ih h
      exact ⟨h1, by simp only [List.mem_cons, not_or]; exact ⟨hne, h2⟩⟩
theorem En.wipe_length {vs : List Nat} : (env.wipe vs).length = env.length := by
  induction vs with
  | nil => rfl
  | cons v vs ih => simp only [En.wipe, En.kill, List.length_set]; exact ih
theorem wipe_get {vs : List Nat} {i : Nat} (h : i ∉ vs) : (L2.wipe σ vs)[i]? = σ[i]? := by
  induction vs with
  | nil => rfl
  | cons v vs ih =>
    simp only [L2.wipe]
    simp only [List.mem_cons, not_or] at h
    rw [List.getElem?_set_ne (Ne.symm h.1)]
    exact ih h.2
theorem wipe_in {vs : List Nat} {i : Nat} (h : i ∈ vs) (hl : i < σ.length) : (L2.wipe σ vs)[i]? = some none := by
  induction vs with
  | nil => cases h
  | cons v vs ih =>
    simp only [L2.wipe]
    by_cases e : v = i
    · subst e
      rw [List.getElem?_set_self (by rw [L2.wipe_length]; exact hl)]
    · rw [List.getElem?_set_ne e]
      rcases List.mem_cons.mp h with z | z
      · exact absurd z.symm e
      · exact ih z
theorem EnvOk.wipe (ok : EnvOk K F H σ env fp) (vs : List Nat) : EnvOk K F H (L2.wipe σ vs) (env.wipe vs) fp := by
  refine ⟨by rw [En.wipe_length, L2.wipe_length]; exact ok.len, ok.sub, fun i m h => ?_, fun i m h => ok.nd i m (En.get_wipe h).1, fun i j m n a h h' => ok.dj i j m n a (En.get_wipe h).1 (En.get_wipe h').1⟩
  obtain ⟨h1, h2⟩ := En.get_wipe h
  obtain ⟨v, e1, e2⟩ := ok.slot i m h1
  exact ⟨v, by rw [wipe_get h2]; exact e1, e2⟩
/-- own slots alone were changed -/
theorem wipe_same {vs : List Nat} (l : Lk (lkOf vs) (L2.wipe σ vs) σ') (hl : σ'.length = σ.length) : L2.wipe σ' vs = L2.wipe σ vs := by
  refine List.ext_getElem? fun i => ?_
  by_cases h : i ∈ vs
  · by_cases hi : i < σ.length
    · rw [wipe_in h hi, wipe_in h (by rw [hl]; exact hi)]
    · rw [List.getElem?_eq_none (by rw [L2.wipe_length]; omega), List.getElem?_eq_none (by rw [L2.wipe_length]; omega)]
  · rw [wipe_get h, l i (by unfold lkOf; simp [h])]
mutual
theorem clean {br br' : Nat → List Pa → V → Prop} : ∀ (m : M) (v : V) (A : List Addr), slots m = [] → Own K br F H m v A → Own K br' F H m v A
  | .fz d, v, A, e, h => by simpa only [Own] using h
  | .bp i p, v, A, e, h => by simp only [slots] at e; cases e
  | .ol ms, v, A, e, h => by
    simp only [Own] at h ⊢
    simp only [slots] at e
    obtain ⟨p, vs, B, e1, rfl, f, q, r⟩ := h
    exact ⟨p, vs, B, e1, rfl, f, q, cleanL ms vs B e r⟩
  | .ot ms, v, A, e, h => by
    simp only [Own] at h ⊢
    simp only [slots] at e
    obtain ⟨p, vs, B, e1, rfl, f, q, r⟩ := h
    exact ⟨p, vs, B, e1, rfl, f, q, cleanL ms vs B e r⟩
  | .oi C fs, v, A, e, h => by
    simp only [Own] at h ⊢
    simp only [slots] at e
    obtain ⟨p, dx, gs, B, e1, rfl, f, f2, q, q2, r⟩ := h
    exact ⟨p, dx, gs, B, e1, rfl, f, f2, q, q2, cleanF fs gs B e r⟩
  | .od lk kvs, v, A, e, h => by
    simp only [Own] at h ⊢
    exact h
  | .odt kvs, v, A, e, h => by
    simp only [Own] at h ⊢
    exact h
theorem cleanL {br br' : Nat → List Pa → V → Prop} : ∀ (ms : List M) (vs : List V) (A : List Addr), slotsL ms = [] → OwnL K br F H ms vs A → OwnL K br' F H ms vs A
  | [], vs, A, e, h => by simpa only [OwnL] using h
  | m :: ms, vs, A, e, h => by
    simp only [OwnL] at h ⊢
    simp only [slotsL, List.append_eq_nil_iff] at e
    obtain ⟨v, r, B, C, e1, rfl, q, q2⟩ := h
    exact ⟨v, r, B, C, e1, rfl, clean m v B e.1 q, cleanL ms r C e.2 q2⟩
theorem cleanF {br br' : Nat → List Pa → V → Prop} : ∀ (ms : List (Str × M)) (vs : List (Str × V)) (A : List Addr), slotsF ms = [] → OwnF K br F H ms vs A → OwnF K br' F H ms vs A
  | [], vs, A, e, h => by simpa only [OwnF] using h
  | m :: ms, vs, A, e, h => by
    simp only [OwnF] at h ⊢
    simp only [slotsF, List.append_eq_nil_iff] at e
    obtain ⟨v, r, B, C, e1, rfl, q, q2⟩ := h
    exact ⟨v, r, B, C, e1, rfl, clean m.2 v B e.1 q, cleanF ms r C e.2 q2⟩
end
end
section
variable {X : Cx} {elt tg iter : Expr} {ifs : List Expr} {scope : Scope} {own : List (Str × Nat)} {pos : Pos} {it : En → Option (List D)} {t : Tg} {cond : En → Option Bool} {f : En → Option M}
def cYes : En → Option Bool := fun _ => some true
theorem pdt_yes : PTs X [] (tDT X.K cYes) := ⟨fun pins s σ H Q I h => by
  obtain ⟨env, b, F, fp, e, ok, q⟩ := h
  cases e
  exact (pts_nil (X := X)).run pins s σ H Q I (q F H (.refl ok.sub))⟩
theorem pdt_one {c : Expr} (h : PDT X c cond) : PTs X [c] (tDT X.K cond) := pts_one h
theorem tLc_ok {vs : List Nat} {σ : L2.St} {H : Hp} {Q : VK} (h : tD X.K (lcF vs t it cond f) σ H Q) : tLc (tIp X.K it) (tT X.K (lkOf vs) t) (tDT X.K cond) (tD X.K f) vs σ H Q := by
  obtain ⟨env, m, F, fp, e, ok, q⟩ := h
  unfold lcF at e
  split at e
  · rename_i ds hds
    split at e
    · rename_i ms hms
      split at e
      · rename_i hsz
        cases e
        refine ⟨env, ds, F, fp, hds, ok, fun J F1 H1 s1 ji => fun Da hD => ?_⟩
        have hDH : H Da = none := s1.stay _ hD
        have hDF : F1 Da = none := s1.sub.free hD
        have sD : Same H1 (upd H1 Da (.lst [])) := fun b o e => by rw [upd_ne (ne_of_none e hD)]; exact e
        refine ⟨fun i mm H2 => mm = ds.length - i ∧ i ≤ ds.length ∧ ∃ F2 ms1 ms2 ws A, ms = ms1 ++ ms2 ∧ lcL vs t cond f env (ds.drop i) = some ms2 ∧ H2 Da = some (.lst ws) ∧ F2 Da = none ∧ OwnL X.K noBr F2 H2 ms1 ws A ∧ (Da :: A).Nodup ∧ (∀ a ∈ A, H a = none) ∧
            Step [] F H F2 H2 ∧ Same F1 F2 ∧ Same H1 H2,
          ⟨_, rfl, Nat.zero_le _, F1, [], ms, [], [], rfl, by rw [List.drop_zero]; exact hms, upd_same, hDF, ownL_nil, by simp, (fun a z => by cases z), s1.trans (Step.mk' (A := []) (.refl _) sD (s1.sub.trans sD) fun a z => .inl z) (fun a z => by cases z), .refl _, sD⟩, fun i mm H2 hW => ?_⟩
        obtain ⟨rfl, hi, F2, ms1, ms2, ws, A, em, hl, hDa, hFa, hO, hn, hA, st, sF, sH⟩ := hW
        have okS : EnvOk X.K F2 H2 σ env fp := ok.step st fun a z => by cases z
        by_cases hlt : i < ds.length
        · right
          obtain ⟨d, hd⟩ : ∃ d, ds[i]? = some d := ⟨_, List.getElem?_eq_getElem hlt⟩
          have hdrop : ds.drop i = d :: ds.drop (i + 1) := by
            rw [List.drop_eq_getElem_cons hlt]
            rw [List.getElem?_eq_getElem hlt] at hd
            cases hd
            rfl
          rw [hdrop] at hl
          simp only [lcL] at hl
          obtain ⟨j1, j2⟩ := ji.go i F2 H2 d sF sH okS.sub hd
          refine ⟨j1, fun H5 => ∃ F2 ms1 ms2 ws A, ms = ms1 ++ ms2 ∧ lcL vs t cond f env (ds.drop (i + 1)) = some ms2 ∧ H5 Da = some (.lst ws) ∧ F2 Da = none ∧ OwnL X.K noBr F2 H5 ms1 ws A ∧ (Da :: A).Nodup ∧ (∀ a ∈ A, H a = none) ∧
            Step [] F H F2 H5 ∧ Same F1 F2 ∧ Same H1 H5, fun H5 z => ⟨ds.length - (i + 1), by omega, rfl, hlt, z⟩, fun x H3 hy => ?_⟩
          obtain ⟨F3, s3, rx⟩ := j2 x H3 hy
          split at hl
          · rename_i e1 h1
            refine ⟨d, env.wipe vs, e1, F3, fp, rx, h1, (okS.step s3 fun a z => by cases z).wipe vs, fun σ2 fp2 g2 l2 => ?_⟩
            have hlen : σ2.length = σ.length := by
              rw [← g2.ok.len]
              have : e1.length = (env.wipe vs).length := asT_len t d _ _ h1
              rw [this, En.wipe_length]
              exact ok.len
            refine ⟨wipe_same l2 hlen, ?_⟩
            -- a later state, the new list as it is
            have keep : ∀ {F4 H4 : Hp}, Step [] F3 H3 F4 H4 → Step [] F H F4 H4 ∧ Same F1 F4 ∧ Same H1 H4 ∧ H4 Da = some (.lst ws) ∧ F4 Da = none ∧ OwnL X.K noBr F4 H4 ms1 ws A := fun {F4 H4} s4 => by
              have s34 : Step [] F2 H2 F4 H4 := s3.trans s4 fun a z => by cases z
              refine ⟨st.trans s34 (fun a z => by cases z), sF.trans s34.fr, sH.trans s34.hp, s34.hp _ _ hDa, ?_, ?_⟩
              · cases z : F4 Da with
                | none => rfl
                | some o =>
                  rcases s34.nw Da (by rw [z]; simp) with w | w | w
                  · exact absurd hFa w
                  · rw [hDa] at w
                    cases w
                  · cases w
              · refine hO.mono s34.fr (fun _ _ _ z => z) _ _ _ fun a ha => ⟨?_, s34.hp a⟩
                obtain ⟨z1, o, z2⟩ := hO.at _ _ _ a ha
                cases z : F4 a with
                | none => rfl
                | some o =>
                  rcases s34.nw a (by rw [z]; simp) with w | w | w
                  · exact absurd z1 w
                  · rw [z2] at w
                    cases w
                  · cases w
            split at hl
            · rename_i hc
              refine ⟨e1, true, F3, fp2, hc, g2.ok, fun F4 H4 s4 => iteT ?_⟩
              split at hl
              · rename_i m1 hm1
                split at hl
                · rename_i hs1
                  split at hl
                  · rename_i ms' hms'
                    cases hl
                    refine ⟨e1, m1, F4, fp2, hm1, g2.ok.step s4 (fun a z => by cases z), fun y F5 H5 B s5 o5 n5 a5 => ?_⟩
                    obtain ⟨st5, sF5, sH5, hDa5, hFa5, hO5⟩ := keep (s4.trans s5 fun a z => by cases z)
                    have hlen1 : ms1.length = ws.length := hO5.len
                    refine ⟨ws, hDa5, ?_, ?_⟩
                    · rw [← hlen1]
                      rw [em, List.length_append, List.length_cons] at hsz
                      omega
                    · have hBn : ∀ b ∈ B, H4 b = none := a5
                      obtain ⟨st4, _, _, hDa4, _, hO4⟩ := keep s4
                      have nDB : Da ∉ B := fun z => by
                        have := hBn Da z
                        rw [hDa4] at this
                        cases this
                      have nAB : ∀ a ∈ A, a ∉ B := fun a ha z => by
                        obtain ⟨_, o, z2⟩ := hO4.at _ _ _ a ha
                        rw [hBn a z] at z2
                        cases z2
                      have hn' := List.nodup_cons.mp hn
                      have o5' := clean (br' := noBr) m1 y B (by simpa [List.isEmpty_iff] using hs1) o5
                      have up : ∀ c o, c ≠ Da → H5 c = some o → (upd H5 Da (.lst (ws ++ [y]))) c = some o := fun c o ne e => by rw [upd_ne ne]; exact e
                      refine ⟨F5, ms1 ++ [m1], ms', ws ++ [y], A ++ B, by rw [em, List.append_assoc]; rfl, hms', upd_same, hFa5, ?_, ?_, ?_, ?_, sF5, fun b o e => ?_⟩
                      · refine OwnL.append (hO5.mono (.refl _) (fun _ _ _ z => z) _ _ _ fun a ha => ⟨(hO5.at _ _ _ a ha).1, fun o e => up a o (fun z => hn'.1 (z ▸ ha)) e⟩) ?_
                        simp only [OwnL]
                        refine ⟨y, [], B, [], rfl, by rw [List.append_nil], o5'.mono (.refl _) (fun _ _ _ z => z) _ _ _ fun a ha => ⟨(o5'.at _ _ _ a ha).1, fun o e => up a o (fun z => nDB (z ▸ ha)) e⟩, rfl, rfl⟩
                      · refine List.nodup_cons.mpr ⟨fun z => ?_, List.nodup_append.mpr ⟨hn'.2, n5, fun a ha b hb e => nAB a ha (e ▸ hb)⟩⟩
                        rcases List.mem_append.mp z with z | z
                        · exact hn'.1 z
                        · exact nDB z
                      · intro a ha
                        rcases List.mem_append.mp ha with z | z
                        · exact hA a z
                        · exact st4.stay _ (hBn a z)
                      · refine .mk' st5.fr (fun b o e => ?_) (fun b o e => ?_) fun a z => st5.nw a z
                        · rw [upd_ne (ne_of_none e hDH)]
                          exact st5.hp _ _ e
                        · rw [upd_ne fun z => by rw [z, hFa5] at e; cases e]
                          exact st5.sub _ _ e
                      · rw [upd_ne (ne_of_none e hD)]
                        exact sH5 _ _ e
                  · cases hl
                · cases hl
              · cases hl
            · rename_i hc
              refine ⟨e1, false, F3, fp2, hc, g2.ok, fun F4 H4 s4 => iteF ?_⟩
              obtain ⟨st4, sF4, sH4, hDa4, hFa4, hO4⟩ := keep s4
              exact ⟨F4, ms1, ms2, ws, A, em, hl, hDa4, hFa4, hO4, hn, hA, st4, sF4, sH4⟩
            · cases hl
          · cases hl
        · left
          have hi' : i = ds.length := by omega
          subst hi'
          rw [List.drop_length] at hl
          cases hl
          rw [List.append_nil] at em
          subst em
          refine ⟨ji.stop _ F2 H2 sF sH okS.sub (Nat.le_refl _), q _ F2 H2 (Da :: A) st ?_ hn fun a ha => ?_⟩
          · simp only [Own]
            exact ⟨Da, ws, A, rfl, rfl, hFa, hDa, hO.mono (.refl _) (fun _ _ _ z => z.elim) _ _ _ fun a ha => ⟨(hO.at _ _ _ a ha).1, fun _ z => z⟩⟩
          · rcases List.mem_cons.mp ha with rfl | z
            · exact hDH
            · exact hA a z
      · cases e
    · cases e
  · cases e
theorem pd_lc (hc : X.calm = true) (hN : X.N.Nodup) (hi : PDP X tg iter it) (ok : BlkOk X.N X.env.scope scope own)
    (hg : ∀ (s : Shared) (H : Hp) (C : Addr) (cl : List (Str × Addr)) (fp : List Addr), PT' (X.blk s H scope (compEnvC scope cl C X.env) fp) (lkOf (own.map (·.2))) tg t)
    (ht : ∀ (s : Shared) (H : Hp) (C : Addr) (cl : List (Str × Addr)) (fp : List Addr), PTs (X.blk s H scope (compEnvC scope cl C X.env) fp) ifs (tDT X.K cond))
    (he : ∀ (s : Shared) (H : Hp) (C : Addr) (cl : List (Str × Addr)) (fp : List Addr), PD (X.blk s H scope (compEnvC scope cl C X.env) fp) elt f) (hs : ∀ x, foldedSetIterable iter X.env x = pure x := by intro _; rfl) :
    PD X (.ListComp elt [⟨tg, iter, ifs, 0⟩] scope pos) (lcF (own.map (·.2)) t it cond f) := PE.imp (pe_lc (g := tT X.K (lkOf (own.map fun p : Str × Nat => p.2)) t) (tt := tDT X.K cond) (te := tD X.K f) hc hN hi ok hg ht he hs) fun σ H Q q => tLc_ok q
/-- name = [..] -/
theorem pds_setLc {lk : Nat → Bool} {i k : Nat} {y : Str} {py spos : Pos} (hc : X.calm = true) (hN : X.N.Nodup) (hy : X.N[i]? = some y) (hyl : X.env.scope.names.lookup y = some .local)
    (hsw : swapsWith (.ListComp elt [⟨tg, iter, ifs, 0⟩] scope pos) (some (.Name y py)) spos.line X.env = pure true) (hi : PDP X tg iter it) (ok : BlkOk X.N X.env.scope scope own)
    (hg : ∀ (s : Shared) (H : Hp) (C : Addr) (cl : List (Str × Addr)) (fp : List Addr), PT' (X.blk s H scope (compEnvC scope cl C X.env) fp) (lkOf (own.map (·.2))) tg t)
    (ht : ∀ (s : Shared) (H : Hp) (C : Addr) (cl : List (Str × Addr)) (fp : List Addr), PTs (X.blk s H scope (compEnvC scope cl C X.env) fp) ifs (tDT X.K cond))
    (he : ∀ (s : Shared) (H : Hp) (C : Addr) (cl : List (Str × Addr)) (fp : List Addr), PD (X.blk s H scope (compEnvC scope cl C X.env) fp) elt f) (hs : ∀ x, foldedSetIterable iter X.env x = pure x := by intro _; rfl) :
    PDS X lk (.Assign [.Name y py] (.ListComp elt [⟨tg, iter, ifs, 0⟩] scope pos) spos) (sAsg lk i k (lif (lcF (own.map (·.2)) t it cond f))) :=
  pds_asg (PS.imp (ps_setLc (g := tT X.K (lkOf (own.map fun p : Str × Nat => p.2)) t) (tt := tDT X.K cond) (te := tD X.K f) hc hN hy hyl hsw hi ok hg ht he hs) fun D σ H q => tLc_ok q.of)
end
end T2
end
section
set_option Elab.async false
set_option linter.all false
set_option maxRecDepth 100000
namespace T2
open PySem PySem.Spec PyProof.Rows L2
/-- room for k calls; no display is under way -/
structure RoomG (k : Nat) (A : Around) : Prop where
  rm : Room k A
  gd : A.guards = some []
section
variable {j k : Nat} {A : Around}
theorem RoomG.mono (r : RoomG k A) (h : j ≤ k) : RoomG j A := ⟨r.rm.mono h, r.gd⟩
theorem RoomG.deeper (r : RoomG (k + 1) A) (v : Env) : RoomG k (A.deeper v) := ⟨r.rm.deeper v, r.gd⟩
theorem RoomG.make (r : RoomG (k + 1) A) (C : Addr) (us : List Value) : RoomG k (A.under (.builtin "type.__call__" ⟨.ref C :: us, []⟩)) := by
  refine ⟨r.rm.make C us [], ?_⟩
  have e := r.gd
  first
  | exact e
  | (simp [Around.under, Code.guards, Code.isGuard, guardIds, pushGuards, e]; done)
theorem RoomG.units (r : RoomG k A) : A.units + 64 < cLine := r.rm.units
theorem hu1 (r : RoomG k A) : A.units + 1 < cLine := by have := r.rm.un; omega
end
/-- FnOk, promised where nothing is being shown -/
structure FnG (P : Program) (w : World) (K : PySem.W.Frag) (mg : Str → Option Value) (base : Heap) (CX : CXT) (k : Nat) (fa : Addr) (d : FuncData) (ps : List Str) (sp : Sp) : Prop where
  lens : ∀ {zs H Q E}, sp zs H Q E → zs.length = ps.length
  runs : ∀ {A fs s H as us zs Q E}, RoomG k A → Env0 P w K mg base A fs s H → BindsTo s d as (ps.zip us) → Vals zs us → sp zs H Q E → codeAny (model P w) A (.call (.ref fa) as) (CR CX fs P w H s Q E) s
theorem FnG.mono {P : Program} {w : World} {K : PySem.W.Frag} {mg : Str → Option Value} {base : Heap} {CX : CXT} {j k : Nat} {fa : Addr} {d : FuncData} {ps : List Str} {sp : Sp} (F : FnG P w K mg base CX j fa d ps sp) (h : j ≤ k) : FnG P w K mg base CX k fa d ps sp :=
  ⟨F.lens, fun r => F.runs (r.mono h)⟩
theorem FnG.imp {P : Program} {w : World} {K : PySem.W.Frag} {mg : Str → Option Value} {base : Heap} {CX : CXT} {k : Nat} {fa : Addr} {d : FuncData} {ps : List Str} {sp sp' : Sp} (F : FnG P w K mg base CX k fa d ps sp) (i : ∀ zs H Q E, sp' zs H Q E → sp zs H Q E) : FnG P w K mg base CX k fa d ps sp' :=
  ⟨fun h => F.lens (i _ _ _ _ h), fun r e b v h => F.runs r e b v (i _ _ _ _ h)⟩
section
variable {X : Cx} {CX : CXT} {k : Nat} {fa C : Addr} {d : FuncData} {ps : List Str} {sp : Sp} {dvs : List V} {ds : List Value} {E : XK} {x m : Str} {p pos apos : Pos} {e o : Expr} {es : List Expr} {ta : TE} {t : TA}
/-- what a call's end leaves to its caller -/
theorem after_g {pins : List (Addr × Obj)} {σ : L2.St} {H : Hp} {s : Shared} {Q : VK} (hx : Passes CX X E) (I : Inv X pins σ H s) {r : Result} {s' : Shared} (h : CR CX X.stack X.prog X.w H s Q E r s') :
    match r with
    | .ok (.ret u) => EP X pins σ Q u s'
    | .ok _ => False
    | .error u => X.xe u s' := by
  rcases r with u | fl
  · exact hx pins σ H s u s' I h
  · rcases fl with _ | u | _ | _
    all_goals first
    | exact I.after h
    | exact h
theorem run_g {pins : List (Addr × Obj)} {σ : L2.St} {H : Hp} {s : Shared} {Q : VK} {us : List Value} {zs : List V} (F : FnG X.prog X.w X.K X.mg X.base CX k fa d ps sp) (hr : RoomG k X.A) (hb : Binds X.K d ps ds) (hd : Vals dvs ds) (hx : Passes CX X E)
    (I : Inv X pins σ H s) (r : Vals zs us) (h : sp (zs ++ dvs) H Q E) : wpAny (model X.prog X.w) X.A (call (.ref fa) us) (EP X pins σ Q) X.xe s := by
  have rr := r.append hd
  refine wpAny_call (codeAny_mono (F.runs hr I.env0 (hb s us I.kIn (rr.length.symm.trans (F.lens h))) rr h) fun r s' hq => ?_)
  have z := after_g hx I hq
  rcases r with u | fl
  · exact z
  · rcases fl with _ | u | _ | _
    all_goals exact z
theorem pe_callG (F : FnG X.prog X.w X.K X.mg X.base CX k fa d ps sp) (hr : RoomG k X.A) (hg : Gl X x) (hm : X.mg x = some (.ref fa)) (hk : PySem.W.keepIn X.K (.ref fa) = true) (hb : Binds X.K d ps ds) (hd : Vals dvs ds) (hx : Passes CX X E)
    (ha : PA X (e :: es) t) (h1 : (x == ("__debug__" : Str)) = false := by decide) (h2 : starEach (e :: es) X.env = (false, eval e X.env) :: starEach es X.env := by rfl) (h3 : (backTo pos (starEach es X.env)).any (·.1) = false := by rfl) :
    PE X (.Call (.Name x p) (e :: es) [] pos) (tCall sp dvs E t) :=
  ⟨fun pins s σ H Q I h => wpAny_Call_Name_kw (ld_glob I hg hm (PySem.W.callWith_K (h₀ := X.base) I.ok.mod.kin hk (thn (ha.run pos pins s σ H _ I h) fun us s1 ⟨zs, H1, I1, r, q⟩ => ⟨I1.kIn, run_g F hr hb hd hx I1 r q⟩) h2 h3) h1)⟩
theorem pe_methG {pl : Sem Bool} (he : PE X o ta) (c : Cls X.K C) (hm : Meth X.K C m fa) (F : FnG X.prog X.w X.K X.mg X.base CX k fa d ps sp) (hr : RoomG k X.A) (hb : Binds X.K d ps ds) (hd : Vals dvs ds) (hx : Passes CX X E) (ha : PA X (e :: es) t)
    (h2 : starEach (e :: es) X.env = (false, eval e X.env) :: starEach es X.env := by rfl) (h3 : (backTo pos (starEach es X.env)).any (·.1) = false := by rfl)
    (ht : eval (.Call (.Attribute o m apos) (e :: es) [] pos) X.env = (do let ov ← eval o X.env; standAt apos.atName; let (f, first) ← holding [ov] (getMethod ov m pl); callWith pos f first (backTo pos (starEach (e :: es) X.env)) (backToKw pos (keywordEach [] X.env))) := by rfl) :
    PE X (.Call (.Attribute o m apos) (e :: es) [] pos) (tMeth C m sp dvs E ta t) := by
  constructor
  intro pins s σ H Q I h
  refine PySem.W.methodCall_KW (pl := pl) (thn (he.run pins s σ H _ I h) ?_) ht
  rintro u s1 ⟨y, H1, I1, ry, a, dx, fs, rfl, ea, l, q⟩
  obtain rfl : u = Value.ref a := ry
  apply getmeth_ok I1 ea c hm l
  exact PySem.W.callWith_K (first := [.ref a]) (h₀ := X.base) I.ok.mod.kin hm.kp (thn (ha.run pos pins s1 σ H1 _ I1 q) fun us s2 ⟨zs, H2, I2, r, q2⟩ => ⟨I2.kIn, run_g (us := .ref a :: us) (zs := .ref a :: zs) F hr hb hd hx I2 (.cons rfl r) q2⟩) h2 h3
theorem run_gMake {pins : List (Addr × Obj)} {σ : L2.St} {H : Hp} {s : Shared} {Q : VK} {us : List Value} {zs : List V} (M : Mk X.K C fa) (F : FnG X.prog X.w X.K X.mg X.base CX k fa d ps sp) (hr : RoomG (k + 1) X.A) (hb : Binds X.K d ps ds) (hd : Vals dvs ds)
    (hx : Passes CX X E) (I : Inv X pins σ H s) (r : Vals zs us)
    (h : ∀ y dy, H y = none → H dy = none → dy ≠ y → sp (.ref y :: (zs ++ dvs)) (upd (upd H dy (.own y)) y (.ins C dy [])) (fun v H2 => v = .non ∧ Q (.ref y) H2) E) :
    wpAny (model X.prog X.w) X.A (call (.ref C) us) (EP X pins σ Q) X.xe s := by
  obtain ⟨z, hz⟩ : ∃ z, s.heap.objs.size = z := ⟨_, rfl⟩
  have hq := h (z + 1) z (I.hok.fresh (show s.heap.objs.size ≤ z + 1 by omega)) (I.hok.fresh (show s.heap.objs.size ≤ z by omega)) (show z ≠ z + 1 by omega)
  have J := Inv.made (C := C) I
  rw [hz] at J
  have rr : Vals (V.ref (z + 1) :: (zs ++ dvs)) (Value.ref (z + 1) :: (us ++ ds)) := .cons rfl (r.append hd)
  have hn : (Value.ref (z + 1) :: us ++ ds).length = ps.length := rr.length.symm.trans (F.lens hq)
  refine wpAny_call (make_map (f := fa) I.kIn M.makes M.init (beq_iff_eq.mp M.fn) ?_)
  rw [hz]
  refine codeAny_mono (F.runs (as := ⟨Value.ref (z + 1) :: us, []⟩) (hr.make C us) (J.env0.make C us []) (hb _ (Value.ref (z + 1) :: us) J.kIn hn) rr hq) fun r s' h2 => ?_
  have k2 := after_g hx J h2
  rcases r with u | fl
  · exact k2
  · rcases fl with _ | u | _ | _
    all_goals first
    | (obtain ⟨v, H', I3, rv, rfl, q3⟩ := k2; exact ⟨rv, ⟨V.ref (z + 1), H', I3, rfl, q3⟩⟩)
    | exact k2
theorem pe_makeG0 (M : Mk X.K C fa) (F : FnG X.prog X.w X.K X.mg X.base CX k fa d ps sp) (hr : RoomG (k + 1) X.A) (hg : Gl X x) (hm : X.mg x = some (.ref C)) (hb : Binds X.K d ps ds) (hd : Vals dvs ds) (hx : Passes CX X E)
    (h1 : (x == ("__debug__" : Str)) = false := by decide) : PE X (.Call (.Name x p) [] [] pos) (tMake C sp dvs E tNil) :=
  ⟨fun pins s σ H Q I h => wpAny_Call_Name_kw (ld_glob I hg hm (PySem.W.callWith_K0 I.kIn M.kp (run_gMake (us := []) M F hr hb hd hx I .nil h)) h1)⟩
end
/-- a def by its body -/
theorem fun_g {P : Program} {w : World} {K : PySem.W.Frag} {mg : Str → Option Value} {base : Heap} {CX : CXT} {x qual : Str} {st : Stmt} {fa : Addr} {d : FuncData} {N ps : List Str} {k : Nat} {sp : Sp} (F : Fun K x qual st fa d) (S : FnScope N ps (defScope st)) (len : ∀ zs H Q E, sp zs H Q E → zs.length = ps.length)
    (body : ∀ (cd : Value) (A : Around) (fs : List Env) (s : Shared) (H : Hp) (zs : List V) (Q : VK) (E : XK), RoomG k (A.deeper (envOfC qual (defScope st) s.heap.objs.size fa cd)) → sp zs H Q E → ∃ t, PSs (cxOf CX P w K mg base N qual (defScope st) fa cd A fs s H E) (defBody st) t ∧ t { nx := fun _ H' => Q .non H', rt := Q } (start N zs) H) :
    FnG P w K mg base CX (k + 1) fa d ps sp := by
  obtain ⟨oc, od, kV, doc, pm, an, cd, ct, osl, rfl, lk, hcd⟩ := F.ex
  constructor
  · intro zs H Q E h
    exact len _ _ _ _ h
  intro A fs s H as us zs Q E hr e0 hb r h
  have keepB := fun (b : Addr) (o : Obj) (e : base.get? b = some o) => (e0.bs b o e).1
  have KX : K.In s.heap := e0.mod.kin.keeps keepB
  have hn := len _ _ _ _ h
  apply codeAny_call_function hr.rm.depth (KX _ _ lk) rfl S.co S.gen rfl (PySem.W.codeRec_of KX hcd)
  apply hb
  apply wpAny_newFunctionEnv_cells S.kind
  · rintro ⟨nm, v⟩ hy
    rcases S.par nm (List.of_mem_zip hy).1 with q | q
    · exact .inl q
    · exact .inr ⟨q, PySem.W.cellsFrom_some _ _ _ (.inl q)⟩
  intro env he s1 y
  subst he
  refine ⟨(e0.mod.nolimit.keeps keepB).keeps y.toInCall.keep, codeAny_func ?_⟩
  obtain ⟨t, ht, hq⟩ := body cd A fs s H zs Q E (hr.deeper _) h
  refine wpAny_mono (ht.run [] s1 (start N zs) H _ (inv_start S hr.rm.hd e0 hn r y) hq) (fun fl s' hs => ?_) fun e s' hs => hs
  rcases fl with _ | u | _ | _
  all_goals first
  | (obtain ⟨v, σ', H', J, rv, q⟩ := hs; exact ⟨v, H', J.os, J.bare, J.base, J.hok, rv, q⟩)
  | (obtain ⟨σ', H', J, q⟩ := hs; exact ⟨V.non, H', J.os, J.bare, J.base, J.hok, rfl, q⟩)
  | (obtain ⟨_, _, _, q⟩ := hs; exact q.elim)
/-- what a def does with its arguments' trees: its result, and what the arguments are behind it -/
abbrev Fn := List M → Option (M × List M)
def SpI (K : PySem.W.Frag) (f : Fn) : Sp := fun vs H Q _ => ∃ ms m ms' F fp, f ms = some (m, ms') ∧ EnvOk K F H (vs.map some) (ms.map some) fp ∧
  ∀ v F' H' fp' B, Go K [] (vs.map some) (ms.map some) fp F H (vs.map some) (ms'.map some) fp' F' H' → Own K noBr F' H' m v B → B.Nodup → (∀ b ∈ B, H b = none ∨ Ond (ms.map some) fp b) → (∀ b ∈ B, ¬ Ond (ms'.map some) fp' b) → Q v H'
def isFz : M → Bool
  | .fz _ => true
  | _ => false
def okA (lk : Nat → Bool) : Nat → List M → Bool
  | _, [] => true
  | i, m :: ms => (lk i || isFz m) && okA lk (i + 1) ms
def outs (lk : Nat → Bool) (e : En) : Nat → List M → Option (List M)
  | _, [] => some []
  | i, m :: ms => match (if lk i then e.get i else some m), outs lk e (i + 1) ms with
    | some n, some ns => some (n :: ns)
    | _, _ => none
def runD (n p : Nat) (lk : Nat → Bool) (fS : En → Option Fl) : Fn := fun ms => if ms.length = p ∧ okA lk 0 ms = true then (match fS (ms.map some ++ List.replicate (n - p) none) with
  | some (.rt m e) => match outs lk e 0 ms with
    | some ns => some (m, ns)
    | none => none
  | some (.nx e) => match outs lk e 0 ms with
    | some ns => some (.fz .non, ns)
    | none => none
  | _ => none) else none
section
variable {K : PySem.W.Frag} {F H F' H' : Hp} {σ σ' : L2.St} {env env' : En} {fp fp' : Nat → List Addr} {A : List Addr}
theorem get_map {ms : List M} {i : Nat} : En.get (ms.map some) i = ms[i]? := by
  unfold En.get
  rw [List.getElem?_map]
  cases ms[i]? <;> rfl
theorem get_pad {ms : List M} {k i : Nat} : En.get (ms.map some ++ List.replicate k none) i = ms[i]? := by
  unfold En.get
  by_cases h : i < ms.length
  · rw [List.getElem?_append_left (by simpa using h), List.getElem?_map]
    cases ms[i]? <;> rfl
  · rw [List.getElem?_append_right (by simpa using h), List.getElem?_replicate, List.getElem?_eq_none (by omega)]
    split <;> rename_i h' <;> split at h' <;> first | cases h' | rfl
theorem ond_pad {ms : List M} {k : Nat} {a : Addr} : Ond (ms.map some ++ List.replicate k none) fp a ↔ Ond (ms.map some) fp a := by
  unfold Ond
  simp only [get_pad, get_map]
theorem EnvOk.pad {vs : List V} {ms : List M} {n : Nat} (ok : EnvOk K F H (vs.map some) (ms.map some) fp) : EnvOk K F H (vs.map some ++ List.replicate n none) (ms.map some ++ List.replicate n none) fp := by
  have hl : ms.length = vs.length := by simpa using ok.len
  refine ⟨by simp [hl], ok.sub, fun i m h => ?_, fun i m h => ok.nd i m (by rw [get_map]; rw [get_pad] at h; exact h), fun i j m m' a h h' => ok.dj i j m m' a (by rw [get_map]; rw [get_pad] at h; exact h) (by rw [get_map]; rw [get_pad] at h'; exact h')⟩
  rw [get_pad] at h
  obtain ⟨v, e1, e2⟩ := ok.slot i m (by rw [get_map]; exact h)
  refine ⟨v, ?_, e2⟩
  have hi : i < vs.length := by rw [← hl]; exact (List.getElem?_eq_some_iff.mp h).1
  rw [List.getElem?_append_left (by simpa using hi)]
  exact e1
theorem outs_get {lk : Nat → Bool} {e : En} : ∀ {ms ns : List M} {k i : Nat} {m : M}, outs lk e k ms = some ns → ns[i]? = some m → (lk (k + i) = true ∧ e.get (k + i) = some m) ∨ (lk (k + i) = false ∧ ms[i]? = some m)
  | [], ns, k, i, m, h, hm => by
    simp only [outs, Option.some.injEq] at h
    subst h
    cases hm
  | a :: ms, ns, k, i, m, h, hm => by
    simp only [outs] at h
    split at h
    · rename_i n ns' h1 h2
      cases h
      cases i with
      | zero =>
        cases hm
        by_cases hk : lk k = true
        · rw [if_pos hk] at h1
          exact .inl ⟨hk, h1⟩
        · rw [if_neg hk] at h1
          exact .inr ⟨by simpa using hk, h1⟩
      | succ i =>
        have := outs_get (i := i) h2 (by simpa using hm)
        rw [Nat.add_assoc, Nat.add_comm 1 i] at this
        exact this
    · cases h
theorem outs_len {lk : Nat → Bool} {e : En} : ∀ {ms ns : List M} {k : Nat}, outs lk e k ms = some ns → ns.length = ms.length
  | [], ns, k, h => by
    simp only [outs, Option.some.injEq] at h
    subst h
    rfl
  | a :: ms, ns, k, h => by
    simp only [outs] at h
    split at h
    · rename_i n ns' h1 h2
      cases h
      simp only [List.length_cons, outs_len h2]
    · cases h
theorem okA_get {lk : Nat → Bool} : ∀ {ms : List M} {k i : Nat} {m : M}, okA lk k ms = true → ms[i]? = some m → lk (k + i) = false → ∃ d, m = .fz d
  | [], k, i, m, h, hm, hl => by cases hm
  | a :: ms, k, i, m, h, hm, hl => by
    simp only [okA, Bool.and_eq_true, Bool.or_eq_true] at h
    cases i with
    | zero =>
      cases hm
      rcases h.1 with z | z
      · rw [show k + 0 = k from rfl] at hl
        rw [hl] at z
        cases z
      · cases a with
        | fz d => exact ⟨d, rfl⟩
        | bp _ _ => cases z
        | ol _ => cases z
        | ot _ => cases z
        | oi _ _ => cases z
        | od _ _ => cases z
        | odt _ => cases z
    | succ i => exact okA_get (k := k + 1) (i := i) h.2 (by simpa using hm) (by rw [Nat.add_assoc, Nat.add_comm 1 i]; exact hl)
/-- behind a def's body: the arguments -/
theorem outs_ok {lk : Nat → Bool} {vs : List V} {ms ns : List M} {n : Nat} (ok : EnvOk K F H (vs.map some) (ms.map some) fp) (ha : okA lk 0 ms = true) (ho : outs lk env' 0 ms = some ns)
    (g : Go K [] (vs.map some ++ List.replicate n none) (ms.map some ++ List.replicate n none) fp F H σ' env' fp' F' H') (l : Lk lk (vs.map some ++ List.replicate n none) σ') :
    Go K [] (vs.map some) (ms.map some) fp F H (vs.map some) (ns.map some) (fun i => if lk i then fp' i else []) F' H' ∧ ∀ b, Ond (ns.map some) (fun i => if lk i then fp' i else []) b → Ond env' fp' b := by
  have hl : ms.length = vs.length := by simpa using ok.len
  have on : ∀ b, Ond (ns.map some) (fun i => if lk i then fp' i else []) b → Ond env' fp' b := fun b ⟨i, m, hi, hb⟩ => by
    rw [get_map] at hi
    by_cases hk : lk i = true
    · simp only [if_pos hk] at hb
      rcases outs_get ho hi with ⟨_, z⟩ | ⟨z, _⟩
      · rw [Nat.zero_add] at z
        exact ⟨i, m, z, hb⟩
      · rw [Nat.zero_add, hk] at z
        cases z
    · simp only [if_neg hk] at hb
      cases hb
  refine ⟨⟨g.fr, fun a o e no _ => g.keep a o e (fun z => no (ond_pad.mp z)) (by simp), g.stay, fun a z => ?_, fun a z => ?_, ?_, g.lok⟩, on⟩
  · rcases g.nw a z with z | z | z | z
    · exact .inl z
    · exact .inr (.inl z)
    · exact .inr (.inr (.inl (ond_pad.mp z)))
    · cases z
  · rcases g.ond (on a z) with z | z
    · exact .inl z
    · exact .inr (.inl (ond_pad.mp z))
  · refine ⟨by rw [List.length_map, List.length_map, outs_len ho, hl], g.ok.sub, fun i m hi => ?_, fun i m hi => ?_, fun i j m m' a hi hj ha hb => ?_⟩
    · rw [get_map] at hi
      rcases outs_get ho hi with ⟨h1, h2⟩ | ⟨h1, h2⟩ <;> rw [Nat.zero_add] at h1
      · rw [Nat.zero_add] at h2
        obtain ⟨v, e1, e2⟩ := g.ok.slot i m h2
        have hi' : i < vs.length := by
          rw [← hl, ← outs_len ho]
          exact (List.getElem?_eq_some_iff.mp hi).1
        rw [l i h1, List.getElem?_append_left (by simpa using hi')] at e1
        exact ⟨v, e1, by simp only [if_pos h1]; exact e2⟩
      · obtain ⟨d, rfl⟩ := okA_get ha h2 (by rw [Nat.zero_add]; exact h1)
        obtain ⟨v, e1, e2⟩ := ok.slot i (.fz d) (by rw [get_map]; exact h2)
        simp only [Own] at e2
        refine ⟨v, e1, ?_⟩
        rw [if_neg (by rw [h1]; simp)]
        exact own_fz (Rep.mono g.fr _ _ e2.2)
    · rw [get_map] at hi
      rcases outs_get ho hi with ⟨h1, h2⟩ | ⟨h1, h2⟩ <;> rw [Nat.zero_add] at h1
      · rw [Nat.zero_add] at h2
        simp only [if_pos h1]
        exact g.ok.nd i m h2
      · rw [if_neg (by rw [h1]; simp)]
        exact .nil
    · rw [get_map] at hi hj
      rcases outs_get ho hi with ⟨h1, h2⟩ | ⟨h1, h2⟩ <;> rw [Nat.zero_add] at h1
      · rcases outs_get ho hj with ⟨h3, h4⟩ | ⟨h3, h4⟩ <;> rw [Nat.zero_add] at h3
        · rw [Nat.zero_add] at h2 h4
          simp only [if_pos h1] at ha
          simp only [if_pos h3] at hb
          exact g.ok.dj i j m m' a h2 h4 ha hb
        · rw [if_neg (by rw [h3]; simp)] at hb
          cases hb
      · rw [if_neg (by rw [h1]; simp)] at ha
        cases ha
end
/-- a def keeps its promise, by its body -/
theorem def_ok {P : Program} {w : World} {K : PySem.W.Frag} {mg : Str → Option Value} {base : Heap} {x qual : Str} {st : Stmt} {f : Addr} {fd : FuncData} {N ps : List Str} {k : Nat} {lk : Nat → Bool} {fS : En → Option Fl} (F : Fun K x qual st f fd) (S : FnScope N ps (defScope st))
    (hb : ∀ (cdv : Value) (A : Around) (outer : List Env) (s : Shared) (H : Hp) (E : XK), RoomG k (A.deeper (envOfC qual (defScope st) s.heap.objs.size f cdv)) → PDSs (cxOf CX0 P w K mg base N qual (defScope st) f cdv A outer s H E).nox lk (defBody st) fS) :
    FnG P w K mg base CX0 (k + 1) f fd ps (SpI K (runD N.length ps.length lk fS)) := by
  have key : ∀ {ms : List M} {m : M} {ns : List M}, runD N.length ps.length lk fS ms = some (m, ns) → ms.length = ps.length ∧ okA lk 0 ms = true := fun {ms m ns} e => by
    unfold runD at e
    split at e
    · assumption
    · cases e
  refine fun_g F S (fun vs H Q E h => ?_) (fun cdv A outer s H vs Q E hr h => ?_)
  · obtain ⟨ms, m, ms', Fz, fp, e, ok, _⟩ := h
    rw [← (key e).1]
    have := ok.len
    simpa using this.symm
  · obtain ⟨ms, m, ms', Fz, fp, e, ok, q⟩ := h
    obtain ⟨hl, ha⟩ := key e
    have hv : ms.length = vs.length := by simpa using ok.len
    refine ⟨_, (hb cdv A outer s H E hr).nox, ?_⟩
    have hst : L2.start N vs = vs.map some ++ List.replicate (N.length - ps.length) none := by
      unfold L2.start
      rw [← hv, hl]
    rw [hst]
    unfold runD at e
    rw [if_pos ⟨hl, ha⟩] at e
    split at e
    · rename_i m' env' hf
      split at e
      · rename_i ns ho
        cases e
        refine ⟨_, _, Fz, fp, hf, ok.pad, fun v σ' F' H' fp' A g l o n a b => ?_⟩
        obtain ⟨g2, on⟩ := outs_ok ok ha ho g l
        refine q v F' H' _ A g2 o n (fun c hc => ?_) fun c hc z => b c hc (on c z)
        rcases a c hc with z | z
        · exact .inl z
        · exact .inr (ond_pad.mp z)
      · cases e
    · rename_i env' hf
      split at e
      · rename_i ns ho
        cases e
        refine ⟨_, _, Fz, fp, hf, ok.pad, fun σ' F' H' fp' g l => ?_⟩
        obtain ⟨g2, on⟩ := outs_ok ok ha ho g l
        exact q .non F' H' _ [] g2 (own_fz (by simp only [Rep])) .nil (fun c hc => by cases hc) fun c hc z => by cases hc
      · cases e
    · cases e
mutual
def sLf : M → Bool
  | .fz d => scal d
  | .bp _ _ => false
  | .ol ms => sLfL ms
  | .ot ms => sLfL ms
  | .oi _ fs => sLfF fs
  | .od _ _ => false
  | .odt _ => false
def sLfL : List M → Bool
  | [] => true
  | m :: ms => sLf m && sLfL ms
def sLfF : List (Str × M) → Bool
  | [] => true
  | m :: ms => sLf m.2 && sLfF ms
end
def shutZ : List Bool → List M → Option (List M)
  | [], [] => some []
  | b :: bs, m :: ms => match shut (if b then 9 else 0) m, shutZ bs ms with
    | some n, some ns => some (n :: ns)
    | _, _ => none
  | _, _ => none
section
variable {K : PySem.W.Frag} {F H F' H' : Hp} {σ σ' : L2.St} {env env' : En} {fp fp' : Nat → List Addr} {A B : List Addr} {br br' : Nat → List Pa → V → Prop}
mutual
theorem own_scal : ∀ (m : M) (v : V) (A : List Addr), Own K br F' H m v A → sLf m = true → (∀ a ∈ A, F a = none) → Own K br' F H m v A
  | .fz d, v, A, h, e, k => by
    simp only [sLf] at e
    simp only [Own] at h ⊢
    exact ⟨h.1, (rep_sc e).mpr ((rep_sc e).mp h.2)⟩
  | .bp i p, v, A, h, e, k => by cases e
  | .ol ms, v, A, h, e, k => by
    simp only [sLf] at e
    simp only [Own] at h ⊢
    obtain ⟨p, vs, B, e1, rfl, f, q, r⟩ := h
    exact ⟨p, vs, B, e1, rfl, k p List.mem_cons_self, q, own_scalL ms vs B r e fun a ha => k a (List.mem_cons_of_mem _ ha)⟩
  | .ot ms, v, A, h, e, k => by
    simp only [sLf] at e
    simp only [Own] at h ⊢
    obtain ⟨p, vs, B, e1, rfl, f, q, r⟩ := h
    exact ⟨p, vs, B, e1, rfl, k p List.mem_cons_self, q, own_scalL ms vs B r e fun a ha => k a (List.mem_cons_of_mem _ ha)⟩
  | .oi C fs, v, A, h, e, k => by
    simp only [sLf] at e
    simp only [Own] at h ⊢
    obtain ⟨p, dx, gs, B, e1, rfl, f, f2, q, q2, r⟩ := h
    exact ⟨p, dx, gs, B, e1, rfl, k p List.mem_cons_self, k dx (List.mem_cons_of_mem _ List.mem_cons_self), q, q2, own_scalF fs gs B r e fun a ha => k a (List.mem_cons_of_mem _ (List.mem_cons_of_mem _ ha))⟩
  | .od lk kvs, v, A, h, e, k => by cases e
  | .odt kvs, v, A, h, e, k => by cases e
theorem own_scalL : ∀ (ms : List M) (vs : List V) (A : List Addr), OwnL K br F' H ms vs A → sLfL ms = true → (∀ a ∈ A, F a = none) → OwnL K br' F H ms vs A
  | [], vs, A, h, e, k => by simpa only [OwnL] using h
  | m :: ms, vs, A, h, e, k => by
    simp only [sLfL, Bool.and_eq_true] at e
    simp only [OwnL] at h ⊢
    obtain ⟨v, r, B, C, e1, rfl, q, q2⟩ := h
    exact ⟨v, r, B, C, e1, rfl, own_scal m v B q e.1 fun a ha => k a (List.mem_append_left _ ha), own_scalL ms r C q2 e.2 fun a ha => k a (List.mem_append_right _ ha)⟩
theorem own_scalF : ∀ (ms : List (Str × M)) (vs : List (Str × V)) (A : List Addr), OwnF K br F' H ms vs A → sLfF ms = true → (∀ a ∈ A, F a = none) → OwnF K br' F H ms vs A
  | [], vs, A, h, e, k => by simpa only [OwnF] using h
  | m :: ms, vs, A, h, e, k => by
    simp only [sLfF, Bool.and_eq_true] at e
    simp only [OwnF] at h ⊢
    obtain ⟨v, r, B, C, e1, rfl, q, q2⟩ := h
    exact ⟨v, r, B, C, e1, rfl, own_scal m.2 v B q e.1 fun a ha => k a (List.mem_append_left _ ha), own_scalF ms r C q2 e.2 fun a ha => k a (List.mem_append_right _ ha)⟩
end
theorem shutZ_ok : ∀ {bs : List Bool} {ms : List M} {vs : List V} {A : List Addr} {ms' : List M}, OwnL K br F H ms vs A → A.Nodup → shutZ bs ms = some ms' → ∃ A', A'.Sublist A ∧ ∀ F', Fr F H F' A A' → OwnL K noBr F' H ms' vs A'
  | [], [], vs, A, ms', h, hn, e => by
    cases e
    simp only [OwnL] at h
    obtain ⟨rfl, rfl⟩ := h
    exact ⟨[], List.Sublist.refl _, fun F' hF => ownL_nil⟩
  | b :: bs, m :: ms, vs, A, ms', h, hn, e => by
    simp only [shutZ] at e
    split at e
    · rename_i n ns e1 e2
      cases e
      simp only [OwnL] at h
      obtain ⟨v, r, B, C, rfl, rfl, q, q2⟩ := h
      have hn' := List.nodup_append.mp hn
      obtain ⟨B', b1, b2⟩ := shut_ok _ m v B n q hn'.1 e1
      obtain ⟨C', c1, c2⟩ := shutZ_ok q2 hn'.2.1 e2
      refine ⟨B' ++ C', List.Sublist.append b1 c1, fun F' hF => ?_⟩
      simp only [OwnL]
      exact ⟨v, r, B', C', rfl, rfl, b2 F' (hF.left hn c1), c2 F' (hF.right hn b1)⟩
    · cases e
  | [], m :: ms, vs, A, ms', h, hn, e => by cases e
  | b :: bs, [], vs, A, ms', h, hn, e => by cases e
theorem fr_frz2 {A' : List Addr} (s : Same F H) (hA : ∀ a ∈ A', F a = none) : Fr F H (frz2 F H A A') A A' ∧ Same (frz2 F H A A') H ∧ ∀ a, frz2 F H A A' a ≠ none → F a ≠ none ∨ (a ∈ A ∧ a ∉ A') := by
  refine ⟨⟨fun b o q => ?_, fun a ha => ?_, fun a ha hb o q => ?_⟩, fun b o q => ?_, fun a z => ?_⟩
  · unfold frz2
    split
    · exact s _ _ q
    · exact q
  · unfold frz2
    rw [if_neg fun z => z.2 ha]
    exact hA a ha
  · unfold frz2
    rw [if_pos ⟨ha, hb⟩]
    exact q
  · unfold frz2 at q
    split at q
    · exact q
    · exact s _ _ q
  · unfold frz2 at z
    split at z
    · rename_i h
      exact .inr h
    · exact .inl z
/-- a callee's slots -/
theorem envOf (s : Same F H) : ∀ {ms : List M} {vs : List V} {A : List Addr}, OwnL K noBr F H ms vs A → A.Nodup → ∃ fp, EnvOk K F H (vs.map some) (ms.map some) fp ∧ ∀ a, Ond (ms.map some) fp a → a ∈ A
  | [], vs, A, h, hn => by
    simp only [OwnL] at h
    obtain ⟨rfl, rfl⟩ := h
    refine ⟨fun _ => [], ⟨rfl, s, fun i m e => ?_, fun i m e => .nil, fun i j m n a e _ ha => by cases ha⟩, fun a ⟨i, m, e, ha⟩ => by cases ha⟩
    rw [get_map] at e
    cases e
  | m :: ms, vs, A, h, hn => by
    simp only [OwnL] at h
    obtain ⟨v, r, B, C, rfl, rfl, q, q2⟩ := h
    have hn' := List.nodup_append.mp hn
    obtain ⟨fp, ok, on⟩ := envOf s q2 hn'.2.1
    have sc : ∀ {i n}, En.get (ms.map some) i = some n → ∀ a ∈ fp i, a ∈ C := fun {i n} e a ha => on a ⟨i, n, e, ha⟩
    refine ⟨fun i => match i with | 0 => B | i + 1 => fp i, ⟨by have := ok.len; simp at this ⊢; exact this, s, fun i n e => ?_, fun i n e => ?_, fun i j n n' a e e' ha hb => ?_⟩, fun a ⟨i, n, e, ha⟩ => ?_⟩
    · rw [get_map] at e
      cases i with
      | zero =>
        cases e
        exact ⟨v, rfl, q⟩
      | succ i =>
        obtain ⟨w, e1, e2⟩ := ok.slot i n (by rw [get_map]; simpa using e)
        exact ⟨w, by simpa using e1, e2⟩
    · cases i with
      | zero => exact hn'.1
      | succ i => exact ok.nd i n (by rw [get_map] at e ⊢; simpa using e)
    · rw [get_map] at e e'
      cases i with
      | zero =>
        cases j with
        | zero => rfl
        | succ j => exact absurd rfl (hn'.2.2 a ha a (sc (by rw [get_map]; simpa using e') a hb))
      | succ i =>
        cases j with
        | zero => exact absurd rfl (hn'.2.2 a hb a (sc (by rw [get_map]; simpa using e) a ha))
        | succ j => rw [ok.dj i j n n' a (by rw [get_map]; simpa using e) (by rw [get_map]; simpa using e') ha hb]
    · rw [get_map] at e
      cases i with
      | zero => exact List.mem_append_left _ ha
      | succ i => exact List.mem_append_right _ (sc (by rw [get_map]; simpa using e) a ha)
end
/-- a call whose arguments are no slots that the callee changes -/
def callP (io : List Bool) (f : Fn) : En → List M → Option M := fun env ms => match slotsL ms with
  | [] => match shutZ io ms with
    | some cs => match f cs with
      | some (r, _) => some r
      | none => none
    | none => none
  | _ => match dats env ms with
    | some ds => match f (ds.map .fz) with
      | some (r, _) => if sLf r then some r else none
      | none => none
    | none => none
section
variable {K : PySem.W.Frag}
theorem s_call {io : List Bool} {f : Fn} {E : XK} : OpS K (callP io f) (fun vs H Q => SpI K f vs H Q E) := by
  intro σ env F H fp ms vs A m Q ok hO hn dj e q
  unfold callP at e
  split at e
  · rename_i hs
    split at e
    · rename_i cs hc
      split at e
      · rename_i r cs' hf
        cases e
        obtain ⟨A', h1, h2⟩ := shutZ_ok hO hn hc
        obtain ⟨f1, f2, f3⟩ := fr_frz2 (A := A) ok.sub fun a ha => (hO.at _ _ _ a (h1.subset ha)).1
        obtain ⟨fpc, okc, on⟩ := envOf f2 (h2 _ f1) (hn.sublist h1)
        refine ⟨cs, m, cs', _, fpc, hf, okc, fun v F' H' fp' B g o n a b => q v F' H' B ⟨f1.1.trans g.fr, fun c u e z => g.keep c u e (fun w => z (h1.subset (on c w))) (by simp), g.stay, g.ok.sub, fun c z => ?_, g.lok⟩ (o.mono (.refl _) (fun _ _ _ z => z.elim) _ _ _ fun c hc => ⟨(o.at _ _ _ c hc).1, fun _ z => z⟩) n fun c hc => ?_⟩
        · rcases g.nw c z with w | w | w | w
          · rcases f3 c w with w | w
            · exact .inl w
            · exact .inr (.inr w.1)
          · exact .inr (.inl w)
          · exact .inr (.inr (h1.subset (on c w)))
          · cases w
        · rcases a c hc with w | w
          · exact .inl w
          · exact .inr (h1.subset (on c w))
      · cases e
    · cases e
  · split at e
    · rename_i ds hd
      split at e
      · rename_i r cs' hf
        split at e
        · rename_i hr
          cases e
          have rl : RepL K H ds vs := ok.dataL hO hd
          obtain ⟨fpc, okc, on⟩ := envOf (.refl H) (ownL_fz (br := noBr) (H := H) rl) .nil
          refine ⟨ds.map .fz, m, cs', H, fpc, hf, okc, fun v F' H' fp' B g o n a b => ?_⟩
          have noc : ∀ c, ¬ Ond ((ds.map M.fz).map some) fpc c := fun c w => by cases on c w
          have hB : ∀ c ∈ B, F c = none := fun c hc => ok.sub.free (g.fr.free (o.at _ _ _ c hc).1)
          refine q v F H' B ⟨.refl _, fun c u e _ => g.keep c u e (noc c) (by simp), g.stay, ok.sub.trans (g.fr.trans g.ok.sub), fun c z => .inl z, g.lok⟩ (own_scal m v B o hr hB) n fun c hc => ?_
          rcases a c hc with w | w
          · exact .inl w
          · exact absurd w (noc c)
        · cases e
      · cases e
    · cases e
/-- a call that changes the slot that its first argument is -/
def callI (io : List Bool) (f : Fn) (gs : En → Option (List M × En)) : En → Option (M × En) := fun env => match gs env with
  | some (.bp i [] :: rest, e1) => match slotsL rest with
    | [] => match e1.get i, shutZ io.tail rest with
      | some n, some cs => match f (n :: cs) with
        | some (r, n' :: _) => some (r, e1.put i n')
        | _ => none
      | _, _ => none
    | _ => none
  | _ => none
theorem tXA.mutc {io : List Bool} {f : Fn} {E : XK} {gs : En → Option (List M × En)} {σ : L2.St} {H : Hp} {Q : VK} (h : tX K (callI io f gs) σ H Q) : tXA K gs σ H fun vs H1 => SpI K f vs H1 Q E := by
  obtain ⟨env, m, env', F, fp, e, ok, q⟩ := h
  unfold callI at e
  split at e
  · rename_i i rest e1 h1
    split at e
    · rename_i hs
      split at e
      · rename_i n cs hn hc
        split at e
        · rename_i r n' tl hf
          cases e
          refine ⟨env, _, e1, F, fp, h1, ok, fun vs F1 H1 fp1 A g o nd a b => ?_⟩
          simp only [OwnL] at o
          obtain ⟨v, ws, B0, C, rfl, rfl, o1, o2⟩ := o
          simp only [Own] at o1
          obtain ⟨rfl, w, hw, hv, _⟩ := o1
          have hv : v = w := hv
          subst hv
          rw [List.nil_append] at nd a b
          obtain ⟨u, k1, k2⟩ := g.ok.slot i n hn
          rw [hw] at k1
          cases k1
          have hlt := En.get_lt hn
          obtain ⟨C', c1, c2⟩ := shutZ_ok o2 nd hc
          obtain ⟨f1, f2, f3⟩ := fr_frz2 (A := C) g.ok.sub fun x hx => (o2.at _ _ _ x (c1.subset hx)).1
          have kk : ∀ {j x}, (∃ y, e1.get j = some y) → x ∈ fp1 j → x ∉ C := fun {j x} ⟨y, hy⟩ hx z => b x z ⟨j, y, hy, hx⟩
          have k2' : Own K noBr (frz2 F1 H1 C C') H1 n v (fp1 i) := k2.mono f1.1 (fun _ _ _ z => z) _ _ _ fun x hx => ⟨by
            unfold frz2
            rw [if_neg fun z => kk ⟨n, hn⟩ hx z.1]
            exact (k2.at _ _ _ x hx).1, fun _ z => z⟩
          have oc : OwnL K noBr (frz2 F1 H1 C C') H1 (n :: cs) (v :: ws) (fp1 i ++ C') := by
            simp only [OwnL]
            exact ⟨v, ws, fp1 i, C', rfl, rfl, k2', c2 _ f1⟩
          have ndc : (fp1 i ++ C').Nodup := List.nodup_append.mpr ⟨g.ok.nd i n hn, nd.sublist c1, fun x hx y hy e => kk ⟨n, hn⟩ hx (c1.subset (e ▸ hy))⟩
          obtain ⟨fpc, okc, on⟩ := envOf f2 oc ndc
          refine ⟨n :: cs, m, n' :: tl, _, fpc, hf, okc, fun v' F' H' fp' B g' o' n'' a' b' => ?_⟩
          have onc : ∀ x, Ond ((n :: cs).map some) fpc x → x ∈ fp1 i ∨ x ∈ C := fun x z => (List.mem_append.mp (on x z)).imp id fun z => c1.subset z
          have h0 : En.get ((n' :: tl).map some) 0 = some n' := rfl
          have c0 : ∀ x, x ∈ fp' 0 → H1 x = none ∨ x ∈ fp1 i ∨ x ∈ C := fun x hx => (g'.ond ⟨0, n', h0, hx⟩).imp id (onc x)
          have go2 : Go K C σ e1 fp1 F1 H1 σ (e1.put i n') (fun k => if k = i then fp' 0 else fp1 k) F' H' := by
            refine ⟨f1.1.trans g'.fr, fun x u e no nC => g'.keep x u e (fun z => ?_) (by simp), g'.stay, fun x z => ?_, fun x ⟨j, y, hj, hx⟩ => ?_, ?_, g'.lok⟩
            · rcases onc x z with z | z
              · exact no ⟨i, n, hn, z⟩
              · exact nC z
            · rcases g'.nw x z with z | z | z | z
              · rcases f3 x z with z | z
                · exact .inl z
                · exact .inr (.inr (.inr z.1))
              · exact .inr (.inl z)
              · rcases onc x z with z | z
                · exact .inr (.inr (.inl ⟨i, n, hn, z⟩))
                · exact .inr (.inr (.inr z))
              · cases z
            · by_cases hj' : j = i
              · simp only [if_pos hj'] at hx
                rcases c0 x hx with z | z | z
                · exact .inl z
                · exact .inr (.inl ⟨i, n, hn, z⟩)
                · exact .inr (.inr z)
              · simp only [if_neg hj'] at hx
                rw [En.get_put hlt, if_neg hj'] at hj
                exact .inr (.inl ⟨j, y, hj, hx⟩)
            · -- other slots' nodes
              have other : ∀ j y, j ≠ i → e1.get j = some y → ∀ x ∈ fp1 j, (∃ o, H1 x = some o) ∧ F1 x = none ∧ x ∉ fp1 i ∧ x ∉ C := fun j y hj hy x hx => by
                obtain ⟨w', _, q'⟩ := g.ok.slot j y hy
                obtain ⟨z1, z2⟩ := q'.at _ _ _ x hx
                exact ⟨z2, z1, fun z => hj (g.ok.dj j i y n x hy hn hx z), kk ⟨y, hy⟩ hx⟩
              refine ⟨by unfold En.put; rw [List.length_set]; exact g.ok.len, g'.ok.sub, fun j y hj => ?_, fun j y hj => ?_, fun j k y y' x hj hk hx hx' => ?_⟩
              · rw [En.get_put hlt] at hj
                by_cases hj' : j = i
                · subst hj'
                  rw [if_pos rfl] at hj
                  cases hj
                  obtain ⟨w', z1, z2⟩ := g'.ok.slot 0 n' h0
                  simp only [List.map_cons, List.getElem?_cons_zero, Option.some.injEq] at z1
                  subst z1
                  refine ⟨v, hw, ?_⟩
                  simp only [if_pos]
                  exact z2
                · rw [if_neg hj'] at hj
                  obtain ⟨w', z1, z2⟩ := g.ok.slot j y hj
                  refine ⟨w', z1, ?_⟩
                  simp only [if_neg hj']
                  refine z2.mono (f1.1.trans g'.fr) (fun _ _ _ z => z) _ _ _ fun x hx => ?_
                  obtain ⟨⟨o, y1⟩, y2, y3, y4⟩ := other j y hj' hj x hx
                  have nO : ¬ Ond ((n :: cs).map some) fpc x := fun z => (onc x z).elim y3 y4
                  refine ⟨?_, fun u e => g'.keep x u e nO (by simp)⟩
                  cases z : F' x with
                  | none => rfl
                  | some u =>
                    rcases g'.nw x (by rw [z]; simp) with z | z | z | z
                    · rcases f3 x z with z | z
                      · exact absurd y2 z
                      · exact absurd z.1 y4
                    · rw [y1] at z
                      cases z
                    · exact absurd z nO
                    · cases z
              · rw [En.get_put hlt] at hj
                by_cases hj' : j = i
                · simp only [if_pos hj']
                  exact g'.ok.nd 0 n' h0
                · rw [if_neg hj'] at hj
                  simp only [if_neg hj']
                  exact g.ok.nd j y hj
              · have cross : ∀ k y, k ≠ i → e1.get k = some y → ∀ x, x ∈ fp' 0 → x ∈ fp1 k → False := fun k y hk hy x h1 h2 => by
                  obtain ⟨⟨o, y1⟩, y2, y3, y4⟩ := other k y hk hy x h2
                  rcases c0 x h1 with z | z | z
                  · rw [y1] at z
                    cases z
                  · exact y3 z
                  · exact y4 z
                rw [En.get_put hlt] at hj hk
                by_cases hj' : j = i
                · simp only [if_pos hj'] at hx
                  by_cases hk' : k = i
                  · rw [hj', hk']
                  · rw [if_neg hk'] at hk
                    simp only [if_neg hk'] at hx'
                    exact (cross k y' hk' hk x hx hx').elim
                · rw [if_neg hj'] at hj
                  simp only [if_neg hj'] at hx
                  by_cases hk' : k = i
                  · simp only [if_pos hk'] at hx'
                    exact (cross j y hj' hj x hx' hx).elim
                  · rw [if_neg hk'] at hk
                    simp only [if_neg hk'] at hx'
                    exact g.ok.dj j k y y' x hj hk hx hx'
          refine q v' F' H' _ B (g.trans go2 a) (o'.mono (.refl _) (fun _ _ _ z => z.elim) _ _ _ fun c hc => ⟨(o'.at _ _ _ c hc).1, fun _ z => z⟩) n'' (fun c hc => ?_) fun c hc ⟨j, y, hj, hx⟩ => ?_
          · rcases a' c hc with z | z
            · exact .inl (g.stay c z)
            · rcases onc c z with z | z
              · exact g.ond ⟨i, n, hn, z⟩
              · exact a c z
          · rw [En.get_put hlt] at hj
            by_cases hj' : j = i
            · simp only [if_pos hj'] at hx
              exact b' c hc ⟨0, n', h0, hx⟩
            · rw [if_neg hj'] at hj
              simp only [if_neg hj'] at hx
              obtain ⟨w', _, q'⟩ := g.ok.slot j y hj
              obtain ⟨_, o, z2⟩ := q'.at _ _ _ c hx
              rcases a' c hc with z | z
              · rw [z2] at z
                cases z
              · rcases onc c z with z | z
                · exact hj' (g.ok.dj j i y n c hj hn hx z)
                · exact kk ⟨y, hj⟩ hx z
        · cases e
      · cases e
    · cases e
  · cases e
end
section
variable {X : Cx} {k : Nat} {fa : Addr} {fd : FuncData} {ps : List Str} {fn : Fn} {x : Str} {p pos : Pos} {e : Expr} {es : List Expr} {io : List Bool} {fs : En → Option (List M)} {gs : En → Option (List M × En)} {E : XK}
theorem sp_nil {sp : Sp} {vs : List V} {H : Hp} {Q : VK} (h : sp vs H Q E) : sp (vs ++ []) H Q E := by rw [List.append_nil]; exact h
theorem pd_call (io : List Bool) (F : FnG X.prog X.w X.K X.mg X.base CX0 k fa fd ps (SpI X.K fn)) (hr : RoomG k X.A) (hg : Gl X x) (hm : X.mg x = some (.ref fa)) (hk : PySem.W.keepIn X.K (.ref fa) = true) (hb : Binds X.K fd ps [])
    (ha : PDA X (e :: es) fs) (hdb : (x == ("__debug__" : Str)) = false := by decide) (he : starEach (e :: es) X.env = (false, eval e X.env) :: starEach es X.env := by rfl) (hpl : (backTo pos (starEach es X.env)).any (·.1) = false := by rfl) :
    PD X (.Call (.Name x p) (e :: es) [] pos) (opr (callP io fn) fs) :=
  PE.imp (pe_callG (dvs := []) (E := E0) F hr hg hm hk hb .nil pass0 ha hdb he hpl) fun σ H Q q => by
    obtain ⟨env, ms, F, fp, e, ok, q'⟩ := tDA.op (s_call (E := E0)) q
    exact ⟨env, ms, F, fp, e, ok, fun vs F' H' A a b c d => sp_nil (q' vs F' H' A a b c d)⟩
theorem px_callI (io : List Bool) (F : FnG X.prog X.w X.K X.mg X.base CX0 k fa fd ps (SpI X.K fn)) (hr : RoomG k X.A) (hg : Gl X x) (hm : X.mg x = some (.ref fa)) (hk : PySem.W.keepIn X.K (.ref fa) = true) (hb : Binds X.K fd ps [])
    (ha : PXA X (e :: es) gs) (hdb : (x == ("__debug__" : Str)) = false := by decide) (he : starEach (e :: es) X.env = (false, eval e X.env) :: starEach es X.env := by rfl) (hpl : (backTo pos (starEach es X.env)).any (·.1) = false := by rfl) :
    PX X (.Call (.Name x p) (e :: es) [] pos) (callI io fn gs) :=
  PE.imp (pe_callG (dvs := []) (E := E0) F hr hg hm hk hb .nil pass0 ha hdb he hpl) fun σ H Q q => (tXA.mutc (E := E0) q).mono fun vs H1 h => sp_nil h
end
/-- a def of the text: where it stands, its promise -/
structure Df (P : Program) (w : World) (K : PySem.W.Frag) (mg : Str → Option Value) (base : Heap) (x : Str) (k : Nat) (ps : List Str) (fn : Fn) : Prop where
  ex : ∃ (f : Addr) (fd : FuncData), mg x = some (.ref f) ∧ PySem.W.keepIn K (.ref f) = true ∧ Binds K fd ps [] ∧ FnG P w K mg base CX0 k f fd ps (SpI K fn)
/-- a law's def keeps what is asked -/
theorem law_sp {K : PySem.W.Frag} {f : Fn} (h : ∀ ns : List Int, ns.length ≤ 63 → (∀ z ∈ ns, Builtin.Int.intBits z ≤ 1048576) → ∃ ms, f [.fz (.scr ns)] = some (.fz (.bl true), ms)) {H : Hp} {a : Addr} {ns : List Int} (hl : ns.length ≤ 63) (hb : ∀ z ∈ ns, Builtin.Int.intBits z ≤ 1048576) (hS : SqL K H a (ns.map V.int)) :
    SpI K f [.ref a] H (fun v _ => v = .bl true) fun _ _ _ => False := by
  obtain ⟨ms, e⟩ := h ns hl hb
  have r : RepL K H [D.scr ns] [V.ref a] := by
    simp only [RepL, Rep]
    exact ⟨_, [], rfl, ⟨a, rfl, hS⟩, rfl⟩
  obtain ⟨fp, ok, _⟩ := envOf (.refl H) (ownL_fz (br := noBr) (H := H) r) .nil
  exact ⟨_, _, ms, H, fp, e, ok, fun v F' H' fp' B g o n a b => by simpa only [Own, Rep] using o.2⟩
end T2
end
section
set_option Elab.async false
set_option linter.all false
set_option maxRecDepth 100000
namespace T2
open PySem PySem.Spec PyProof.Rows L2
section
variable {K : PySem.W.Frag}
theorem OwnL.split {F H : Hp} : ∀ {ms : List M} {vs : List V} {A : List Addr} {k : Nat} {n : M}, OwnL K noBr F H ms vs A → ms[k]? = some n → ∃ X Y B v, A = X ++ B ++ Y ∧ vs[k]? = some v ∧ Own K noBr F H n v B ∧
    ∀ F' H' n' B', Same F F' → (∀ x ∈ X ++ Y, F' x = none ∧ ∀ o, H x = some o → H' x = some o) → Own K noBr F' H' n' v B' → OwnL K noBr F' H' (ms.set k n') vs (X ++ B' ++ Y)
  | [], vs, A, k, n, h, e => by cases e
  | m :: ms, vs, A, 0, n, h, e => by
    simp only [OwnL] at h
    obtain ⟨v, r, B, C, rfl, rfl, q, q2⟩ := h
    cases e
    refine ⟨[], C, B, v, rfl, rfl, q, fun F' H' n' B' s k h => ?_⟩
    simp only [List.set_cons_zero, OwnL]
    exact ⟨v, r, B', C, rfl, rfl, h, q2.mono s (fun _ _ _ z => z) _ _ _ k⟩
  | m :: ms, vs, A, k + 1, n, h, e => by
    simp only [OwnL] at h
    obtain ⟨v, r, B, C, rfl, rfl, q, q2⟩ := h
    obtain ⟨X, Y, D, w, rfl, e1, e2, e3⟩ := OwnL.split (k := k) q2 (by simpa using e)
    refine ⟨B ++ X, Y, D, w, by simp only [List.append_assoc], by simpa using e1, e2, fun F' H' n' B' s k h => ?_⟩
    simp only [List.set_cons_succ, OwnL]
    exact ⟨v, r, B, X ++ B' ++ Y, rfl, by simp only [List.append_assoc], q.mono s (fun _ _ _ z => z) _ _ _ fun a ha => k a (by simp [ha]), e3 F' H' n' B' s (fun a ha => k a (by
      rcases List.mem_append.mp ha with z | z <;> simp [z])) h⟩
theorem OwnF.split {F H : Hp} : ∀ {ms : List (Str × M)} {vs : List (Str × V)} {A : List Addr} {f : Str} {n : M}, OwnF K noBr F H ms vs A → getF ms f = some n → ∃ X Y B v, A = X ++ B ++ Y ∧ vs.lookup f = some v ∧ Own K noBr F H n v B ∧
    ∀ F' H' n' B', Same F F' → (∀ x ∈ X ++ Y, F' x = none ∧ ∀ o, H x = some o → H' x = some o) → Own K noBr F' H' n' v B' → OwnF K noBr F' H' (setF ms f n') vs (X ++ B' ++ Y)
  | [], vs, A, k, n, h, e => by cases e
  | m :: ms, vs, A, f, n, h, e => by
    simp only [OwnF] at h
    obtain ⟨v, r, B, C, rfl, rfl, q, q2⟩ := h
    unfold getF at e
    by_cases hf : m.1 = f
    · rw [if_pos hf] at e
      cases e
      refine ⟨[], C, B, v, rfl, by rw [List.lookup_cons, hf]; simp, q, fun F' H' n' B' s k h => ?_⟩
      unfold setF
      rw [if_pos hf]
      simp only [OwnF]
      exact ⟨v, r, B', C, by rw [hf], rfl, h, q2.mono s (fun _ _ _ z => z) _ _ _ k⟩
    · rw [if_neg hf] at e
      obtain ⟨X, Y, D, w, rfl, e1, e2, e3⟩ := OwnF.split q2 e
      refine ⟨B ++ X, Y, D, w, by simp only [List.append_assoc], ?_, e2, fun F' H' n' B' s k h => ?_⟩
      · rw [List.lookup_cons]
        have : (f == m.1) = false := by simpa using fun z => hf z.symm
        simp only [this, e1]
      · unfold setF
        rw [if_neg hf]
        simp only [OwnF]
        exact ⟨v, r, B, X ++ B' ++ Y, rfl, by simp only [List.append_assoc], q.mono s (fun _ _ _ z => z) _ _ _ fun a ha => k a (by simp [ha]), e3 F' H' n' B' s (fun a ha => k a (by
          rcases List.mem_append.mp ha with z | z <;> simp [z])) h⟩
theorem getP_nil (m : M) : getP m [] = some m := by cases m <;> rfl
theorem setP_nil (m n : M) : setP m [] n = some n := by cases m <;> rfl
/-- a list node of a tree, and the tree with another one in its place -/
theorem Own.node {F H : Hp} : ∀ {p : List Pa} {m : M} {w : V} {A : List Addr} {a : Addr} {ms : List M}, Own K noBr F H m w A → getP m p = some (.ol ms) → ValP H w p (.ref a) →
    ∃ X Y C vs, A = X ++ (a :: C) ++ Y ∧ H a = some (.lst vs) ∧ OwnL K noBr F H ms vs C ∧
      ∀ F' H' ms' vs' C', Same F F' → (∀ x ∈ X ++ Y, F' x = none ∧ ∀ o, H x = some o → H' x = some o) → F' a = none → H' a = some (.lst vs') → OwnL K noBr F' H' ms' vs' C' → ∃ m', setP m p (.ol ms') = some m' ∧ Own K noBr F' H' m' w (X ++ (a :: C') ++ Y)
  | [], m, w, A, a, ms, h, e, q => by
    rw [getP_nil] at e
    cases e
    have q : V.ref a = w := q
    subst q
    simp only [Own] at h
    obtain ⟨p, vs, B, e1, rfl, f, g, r⟩ := h
    cases e1
    refine ⟨[], [], B, vs, by simp, g, r, fun F' H' ms' vs' C' s k f' g' o => ⟨_, setP_nil _ _, ?_⟩⟩
    simp only [Own]
    exact ⟨a, vs', C', rfl, by simp, f', g', o⟩
  | .ix kk :: r, m, w, A, a, ms, h, e, q => by
    obtain ⟨b, us, u, rfl, q, g, q2⟩ := q
    cases m with
    | ol xs =>
      simp only [Own] at h
      obtain ⟨p, vs', B, e1, rfl, f, q3, h⟩ := h
      cases e1
      have : us = vs' := by rcases q with q | q <;> rw [q3] at q <;> cases q <;> rfl
      subst this
      simp only [getP] at e
      split at e
      · rename_i m' hm
        obtain ⟨X, Y, D, v, rfl, e1, e2, e3⟩ := OwnL.split h hm
        rw [g] at e1
        cases e1
        obtain ⟨X', Y', C, vs, rfl, c1, c2, c3⟩ := Own.node e2 e q2
        refine ⟨b :: X ++ X', Y' ++ Y, C, vs, by simp, c1, c2, fun F' H' ms' vs' C' s k f' g' o => ?_⟩
        obtain ⟨n', s1, s2⟩ := c3 F' H' ms' vs' C' s (fun x hx => k x (by
          rcases List.mem_append.mp hx with z | z <;> simp [z])) f' g' o
        refine ⟨.ol (xs.set kk n'), by simp only [setP, hm, s1, Option.map_some], ?_⟩
        simp only [Own]
        have kb := k b (by simp)
        exact ⟨b, us, X ++ (X' ++ a :: C' ++ Y') ++ Y, rfl, by simp, kb.1, kb.2 _ q3, e3 F' H' n' _ s (fun x hx => k x (by
          rcases List.mem_append.mp hx with z | z <;> simp [z])) s2⟩
      · cases e
    | ot xs =>
      simp only [Own] at h
      obtain ⟨p, vs', B, e1, rfl, f, q3, h⟩ := h
      cases e1
      have : us = vs' := by rcases q with q | q <;> rw [q3] at q <;> cases q <;> rfl
      subst this
      simp only [getP] at e
      split at e
      · rename_i m' hm
        obtain ⟨X, Y, D, v, rfl, e1, e2, e3⟩ := OwnL.split h hm
        rw [g] at e1
        cases e1
        obtain ⟨X', Y', C, vs, rfl, c1, c2, c3⟩ := Own.node e2 e q2
        refine ⟨b :: X ++ X', Y' ++ Y, C, vs, by simp, c1, c2, fun F' H' ms' vs' C' s k f' g' o => ?_⟩
        obtain ⟨n', s1, s2⟩ := c3 F' H' ms' vs' C' s (fun x hx => k x (by
          rcases List.mem_append.mp hx with z | z <;> simp [z])) f' g' o
        refine ⟨.ot (xs.set kk n'), by simp only [setP, hm, s1, Option.map_some], ?_⟩
        simp only [Own]
        have kb := k b (by simp)
        exact ⟨b, us, X ++ (X' ++ a :: C' ++ Y') ++ Y, rfl, by simp, kb.1, kb.2 _ q3, e3 F' H' n' _ s (fun x hx => k x (by
          rcases List.mem_append.mp hx with z | z <;> simp [z])) s2⟩
      · cases e
    | fz d => cases e
    | bp i p => cases e
    | oi C fs => cases e
    | od _ _ => cases e
    | odt _ => cases e
  | .fd f :: r, m, w, A, a, ms, h, e, q => by
    obtain ⟨b, C0, dx0, gs0, u, rfl, q, g, q2⟩ := q
    cases m with
    | oi C xs =>
      simp only [Own] at h
      obtain ⟨p, dx, gs, B, e1, rfl, f1, f2, q3, q4, h⟩ := h
      cases e1
      rw [q3] at q
      cases q
      simp only [getP] at e
      split at e
      · rename_i m' hm
        obtain ⟨X, Y, D, v, rfl, e1, e2, e3⟩ := OwnF.split h hm
        rw [g] at e1
        cases e1
        obtain ⟨X', Y', C', vs, rfl, c1, c2, c3⟩ := Own.node e2 e q2
        refine ⟨b :: dx0 :: X ++ X', Y' ++ Y, C', vs, by simp, c1, c2, fun F' H' ms' vs' C'' s k f' g' o => ?_⟩
        obtain ⟨n', s1, s2⟩ := c3 F' H' ms' vs' C'' s (fun x hx => k x (by
          rcases List.mem_append.mp hx with z | z <;> simp [z])) f' g' o
        refine ⟨.oi C0 (setF xs f n'), by simp only [setP, hm, s1, Option.map_some], ?_⟩
        simp only [Own]
        have kb := k b (by simp)
        have kd := k dx0 (by simp)
        exact ⟨b, dx0, gs0, X ++ (X' ++ a :: C'' ++ Y') ++ Y, rfl, by simp, kb.1, kd.1, kb.2 _ q3, kd.2 _ q4, e3 F' H' n' _ s (fun x hx => k x (by
          rcases List.mem_append.mp hx with z | z <;> simp [z])) s2⟩
      · cases e
    | fz d => cases e
    | bp i p => cases e
    | ol ms => cases e
    | ot ms => cases e
    | od _ _ => cases e
    | odt _ => cases e
end
def setE (env : En) (i : Nat) (p : List Pa) (n : M) : Option En := match env.get i with
  | some m => (setP m p n).map (env.put i)
  | none => none
section
variable {K : PySem.W.Frag} {F H F' H' : Hp} {σ σ' : L2.St} {env env' : En} {fp fp' : Nat → List Addr} {A B : List Addr}
theorem mut_ok (ok : EnvOk K F H σ env fp) {i : Nat} {p : List Pa} {a : Addr} {ms : List M} (hpl : env.place i p = some (.ol ms)) (hv : plc H σ env i p (.ref a)) :
    ∃ C vs, H a = some (.lst vs) ∧ F a = none ∧ Ond env fp a ∧ OwnL K noBr F H ms vs C ∧ C.Nodup ∧ (∀ c ∈ C, Ond env fp c) ∧ a ∉ C ∧
      ∀ ms' vs' C', OwnL K noBr F H ms' vs' C' → C'.Nodup → (∀ c ∈ C', c ∈ C ∨ ¬ Ond env fp c) → ∃ env' fp', setE env i p (.ol ms') = some env' ∧ Go K C' σ env fp F H σ env' fp' F (upd H a (.lst vs')) ∧ ∀ x, Ond env' fp' x → x ∈ C' ∨ (Ond env fp x ∧ x ∉ C) := by
  obtain ⟨w, hw, hval, _⟩ := hv
  unfold En.place at hpl
  split at hpl
  · rename_i m hm
    obtain ⟨w', k1, k2⟩ := ok.slot i m hm
    rw [hw] at k1
    cases k1
    obtain ⟨X, Y, C, vs, eA, c1, c2, c3⟩ := k2.node hpl hval
    have nd := ok.nd i m hm
    rw [eA] at nd
    have hlt := En.get_lt hm
    have inA : ∀ x, x ∈ X ++ (a :: C) ++ Y → x ∈ fp i := fun x hx => by rw [eA]; exact hx
    have ha : a ∈ fp i := inA a (by simp)
    have nd1 := List.nodup_append.mp nd
    have nd2 := List.nodup_append.mp nd1.1
    have nd3 := List.nodup_cons.mp nd2.2.1
    have sep : ∀ x ∈ X ++ Y, x ≠ a ∧ x ∉ C := fun x hx => by
      rcases List.mem_append.mp hx with z | z
      · exact ⟨fun e => nd2.2.2 x z a List.mem_cons_self e, fun h => nd2.2.2 x z x (List.mem_cons_of_mem _ h) rfl⟩
      · exact ⟨fun e => nd1.2.2 a (by simp) x z e.symm, fun h => nd1.2.2 x (by simp [h]) x z rfl⟩
    refine ⟨C, vs, c1, (k2.at _ _ _ a ha).1, ⟨i, m, hm, ha⟩, c2, nd3.2, fun c hc => ⟨i, m, hm, inA c (by simp [hc])⟩, nd3.1, fun ms' vs' C' o n sC => ?_⟩
    have aC : a ∉ C' := fun z => (sC a z).elim nd3.1 fun h => h ⟨i, m, hm, ha⟩
    have up : ∀ x o, x ≠ a → H x = some o → (upd H a (.lst vs')) x = some o := fun x o ne e => by rw [upd_ne ne]; exact e
    have F0 : ∀ x ∈ fp i, F x = none := fun x hx => (k2.at _ _ _ x hx).1
    obtain ⟨m', s1, s2⟩ := c3 F (upd H a (.lst vs')) ms' vs' C' (.refl _) (fun x hx => ⟨F0 x (inA x (by rcases List.mem_append.mp hx with z | z <;> simp [z])), fun o => up x o (sep x hx).1⟩) (F0 a ha) upd_same
      (o.mono (.refl _) (fun _ _ _ z => z) _ _ _ fun x hx => ⟨(o.at _ _ _ x hx).1, fun u => up x u fun z => aC (z ▸ hx)⟩)
    have inN : ∀ x, x ∈ X ++ (a :: C') ++ Y → x ∈ C' ∨ (x ∈ fp i ∧ x ∉ C) := fun x hx => by
      simp only [List.mem_append, List.mem_cons] at hx
      rcases hx with (z | z | z) | z
      · exact .inr ⟨inA x (by simp [z]), (sep x (by simp [z])).2⟩
      · subst z
        exact .inr ⟨ha, nd3.1⟩
      · exact .inl z
      · exact .inr ⟨inA x (by simp [z]), (sep x (by simp [z])).2⟩
    have onN : ∀ x, Ond (env.put i m') (fun j => if j = i then X ++ (a :: C') ++ Y else fp j) x → x ∈ C' ∨ (Ond env fp x ∧ x ∉ C) := fun x ⟨j, y, hj, hx⟩ => by
      by_cases h : j = i
      · simp only [if_pos h] at hx
        rcases inN x hx with z | z
        · exact .inl z
        · exact .inr ⟨⟨i, m, hm, z.1⟩, z.2⟩
      · simp only [if_neg h] at hx
        rw [En.get_put hlt, if_neg h] at hj
        exact .inr ⟨⟨j, y, hj, hx⟩, fun z => h (ok.dj j i y m x hj hm hx (inA x (by simp [z])))⟩
    have ne' : ∀ {j y x}, j ≠ i → env.get j = some y → x ∈ fp j → x ≠ a ∧ x ∉ C' := fun {j y x} hj hy hx => by
      refine ⟨fun e => hj (ok.dj j i y m x hy hm hx (e ▸ ha)), fun z => ?_⟩
      rcases sC x z with w | w
      · exact hj (ok.dj j i y m x hy hm hx (inA x (by simp [w])))
      · exact w ⟨j, y, hy, hx⟩
    refine ⟨env.put i m', _, by unfold setE; simp only [hm, s1, Option.map_some], ⟨.refl _, fun x o e no _ => up x o (fun z => no (z ▸ ⟨i, m, hm, ha⟩)) e, fun x e => ?_, fun x z => .inl z, fun x z => ?_, ?_, fun x od u e => by rw [upd_ne fun z => by rw [z, c1] at e; cases e]; exact e⟩, onN⟩
    · by_cases h : x = a
      · subst h
        rw [upd_same] at e
        cases e
      · rw [upd_ne h] at e
        exact e
    · rcases onN x z with z | z
      · exact .inr (.inr z)
      · exact .inr (.inl z.1)
    · refine ⟨by unfold En.put; rw [List.length_set]; exact ok.len, fun x o e => ?_, fun j y hj => ?_, fun j y hj => ?_, fun j k y y' x hj hk hx hx' => ?_⟩
      · rw [upd_ne fun z => by rw [z, F0 a ha] at e; cases e]
        exact ok.sub _ _ e
      · rw [En.get_put hlt] at hj
        by_cases h : j = i
        · subst h
          rw [if_pos rfl] at hj
          cases hj
          refine ⟨w, hw, ?_⟩
          simp only [if_pos]
          exact s2
        · rw [if_neg h] at hj
          obtain ⟨w', z1, z2⟩ := ok.slot j y hj
          refine ⟨w', z1, ?_⟩
          simp only [if_neg h]
          exact z2.mono (.refl _) (fun _ _ _ z => z) _ _ _ fun x hx => ⟨(z2.at _ _ _ x hx).1, fun u => up x u (ne' h hj hx).1⟩
      · rw [En.get_put hlt] at hj
        by_cases h : j = i
        · simp only [if_pos h]
          have d1 : ∀ x ∈ C', x ∉ X ++ Y := fun x hx hz => by
            rcases sC x hx with w | w
            · exact (sep x hz).2 w
            · exact w ⟨i, m, hm, inA x (by rcases List.mem_append.mp hz with z | z <;> simp [z])⟩
          refine List.nodup_append.mpr ⟨List.nodup_append.mpr ⟨nd2.1, List.nodup_cons.mpr ⟨aC, n⟩, fun x hx y hy e => ?_⟩, nd1.2.1, fun x hx y hy e => ?_⟩
          · subst e
            rcases List.mem_cons.mp hy with z | z
            · exact (sep x (by simp [hx])).1 z
            · exact d1 x z (by simp [hx])
          · subst e
            simp only [List.mem_append, List.mem_cons] at hx
            rcases hx with z | z | z
            · exact nd1.2.2 x (by simp [z]) x hy rfl
            · exact (sep x (by simp [hy])).1 z
            · exact d1 x z (by simp [hy])
        · rw [if_neg h] at hj
          simp only [if_neg h]
          exact ok.nd j y hj
      · have cross : ∀ k y, k ≠ i → env.get k = some y → ∀ x, x ∈ X ++ (a :: C') ++ Y → x ∈ fp k → False := fun k y hk hy x h1 h2 => by
          rcases inN x h1 with z | z
          · exact (ne' hk hy h2).2 z
          · exact hk (ok.dj k i y m x hy hm h2 z.1)
        rw [En.get_put hlt] at hj hk
        by_cases hj' : j = i
        · simp only [if_pos hj'] at hx
          by_cases hk' : k = i
          · rw [hj', hk']
          · rw [if_neg hk'] at hk
            simp only [if_neg hk'] at hx'
            exact (cross k y' hk' hk x hx hx').elim
        · rw [if_neg hj'] at hj
          simp only [if_neg hj'] at hx
          by_cases hk' : k = i
          · simp only [if_pos hk'] at hx'
            exact (cross j y hj' hj x hx' hx).elim
          · rw [if_neg hk'] at hk
            simp only [if_neg hk'] at hx'
            exact ok.dj j k y y' x hj hk hx hx'
  · cases hpl
end
/-- a method that changes a list: its items and its arguments give the new items and the result -/
def MutS (K : PySem.W.Frag) (mu : List M → List M → Option (List M × M)) (r : V → List V → Hp → VK → Prop) : Prop :=
  ∀ (F H : Hp) (a : Addr) (vs : List V) (C : List Addr) (ms as : List M) (ws : List V) (B : List Addr) (ms' : List M) (res : M) (Q : VK), Same F H → H a = some (.lst vs) → OwnL K noBr F H ms vs C → OwnL K noBr F H as ws B → (C ++ B).Nodup → mu ms as = some (ms', res) →
    (∀ vs' C' v R, OwnL K noBr F H ms' vs' C' → Own K noBr F H res v R → (C' ++ R).Sublist (C ++ B) ∨ ((C' ++ R).Nodup ∧ ∀ x ∈ C' ++ R, x ∈ C ++ B) → Q v (upd H a (.lst vs'))) → r (.ref a) ws H Q
def stowA (k : Nat) (env : En) : List M → Option (List M × En)
  | [] => some ([], env)
  | [m] => match stow k env m with
    | some (n, e) => some ([n], e)
    | none => none
  | [.fz d, m] => match stow k env m with
    | some (n, e) => some ([.fz d, n], e)
    | none => none
  | _ => none
def isOl : Option M → Bool
  | some (.ol _) => true
  | _ => false
def xMut (k : Nat) (fo : En → Option M) (gs : En → Option (List M × En)) (mu : List M → List M → Option (List M × M)) : En → Option (M × En) := fun env => match fo env with
  | some (.bp i p) => match gs env with
    | some (as, e1) => if alv e1 (.bp i p) = true ∧ isOl (env.place i p) = true then (match stowA k e1 as with
      | some (bs, e2) => match e2.place i p with
        | some (.ol ms) => match mu ms bs with
          | some (ms', res) => match setE e2 i p (.ol ms') with
            | some e3 => some (res, e3)
            | none => none
          | none => none
        | _ => none
      | none => none) else none
    | none => none
  | _ => none
/-- the same, the arguments changing nothing -/
def xMutP (k : Nat) (fo : En → Option M) (fs : En → Option (List M)) (mu : List M → List M → Option (List M × M)) : En → Option (M × En) := fun env => match fo env with
  | some (.bp i p) => match fs env with
    | some as => if isOl (env.place i p) = true then (match stowA k env as with
      | some (bs, e2) => match e2.place i p with
        | some (.ol ms) => match mu ms bs with
          | some (ms', res) => match setE e2 i p (.ol ms') with
            | some e3 => some (res, e3)
            | none => none
          | none => none
        | _ => none
      | none => none) else none
    | none => none
  | _ => none
section
variable {K : PySem.W.Frag} {F H F' H' F1 H1 : Hp} {σ σ' : L2.St} {env env' env1 : En} {fp fp' fp1 : Nat → List Addr} {A B : List Addr}
theorem stow_goF {k : Nat} {m m' : M} {v : V} {env2 : En} (g : Go K [] σ env fp F H σ env1 fp1 F1 H1) (o : Own K (plc H1 σ env1) F1 H1 m v A) (n : A.Nodup) (a : ∀ a ∈ A, H a = none ∨ Ond env fp a) (b : ∀ a ∈ A, ¬ Ond env1 fp1 a) (e : stow k env1 m = some (m', env2)) :
    ∃ F2 fp2 A', Go K [] σ env fp F H σ env2 fp2 F2 H1 ∧ Own K noBr F2 H1 m' v A' ∧ A'.Nodup ∧ (∀ a ∈ A', H a = none ∨ Ond env fp a) ∧ (∀ a ∈ A', ¬ Ond env2 fp2 a) ∧ Same F1 F2 := by
  obtain ⟨F2, fp2, A', g2, o2, s2, k2⟩ := stow_ok g.ok o n b e
  exact ⟨F2, fp2, A', g.trans g2 a, o2, n.sublist s2, fun c hc => a c (s2.subset hc), fun c hc z => b c (s2.subset hc) (k2 c z), g2.fr⟩
theorem stowA_ok {k : Nat} {ms ms' : List M} {vs : List V} {env2 : En} (g : Go K [] σ env fp F H σ env1 fp1 F1 H1) (o : OwnL K (plc H1 σ env1) F1 H1 ms vs A) (n : A.Nodup) (a : ∀ a ∈ A, H a = none ∨ Ond env fp a) (b : ∀ a ∈ A, ¬ Ond env1 fp1 a) (e : stowA k env1 ms = some (ms', env2)) :
    ∃ F2 fp2 A', Go K [] σ env fp F H σ env2 fp2 F2 H1 ∧ OwnL K noBr F2 H1 ms' vs A' ∧ A'.Nodup ∧ (∀ a ∈ A', H a = none ∨ Ond env fp a) ∧ (∀ a ∈ A', ¬ Ond env2 fp2 a) := by
  unfold stowA at e
  split at e
  · cases e
    simp only [OwnL] at o
    obtain ⟨rfl, rfl⟩ := o
    exact ⟨F1, fp1, [], g, ownL_nil, .nil, (fun a z => by cases z), fun a z => by cases z⟩
  · rename_i m
    split at e
    · rename_i n' e' hs
      cases e
      obtain ⟨v, rfl, o1⟩ := ownL1 o
      obtain ⟨F2, fp2, A', g2, o2, n2, a2, b2⟩ := stow_go g o1 n a b hs
      refine ⟨F2, fp2, A', g2, ?_, n2, a2, b2⟩
      simp only [OwnL]
      exact ⟨v, [], A', [], rfl, by rw [List.append_nil], o2, rfl, rfl⟩
    · cases e
  · rename_i d m
    split at e
    · rename_i n' e' hs
      cases e
      obtain ⟨v, w, B, C, rfl, rfl, o1, o2⟩ := ownL2 o
      simp only [Own] at o1
      obtain ⟨rfl, r⟩ := o1
      rw [List.nil_append] at n a b
      obtain ⟨F2, fp2, A', g2, o3, n2, a2, b2, s12⟩ := stow_goF g o2 n a b hs
      refine ⟨F2, fp2, A', g2, ?_, n2, a2, b2⟩
      simp only [OwnL]
      exact ⟨v, [w], [], A', rfl, rfl, own_fz (Rep.mono s12 _ _ r), w, [], A', [], rfl, by rw [List.append_nil], o3, rfl, rfl⟩
    · cases e
  · cases e
/-- behind the receiver and the arguments: the change -/
theorem mut_fin {mu : List M → List M → Option (List M × M)} {r : V → List V → Hp → VK → Prop} {i : Nat} {p : List Pa} {bs ms ms' : List M} {ws : List V} {x : V} {res : M} {e2 e3 : En} {F2 : Hp} {fp2 : Nat → List Addr} {A' : List Addr} {Q : VK} (hm : MutS K mu r)
    (g2 : Go K [] σ env fp F H σ e2 fp2 F2 H1) (o2 : OwnL K noBr F2 H1 bs ws A') (n2 : A'.Nodup) (a2 : ∀ a ∈ A', H a = none ∨ Ond env fp a) (b2 : ∀ a ∈ A', ¬ Ond e2 fp2 a)
    (hx : ∃ w, σ[i]? = some (some w) ∧ ValP H1 w p x) (h2 : e2.place i p = some (.ol ms)) (h3 : mu ms bs = some (ms', res)) (h4 : setE e2 i p (.ol ms') = some e3)
    (q : ∀ v F' H' fp' A, Go K [] σ env fp F H σ e3 fp' F' H' → Own K (plc H' σ e3) F' H' res v A → A.Nodup → (∀ a ∈ A, H a = none ∨ Ond env fp a) → (∀ a ∈ A, ¬ Ond e3 fp' a) → Q v H') : r x ws H1 Q := by
  obtain ⟨w, hw, hv⟩ := hx
  have h2' := h2
  unfold En.place at h2
  split at h2
  · rename_i m hmi
    obtain ⟨w', k1, k2⟩ := g2.ok.slot i m hmi
    rw [hw] at k1
    cases k1
    obtain ⟨B0, hB, _⟩ := k2.path h2 hv
    simp only [Own] at hB
    obtain ⟨c, us, _, rfl, _, _, _, _⟩ := hB
    obtain ⟨C, vs, c1, c2, c3, c4, c5, c6, c7, c8⟩ := mut_ok g2.ok h2' ⟨w, hw, hv, _, h2'⟩
    have dCA : ∀ x ∈ C, x ∉ A' := fun x hx z => b2 x z (c6 x hx)
    have nd : (C ++ A').Nodup := List.nodup_append.mpr ⟨c5, n2, fun x hx y hy e => dCA x hx (e ▸ hy)⟩
    refine hm F2 H1 c vs C ms bs ws A' ms' res Q g2.ok.sub c1 c4 o2 nd h3 fun vs' C' v R o3 o4 hs => ?_
    have hs' : (C' ++ R).Nodup ∧ ∀ x ∈ C' ++ R, x ∈ C ++ A' := by
      rcases hs with z | z
      · exact ⟨nd.sublist z, fun x hx => z.subset hx⟩
      · exact z
    have nd' := List.nodup_append.mp hs'.1
    obtain ⟨e4, fp4, s1, s2, s3⟩ := c8 ms' vs' C' o3 nd'.1 fun x hx => (List.mem_append.mp (hs'.2 x (List.mem_append_left _ hx))).imp id fun z => b2 x z
    rw [h4] at s1
    cases s1
    have tC : ∀ x ∈ C', H x = none ∨ Ond env fp x := fun x hx => by
      rcases List.mem_append.mp (hs'.2 x (List.mem_append_left _ hx)) with z | z
      · exact g2.ond (c6 x z)
      · exact a2 x z
    have rne : ∀ x ∈ R, x ≠ c := fun x hx e => by
      subst e
      rcases List.mem_append.mp (hs'.2 x (List.mem_append_right _ hx)) with z | z
      · exact c7 z
      · exact b2 x z c3
    refine q v F2 _ fp4 R (g2.trans s2 tC) (o4.mono (.refl _) (fun _ _ _ z => z.elim) _ _ _ fun x hx => ⟨(o4.at _ _ _ x hx).1, fun u e => by rw [upd_ne (rne x hx)]; exact e⟩) nd'.2.1 (fun x hx => ?_) fun x hx z => ?_
    · rcases List.mem_append.mp (hs'.2 x (List.mem_append_right _ hx)) with z | z
      · exact g2.ond (c6 x z)
      · exact a2 x z
    · rcases s3 x z with z | z
      · exact nd'.2.2 x z x hx rfl
      · rcases List.mem_append.mp (hs'.2 x (List.mem_append_right _ hx)) with w | w
        · exact z.2 w
        · exact b2 x w z.1
  · cases h2
theorem mut_end {k : Nat} {mu : List M → List M → Option (List M × M)} {r : V → List V → Hp → VK → Prop} {i : Nat} {p : List Pa} {as bs ms ms' : List M} {ws : List V} {x : V} {res : M} {e2 e3 : En} {Q : VK} (hm : MutS K mu r)
    (g : Go K [] σ env fp F H σ env1 fp1 F1 H1) (o : OwnL K (plc H1 σ env1) F1 H1 as ws A) (n : A.Nodup) (a : ∀ a ∈ A, H a = none ∨ Ond env fp a) (b : ∀ a ∈ A, ¬ Ond env1 fp1 a)
    (hx : ∃ w, σ[i]? = some (some w) ∧ ValP H1 w p x) (h1 : stowA k env1 as = some (bs, e2)) (h2 : e2.place i p = some (.ol ms)) (h3 : mu ms bs = some (ms', res)) (h4 : setE e2 i p (.ol ms') = some e3)
    (q : ∀ v F' H' fp' A, Go K [] σ env fp F H σ e3 fp' F' H' → Own K (plc H' σ e3) F' H' res v A → A.Nodup → (∀ a ∈ A, H a = none ∨ Ond env fp a) → (∀ a ∈ A, ¬ Ond e3 fp' a) → Q v H') : r x ws H1 Q := by
  obtain ⟨F2, fp2, A', g2, o2, n2, a2, b2⟩ := stowA_ok g o n a b h1
  exact mut_fin hm g2 o2 n2 a2 b2 hx h2 h3 h4 q
theorem isOl_at (ok : EnvOk K F H σ env fp) {i : Nat} {p : List Pa} {w x : V} (hw : σ[i]? = some (some w)) (hv : ValP H w p x) (h : isOl (env.place i p) = true) : ∃ a xs, x = .ref a ∧ H a = some (.lst xs) := by
  cases e : env.place i p with
  | none => rw [e] at h; cases h
  | some n =>
    rw [e] at h
    cases n with
    | ol ms =>
      unfold En.place at e
      split at e
      · rename_i m hm
        obtain ⟨w', k1, k2⟩ := ok.slot i m hm
        rw [hw] at k1
        cases k1
        obtain ⟨B0, hB, _⟩ := k2.path e hv
        simp only [Own] at hB
        obtain ⟨c, us, _, rfl, _, _, h1, _⟩ := hB
        exact ⟨c, us, rfl, h1⟩
      · cases e
    | fz _ => cases h
    | bp _ _ => cases h
    | ot _ => cases h
    | oi _ _ => cases h
    | od _ _ => cases h
    | odt _ => cases h
theorem tX.mut {k : Nat} {fo : En → Option M} {gs : En → Option (List M × En)} {mu : List M → List M → Option (List M × M)} {r : V → List V → Hp → VK → Prop} {Q : VK} (hm : MutS K mu r) (h : tX K (xMut k fo gs mu) σ H Q) :
    tD K fo σ H fun x H1 => (∃ a xs, x = .ref a ∧ H1 a = some (.lst xs)) ∧ tXA K gs σ H1 fun ws H2 => r x ws H2 Q := by
  obtain ⟨env, m, env', F, fp, e, ok, q⟩ := h
  unfold xMut at e
  split at e
  · rename_i i p h1
    split at e
    · rename_i as e1 h2
      split at e
      · rename_i ha
        split at e
        · rename_i bs e2 h3
          split at e
          · rename_i ms h4
            split at e
            · rename_i ms' res h5
              split at e
              · rename_i e3 h6
                cases e
                refine ⟨env, _, F, fp, h1, ok, fun x F1 H1 A1 s1 o1 n1 a1 => ?_⟩
                simp only [Own] at o1
                obtain ⟨rfl, w, hw, hv, mi, hmi⟩ := o1
                have ok1 := ok.step s1 fun a z => by cases z
                obtain ⟨ha, hol⟩ := ha
                simp only [alv, Bool.and_eq_true, List.isEmpty_iff] at ha
                obtain ⟨rfl, _⟩ := ha
                have hv' : x = w := hv
                subst hv'
                refine ⟨isOl_at ok1 hw hv hol, env, as, e1, F1, fp, h2, ok1, fun ws F2 H2 fp2 A2 g2 o2 n2 a2 b2 => ?_⟩
                exact mut_end hm ((s1.go ok fun a z => by cases z).trans g2 fun a z => by cases z) o2 n2 (fun c hc => (a2 c hc).imp (fun z => s1.stay c z) id) b2 (p := []) ⟨x, hw, rfl⟩ h3 h4 h5 h6 q
              · cases e
            · cases e
          · cases e
        · cases e
      · cases e
    · cases e
  · cases e
theorem tX.mutP {k : Nat} {fo : En → Option M} {fs : En → Option (List M)} {mu : List M → List M → Option (List M × M)} {r : V → List V → Hp → VK → Prop} {Q : VK} (hm : MutS K mu r) (h : tX K (xMutP k fo fs mu) σ H Q) :
    tD K fo σ H fun x H1 => (∃ a xs, x = .ref a ∧ H1 a = some (.lst xs)) ∧ tDA K fs σ H1 fun ws H2 => r x ws H2 Q := by
  obtain ⟨env, m, env', F, fp, e, ok, q⟩ := h
  unfold xMutP at e
  split at e
  · rename_i i p h1
    split at e
    · rename_i as h2
      split at e
      · rename_i hol
        split at e
        · rename_i bs e2 h3
          split at e
          · rename_i ms h4
            split at e
            · rename_i ms' res h5
              split at e
              · rename_i e3 h6
                cases e
                refine ⟨env, _, F, fp, h1, ok, fun x F1 H1 A1 s1 o1 n1 a1 => ?_⟩
                simp only [Own] at o1
                obtain ⟨rfl, w, hw, hv, mi, hmi⟩ := o1
                have ok1 := ok.step s1 fun a z => by cases z
                refine ⟨isOl_at ok1 hw hv hol, env, as, F1, fp, h2, ok1, fun ws F2 H2 A2 s2 o2 n2 a2 => ?_⟩
                have s12 := s1.trans s2 fun a z => by cases z
                refine mut_end hm (s12.go ok fun a z => by cases z) o2 n2 (fun c hc => .inl (s1.stay c (a2 c hc))) (fun c hc z => ?_) ⟨w, hw, hv.mono s2.hp⟩ h3 h4 h5 h6 q
                obtain ⟨_, o, z'⟩ := ok1.at z
                rw [a2 c hc] at z'
                cases z'
              · cases e
            · cases e
          · cases e
        · cases e
      · cases e
    · cases e
  · cases e
end
def mAppend : List M → List M → Option (List M × M) := fun ms as => match as with
  | [m] => if ms.length < sizeLine then some (ms ++ [m], .fz .non) else none
  | _ => none
def mExtend : List M → List M → Option (List M × M) := fun ms as => match as with
  | [.fz (.lst ds)] => if ms.length + ds.length ≤ sizeLine then some (ms ++ ds.map .fz, .fz .non) else none
  | _ => none
def mClear : List M → List M → Option (List M × M) := fun _ as => match as with
  | [] => some ([], .fz .non)
  | _ => none
def mPopAt : List M → List M → Option (List M × M) := fun ms as => match as with
  | [.fz (.int i)] => if decide (-(2 ^ 63) ≤ i ∧ i < 2 ^ 63) then (match seqIndex? i ms.length with
    | some k => match ms[k]? with
      | some m => some (ms.eraseIdx k, m)
      | none => none
    | none => none) else none
  | _ => none
section
variable {K : PySem.W.Frag}
theorem m_append : MutS K mAppend rAppend := by
  intro F H a vs C ms as ws B ms' res Q s ha hms has nd e q
  unfold mAppend at e
  split at e
  · rename_i m
    split at e
    · rename_i hl
      cases e
      obtain ⟨v, rfl, o⟩ := ownL1 has
      exact ⟨a, vs, v, rfl, rfl, ha, by rw [← hms.len]; exact hl, q _ (C ++ B) .non [] (hms.append has) (own_fz (by simp only [Rep])) (.inl (by rw [List.append_nil]; exact List.Sublist.refl _))⟩
    · cases e
  · cases e
theorem m_extend : MutS K mExtend rExtend := by
  intro F H a vs C ms as ws B ms' res Q s ha hms has nd e q
  unfold mExtend at e
  split at e
  · rename_i ds
    split at e
    · rename_i hl
      cases e
      obtain ⟨v, rfl, o⟩ := ownL1 has
      simp only [Own, Rep] at o
      obtain ⟨rfl, b, zs, rfl, h1, h2⟩ := o
      exact ⟨a, b, vs, zs, rfl, rfl, ha, s _ _ h1, by rw [← hms.len, ← h2.len]; exact hl, q _ (C ++ []) .non [] (hms.append (ownL_fz h2)) (own_fz (by simp only [Rep])) (.inl (by rw [List.append_nil]; exact List.Sublist.refl _))⟩
    · cases e
  · cases e
theorem m_clear : MutS K mClear rClear := by
  intro F H a vs C ms as ws B ms' res Q s ha hms has nd e q
  unfold mClear at e
  split at e
  · cases e
    simp only [OwnL] at has
    obtain ⟨rfl, rfl⟩ := has
    exact ⟨a, vs, rfl, rfl, ha, q _ [] .non [] ownL_nil (own_fz (by simp only [Rep])) (.inl (List.nil_sublist _))⟩
  · cases e
theorem OwnL.dropL {br : Nat → List Pa → V → Prop} {F H : Hp} : ∀ {ms : List M} {vs : List V} {A : List Addr} {k : Nat} {m : M}, OwnL K br F H ms vs A → ms[k]? = some m → ∃ X Y B v, A = X ++ B ++ Y ∧ vs[k]? = some v ∧ Own K br F H m v B ∧ OwnL K br F H (ms.eraseIdx k) (vs.eraseIdx k) (X ++ Y)
  | [], vs, A, k, m, h, e => by cases e
  | n :: ms, vs, A, 0, m, h, e => by
    simp only [OwnL] at h
    obtain ⟨v, r, B, C, rfl, rfl, q, q2⟩ := h
    cases e
    exact ⟨[], C, B, v, rfl, rfl, q, q2⟩
  | n :: ms, vs, A, k + 1, m, h, e => by
    simp only [OwnL] at h
    obtain ⟨v, r, B, C, rfl, rfl, q, q2⟩ := h
    obtain ⟨X, Y, D, w, rfl, e1, e2, e3⟩ := OwnL.dropL (k := k) q2 (by simpa using e)
    refine ⟨B ++ X, Y, D, w, by simp only [List.append_assoc], by simpa using e1, e2, ?_⟩
    simp only [List.eraseIdx_cons_succ, OwnL]
    exact ⟨v, r.eraseIdx k, B, X ++ Y, rfl, by simp only [List.append_assoc], q, e3⟩
theorem popped {X Y B C : List Addr} (nd : (C ++ ([] : List Addr)).Nodup) (e : C = X ++ B ++ Y) : ((X ++ Y) ++ B).Nodup ∧ ∀ x ∈ (X ++ Y) ++ B, x ∈ C ++ ([] : List Addr) := by
  rw [List.append_nil] at nd
  rw [e] at nd
  refine ⟨?_, fun x hx => ?_⟩
  · have h1 := List.nodup_append.mp nd
    have h2 := List.nodup_append.mp h1.1
    refine List.nodup_append.mpr ⟨List.nodup_append.mpr ⟨h2.1, h1.2.1, fun x hx y hy => h1.2.2 x (by simp [hx]) y hy⟩, h2.2.1, fun x hx y hy e => ?_⟩
    subst e
    rcases List.mem_append.mp hx with z | z
    · exact h2.2.2 x z x hy rfl
    · exact h1.2.2 x (by simp [hy]) x z rfl
  · rw [List.append_nil, e]
    simp only [List.mem_append] at hx ⊢
    rcases hx with (z | z) | z
    · exact .inl (.inl z)
    · exact .inr z
    · exact .inl (.inr z)
theorem m_popAt : MutS K mPopAt rPopAt := by
  intro F H a vs C ms as ws B ms' res Q s ha hms has nd e q
  unfold mPopAt at e
  split at e
  · rename_i i
    split at e
    · rename_i hi
      split at e
      · rename_i k hk
        split at e
        · rename_i m hm
          cases e
          obtain ⟨v, rfl, o⟩ := ownL1 has
          simp only [Own, Rep] at o
          obtain ⟨rfl, rfl⟩ := o
          obtain ⟨X, Y, D, u, eC, e1, e2, e3⟩ := hms.dropL hm
          have hi := of_decide_eq_true hi
          exact ⟨a, vs, i, k, u, rfl, rfl, ha, hi.1, hi.2, by rw [← hms.len]; exact hk, e1, q _ (X ++ Y) u D e3 e2 (.inr (popped nd eC))⟩
        · cases e
      · cases e
    · cases e
  · cases e
end
section
variable {X : Cx} {o e : Expr} {es : List Expr} {fo : En → Option M} {gs : En → Option (List M × En)} {fs : En → Option (List M)} {k : Nat} {mu : List M → List M → Option (List M × M)} {r : V → List V → Hp → VK → Prop} {id : String} {name : Str} {pos apos : Pos}
theorem tyL {K : PySem.W.Frag} {x : V} {H : Hp} (h : ∃ a xs, x = .ref a ∧ H a = some (.lst xs)) : tyV K "list" x H := by
  obtain ⟨a, xs, rfl, h⟩ := h
  exact .inl ⟨rfl, _, .inl (.inl h)⟩
theorem px_mut (k : Nat) (slot : Slot "list" name id) (hty : typeOf (.builtin id) = pure (.type "method_descriptor")) (hm : MtM X id r) (mS : MutS X.K mu r) (ho : PD X o fo) (ha : PXA X (e :: es) gs)
    (hbase : attributeBase o name X.env (eval o X.env) = eval o X.env := by rfl)
    (hfew : ((backTo pos (starEach (e :: es) X.env)).all (fun x => !x.1) && (backToKw pos (keywordEach [] X.env)).all (fun x => x.1.isSome)
      && decide ((e :: es).length + ([] : List Keyword).length + (if ([] : List Keyword).isEmpty then 0 else 1) < 30)) = true := by rfl)
    (hline : (apos.endLine == pos.line) = true := by rfl) (hs : starEach (e :: es) X.env = (false, eval e X.env) :: starEach es X.env := by rfl) (hplain : (backTo pos (starEach es X.env)).any (·.1) = false := by rfl) :
    PX X (.Call (.Attribute o name apos) (e :: es) [] pos) (xMut k fo gs mu) :=
  PE.imp (pe_bm PySem.F.plainAttrs_list slot hty hm ho ha hbase hfew hline hs hplain) fun σ H Q q => (tX.mut mS q).mono fun v H1 ⟨h1, h2⟩ => ⟨tyL h1, h2⟩
theorem px_mutP (k : Nat) (slot : Slot "list" name id) (hty : typeOf (.builtin id) = pure (.type "method_descriptor")) (hm : MtM X id r) (mS : MutS X.K mu r) (ho : PD X o fo) (ha : PDA X (e :: es) fs)
    (hbase : attributeBase o name X.env (eval o X.env) = eval o X.env := by rfl)
    (hfew : ((backTo pos (starEach (e :: es) X.env)).all (fun x => !x.1) && (backToKw pos (keywordEach [] X.env)).all (fun x => x.1.isSome)
      && decide ((e :: es).length + ([] : List Keyword).length + (if ([] : List Keyword).isEmpty then 0 else 1) < 30)) = true := by rfl)
    (hline : (apos.endLine == pos.line) = true := by rfl) (hs : starEach (e :: es) X.env = (false, eval e X.env) :: starEach es X.env := by rfl) (hplain : (backTo pos (starEach es X.env)).any (·.1) = false := by rfl) :
    PX X (.Call (.Attribute o name apos) (e :: es) [] pos) (xMutP k fo fs mu) :=
  PE.imp (pe_bm PySem.F.plainAttrs_list slot hty hm ho ha hbase hfew hline hs hplain) fun σ H Q q => (tX.mutP mS q).mono fun v H1 ⟨h1, h2⟩ => ⟨tyL h1, h2⟩
theorem px_mut0 (k : Nat) (slot : Slot "list" name id) (hty : typeOf (.builtin id) = pure (.type "method_descriptor")) (hm : MtR X id r) (mS : MutS X.K mu r) (ho : PD X o fo)
    (hbase : attributeBase o name X.env (eval o X.env) = eval o X.env := by rfl) (hline : (apos.endLine == pos.line) = true := by rfl) :
    PX X (.Call (.Attribute o name apos) [] [] pos) (xMutP k fo aNil mu) :=
  PE.imp (pe_bm0 PySem.F.plainAttrs_list slot hty hm ho hbase hline) fun σ H Q q => (tX.mutP mS q).mono fun v H1 ⟨h1, h2⟩ => ⟨tyL h1, tDA.nil h2⟩
end
def mSet : List M → List M → Option (List M × M) := fun ms as => match as with
  | [.fz (.int i), m] => match ixN ms.length i with
    | some j => some (ms.set j m, .fz .non)
    | none => none
  | _ => none
section
variable {K : PySem.W.Frag} {F H F' H' F1 H1 : Hp} {σ σ' : L2.St} {env env' env1 : En} {fp fp' fp1 : Nat → List Addr} {A B : List Addr}
theorem OwnL.put {br : Nat → List Pa → V → Prop} : ∀ {ms : List M} {vs : List V} {A : List Addr} {k : Nat} {m : M} {v : V} {B : List Addr}, OwnL K br F H ms vs A → k < ms.length → Own K br F H m v B → ∃ X Y C, A = X ++ C ++ Y ∧ OwnL K br F H (ms.set k m) (vs.set k v) (X ++ B ++ Y)
  | [], vs, A, k, m, v, B, h, e, o => by cases e
  | n :: ms, vs, A, 0, m, v, B, h, e, o => by
    simp only [OwnL] at h
    obtain ⟨w, r, D, C, rfl, rfl, q, q2⟩ := h
    refine ⟨[], C, D, rfl, ?_⟩
    simp only [List.set_cons_zero, OwnL]
    exact ⟨v, r, B, C, rfl, rfl, o, q2⟩
  | n :: ms, vs, A, k + 1, m, v, B, h, e, o => by
    simp only [OwnL] at h
    obtain ⟨w, r, D, C, rfl, rfl, q, q2⟩ := h
    obtain ⟨X, Y, E, rfl, e1⟩ := OwnL.put (k := k) q2 (by simpa using e) o
    refine ⟨D ++ X, Y, E, by simp only [List.append_assoc], ?_⟩
    simp only [List.set_cons_succ, OwnL]
    exact ⟨w, r.set k v, D, X ++ B ++ Y, rfl, by simp only [List.append_assoc], q, e1⟩
/-- o[i] = e: by a rule on values whose arguments are the index and the value -/
theorem m_set : MutS K mSet (fun x ws H Q => ∃ i v, ws = [i, v] ∧ rSetL x i v H fun H' => Q .non H') := by
  intro F H a vs C ms as ws B ms' res Q s ha hms has nd e q
  unfold mSet at e
  split at e
  · rename_i i m
    split at e
    · rename_i j hj
      cases e
      obtain ⟨x, v, B1, B2, rfl, rfl, o1, o2⟩ := ownL2 has
      simp only [Own, Rep] at o1
      obtain ⟨rfl, rfl⟩ := o1
      rw [List.nil_append] at nd q
      have hlt : j < ms.length := (ixN_seq hj).2.1
      obtain ⟨X, Y, E, rfl, o3⟩ := hms.put hlt o2
      refine ⟨_, _, rfl, a, vs, i, j, rfl, rfl, ha, by rw [← hms.len]; exact hj, q _ (X ++ B2 ++ Y) .non [] o3 (own_fz (by simp only [Rep])) (.inr ?_)⟩
      have h1 := List.nodup_append.mp nd
      have h2 := List.nodup_append.mp h1.1
      have h3 := List.nodup_append.mp h2.1
      rw [List.append_nil]
      refine ⟨List.nodup_append.mpr ⟨List.nodup_append.mpr ⟨h3.1, h1.2.1, fun x hx y hy => h1.2.2 x (by simp [hx]) y hy⟩, h2.2.1, fun x hx y hy e => ?_⟩, fun x hx => ?_⟩
      · subst e
        rcases List.mem_append.mp hx with z | z
        · exact h2.2.2 x (by simp [z]) x hy rfl
        · exact h1.2.2 x (by simp [hy]) x z rfl
      · simp only [List.mem_append] at hx ⊢
        rcases hx with (z | z) | z
        · exact .inl (.inl (.inl z))
        · exact .inr z
        · exact .inl (.inr z)
    · cases e
  · cases e
end
/-- o[i] = e -/
def sSet (k : Nat) (fo fi : En → Option M) (g : En → Option (M × En)) : En → Option Fl := fun env => match g env with
  | some (m, e1) => match stow k e1 m with
    | some (m', e2) => match fo e2, fi e2 with
      | some (.bp i p), some (.fz (.int j)) => match e2.place i p with
        | some (.ol ms) => match mSet ms [.fz (.int j), m'] with
          | some (ms', _) => match setE e2 i p (.ol ms') with
            | some e3 => some (.nx e3)
            | none => none
          | none => none
        | _ => none
      | _, _ => none
    | none => none
  | none => none
/-- o[i] op= e, of ints -/
def sAugI (op : Int → Int → Int) (fo fi fe : En → Option M) : En → Option Fl := fun env => match fo env, fi env, fe env with
  | some (.bp i p), some (.fz (.int j)), some (.fz (.int b)) => match env.place i p with
    | some (.ol ms) => match atI ms j with
      | some (.fz (.int a)) => match mSet ms [.fz (.int j), .fz (.int (op a b))] with
        | some (ms', _) => match setE env i p (.ol ms') with
          | some e3 => some (.nx e3)
          | none => none
        | none => none
      | _ => none
    | _ => none
  | _, _, _ => none
/-- name op= e, of ints -/
def sAugN (lk : Nat → Bool) (op : Int → Int → Int) (i : Nat) (g : En → Option (M × En)) : En → Option Fl := fun env => match env.get i with
  | some (.fz (.int a)) => match g env with
    | some (.fz (.int b), e1) => if lk i = false ∧ i < e1.length then some (.nx (e1.put i (.fz (.int (op a b))))) else none
    | _ => none
  | _ => none
section
variable {X : Cx} {lk : Nat → Bool} {o ix e : Expr} {fo fi fe : En → Option M} {g : En → Option (M × En)} {k : Nat} {pos tpos : Pos}
theorem pds_setI (k : Nat) (he : PX X e g) (ho : PD X o fo) (hi : PD X ix fi) (hs : swapsWithSole [.Subscript o ix tpos] e pos.line X.env = pure false := by rfl) (hw : swappedStores [.Subscript o ix tpos] e X.env = pure none := by rfl)
    (h1 : (assignEach [.Subscript o ix tpos] X.env).map (·.2) = [assign (.Subscript o ix tpos) X.env] := by rfl)
    (ha : ∀ v, assign (.Subscript o ix tpos) X.env v = (do
      let ov ← holding [v] (eval o X.env)
      let iv ← holding [v, ov] (eval ix X.env)
      standAt tpos
      holding [v, ov, iv] (setItem ov iv v)
      release [v, ov, iv] []) := by intro _; rfl) : PDS X lk (.Assign [.Subscript o ix tpos] e pos) (sSet k fo fi g) := by
  refine PS.imp (ps_asg he (pg_sub ho hi set_list ha) hs hw h1) fun D σ H h => ?_
  obtain ⟨env, r, F, fp, e, ok, q⟩ := h
  unfold sSet at e
  split at e
  · rename_i m e1 h1
    split at e
    · rename_i m' e2 h2
      split at e
      · rename_i i p j h3 h4
        split at e
        · rename_i ms h5
          split at e
          · rename_i ms' rr h6
            split at e
            · rename_i e3 h7
              cases e
              refine ⟨env, m, e1, F, fp, h1, ok, fun v F1 H1 fp1 A g1 o1 n1 a1 b1 => ?_⟩
              obtain ⟨F2, fp2, A', g2, o2, n2, a2, b2⟩ := stow_go g1 o1 n1 a1 b1 h2
              refine ⟨e2, _, F2, fp2, h3, g2.ok, fun x F3 H3 A3 s3 o3 n3 a3 => ?_⟩
              simp only [Own] at o3
              obtain ⟨rfl, w, hw, hv, _⟩ := o3
              refine ⟨e2, _, F3, fp2, h4, g2.ok.step s3 (fun a z => by cases z), fun y F4 H4 A4 s4 o4 n4 a4 => ?_⟩
              simp only [Own, Rep] at o4
              obtain ⟨rfl, rfl⟩ := o4
              have s34 := s3.trans s4 fun a z => by cases z
              have g4 := g2.trans (s34.go g2.ok fun a z => by cases z) (fun a z => by cases z)
              have noA : ∀ c ∈ A', ¬ Ond e2 fp2 c := b2
              have z1 : Own X.K noBr F4 H4 m' v A' := o2.mono s34.fr (fun _ _ _ z => z) _ _ _ fun c hc => by
                obtain ⟨z1, u, z2⟩ := o2.at _ _ _ c hc
                refine ⟨?_, s34.hp c⟩
                cases z : F4 c with
                | none => rfl
                | some u' =>
                  rcases s34.nw c (by rw [z]; simp) with w | w | w
                  · exact absurd z1 w
                  · rw [z2] at w
                    cases w
                  · cases w
              have o2' : OwnL X.K noBr F4 H4 [.fz (.int j), m'] [.int j, v] A' := by
                simp only [OwnL]
                exact ⟨.int j, [v], [], A', rfl, rfl, own_fz (by simp only [Rep]), v, [], A', [], rfl, by rw [List.append_nil], z1, rfl, rfl⟩
              have := mut_fin (r := fun x ws H Q => ∃ i v, ws = [i, v] ∧ rSetL x i v H fun H' => Q .non H') (Q := fun _ H' => D.nx σ H') m_set g4 o2' n2 a2 b2 ⟨w, hw, hv.mono s4.hp⟩ h5 h6 h7 fun v' F' H' fp' A g o n a b => q σ F' H' fp' g fun _ _ => rfl
              obtain ⟨_, _, ee, this⟩ := this
              cases ee
              exact this
            · cases e
          · cases e
        · cases e
      · cases e
    · cases e
  · cases e
theorem pget_list : PGet X (rIxL X.K) := by
  intro pins s σ H x y v u Q I rx ry h
  obtain ⟨p, xs, i, z, rfl, rfl, hq, he, q⟩ := h
  cases rx
  obtain ⟨t, rfl⟩ := ry
  obtain ⟨its, r, pl, hz⟩ := I.list hq
  obtain ⟨j, h1, h2, h3, h4, h5⟩ := atI_get he
  obtain ⟨w, ew, rw'⟩ := r.get h2
  have hl := r.length
  have hn := line63
  have fin : EP X pins σ Q w s := ⟨z, H, I, rw', q⟩
  by_cases h0 : 0 ≤ i
  · have hj : i.toNat = j := by
      rw [seqIndex_of h0 h5] at h1
      exact Option.some.inj h1
    exact wpAny_getItem_list pl.isList h0 (by omega) (by rw [hj]; simpa using ew) fin
  · have hj : (i + (its.toArray.size : Int)).toNat = j := by
      rw [seqIndex_neg (by omega) h4] at h1
      rw [List.size_toArray, ← hl]
      exact Option.some.inj h1
    exact wpAny_getItem_list_neg pl.isList (by omega) (by rw [List.size_toArray] <;> omega) (by omega) (by rw [hj]; simpa using ew) fin
theorem pds_augI {op : Operator} {f : Int → Int → Int} (hp : PIp X op (ipI f)) (ho : PD X o fo) (hi : PD X ix fi) (he : PD X e fe)
    (ha : ∀ ov iv new, augStore ix ov iv new = (do holding [new, ov, iv] (setItem ov iv new); release [new, ov, iv] []; pure .next) := by intros; rfl) : PDS X lk (.AugAssign (.Subscript o ix tpos) op e pos) (sAugI f fo fi fe) := by
  refine PS.imp (ps_augS ho hi pget_list he hp set_list ha) fun D σ H h => ?_
  obtain ⟨env, r, F, fp, e, ok, q⟩ := h
  unfold sAugI at e
  split at e
  · rename_i i p j b h1 h2 h3
    split at e
    · rename_i ms h5
      split at e
      · rename_i a h4
        split at e
        · rename_i ms' rr h6
          split at e
          · rename_i e3 h7
            cases e
            refine ⟨env, _, F, fp, h1, ok, fun x F1 H1 A1 s1 o1 n1 a1 => ?_⟩
            simp only [Own] at o1
            obtain ⟨rfl, w, hw, hv, _⟩ := o1
            have ok1 := ok.step s1 fun a z => by cases z
            refine ⟨env, _, F1, fp, h2, ok1, fun y F2 H2 A2 s2 o2 n2 a2 => ?_⟩
            simp only [Own, Rep] at o2
            obtain ⟨rfl, rfl⟩ := o2
            have ok2 := ok1.step s2 fun a z => by cases z
            obtain ⟨c, xs, rfl, hc⟩ := isOl_at ok2 hw (hv.mono s2.hp) (by rw [h5]; rfl)
            obtain ⟨C, vs, c1, c2, c3, c4, _⟩ := mut_ok ok2 h5 ⟨w, hw, hv.mono s2.hp, _, h5⟩
            obtain ⟨u, E, u1, u2, _⟩ := atI_own c4 h4
            simp only [Own, Rep] at u2
            refine ⟨c, vs, j, u, rfl, rfl, SqL.of c1, u1, ?_⟩
            refine ⟨env, _, F2, fp, h3, ok2, fun z F3 H3 A3 s3 o3 n3 a3 => ?_⟩
            simp only [Own, Rep] at o3
            refine ⟨a, b, u2.2, o3.2, ?_⟩
            have s123 := (s1.trans s2 fun a z => by cases z).trans s3 fun a z => by cases z
            have o4 : OwnL X.K noBr F3 H3 [.fz (.int j), .fz (.int (f a b))] [.int j, .int (f a b)] [] := by
              simp only [OwnL]
              exact ⟨.int j, _, [], [], rfl, rfl, own_fz (by simp only [Rep]), .int (f a b), [], [], [], rfl, rfl, own_fz (by simp only [Rep]), rfl, rfl⟩
            have := mut_fin (r := fun x ws H Q => ∃ i v, ws = [i, v] ∧ rSetL x i v H fun H' => Q .non H') (Q := fun _ H' => D.nx σ H') m_set (s123.go ok fun a z => by cases z) o4 .nil (fun a z => by cases z) (fun a z => by cases z) ⟨w, hw, (hv.mono s2.hp).mono s3.hp⟩ h5 h6 h7 fun v' F' H' fp' A g o n a b => q σ F' H' fp' g fun _ _ => rfl
            obtain ⟨_, _, ee, this⟩ := this
            cases ee
            exact this
          · cases e
        · cases e
      · cases e
    · cases e
  · cases e
end
end T2
end
section
set_option Elab.async false
set_option linter.all false
set_option maxRecDepth 100000
namespace T2
open PySem PySem.Spec PyProof.Rows L2
section
variable {K : PySem.W.Frag}
def gLen : List D → Option D
  | [.lst ds] => some (.int ds.length)
  | [.tup ds] => some (.int ds.length)
  | [.scr ns] => some (.int ns.length)
  | [.str x] => if decide (x.length ≤ sizeLine) then some (.int x.length) else none
  | _ => none
abbrev rLen (K : PySem.W.Frag) : List V → Hp → VK → Prop := fun xs H Q => (∃ p ys, xs = [.ref p] ∧ (SqL K H p ys ∨ SqT K H p ys) ∧ Q (.int ys.length) H) ∨ (∃ z, xs = [.str z] ∧ z.length ≤ sizeLine ∧ Q (.int z.length) H)
theorem call_len' {X : Cx} : CallR X (.builtin "len") (rLen X.K) := call_len_seq.or call_len_str
theorem s_len : OpS K (sop gLen) (rLen K) := scalS fun H ds vs d Q h e hs q => by
  unfold gLen at e
  split at e
  · cases e
    obtain ⟨v, rfl, q1⟩ := repL1 h
    simp only [Rep] at q1
    obtain ⟨a, ys, rfl, h1, h2⟩ := q1
    exact .inl ⟨a, ys, rfl, .inl (SqL.of h1), by rw [← h2.len]; exact q⟩
  · cases e
    obtain ⟨v, rfl, q1⟩ := repL1 h
    simp only [Rep] at q1
    obtain ⟨a, ys, rfl, h1, h2⟩ := q1
    exact .inl ⟨a, ys, rfl, .inr (SqT.of h1), by rw [← h2.len]; exact q⟩
  · cases e
    obtain ⟨v, rfl, q1⟩ := repL1 h
    simp only [Rep] at q1
    obtain ⟨a, rfl, h1⟩ := q1
    exact .inl ⟨a, _, rfl, .inl h1, by rw [List.length_map]; exact q⟩
  · split at e
    · rename_i hl
      cases e
      obtain ⟨v, rfl, q1⟩ := repL1 h
      simp only [Rep] at q1
      exact .inr ⟨_, by rw [q1], of_decide_eq_true hl, q⟩
    · cases e
  · cases e
def intsOf : List D → Option (List Int)
  | [] => some []
  | .int i :: ds => match intsOf ds with
    | some ns => some (i :: ns)
    | none => none
  | _ :: _ => none
theorem intsOf_ok {F : Hp} : ∀ {ds : List D} {vs : List V} {ns : List Int}, RepL K F ds vs → intsOf ds = some ns → vs = ns.map V.int
  | [], vs, ns, h, e => by
    cases e
    simp only [RepL] at h
    exact h
  | d :: ds, vs, ns, h, e => by
    cases d with
    | int i =>
      simp only [intsOf] at e
      split at e
      · rename_i ms hm
        cases e
        simp only [RepL, Rep] at h
        obtain ⟨v, r, rfl, rfl, h2⟩ := h
        rw [intsOf_ok h2 hm]
        rfl
      · cases e
    | non => cases e
    | bl _ => cases e
    | str _ => cases e
    | lst _ => cases e
    | tup _ => cases e
    | ins _ _ => cases e
    | dic _ _ => cases e
    | any => cases e
    | exc _ _ _ => cases e
    | scr _ => cases e
def gSum : List D → Option D
  | [.lst ds] => match intsOf ds with
    | some ns => some (.int ns.sum)
    | none => none
  | _ => none
theorem s_sum : OpS K (sop gSum) (rSum K) := scalS fun H ds vs d Q h e hs q => by
  unfold gSum at e
  split at e
  · split at e
    · rename_i ns hn
      cases e
      obtain ⟨v, rfl, q1⟩ := repL1 h
      simp only [Rep] at q1
      obtain ⟨a, ys, rfl, h1, h2⟩ := q1
      have := intsOf_ok h2 hn
      subst this
      exact ⟨a, ns, rfl, SqL.of h1, q⟩
    · cases e
  · cases e
/-- the greatest, the least of a list -/
def lMax : List Int → Option Int
  | [] => none
  | n :: ns => some (ns.foldl (fun a b => if b > a then b else a) n)
def lMin : List Int → Option Int
  | [] => none
  | n :: ns => some (ns.foldl (fun a b => if b < a then b else a) n)
theorem fold_min : ∀ (ns : List Int) (n : Int), let m := ns.foldl (fun a b => if b < a then b else a) n; m ≤ n ∧ (∀ y ∈ ns, m ≤ y) ∧ (m = n ∨ m ∈ ns)
  | [], n => ⟨Int.le_refl _, (fun y z => by cases z), .inl rfl⟩
  | a :: ns, n => by
    have ih := fold_min ns (if a < n then a else n)
    simp only [List.foldl_cons]
    refine ⟨?_, fun y hy => ?_, ?_⟩
    · have := ih.1
      split at this <;> omega
    · rcases List.mem_cons.mp hy with rfl | z
      · have := ih.1
        split at this <;> omega
      · exact ih.2.1 y z
    · rcases ih.2.2 with z | z
      · rw [z]
        split
        · exact .inr List.mem_cons_self
        · exact .inl rfl
      · exact .inr (List.mem_cons_of_mem _ z)
def gMax : List D → Option D
  | [.lst ds] => match intsOf ds with
    | some ns => (lMax ns).map .int
    | none => none
  | _ => none
def gMin : List D → Option D
  | [.lst ds] => match intsOf ds with
    | some ns => (lMin ns).map .int
    | none => none
  | _ => none
theorem s_min : OpS K (sop gMin) (rMin K) := scalS fun H ds vs d Q h e hs q => by
  unfold gMin at e
  split at e
  · split at e
    · rename_i ns hn
      obtain ⟨m, hm, rfl⟩ := Option.map_eq_some_iff.mp e
      obtain ⟨v, rfl, q1⟩ := repL1 h
      simp only [Rep] at q1
      obtain ⟨a, ys, rfl, h1, h2⟩ := q1
      have := intsOf_ok h2 hn
      subst this
      cases ns with
      | nil => cases hm
      | cons n ns =>
        have f := fold_min ns n
        simp only [lMin, Option.some.injEq] at hm
        rw [hm] at f
        refine ⟨a, n :: ns, rfl, SqL.of h1, by simp, fun k hk hy => ?_⟩
        have e1 : m ∈ n :: ns := f.2.2.elim (fun z => z ▸ List.mem_cons_self) fun z => List.mem_cons_of_mem _ z
        have e2 : m ≤ k := (List.mem_cons.mp hk).elim (fun z => z ▸ f.1) fun z => f.2.1 k z
        have e3 := hy m e1
        have : k = m := by omega
        subst this
        exact q
    · cases e
  · cases e
def gAbs : List D → Option D
  | [.int i] => some (.int (if i < 0 then -i else i))
  | _ => none
theorem s_abs : OpS K (sop gAbs) (fun xs H Q => ∃ i, xs = [.int i] ∧ Q (.int (if i < 0 then -i else i)) H) := scalS fun H ds vs d Q h e hs q => by
  unfold gAbs at e
  split at e
  · cases e
    obtain ⟨v, rfl, q1⟩ := repL1 h
    simp only [Rep] at q1
    exact ⟨_, by rw [q1], q⟩
  · cases e
def gInt : List D → Option D
  | [.int i] => some (.int i)
  | [.bl k] => some (.int (if k then 1 else 0))
  | _ => none
theorem s_int : OpS K (sop gInt) (fun xs H Q => (∃ i, xs = [.int i] ∧ Q (.int i) H) ∨ ∃ k, xs = [.bl k] ∧ Q (.int (if k then 1 else 0)) H) := scalS fun H ds vs d Q h e hs q => by
  unfold gInt at e
  split at e
  · cases e
    obtain ⟨v, rfl, q1⟩ := repL1 h
    simp only [Rep] at q1
    exact .inl ⟨_, by rw [q1], q⟩
  · cases e
    obtain ⟨v, rfl, q1⟩ := repL1 h
    simp only [Rep] at q1
    exact .inr ⟨_, by rw [q1], q⟩
  · cases e
def gMax2 := gII (fun _ _ => true) fun i j => if j > i then j else i
def gMin2 := gII (fun _ _ => true) fun i j => if j < i then j else i
theorem s_min2 : OpS K (sop gMin2) (fun xs H Q => ∃ i j, xs = [.int i, .int j] ∧ Q (.int (if j < i then j else i)) H) := scalS fun H ds vs d Q h e hs q => by
  unfold gMin2 gII at e
  split at e
  · cases e
    obtain ⟨v, w, rfl, q1, q2⟩ := repL2 h
    simp only [Rep] at q1 q2
    exact ⟨_, _, by rw [q1, q2], q⟩
  · cases e
abbrev rMinA (K : PySem.W.Frag) : List V → Hp → VK → Prop := fun xs H Q => (∃ i j, xs = [.int i, .int j] ∧ Q (.int (if j < i then j else i)) H) ∨ rMin K xs H Q
theorem call_minA {X : Cx} (hc : X.calm = true) : CallR X (.builtin "min") (rMinA X.K) := (call_min2 hc).or (cr_min hc)
def oMax := oOr (sop gMax2) (sop gMax)
def oMin := oOr (sop gMin2) (sop gMin)
theorem s_minA : OpS K oMin (rMinA K) := s_min2.or s_min
/-- list(x) -/
def oListOf : En → List M → Option M := fun env ms => match ms with
  | [.fz (.scr ns)] => some (.ol (ns.map fun n => .fz (.int n)))
  | [m] => match elems env m with
    | some (_, xs) => some (.ol xs)
    | none => none
  | _ => none
theorem map_fz_int (ns : List Int) : (ns.map fun n => M.fz (.int n)) = (ns.map D.int).map M.fz := by rw [List.map_map]; rfl
theorem s_listOf : OpS K oListOf (fun xs H Q => ∃ p ys, xs = [.ref p] ∧ (SqL K H p ys ∨ SqT K H p ys) ∧ ∀ l, H l = none → Q (.ref l) (upd H l (.lst ys))) := by
  intro σ env F H fp ms vs A m Q ok hO hn dj e q
  unfold oListOf at e
  split at e
  · rename_i ns
    cases e
    obtain ⟨v, rfl, o⟩ := ownL1 hO
    simp only [Own, Rep] at o
    obtain ⟨rfl, a, rfl, o⟩ := o
    rw [map_fz_int] at q
    exact ⟨a, _, rfl, .inl (ok.sub.seq o), fun l hl => newL ok (ownL_fz (repL_ints ns)) (List.Sublist.refl _) hn hl q⟩
  · rename_i x hx
    split at e
    · rename_i b xs he
      cases e
      obtain ⟨v, rfl, o⟩ := ownL1 hO
      obtain ⟨a, us, D, rfl, l1, l2, h3, s1⟩ := elems_ok ok o he
      refine ⟨a, us, rfl, ?_, fun l hl => newL ok h3 s1 hn hl q⟩
      cases b with
      | true => exact .inl (SqL.of (l1 rfl))
      | false => exact .inr (SqT.of (l2 rfl))
    · cases e
  · cases e
end
def fRg1 (f : En → Option M) : En → Option (Int × Int) := fun env => match f env with
  | some (.fz (.int j)) => some (0, j)
  | _ => none
def oListRg (f : En → Option (Int × Int)) : En → Option M := fun env => match f env with
  | some (a, b) => if decide (-(2 ^ 62) ≤ a ∧ a < 2 ^ 62 ∧ -(2 ^ 62) ≤ b ∧ b < 2 ^ 62 ∧ (b - a).toNat ≤ 2 ^ 24) then some (.ol ((rngD a (b - a).toNat).map .fz)) else none
  | none => none
theorem rep_rng {K : PySem.W.Frag} {F : Hp} {a b : Int} : RepL K F (rngD a (b - a).toNat) (rgV a b) := by
  unfold rngD rgV
  induction List.range (b - a).toNat with
  | nil => simp only [List.map_nil, RepL]
  | cons i is ih =>
    simp only [List.map_cons, RepL]
    exact ⟨_, _, rfl, by simp only [Rep], ih⟩
section
variable {X : Cx} {a b : Expr} {f g : En → Option M} {p pos rp rpos : Pos}
def tRgD (K : PySem.W.Frag) (f : En → Option (Int × Int)) : L2.St → Hp → (Int → Int → Hp → Prop) → Prop := fun σ H R => ∃ env i j F fp, f env = some (i, j) ∧ EnvOk K F H σ env fp ∧ ∀ F' H', Step [] F H F' H' → R i j H'
theorem PRg.imp {e : Expr} {t u : L2.St → Hp → (Int → Int → Hp → Prop) → Prop} (h : PRg X e t) (i : ∀ σ H R, u σ H R → t σ H R) : PRg X e u := fun pins s σ H Q I q => h pins s σ H Q I (i _ _ _ q)
theorem pd_listRange {rg : En → Option (Int × Int)} {e : Expr} (hc : X.calm = true) (hg : Gl X "list") (hm : X.mg "list" = none) (he : PRg X e (tRgD X.K rg)) (na : starEach [e] X.env = (false, eval e X.env) :: starEach [] X.env := by rfl) : PD X (.Call (.Name "list" p) [e] [] pos) (oListRg rg) :=
  PE.imp (pe_listRg hc hg hm he na) fun σ H Q h => by
    obtain ⟨env, m, F, fp, e, ok, q⟩ := h
    unfold oListRg at e
    split at e
    · rename_i i j h1
      split at e
      · rename_i hr
        cases e
        have hr := of_decide_eq_true hr
        refine ⟨env, i, j, F, fp, h1, ok, fun F1 H1 s => ⟨hr, fun l hl => ?_⟩⟩
        exact newL (A := []) (ok.step s fun a z => by cases z) (ownL_fz rep_rng) (List.Sublist.refl _) .nil hl fun v F' H' B s2 o n a => q v F' H' B (s.trans s2 fun a z => by cases z) o n fun c hc => by
          rcases a c hc with z | z
          · exact s.stay c z
          · cases z
      · cases e
    · cases e
theorem prg_d1 (hg : Gl X "range") (hm : X.mg "range" = none) (ha : PD X a f) (na : starEach [a] X.env = (false, eval a X.env) :: starEach [] X.env := by rfl) : PRg X (.Call (.Name "range" p) [a] [] pos) (tRgD X.K (fRg1 f)) :=
  PRg.imp (prg_1 hg hm ha na) fun σ H R h => by
    obtain ⟨env, i, j, F, fp, e, ok, q⟩ := h
    unfold fRg1 at e
    split at e
    · rename_i j' hj
      cases e
      refine ⟨env, .fz (.int j), F, fp, hj, ok, fun v F' H' A s o n a => ?_⟩
      simp only [Own, Rep] at o
      exact ⟨j, o.2, q F' H' s⟩
    · cases e
end
def tyN : D → Option String
  | .non => some "NoneType"
  | .bl _ => some "bool"
  | .int _ => some "int"
  | .str _ => some "str"
  | .lst _ => some "list"
  | .tup _ => some "tuple"
  | _ => none
theorem tyN_ok {K : PySem.W.Frag} {H : Hp} {v : V} {n : String} : ∀ {d : D}, Rep K H d v → tyN d = some n → TyX K H v (.type n)
  | .non, h, e => by cases e; simp only [Rep] at h; subst h; exact .base .non
  | .bl b, h, e => by cases e; simp only [Rep] at h; subst h; exact .base (.bl b)
  | .int b, h, e => by cases e; simp only [Rep] at h; subst h; exact .base (.int b)
  | .str b, h, e => by cases e; simp only [Rep] at h; subst h; exact .base (.str b)
  | .lst b, h, e => by cases e; simp only [Rep] at h; obtain ⟨a, vs, rfl, h, _⟩ := h; exact .base (.lst h)
  | .tup b, h, e => by cases e; simp only [Rep] at h; obtain ⟨a, vs, rfl, h, _⟩ := h; exact .base (.tup h)
  | .ins _ _, h, e => by cases e
  | .dic _ _, h, e => by cases e
  | .any, h, e => by cases e
  | .exc _ _ _, h, e => by cases e
  | .scr _, h, e => by cases e
/-- isinstance(x, T) -/
def oIsi (kit : String → Option Bool) (f : En → Option M) : En → Option M := fun env => match f env with
  | some m => match dat env m with
    | some d => match tyN d with
      | some n => match kit n with
        | some b => some (.fz (.bl b))
        | none => none
      | none => none
    | none => none
  | none => none
section
variable {X : Cx} {a b : Expr} {f g : En → Option M} {p pos rp : Pos} {x T : Str} {TN : String}
theorem pd_isi {kit : String → Option Bool} (hk : ∀ n b, kit n = some b → PySem.W.kitOne X.K (.type n) (.type TN) = some b) (hg : Gl X "isinstance") (hm : X.mg "isinstance" = none) (hgT : Gl X T) (hmT : X.mg T = none) (hvT : bootBuiltins T = some (.type TN)) (ha : PD X a f) (hv : bootBuiltins "isinstance" = some (.builtin "isinstance"))
    (hnT : T ≠ "__name__" := by decide) (hdbT : (T == ("__debug__" : Str)) = false := by decide)
    (s1 : starEach [a, .Name T rp] X.env = (false, eval a X.env) :: starEach [.Name T rp] X.env := by rfl) (s2 : starEach [.Name T rp] X.env = (false, eval (.Name T rp) X.env) :: starEach [] X.env := by rfl) (hpl : (backTo pos (starEach [.Name T rp] X.env)).any (·.1) = false := by rfl) :
    PD X (.Call (.Name "isinstance" p) [a, .Name T rp] [] pos) (oIsi kit f) :=
  PE.imp (pe_callB (call_isi (X := X)) hg hm hv (pa_cons ha (pa_cons (pe_bltn (v := .ty TN) hgT hmT hvT rfl hnT hdbT) pa_nil s2) s1) (by decide) (by decide) s1 hpl) fun σ H Q h => by
    obtain ⟨env, m, F, fp, e, ok, q⟩ := h
    unfold oIsi at e
    split at e
    · rename_i m' h1
      split at e
      · rename_i d h2
        split at e
        · rename_i n h3
          split at e
          · rename_i b h4
            cases e
            refine ⟨env, m', F, fp, h1, ok, fun v F' H' A s o nd aa => ?_⟩
            have r := (ok.step s fun a z => by cases z).data o h2
            exact ⟨v, .ty TN, .type n, .type TN, b, rfl, .ty TN, tyN_ok r h3, hk n b h4, q _ F' H' [] s (own_fz (by simp only [Rep])) .nil fun a z => by cases z⟩
          · cases e
        · cases e
      · cases e
    · cases e
end
def kitT (T : String) : String → Option Bool := fun n => if n = T then some true else if T = "int" ∧ n = "bool" then some true else if n ∈ ["NoneType", "bool", "int", "str", "list", "tuple"] ∧ T ∈ ["bool", "int", "str", "list", "tuple"] then some false else none
theorem kitT_ok {K : PySem.W.Frag} {T : String} (hT : T ∈ ["bool", "int", "str", "list", "tuple"]) : ∀ n b, kitT T n = some b → PySem.W.kitOne K (.type n) (.type T) = some b := by
  intro n b e
  have key : ∀ n ∈ ["NoneType", "bool", "int", "str", "list", "tuple"], ∀ T ∈ ["bool", "int", "str", "list", "tuple"], kitB n T = kitT T n := by decide +kernel
  by_cases hn : n ∈ ["NoneType", "bool", "int", "str", "list", "tuple"]
  · exact kit_ty ((key n hn T hT).trans e)
  · exfalso
    unfold kitT at e
    split at e
    · rename_i h
      subst h
      exact hn (List.mem_cons_of_mem _ hT)
    · split at e
      · rename_i h
        rw [h.2] at hn
        exact hn (by decide)
      · split at e
        · rename_i h
          exact hn h.1
        · cases e
def enD : Nat → List D → List D
  | _, [] => []
  | k, d :: ds => .tup [.int (k : Nat), d] :: enD (k + 1) ds
def zipD : List D → List D → List D
  | a :: as, b :: bs => .tup [a, b] :: zipD as bs
  | _, _ => []
theorem enD_get : ∀ {ds : List D} {k i : Nat} {d : D}, (enD k ds)[i]? = some d → ∃ e, ds[i]? = some e ∧ d = .tup [.int ((k + i : Nat) : Int), e]
  | [], k, i, d, h => by cases h
  | e :: ds, k, 0, d, h => by
    cases h
    exact ⟨e, rfl, rfl⟩
  | e :: ds, k, i + 1, d, h => by
    obtain ⟨e', h1, h2⟩ := enD_get (ds := ds) (k := k + 1) (i := i) (by simpa [enD] using h)
    exact ⟨e', by simpa using h1, by rw [h2, Nat.add_assoc, Nat.add_comm 1 i]⟩
theorem enD_len : ∀ (ds : List D) (k : Nat), (enD k ds).length = ds.length
  | [], k => rfl
  | e :: ds, k => by simp only [enD, List.length_cons, enD_len ds]
theorem zipD_get : ∀ {as bs : List D} {i : Nat} {d : D}, (zipD as bs)[i]? = some d → ∃ a b, as[i]? = some a ∧ bs[i]? = some b ∧ d = .tup [a, b]
  | [], bs, i, d, h => by cases h
  | a :: as, [], i, d, h => by cases h
  | a :: as, b :: bs, 0, d, h => by
    cases h
    exact ⟨a, b, rfl, rfl, rfl⟩
  | a :: as, b :: bs, i + 1, d, h => by
    obtain ⟨a', b', h1, h2, h3⟩ := zipD_get (as := as) (bs := bs) (i := i) (by simpa [zipD] using h)
    exact ⟨a', b', by simpa using h1, by simpa using h2, h3⟩
theorem zipD_len : ∀ (as bs : List D), (zipD as bs).length = min as.length bs.length
  | [], bs => by simp [zipD]
  | a :: as, [] => by simp [zipD]
  | a :: as, b :: bs => by
    simp only [zipD, List.length_cons, zipD_len as bs]
    omega
section
variable {K : PySem.W.Frag} {F H G : Hp}
/-- a new frozen tuple -/
theorem step_tup {F1 H1 : Hp} {T : Addr} {ds : List D} {vs : List V} (s2 : Same F1 H1) (hT : H1 T = none) (r : RepL K F1 ds vs) : Step [] F1 H1 (upd F1 T (.tup vs)) (upd H1 T (.tup vs)) ∧ Rep K (upd F1 T (.tup vs)) (.tup ds) (.ref T) := by
  have fT : F1 T = none := s2.free hT
  have sF : Same F1 (upd F1 T (.tup vs)) := fun b o e => by rw [upd_ne (ne_of_none e fT)]; exact e
  refine ⟨.mk' sF (fun b o e => by rw [upd_ne (ne_of_none e hT)]; exact e) (fun b o e => ?_) fun a z => ?_, ?_⟩
  · by_cases hb : b = T
    · subst hb
      rw [upd_same] at e ⊢
      exact e
    · rw [upd_ne hb] at e ⊢
      exact s2 _ _ e
  · by_cases hb : a = T
    · subst hb
      exact .inr (.inl hT)
    · rw [upd_ne hb] at z
      exact .inl z
  · simp only [Rep]
    exact ⟨T, vs, rfl, upd_same, RepL.mono sF _ _ r⟩
theorem it_enum {a : Addr} {vs : List V} {ds : List D} (h : SqL K G a vs) (r : RepL K F ds vs) : ItOk K (Ite K a) F G (enD 0 ds) := by
  refine ⟨fun i F1 H1 d s1 sg s2 hd => ?_, fun i F1 H1 s1 sg s2 hl => ⟨vs, sg.seq h, by rw [enD_len] at hl; rw [← r.len]; exact hl⟩⟩
  obtain ⟨e, he, rfl⟩ := enD_get hd
  have q : SqL K H1 a vs := sg.seq h
  obtain ⟨v, hv, rv⟩ := r.get he
  refine ⟨⟨vs, v, q, hv⟩, fun x H2 ⟨T, y, e1, hT, e2, e3⟩ => ?_⟩
  subst e1 e2
  have e4 := e3 vs q
  rw [hv] at e4
  cases e4
  obtain ⟨z1, z2⟩ := step_tup (ds := [.int ((0 + i : Nat) : Int), e]) (vs := [.int (i : Nat), v]) s2 hT (by
    simp only [RepL, Rep]
    exact ⟨_, _, rfl, by rw [Nat.zero_add], v, [], rfl, Rep.mono s1 _ _ rv, rfl⟩)
  exact ⟨_, z1, z2⟩
theorem it_zip {a b : Addr} {vs ws : List V} {ds es : List D} (h : SqL K G a vs) (h' : SqL K G b ws) (r : RepL K F ds vs) (r' : RepL K F es ws) : ItOk K (Itz K a b) F G (zipD ds es) := by
  refine ⟨fun i F1 H1 d s1 sg s2 hd => ?_, fun i F1 H1 s1 sg s2 hl => ⟨vs, ws, sg.seq h, sg.seq h', by rw [zipD_len] at hl; rw [← r.len, ← r'.len]; omega⟩⟩
  obtain ⟨x, y, hx, hy, rfl⟩ := zipD_get hd
  obtain ⟨v, hv, rv⟩ := r.get hx
  obtain ⟨w, hw, rw'⟩ := r'.get hy
  refine ⟨⟨vs, ws, v, w, sg.seq h, sg.seq h', hv, hw⟩, fun z H2 ⟨T, x', y', e1, hT, e2, e3, e4⟩ => ?_⟩
  subst e1 e2
  have e5 := e3 vs (sg.seq h)
  have e6 := e4 ws (sg.seq h')
  rw [hv] at e5
  rw [hw] at e6
  cases e5
  cases e6
  obtain ⟨z1, z2⟩ := step_tup (ds := [x, y]) (vs := [v, w]) s2 hT (by
    simp only [RepL]
    exact ⟨_, _, rfl, Rep.mono s1 _ _ rv, w, [], rfl, Rep.mono s1 _ _ rw', rfl⟩)
  exact ⟨_, z1, z2⟩
end
def lstD (d : D) : Option (List D) := if isLst d then itemsD d else none
/-- all results freeze -/
def frzX (gs : En → Option (List M × En)) : En → Option (List D × En) := fun env => match gs env with
  | some (ms, e1) => match dats e1 ms, frS (slotsL ms) e1 with
    | some ds, some e2 => some (ds, e2)
    | _, _ => none
  | none => none
def itEnX (gs : En → Option (List M × En)) : En → Option (List D × En) := fun env => match frzX gs env with
  | some ([d], e2) => match lstD d with
    | some ds => some (enD 0 ds, e2)
    | none => none
  | _ => none
def itemsL (env : En) : List M → Option (List D)
  | [] => some []
  | m :: ms => match items env m, itemsL env ms with
    | some d, some ds => some (d :: ds)
    | _, _ => none
def itEnP (fs : En → Option (List M)) : En → Option (List D) := fun env => match fs env with
  | some ms => match itemsL env ms with
    | some [d] => match lstD d with
      | some ds => some (enD 0 ds)
      | none => none
    | _ => none
  | none => none
def itZipP (fs : En → Option (List M)) : En → Option (List D) := fun env => match fs env with
  | some ms => match itemsL env ms with
    | some [d, d'] => match lstD d, lstD d' with
      | some ds, some es => some (zipD ds es)
      | _, _ => none
    | _ => none
  | none => none
section
variable {K : PySem.W.Frag} {F H F' H' : Hp} {σ : L2.St} {env : En} {fp : Nat → List Addr} {A : List Addr}
theorem lstD_ok {d : D} {v : V} {ds : List D} (s : Same F H) (r : Rep K F d v) (e : lstD d = some ds) : ∃ p vs, v = .ref p ∧ SqL K F p vs ∧ RepL K F ds vs := by
  unfold lstD at e
  split at e
  · rename_i hb
    cases d with
    | lst xs =>
      cases e
      simp only [Rep] at r
      obtain ⟨a, vs, rfl, h1, h2⟩ := r
      exact ⟨a, vs, rfl, SqL.of h1, h2⟩
    | scr ns =>
      cases e
      simp only [Rep] at r
      obtain ⟨a, rfl, h1⟩ := r
      exact ⟨a, _, rfl, h1, repL_ints ns⟩
    | non => cases hb
    | bl _ => cases hb
    | int _ => cases hb
    | str _ => cases hb
    | tup _ => cases hb
    | ins _ _ => cases hb
    | dic _ _ => cases hb
    | any => cases hb
    | exc _ _ _ => cases hb
  · cases e
theorem frzX_ok {gs : En → Option (List M × En)} {R : List V → Hp → Prop} {f : List D → Option (List D)} (h : ∃ env ds ds' env' F fp, frzX gs env = some (ds, env') ∧ f ds = some ds' ∧ EnvOk K F H σ env fp ∧ ∀ vs F' H' fp', Go K [] σ env fp F H σ env' fp' F' H' → RepL K F' ds vs → R vs H') : tXA K gs σ H R := by
  obtain ⟨env, ds, ds', env', F, fp, e, _, ok, q⟩ := h
  unfold frzX at e
  split at e
  · rename_i ms e1 h1
    split at e
    · rename_i ds' e2 h2 h3
      cases e
      refine ⟨env, ms, e1, F, fp, h1, ok, fun vs F1 H1 fp1 A g o n a b => ?_⟩
      obtain ⟨F2, fp2, g2, r, _⟩ := frL_ok g.ok o b h2 h3
      exact q vs F2 H1 fp2 (g.trans g2 a) r
    · cases e
  · cases e
theorem itemsL_ok : ∀ {ms : List M} {vs : List V} {A : List Addr} {ds : List D} {F : Hp}, EnvOk K F H σ env fp → OwnL K (plc H σ env) F H ms vs A → A.Nodup → (∀ a ∈ A, ¬ Ond env fp a) → itemsL env ms = some ds → (∀ d ∈ ds, (lstD d).isSome = true) →
    ∃ F', Step A F H F' H ∧ ∀ (i : Nat) (d : D) (v : V) (es : List D), ds[i]? = some d → vs[i]? = some v → lstD d = some es → ∃ p us, v = .ref p ∧ SqL K H p us ∧ RepL K F' es us
  | [], vs, A, ds, F, ok, h, hn, hA, e, hd => by
    cases e
    exact ⟨F, .mk' (.refl _) (.refl _) ok.sub fun a z => .inl z, fun i d v es h1 => by cases h1⟩
  | m :: ms, vs, A, ds, F, ok, h, hn, hA, e, hd => by
    simp only [itemsL] at e
    split at e
    · rename_i d ds' e1 e2
      cases e
      simp only [OwnL] at h
      obtain ⟨v, r, B, C, rfl, rfl, q, q2⟩ := h
      have hn' := List.nodup_append.mp hn
      obtain ⟨es, hes⟩ := Option.isSome_iff_exists.mp (hd d List.mem_cons_self)
      have hes' := hes
      unfold lstD at hes'
      split at hes'
      · rename_i hb
        obtain ⟨F1, s1, p, us, rfl, r1, r2, _⟩ := items_ok ok q (fun a ha => hA a (List.mem_append_left _ ha)) e1 hes'
        have ok1 := ok.step s1 fun a ha i n hi hin => hA a (List.mem_append_left _ ha) ⟨i, n, hi, hin⟩
        have o2 : OwnL K (plc H σ env) F1 H ms r C := q2.mono s1.fr (fun _ _ _ z => z) _ _ _ fun a ha => ⟨by
          obtain ⟨z1, o, z2⟩ := q2.at _ _ _ a ha
          cases z : F1 a with
          | none => rfl
          | some u =>
            rcases s1.nw a (by rw [z]; simp) with w | w | w
            · exact absurd z1 w
            · rw [z2] at w
              cases w
            · exact absurd rfl (hn'.2.2 a w a ha), fun _ z => z⟩
        obtain ⟨F2, s2, k2⟩ := itemsL_ok ok1 o2 hn'.2.1 (fun a ha => hA a (List.mem_append_right _ ha)) e2 fun d hd' => hd d (List.mem_cons_of_mem _ hd')
        refine ⟨F2, ⟨s1.fr.trans s2.fr, fun b o e _ => e, fun _ e => e, s2.sub, fun a z => ?_, fun _ _ _ e => e⟩, fun i d' v' es' h1 h2 h3 => ?_⟩
        · rcases s2.nw a z with z | z | z
          · rcases s1.nw a z with z | z | z
            · exact .inl z
            · exact .inr (.inl z)
            · exact .inr (.inr (List.mem_append_left _ z))
          · exact .inr (.inl z)
          · exact .inr (.inr (List.mem_append_right _ z))
        · cases i with
          | zero =>
            cases h1
            cases h2
            rw [hes] at h3
            cases h3
            exact ⟨p, us, rfl, r2 hb, RepL.mono s2.fr _ _ r1⟩
          | succ i => exact k2 i d' v' es' (by simpa using h1) (by simpa using h2) h3
      · cases hes'
    · cases e
end
section
variable {X : Cx} {e e2 : Expr} {gs : En → Option (List M × En)} {fs : En → Option (List M)} {p pos tpos : Pos} {elts : List Expr} {kk : Nat}
theorem pdi_enum (hg : Gl X "enumerate") (hm : X.mg "enumerate" = none) (ha : PXA X [e] gs) (hs : starEach [e] X.env = [(false, eval e X.env)] := by rfl) : PDI X (.Tuple elts kk tpos) (.Call (.Name "enumerate" p) [e] [] pos) (itEnX gs) :=
  PI.imp (pi_enum hg hm ha hs) fun σ H R h => by
    obtain ⟨env, ds, env', F, fp, e, ok, q⟩ := h
    unfold itEnX at e
    split at e
    · rename_i d e2 h1
      split at e
      · rename_i ds' h2
        cases e
        refine frzX_ok (f := fun _ => some []) ⟨env, [d], [], env', F, fp, h1, rfl, ok, fun vs F' H' fp' g r => ?_⟩
        obtain ⟨v, rfl, r1⟩ := repL1 r
        obtain ⟨p, us, rfl, r2, r3⟩ := lstD_ok g.ok.sub r1 h2
        exact ⟨p, us, rfl, g.ok.sub.seq r2, q _ F' H' fp' g (it_enum r2 r3)⟩
      · cases e
    · cases e
theorem pdp_zip (hg : Gl X "zip") (hm : X.mg "zip" = none) (ha : PDA X [e, e2] fs) (hs : starEach [e, e2] X.env = (false, eval e X.env) :: starEach [e2] X.env := by rfl) (hpl : (backTo pos (starEach [e2] X.env)).any (·.1) = false := by rfl) : PDP X (.Tuple elts kk tpos) (.Call (.Name "zip" p) [e, e2] [] pos) (itZipP fs) :=
  PI.imp (pi_zip hg hm ha hs hpl) fun σ H R h => by
    obtain ⟨env, ds, F, fp, e, ok, q⟩ := h
    unfold itZipP at e
    split at e
    · rename_i ms h1
      split at e
      · rename_i d d' h2
        split at e
        · rename_i ds' es' h3 h4
          cases e
          refine ⟨env, ms, F, fp, h1, ok, fun vs F1 H1 A s o n a => ?_⟩
          have no : ∀ c ∈ A, ¬ Ond env fp c := fun c hc z => by
            obtain ⟨_, o', z'⟩ := ok.at z
            rw [a c hc] at z'
            cases z'
          obtain ⟨F2, s2, k⟩ := itemsL_ok (ok.step s fun a z => by cases z) o n no h2 (by simp [h3, h4])
          have hl : vs.length = 2 := by
            rw [← o.len]
            have : ∀ (ms : List M) (ds : List D), itemsL env ms = some ds → ms.length = ds.length := fun ms => by
              induction ms with
              | nil => intro ds e; cases e; rfl
              | cons m ms ih =>
                intro ds e
                simp only [itemsL] at e
                split at e
                · rename_i d' ds'' e1 e2
                  cases e
                  simp only [List.length_cons, ih _ e2]
                · cases e
            exact this ms [d, d'] h2
          obtain ⟨v, w, rfl⟩ : ∃ v w, vs = [v, w] := by
            match vs, hl with
            | [v, w], _ => exact ⟨v, w, rfl⟩
          obtain ⟨p, us, rfl, r2, r3⟩ := k 0 d v ds' rfl rfl h3
          obtain ⟨p', us', rfl, r2', r3'⟩ := k 1 d' w es' rfl rfl h4
          exact ⟨p, p', us, us', rfl, r2, r2', q _ F2 H1 (s.trans s2 a) (it_zip r2 r2' r3 r3')⟩
        · cases e
      · cases e
    · cases e
end
end T2
end
section
set_option Elab.async false
set_option linter.all false
set_option maxRecDepth 100000
namespace T2
open PySem PySem.Spec PyProof.Rows L2
def oRep : En → List M → Option M := fun env ms => match ms with
  | [m, .fz (.int k)] => match elems env m with
    | some (true, xs) => match allFz xs with
      | some ds => if decide (-(2 ^ 63) ≤ k ∧ k < 2 ^ 63 ∧ ds.length * k.toNat ≤ sizeLine) then some (.ol ((List.replicate k.toNat ds).flatten.map .fz)) else none
      | none => none
    | _ => none
  | _ => none
theorem repL_append {K : PySem.W.Frag} {F : Hp} : ∀ {as bs : List D} {vs ws : List V}, RepL K F as vs → RepL K F bs ws → RepL K F (as ++ bs) (vs ++ ws)
  | [], bs, vs, ws, h, h' => by
    simp only [RepL] at h
    subst h
    exact h'
  | a :: as, bs, vs, ws, h, h' => by
    simp only [RepL] at h
    obtain ⟨v, r, rfl, q, q2⟩ := h
    simp only [List.cons_append, RepL]
    exact ⟨v, r ++ ws, rfl, q, repL_append q2 h'⟩
theorem repL_rep {K : PySem.W.Frag} {F : Hp} {ds : List D} {vs : List V} (h : RepL K F ds vs) : ∀ k : Nat, RepL K F (List.replicate k ds).flatten (List.replicate k vs).flatten
  | 0 => by simp only [List.replicate_zero, List.flatten_nil, RepL]
  | k + 1 => by
    simp only [List.replicate_succ, List.flatten_cons]
    exact repL_append h (repL_rep h k)
section
variable {K : PySem.W.Frag}
theorem s_rep : OpS K oRep (r2L rRep) := by
  intro σ env F H fp ms vs A m Q ok hO hn dj e q
  unfold oRep at e
  split at e
  · rename_i x k
    split at e
    · rename_i xs hx
      split at e
      · rename_i ds hd
        split at e
        · rename_i hk
          cases e
          have hk := of_decide_eq_true hk
          obtain ⟨v, w, B, C, rfl, rfl, h1, h2⟩ := ownL2 hO
          simp only [Own, Rep] at h2
          obtain ⟨rfl, rfl⟩ := h2
          obtain ⟨a, us, D, rfl, l1, _, h3, _⟩ := elems_ok ok h1 hx
          obtain ⟨r, _⟩ := allFz_ok h3 hd
          exact ⟨_, _, rfl, a, k, us, rfl, rfl, l1 rfl, hk.1, hk.2.1, by rw [← r.len]; exact hk.2.2, fun p hp => newL ok (ownL_fz (repL_rep r _)) (List.nil_sublist _) hn hp q⟩
        · cases e
      · cases e
    · cases e
  · cases e
def oAdd := oOr (sop iAdd) (oOr (sop gStr) oCat)
def oMul := oOr (sop iMul) oRep
abbrev rAdd : R2 := fun x y H Q => rI0 (fun i j => .int (i + j)) x y H Q ∨ (fun x y H Q => ∃ i j, x = V.str i ∧ y = V.str j ∧ i.length + j.length ≤ sizeLine ∧ Q (.str (i ++ j)) H) x y H Q ∨ rCat x y H Q
abbrev rMulA : R2 := fun x y H Q => rI CMulX (fun i j => .int (i * j)) x y H Q ∨ rRep x y H Q
theorem op_addA {X : Cx} : OpR X (binaryOp .Add) rAdd := op_add.or (op_add_str.or op_cat)
theorem op_mulA {X : Cx} : OpR X (binaryOp .Mult) rMulA := op_mulX.or op_rep
theorem s_addA : OpS K oAdd (r2L rAdd) := s_add.or2 (s_addS.or2 s_cat)
theorem s_mulA : OpS K oMul (r2L rMulA) := s_mul.or2 s_rep
def gInL (neg : Bool) : List D → Option D
  | [a, .lst ds] => match pyD a, pyDL ds with
    | some x, some xs => if SeqAt.shaped x && SeqAt.shaped (.list xs) then some (.bl (if neg then !xs.any (fun z => PyData.eqv z x) else xs.any fun z => PyData.eqv z x)) else none
    | _, _ => none
  | _ => none
def gInT (neg : Bool) : List D → Option D
  | [a, .tup ds] => if scal a && ds.all scal && flatV (toV a) && (ds.map toV).all flatV then some (.bl (if neg then !inV (toV a) (ds.map toV) else inV (toV a) (ds.map toV))) else none
  | _ => none
def gInS (neg : Bool) : List D → Option D
  | [.str i, .str j] => some (.bl (if neg then !(!(Builtin.Str.occurrences j i 0 j.length 1).isEmpty) else !(Builtin.Str.occurrences j i 0 j.length 1).isEmpty))
  | _ => none
theorem repL_sc {F : Hp} : ∀ {ds : List D} {vs : List V}, RepL K F ds vs → ds.all scal = true → vs = ds.map toV
  | [], vs, h, e => by
    simp only [RepL] at h
    exact h
  | d :: ds, vs, h, e => by
    simp only [RepL] at h
    obtain ⟨v, r, rfl, q, q2⟩ := h
    simp only [List.all_cons, Bool.and_eq_true] at e
    rw [(rep_sc e.1).mp q, repL_sc q2 e.2]
    rfl
theorem s_inL : OpS K (sop (gInL false)) (r2L (rInD K)) := scalS fun H ds vs d Q h e hs q => by
  unfold gInL at e
  split at e
  · rename_i a xs
    split at e
    · rename_i x ys e1 e2
      split at e
      · rename_i hh
        cases e
        obtain ⟨v, w, rfl, q1, q2⟩ := repL2 h
        have hh := Bool.and_eq_true_iff.mp hh
        exact ⟨v, w, rfl, x, ys, pyD_ok a v x q1 e1, pyD_ok (.lst xs) w _ q2 (by simp only [pyD, e2, Option.map_some]), hh.1, hh.2, q⟩
      · cases e
    · cases e
  · cases e
theorem s_inT {neg : Bool} : OpS K (sop (gInT neg)) (r2L (rIn K neg)) := scalS fun H ds vs d Q h e hs q => by
  unfold gInT at e
  split at e
  · rename_i a xs
    split at e
    · rename_i hh
      cases e
      simp only [Bool.and_eq_true] at hh
      obtain ⟨⟨⟨h1, h2⟩, h3⟩, h4⟩ := hh
      obtain ⟨v, w, rfl, q1, q2⟩ := repL2 h
      simp only [Rep] at q2
      obtain ⟨p, us, rfl, z1, z2⟩ := q2
      have := repL_sc z2 h2
      subst this
      have := (rep_sc h1).mp q1
      subst this
      exact ⟨_, _, rfl, p, _, rfl, .inr (SqT.of z1), h3, h4, q⟩
    · cases e
  · cases e
theorem s_inS : OpS K (sop (gInS false)) (r2L fun x y H Q => ∃ i j, x = .str i ∧ y = .str j ∧ Q (.bl (!(Builtin.Str.occurrences j i 0 j.length 1).isEmpty)) H) := scalS fun H ds vs d Q h e hs q => by
  unfold gInS at e
  split at e
  · cases e
    obtain ⟨v, w, rfl, q1, q2⟩ := repL2 h
    simp only [Rep] at q1 q2
    exact ⟨v, w, rfl, _, _, q1, q2, q⟩
  · cases e
def oIn := oOr (sop (gInL false)) (oOr (sop (gInT false)) (sop (gInS false)))
def oNin := oOr (sop (gInL true)) (oOr (sop (gInT true)) (sop (gInS true)))
abbrev rInA (K : PySem.W.Frag) : R2 := fun x y H Q => rInD K x y H Q ∨ rIn K false x y H Q ∨ (fun x y H Q => ∃ i j, x = V.str i ∧ y = V.str j ∧ Q (.bl (!(Builtin.Str.occurrences j i 0 j.length 1).isEmpty)) H) x y H Q
theorem op_inA {X : Cx} (hu : X.A.units + 65 < cLine) : OpR X (compareOp .In) (rInA X.K) := (op_inD hu).or (op_in_seq.or op_in_str)
theorem s_inA : OpS K oIn (r2L (rInA K)) := s_inL.or2 (s_inT.or2 s_inS)
theorem hu65 {k : Nat} {A : Around} (r : RoomG k A) : A.units + 65 < cLine := by have := r.rm.un; omega
end
def sPart (o : Option (En → Option M)) : En → Option (Option Int) := fun env => match o with
  | none => some none
  | some f => match f env with
    | some (.fz (.int i)) => some (some i)
    | _ => none
def cutM {α : Type} (xs : List α) (lo hi : Option Int) : List α := (xs.drop (HT.sIx xs.length 0 lo)).take (HT.sIx xs.length xs.length hi - HT.sIx xs.length 0 lo)
def slM (env : En) (l h : Option Int) (m : M) : Option M := match m with
    | .fz (.str z) => if decide (z.length ≤ sizeLine) then some (.fz (.str (cutS z l h))) else none
    | .fz (.scr ns) => some (.ol ((cutM ns l h).map fun n => .fz (.int n)))
    | m => match elems env m with
      | some (true, xs) => some (.ol (cutM xs l h))
      | some (false, xs) => if HT.sIx xs.length 0 l = 0 ∧ HT.sIx xs.length xs.length h = xs.length then none else some (mkT (cutM xs l h))
      | none => none
def oSl (f : En → Option M) (lo hi : Option (En → Option M)) : En → Option M := fun env => match f env, sPart lo env, sPart hi env with
  | some m, some l, some h => slM env l h m
  | _, _, _ => none
section
variable {X : Cx} {a : Expr} {f : En → Option M}
def tDO (K : PySem.W.Frag) (f : En → Option (Option Int)) : TO := fun σ H Q => ∃ env i F fp, f env = some i ∧ EnvOk K F H σ env fp ∧ ∀ F' H', Step [] F H F' H' → Q i H'
def PDO (X : Cx) (e : Option Expr) (o : Option (En → Option M)) : Prop := PO X e (tDO X.K (sPart o))
theorem PO.imp {e : Option Expr} {t u : TO} (h : PO X e t) (i : ∀ σ H Q, u σ H Q → t σ H Q) : PO X e u := ⟨fun pins s σ H Q I q => h.run pins s σ H Q I (i _ _ _ q)⟩
theorem pdo_none : PDO X none none := PO.imp po_none fun σ H Q h => by
  obtain ⟨env, i, F, fp, e, ok, q⟩ := h
  cases e
  exact q F H (.refl ok.sub)
theorem pdo_some (h : PD X a f) : PDO X (some a) (some f) := PO.imp (po_some h) fun σ H Q h => by
  obtain ⟨env, i, F, fp, e, ok, q⟩ := h
  unfold sPart at e
  dsimp only at e
  split at e
  · rename_i j hj
    cases e
    refine ⟨env, .fz (.int j), F, fp, hj, ok, fun v F' H' A s o n aa => ?_⟩
    simp only [Own, Rep] at o
    exact ⟨j, o.2, q F' H' s⟩
  · cases e
theorem cut_own {K : PySem.W.Frag} {br : Nat → List Pa → V → Prop} {F H : Hp} {ms : List M} {vs : List V} {A : List Addr} (h : OwnL K br F H ms vs A) (lo hi : Option Int) : ∃ B, OwnL K br F H (cutM ms lo hi) (cutV vs lo hi) B ∧ B.Sublist A := by
  unfold cutM cutV
  rw [h.len]
  obtain ⟨B, h1, h2⟩ := h.drop (HT.sIx vs.length 0 lo)
  obtain ⟨C, h3, h4⟩ := h1.take (HT.sIx vs.length vs.length hi - HT.sIx vs.length 0 lo)
  exact ⟨C, h3, h4.trans h2⟩
theorem cut_map {α : Type} {β : Type} (g : α → β) (xs : List α) (lo hi : Option Int) : cutM (xs.map g) lo hi = (cutM xs lo hi).map g := by
  unfold cutM
  rw [List.length_map, List.map_take, List.map_drop]
theorem cut_V (xs : List V) (lo hi : Option Int) : cutV xs lo hi = cutM xs lo hi := rfl
abbrev rSlA (K : PySem.W.Frag) : V → Option Int → Option Int → Hp → VK → Prop := fun x lo hi H Q => rSlL K x lo hi H Q ∨ (fun x lo hi H Q => rSlT K x lo hi H Q ∨ rSlS x lo hi H Q) x lo hi H Q
theorem sl_any : SlR X (rSlA X.K) := sl_list.or (sl_tup.or sl_str)
theorem s_sl {K : PySem.W.Frag} {σ : L2.St} {env : En} {F H : Hp} {fp : Nat → List Addr} {m : M} {v : V} {A : List Addr} {l h : Option Int} {n : M} {Q : VK} (ok : EnvOk K F H σ env fp) (o : Own K (plc H σ env) F H m v A) (hn : A.Nodup)
    (e : slM env l h m = some n)
    (q : ∀ v F' H' B, Step A F H F' H' → Own K (plc H' σ env) F' H' n v B → B.Nodup → (∀ a ∈ B, H a = none ∨ a ∈ A) → Q v H') : rSlA K v l h H Q := by
  unfold slM at e
  split at e
  · rename_i z
    split at e
    · rename_i hz
      cases e
      simp only [Own, Rep] at o
      exact .inr (.inr ⟨z, o.2, of_decide_eq_true hz, keepS ok (own_fz (by simp only [Rep])) (List.nil_sublist _) hn q⟩)
    · cases e
  · rename_i ns
    cases e
    simp only [Own, Rep] at o
    obtain ⟨rfl, a, rfl, o⟩ := o
    refine .inl ⟨a, _, rfl, ok.sub.seq o, fun p hp => ?_⟩
    rw [map_fz_int] at q
    have r : RepL K F ((cutM ns l h).map D.int) (cutV (ns.map V.int) l h) := by
      rw [cut_V, cut_map]
      exact repL_ints _
    exact newL ok (ownL_fz r) (List.Sublist.refl _) hn hp q
  · split at e
    · rename_i xs hx
      cases e
      obtain ⟨a, us, D, rfl, l1, _, h3, s1⟩ := elems_ok ok o hx
      obtain ⟨B, c1, c2⟩ := cut_own h3 l h
      exact .inl ⟨a, us, rfl, SqL.of (l1 rfl), fun p hp => newL ok c1 (c2.trans s1) hn hp q⟩
    · rename_i xs hx
      split at e
      · cases e
      · rename_i hw
        cases e
        obtain ⟨a, us, D, rfl, _, l1, h3, s1⟩ := elems_ok ok o hx
        obtain ⟨B, c1, c2⟩ := cut_own h3 l h
        exact .inr (.inl ⟨a, us, rfl, SqT.of (l1 rfl), by rw [← h3.len]; exact hw, fun p hp => newT ok c1 (c2.trans s1) hn hp q⟩)
    · cases e
theorem pd_slice {lo hi : Option Expr} {fl fh : Option (En → Option M)} {pos p2 : Pos} (ha : PD X a f) (hl : PDO X lo fl) (hh : PDO X hi fh) : PD X (.Subscript a (.Slice lo hi none p2) pos) (oSl f fl fh) :=
  PE.imp (pe_slice sl_any ha hl hh) fun σ H Q h => by
    obtain ⟨env, n, F, fp, e, ok, q⟩ := h
    unfold oSl at e
    split at e
    · rename_i m l h h1 h2 h3
      refine ⟨env, m, F, fp, h1, ok, fun v F1 H1 A s1 o1 n1 a1 => ?_⟩
      have ok1 := ok.step s1 fun a z => by cases z
      refine ⟨env, l, F1, fp, h2, ok1, fun F2 H2 s2 => ?_⟩
      have ok2 := ok1.step s2 fun a z => by cases z
      refine ⟨env, h, F2, fp, h3, ok2, fun F3 H3 s3 => ?_⟩
      have ok3 := ok2.step s3 fun a z => by cases z
      refine s_sl ok3 ((o1.step s2).step s3) n1 e fun v F' H' B s o nd a => ?_
      have s123 := (s1.trans s2 fun a z => by cases z).trans s3 fun a z => by cases z
      refine q v F' H' B (s123.trans s fun c hc => a1 c hc) o nd fun c hc => ?_
      rcases a c hc with z | z
      · exact s123.stay c z
      · exact a1 c z
    · cases e
end
end T2
end
section
set_option Elab.async false
set_option linter.all false
set_option maxRecDepth 100000
namespace T2
open PySem
theorem get_z {m : Option M} {r : En} : En.get (m :: r) 0 = m := by unfold En.get; cases m <;> rfl
theorem get_s {m : Option M} {r : En} {i : Nat} : En.get (m :: r) (i + 1) = En.get r i := id rfl
theorem put_z {m : Option M} {r : En} {n : M} : En.put (m :: r) 0 n = some n :: r := id rfl
theorem put_s {m : Option M} {r : En} {i : Nat} {n : M} : En.put (m :: r) (i + 1) n = m :: En.put r i n := id rfl
def namM (i : Nat) : Option M → Option M
  | some (.fz d) => some (.fz d)
  | some _ => some (.bp i [])
  | none => none
theorem e_nam {i : Nat} {env : En} : nam i env = namM i (env.get i) := id rfl
theorem namM_fz {i : Nat} {d : D} : namM i (some (.fz d)) = some (.fz d) := id rfl
theorem e_cst {d : D} {env : En} : cst d env = some (.fz d) := id rfl
def o2 (o : En → List M → Option M) (env : En) : Option M → Option M → Option M
  | some a, some b => o env [a, b]
  | _, _ => none
def o1 (o : En → List M → Option M) (env : En) : Option M → Option M
  | some a => o env [a]
  | _ => none
theorem e_bin {o : En → List M → Option M} {f g : En → Option M} {env : En} : T2.bin o f g env = o2 o env (f env) (g env) := by
  unfold T2.bin opr aCons aNil o2
  cases f env <;> cases g env <;> rfl
theorem e_una {o : En → List M → Option M} {f : En → Option M} {env : En} : T2.una o f env = o1 o env (f env) := by
  unfold T2.una opr aCons aNil o1
  cases f env <;> rfl
theorem o2_s {o : En → List M → Option M} {env : En} {a b : M} : o2 o env (some a) (some b) = o env [a, b] := id rfl
theorem o1_s {o : En → List M → Option M} {env : En} {a : M} : o1 o env (some a) = o env [a] := id rfl
theorem e_acons {f : En → Option M} {fs : En → Option (List M)} {env : En} : aCons f fs env = (match f env, fs env with
  | some m, some ms => some (m :: ms)
  | _, _ => none) := id rfl
theorem e_anil {env : En} : aNil env = some [] := id rfl
theorem e_opr {op : En → List M → Option M} {fs : En → Option (List M)} {env : En} : opr op fs env = (match fs env with
  | some ms => op env ms
  | none => none) := id rfl
section
variable {env : En} {i j : Int} {x y : Str} {a b : Bool}
theorem k_add : oAdd env [.fz (.int i), .fz (.int j)] = some (.fz (.int (i + j))) := id rfl
theorem k_sub : sop iSub env [.fz (.int i), .fz (.int j)] = some (.fz (.int (i - j))) := id rfl
theorem sop_ii {c : Int → Int → Bool} {f : Int → Int → Int} (h : c i j = true) : sop (gII c f) env [.fz (.int i), .fz (.int j)] = some (.fz (.int (f i j))) := by
  show (match (match (if c i j then some (D.int (f i j)) else none) with
    | some d => if scal d then some (M.fz d) else none
    | none => none) with | r => r) = _
  rw [if_pos h]
  rfl
theorem k_mul (h : cMul i j = true) : oMul env [.fz (.int i), .fz (.int j)] = some (.fz (.int (i * j))) := by
  unfold oMul oOr
  rw [show sop iMul env [.fz (.int i), .fz (.int j)] = _ from sop_ii h]
theorem k_mod (h : 0 < j) : sop iMod env [.fz (.int i), .fz (.int j)] = some (.fz (.int (i % j))) := sop_ii (decide_eq_true h)
theorem k_div (h : 0 < j) (h' : j.natAbs.log2 < 9000) : sop iDiv env [.fz (.int i), .fz (.int j)] = some (.fz (.int (i / j))) := sop_ii (decide_eq_true ⟨h, h'⟩)
theorem k_pow (h : 0 ≤ j) (h' : j ≤ 1000000) (h'' : i.natAbs < 2 ^ 64) : sop iPow env [.fz (.int i), .fz (.int j)] = some (.fz (.int (i ^ j.toNat))) := sop_ii (decide_eq_true ⟨h, h', h''⟩)
theorem k_shl (h : 0 ≤ j) (h' : j ≤ 1000000) (h'' : i.natAbs < 2 ^ 64) : sop iShl env [.fz (.int i), .fz (.int j)] = some (.fz (.int (i * 2 ^ j.toNat))) := sop_ii (decide_eq_true ⟨h, h', h''⟩)
theorem k_shr (h : 0 ≤ j) : sop iShr env [.fz (.int i), .fz (.int j)] = some (.fz (.int (i / 2 ^ j.toNat))) := sop_ii (decide_eq_true h)
theorem k_and : sop iAnd env [.fz (.int i), .fz (.int j)] = some (.fz (.int (Builtin.bitAnd i j))) := id rfl
theorem k_or : sop iOr env [.fz (.int i), .fz (.int j)] = some (.fz (.int (Builtin.bitOr i j))) := id rfl
theorem k_lt : sop iLt env [.fz (.int i), .fz (.int j)] = some (.fz (.bl (decide (i < j)))) := id rfl
theorem k_le : sop iLe env [.fz (.int i), .fz (.int j)] = some (.fz (.bl (decide (i ≤ j)))) := id rfl
theorem k_gt : sop iGt env [.fz (.int i), .fz (.int j)] = some (.fz (.bl (decide (j < i)))) := id rfl
theorem k_ge : sop iGe env [.fz (.int i), .fz (.int j)] = some (.fz (.bl (decide (j ≤ i)))) := id rfl
theorem k_neg : sop (gU fun i => -i) env [.fz (.int i)] = some (.fz (.int (-i))) := id rfl
theorem k_abs : sop gAbs env [.fz (.int i)] = some (.fz (.int (if i < 0 then -i else i))) := id rfl
theorem k_intb : sop gInt env [.fz (.bl a)] = some (.fz (.int (if a then 1 else 0))) := id rfl
theorem k_inti : sop gInt env [.fz (.int i)] = some (.fz (.int i)) := id rfl
end
theorem e_seq {f g : En → Option Fl} {env : En} : sSeq f g env = (match f env with
  | some (.nx e) => g e
  | r => r) := id rfl
def asgM (lk : Nat → Bool) (i k : Nat) (env : En) : Option M → Option Fl
  | some m => match stow k env m with
    | some (m', e2) => if lk i = false ∧ i < e2.length then some (.nx (e2.put i m')) else none
    | none => none
  | none => none
theorem e_asg {lk : Nat → Bool} {i k : Nat} {f : En → Option M} {env : En} : sAsg lk i k (lif f) env = asgM lk i k env (f env) := by
  unfold sAsg lif asgM
  cases f env <;> rfl
theorem asgM_fz {lk : Nat → Bool} {i k : Nat} {env : En} {d : D} (h : lk i = false) (h' : i < env.length) : asgM lk i k env (some (.fz d)) = some (.nx (env.put i (.fz d))) := by
  unfold asgM stow
  simp only [slots]
  cases k <;> simp only [shut, Option.map_some, h, h', and_self, if_true]
def retM (lk : Nat → Bool) (env : En) (m : Option M) : Option Fl := sRet lk (fun e => match m with | some m => some (m, e) | none => none) env
theorem e_ret {lk : Nat → Bool} {f : En → Option M} {env : En} : sRet lk (lif f) env = retM lk env (f env) := id rfl
theorem retM_fz {lk : Nat → Bool} {env : En} {d : D} : retM lk env (some (.fz d)) = some (.rt (.fz d) env) := id rfl
theorem retM_bp {lk : Nat → Bool} {env : En} {i : Nat} {m : M} (h : env.get i = some m) (h' : lk i = false) : retM lk env (some (.bp i [])) = some (.rt m (env.kill i)) := by
  unfold retM sRet
  simp only [h, h', if_true]
def ifM (f g : En → Option Fl) (env : En) : Option Bool → Option Fl
  | some true => f env
  | some false => g env
  | none => none
theorem e_if {t : En → Option Bool} {f g : En → Option Fl} {env : En} : sIf (lifT t) f g env = ifM f g env (t env) := by
  unfold sIf lifT ifM
  cases t env with
  | none => rfl
  | some b => cases b <;> rfl
theorem ifM_t {f g : En → Option Fl} {env : En} : ifM f g env (some true) = f env := id rfl
theorem ifM_f {f g : En → Option Fl} {env : En} : ifM f g env (some false) = g env := id rfl
def tstM : Option M → Option Bool
  | some (.fz (.bl b)) => some b
  | _ => none
theorem e_tst {f : En → Option M} {env : En} : tst f env = tstM (f env) := by
  unfold tst tstM
  cases f env with
  | none => rfl
  | some m => cases m <;> rfl
theorem e_nil {env : En} : sNil env = some (.nx env) := id rfl
theorem run_rt {n p : Nat} {lk : Nat → Bool} {fS : En → Option Fl} {ms : List M} {env : En} {m : M} {e : En} {ns : List M} (h1 : ms.length = p) (h2 : okA lk 0 ms = true) (he : ms.map some ++ List.replicate (n - p) none = env) (h : fS env = some (.rt m e)) (h3 : outs lk e 0 ms = some ns) : runD n p lk fS ms = some (m, ns) := by
  unfold runD
  rw [if_pos ⟨h1, h2⟩, he, h]
  simp only [h3]
theorem run_nx {n p : Nat} {lk : Nat → Bool} {fS : En → Option Fl} {ms : List M} {env : En} {e : En} {ns : List M} (h1 : ms.length = p) (h2 : okA lk 0 ms = true) (he : ms.map some ++ List.replicate (n - p) none = env) (h : fS env = some (.nx e)) (h3 : outs lk e 0 ms = some ns) : runD n p lk fS ms = some (.fz .non, ns) := by
  unfold runD
  rw [if_pos ⟨h1, h2⟩, he, h]
  simp only [h3]
section
variable {env e1 e2 : En} {f g : En → Option M} {fs : En → Option (List M)} {m a b r : M} {ms cs cs' : List M} {d : D} {o : En → List M → Option M} {S T : En → Option Fl} {R : Option Fl}
theorem acons_of (h : f env = some m) (h' : fs env = some ms) : aCons f fs env = some (m :: ms) := by rw [e_acons, h, h']
theorem opr_of {op : En → List M → Option M} (h : fs env = some ms) (h' : op env ms = some r) : opr op fs env = some r := by rw [e_opr, h]; exact h'
theorem bin_of (h : f env = some a) (h' : g env = some b) (h'' : o env [a, b] = some r) : T2.bin o f g env = some r := by rw [e_bin, h, h', o2_s]; exact h''
theorem una_of (h : f env = some a) (h'' : o env [a] = some r) : T2.una o f env = some r := by rw [e_una, h, o1_s]; exact h''
theorem callP_of {io : List Bool} {F : Fn} (h : slotsL ms = []) (h' : shutZ io ms = some cs) (h'' : F cs = some (r, cs')) : callP io F env ms = some r := by
  unfold callP
  rw [h]
  simp only [h', h'']
theorem callI_of {io : List Bool} {F : Fn} {gs : En → Option (List M × En)} {i : Nat} {rest tl : List M} {n n' : M} (h1 : gs env = some (.bp i [] :: rest, e1)) (h2 : slotsL rest = []) (h3 : e1.get i = some n) (h4 : shutZ io.tail rest = some cs) (h5 : F (n :: cs) = some (r, n' :: tl)) : callI io F gs env = some (r, e1.put i n') := by
  unfold callI
  rw [h1]
  simp only [h2, h3, h4, h5]
theorem nam_fz {i : Nat} (h : env.get i = some (.fz d)) : nam i env = some (.fz d) := by rw [e_nam, h]; rfl
theorem lif_of (h : f env = some m) : lif f env = some (m, env) := by unfold lif; rw [h]
theorem lifA_of (h : fs env = some ms) : lifA fs env = some (ms, env) := by unfold lifA; rw [h]
theorem seq_of (h : S env = some (.nx e1)) (h' : T e1 = R) : sSeq S T env = R := by rw [e_seq, h]; exact h'
theorem seq_rt (h : S env = some (.rt m e1)) : sSeq S T env = some (.rt m e1) := by rw [e_seq, h]
theorem tst_of {c : Bool} (h : f env = some (.fz (.bl c))) : tst f env = some c := by rw [e_tst, h]; rfl
theorem if_t {t : En → Option Bool} (h : t env = some true) (h' : S env = R) : sIf (lifT t) S T env = R := by rw [e_if, h, ifM_t]; exact h'
theorem if_f {t : En → Option Bool} (h : t env = some false) (h' : T env = R) : sIf (lifT t) S T env = R := by rw [e_if, h, ifM_f]; exact h'
theorem asg_of {lk : Nat → Bool} {i k : Nat} (h : f env = some (.fz d)) (hl : lk i = false) (hi : i < env.length) : sAsg lk i k (lif f) env = some (.nx (env.put i (.fz d))) := by rw [e_asg, h]; exact asgM_fz hl hi
theorem asgX_of {lk : Nat → Bool} {i k : Nat} {G : En → Option (M × En)} {m' : M} (h : G env = some (m, e1)) (hs : stow k e1 m = some (m', e2)) (hl : lk i = false) (hi : i < e2.length) : sAsg lk i k G env = some (.nx (e2.put i m')) := by
  unfold sAsg
  rw [h]
  simp only [hs, hl, hi, and_self, if_true]
theorem ret_of {lk : Nat → Bool} (h : f env = some (.fz d)) : sRet lk (lif f) env = some (.rt (.fz d) env) := by rw [e_ret, h]; rfl
theorem exp_of {G : En → Option (M × En)} (h : G env = some (m, e1)) : sExp G env = some (.nx e1) := by unfold sExp; rw [h]
theorem for_of {lk : Nat → Bool} {t : Tg} {it : En → Option (List D × En)} {ds : List D} (h : it env = some (ds, e1)) (h' : lpF lk t S ds e1 = R) : sFor lk t it S env = R := by unfold sFor; rw [h]; exact h'
theorem lp_nil {lk : Nat → Bool} {t : Tg} : lpF lk t S [] env = some (.nx env) := by unfold lpF; rfl
theorem lp_cons {lk : Nat → Bool} {t : Tg} {ds : List D} (h : asT lk t d env = some e1) (h' : S e1 = some (.nx e2)) (h'' : lpF lk t S ds e2 = R) : lpF lk t S (d :: ds) env = R := by
  unfold lpF
  rw [h]
  simp only [h']
  exact h''
theorem wh_t {n : Nat} {c : En → Option (Bool × En)} {e3 : En} (h : c env = some (true, e1)) (h' : S e1 = some (.nx e2)) (h'' : lpW c S n e2 = R) : lpW c S (n + 1) env = R := by
  unfold lpW
  rw [h]
  simp only [h']
  exact h''
theorem wh_f {n : Nat} {c : En → Option (Bool × En)} (h : c env = some (false, e1)) : lpW c S (n + 1) env = some (.nx e1) := by
  unfold lpW
  rw [h]
end
end T2
end
section
set_option Elab.async false
set_option linter.all false
set_option maxRecDepth 100000
namespace T2
open PySem
theorem cMul_ok {i j : Int} (a b : Nat) (hi : i.natAbs < 2 ^ a) (hj : j.natAbs < 2 ^ b) (h : a + b ≤ 134217728) : cMul i j = true := by
  unfold cMul
  have x := PyProof.Rows.intBits_le hi
  have y := PyProof.Rows.intBits_le hj
  exact decide_eq_true (by omega)
abbrev I (i : Int) : M := .fz (.int i)
theorem k_lst {env : En} {ms : List M} (h : ms.length ≤ sizeLine) : oLst env ms = some (.ol ms) := by
  unfold oLst
  rw [if_pos h]
theorem k_scr {env : En} {ns : List Int} {i n : Int} (h : L2.atI ns i = some n) : oIdx env [.fz (.scr ns), .fz (.int i)] = some (.fz (.int n)) := by
  show oOr (oIx true) (oOr (oIx false) (oOr (sop gIxS) (sop gIxR))) env [.fz (.scr ns), .fz (.int i)] = _
  have h1 : sop gIxR env [.fz (.scr ns), .fz (.int i)] = some (.fz (.int n)) := by
    show (match gIxR [.scr ns, .int i] with
      | some d => if scal d then some (.fz d) else none
      | none => none : Option M) = _
    have : gIxR [.scr ns, .int i] = some (.int n) := by simp only [gIxR, h]
    rw [this]
    rfl
  have h2 : ∀ b, oIx b env [.fz (.scr ns), .fz (.int i)] = none := fun _ => id rfl
  have h3 : sop gIxS env [.fz (.scr ns), .fz (.int i)] = none := id rfl
  unfold oOr
  rw [h2, h2, h3, h1]
theorem cMul_le {i j : Int} (a b : Nat) (hi : Builtin.Int.intBits i ≤ a) (hj : Builtin.Int.intBits j ≤ b) (h : a + b ≤ 134217728) : cMul i j = true := by
  unfold cMul
  exact decide_eq_true (by omega)
theorem pyDL_ints : ∀ ns : List Int, pyDL (ns.map .int) = some (ns.map .int)
  | [] => id rfl
  | n :: ns => by
    show (match pyD (.int n), pyDL (ns.map .int) with
      | some x, some xs => some (x :: xs)
      | _, _ => none) = _
    rw [pyDL_ints ns]
    rfl
theorem eqvAll_ints : ∀ xs ys : List Int, PyData.eqvAll (xs.map .int) (ys.map .int) = (xs == ys)
  | [], [] => by rfl
  | [], y :: ys => by rfl
  | x :: xs, [] => by rfl
  | x :: xs, y :: ys => by
    show (PyData.eqv (.int x) (.int y) && PyData.eqvAll (xs.map .int) (ys.map .int)) = _
    rw [eqvAll_ints xs ys]
    rfl
theorem canLay_ints : ∀ ns : List Int, PyData.canLayAll0 (ns.map .int) = true
  | [] => by rfl
  | n :: ns => by
    show (PyData.canLay0 (.int n) && PyData.canLayAll0 (ns.map .int)) = true
    rw [canLay_ints ns]
    rfl
theorem depth_ints : ∀ ns : List Int, PyData.depthAll (ns.map .int) ≤ 1
  | [] => by decide
  | n :: ns => by
    show max (PyData.depth (.int n)) (PyData.depthAll (ns.map .int)) ≤ 1
    exact Nat.max_le.mpr ⟨by rw [show PyData.depth (.int n) = 0 by rfl]; omega, depth_ints ns⟩
theorem shaped_ints (ns : List Int) : SeqAt.shaped (.list (ns.map .int)) = true := by
  show ((PyData.canLay0 (.list (ns.map .int))) && decide (PyData.depth (.list (ns.map .int)) ≤ 64)) = true
  rw [show PyData.canLay0 (.list (ns.map .int)) = PyData.canLayAll0 (ns.map .int) by rfl, canLay_ints]
  have : PyData.depth (.list (ns.map .int)) = PyData.depthAll (ns.map .int) + 1 := by rfl
  have h := depth_ints ns
  rw [this]
  simp
  omega
theorem gEq_ints (neg : Bool) (xs ys : List Int) : gEq neg [.lst (xs.map .int), .lst (ys.map .int)] = some (.bl (if neg then !(xs == ys) else xs == ys)) := by
  have px : ∀ xs : List Int, pyD (.lst (xs.map .int)) = some (.list (xs.map .int)) := fun xs => by
    show (pyDL (xs.map .int)).map PyData.list = _
    rw [pyDL_ints]
    rfl
  show (match pyD (.lst (xs.map .int)), pyD (.lst (ys.map .int)) with
    | some x, some y => if SeqAt.shaped x && SeqAt.shaped y then some (.bl (if neg then !PyData.eqv x y else PyData.eqv x y)) else none
    | _, _ => none : Option D) = _
  rw [px, px]
  simp only [shaped_ints, Bool.and_self, if_true]
  rw [show PyData.eqv (.list (xs.map .int)) (.list (ys.map .int)) = PyData.eqvAll (xs.map .int) (ys.map .int) by rfl, eqvAll_ints]
theorem sop_of {g : List D → Option D} {env : En} {ms : List M} {ds : List D} {d : D} (h : dats env ms = some ds) (h' : g ds = some d) (h'' : scal d = true) : sop g env ms = some (.fz d) := by
  unfold sop
  rw [h]
  simp only [h', h'', if_true]
section
variable {env e1 e2 : En} {f g : En → Option Bool} {b c : Bool}
theorem or_f (h : f env = some false) (h' : g env = some c) : dOr f g env = some c := by unfold dOr; rw [h]; exact h'
theorem not_of (h : f env = some b) : dNot f env = some (!b) := by unfold dNot; rw [h]
end
theorem ifX_t {t : En → Option (Bool × En)} {S T : En → Option Fl} {R : Option Fl} {env e1 : En} (h : t env = some (true, e1)) (h' : S e1 = R) : sIf t S T env = R := by
  unfold sIf
  rw [h]
  exact h'
theorem ifX_f {t : En → Option (Bool × En)} {S T : En → Option Fl} {R : Option Fl} {env e1 : En} (h : t env = some (false, e1)) (h' : T e1 = R) : sIf t S T env = R := by
  unfold sIf
  rw [h]
  exact h'
section
variable {env e1 e2 e3 : En} {G J : En → Option (M × En)} {gs : En → Option (List M × En)} {a b r m : M} {ms : List M} {o : En → List M → Option M}
theorem xcons_of (h : G env = some (m, e1)) (h' : gs e1 = some (ms, e2)) (h'' : alv e2 m = true) : xCons G gs env = some (m :: ms, e2) := by
  unfold xCons
  rw [h]
  simp only [h', h'', if_true]
theorem xop_of (h : gs env = some (ms, e1)) (h' : o e1 ms = some r) : xop o gs env = some (r, e1) := by
  unfold xop
  rw [h]
  simp only [h']
theorem xbin_of (h : G env = some (a, e1)) (h' : J e1 = some (b, e2)) (h1 : alv e2 a = true) (h2 : alv e2 b = true) (h'' : o e2 [a, b] = some r) : xbin o G J env = some (r, e2) :=
  xop_of (xcons_of h (xcons_of h' rfl h2) h1) h''
end
section
variable {vs : List Nat} {t : Tg} {cond : En → Option Bool} {elt : En → Option M} {env : En}
theorem lcL_mem {v : D → M} : ∀ (ds : List D) (_ : ∀ d ∈ ds, ∃ e1, asT (lkOf vs) t d (env.wipe vs) = some e1 ∧ elt e1 = some (v d) ∧ slots (v d) = []), lcL vs t cYes elt env ds = some (ds.map v)
  | [], _ => by unfold lcL; rfl
  | d :: ds, ht => by
    obtain ⟨e1, h1, h2, h3⟩ := ht d (List.mem_cons_self ..)
    have ih := lcL_mem ds fun d' h => ht d' (List.mem_cons_of_mem _ h)
    unfold lcL
    rw [h1]
    simp only [cYes, ih, h2, h3, List.isEmpty_nil, if_true, List.map_cons]
theorem lcF_of {it : En → Option (List D)} {ds : List D} {ms : List M} (h : it env = some ds) (h' : lcL vs t cond elt env ds = some ms) (h'' : ms.length ≤ sizeLine) : lcF vs t it cond elt env = some (.ol ms) := by
  unfold lcF
  rw [h]
  simp only [h', h'', if_true]
end
abbrev oD (ds : List D) : M := .ol (ds.map .fz)
abbrev oI (L : List Int) : M := oD (L.map .int)
abbrev lI (L : List Int) : D := .lst (L.map .int)
theorem datWL_fz {bp : Nat → List Pa → Option D} : ∀ ds : List D, datWL bp (ds.map .fz) = some ds
  | [] => by rfl
  | d :: ds => by
    show (match datW bp (.fz d), datWL bp (ds.map .fz) with
      | some d, some ds => some (d :: ds)
      | _, _ => none) = _
    rw [datWL_fz ds]
    rfl
theorem datW_oD {bp : Nat → List Pa → Option D} (ds : List D) : datW bp (oD ds) = some (.lst ds) := by
  show (datWL bp (ds.map .fz)).map D.lst = _
  rw [datWL_fz]
  rfl
theorem slotsL_fz : ∀ ds : List D, slotsL (ds.map .fz) = []
  | [] => by rfl
  | d :: ds => by
    show slots (.fz d) ++ slotsL (ds.map .fz) = []
    rw [slotsL_fz ds]
    rfl
theorem shutL_fz {k : Nat} : ∀ ds : List D, shutL k (ds.map .fz) = some (ds.map .fz)
  | [] => by cases k <;> rfl
  | d :: ds => by
    have h : shut k (.fz d) = some (.fz d) := by cases k <;> rfl
    show (match shut k (.fz d), shutL k (ds.map .fz) with
      | some n, some ns => some (n :: ns)
      | _, _ => none) = _
    rw [shutL_fz ds, h]
    rfl
theorem stow_z {env : En} (ds : List D) : stow 0 env (oD ds) = some (.fz (.lst ds), env) := by
  unfold stow
  rw [show slots (oD ds) = [] from slotsL_fz ds]
  show (shut 0 (oD ds)).map _ = _
  rw [show shut 0 (oD ds) = (dat0 (oD ds)).map .fz by rfl, show dat0 (oD ds) = some (.lst ds) from datW_oD ds]
  rfl
theorem stow_s {env : En} {k : Nat} (ds : List D) : stow (k + 1) env (oD ds) = some (oD ds, env) := by
  unfold stow
  rw [show slots (oD ds) = [] from slotsL_fz ds]
  show (shut (k + 1) (oD ds)).map _ = _
  rw [show shut (k + 1) (oD ds) = (shutL k (ds.map .fz)).map .ol by rfl, shutL_fz]
  rfl
theorem dat_bp {env : En} {i : Nat} {ds : List D} (h : env.get i = some (oD ds)) : plD env i [] = some (.lst ds) := by
  have : env.place i [] = some (oD ds) := by
    show (match env.get i with
      | some m => getP m []
      | none => none) = _
    rw [h]
    rfl
  unfold plD
  rw [this]
  exact datW_oD ds
theorem sLfL_ints : ∀ L : List Int, sLfL ((L.map D.int).map .fz) = true
  | [] => by rfl
  | d :: ds => by
    show (sLf (.fz (.int d)) && sLfL ((ds.map D.int).map .fz)) = true
    rw [sLfL_ints ds]
    rfl
theorem sLf_oI (L : List Int) : sLf (oI L) = true := sLfL_ints L
theorem nam_oD {env : En} {i : Nat} {ds : List D} (h : env.get i = some (oD ds)) : nam i env = some (.bp i []) := by rw [e_nam, h]; rfl
theorem shutZ_f {b : Bool} {bs : List Bool} {d : D} {ms cs : List M} (h : shutZ bs ms = some cs) : shutZ (b :: bs) (.fz d :: ms) = some (.fz d :: cs) := by
  show (match shut (if b then 9 else 0) (.fz d), shutZ bs ms with
    | some n, some ns => some (n :: ns)
    | _, _ => none) = _
  rw [h, show shut (if b then 9 else 0) (.fz d) = some (.fz d) by cases b <;> rfl]
theorem shutZ_z {bs : List Bool} {ds : List D} {ms cs : List M} (h : shutZ bs ms = some cs) : shutZ (false :: bs) (oD ds :: ms) = some (.fz (.lst ds) :: cs) := by
  show (match shut 0 (oD ds), shutZ bs ms with
    | some n, some ns => some (n :: ns)
    | _, _ => none) = _
  rw [h, show shut 0 (oD ds) = (dat0 (oD ds)).map .fz by rfl, show dat0 (oD ds) = some (.lst ds) from datW_oD ds]
  rfl
theorem shutZ_s {bs : List Bool} {ds : List D} {ms cs : List M} (h : shutZ bs ms = some cs) : shutZ (true :: bs) (oD ds :: ms) = some (oD ds :: cs) := by
  show (match shut 9 (oD ds), shutZ bs ms with
    | some n, some ns => some (n :: ns)
    | _, _ => none) = _
  rw [h, show shut 9 (oD ds) = (shutL 8 (ds.map .fz)).map .ol by rfl, shutL_fz]
  rfl
theorem dats_f {env : En} {d : D} {ms : List M} {cs : List D} (h : dats env ms = some cs) : dats env (.fz d :: ms) = some (d :: cs) := by
  show (match datW (plD env) (.fz d), datWL (plD env) ms with
    | some d, some ds => some (d :: ds)
    | _, _ => none) = _
  rw [show datWL (plD env) ms = some cs from h]
  rfl
theorem dats_o {env : En} {ds : List D} {ms : List M} {cs : List D} (h : dats env ms = some cs) : dats env (oD ds :: ms) = some (.lst ds :: cs) := by
  show (match datW (plD env) (oD ds), datWL (plD env) ms with
    | some d, some ds => some (d :: ds)
    | _, _ => none) = _
  rw [show datWL (plD env) ms = some cs from h, datW_oD]
theorem dats_b {env : En} {i : Nat} {ds : List D} {ms : List M} {cs : List D} (h0 : env.get i = some (oD ds)) (h : dats env ms = some cs) : dats env (.bp i [] :: ms) = some (.lst ds :: cs) := by
  show (match datW (plD env) (.bp i []), datWL (plD env) ms with
    | some d, some ds => some (d :: ds)
    | _, _ => none) = _
  rw [show datWL (plD env) ms = some cs from h, show datW (plD env) (.bp i []) = plD env i [] by rfl, dat_bp h0]
theorem dats_n {env : En} : dats env [] = some [] := by rfl
/-- a call with arguments that a slot holds -/
theorem callB_of {io : List Bool} {F : Fn} {env : En} {ms : List M} {ds : List D} {r : M} {cs : List M} {i : Nat} {l : List Nat} (h : slotsL ms = i :: l) (h1 : dats env ms = some ds) (h2 : F (ds.map .fz) = some (r, cs)) (h3 : sLf r = true) : callP io F env ms = some r := by
  unfold callP
  rw [h]
  simp only [h1, h2, h3, if_true]
section
variable {env e1 e2 e3 : En} {fo fi fe : En → Option M} {fs : En → Option (List M)} {gs : En → Option (List M × En)} {G : En → Option (M × En)} {mu : List M → List M → Option (List M × M)} {i k : Nat} {ms ms' as bs : List M} {res m m' r2 : M} {j : Int}
theorem place_z (h : env.get i = some m) : env.place i [] = some m := by
  unfold En.place
  rw [h]
  rfl
theorem setE_z (h : env.get i = some m) : setE env i [] m' = some (env.put i m') := by
  unfold setE
  rw [h]
  rfl
theorem mutX_of (h1 : fo env = some (.bp i [])) (h2 : gs env = some (as, e1)) (h0 : alv e1 (.bp i []) = true ∧ isOl (env.place i []) = true) (h3 : stowA k e1 as = some (bs, e2)) (h4 : e2.get i = some (.ol ms)) (h5 : mu ms bs = some (ms', res)) : xMut k fo gs mu env = some (res, e2.put i (.ol ms')) := by
  unfold xMut
  rw [h1]
  simp only [h2]
  rw [if_pos h0]
  simp only [h3, place_z h4, h5, setE_z h4]
theorem set_of (h1 : G env = some (m, e1)) (h2 : stow k e1 m = some (m', e2)) (h3 : fo e2 = some (.bp i [])) (h4 : fi e2 = some (.fz (.int j))) (h5 : e2.get i = some (.ol ms)) (h6 : mSet ms [.fz (.int j), m'] = some (ms', r2)) : sSet k fo fi G env = some (.nx (e2.put i (.ol ms'))) := by
  unfold sSet
  rw [h1]
  simp only [h2, h3, h4, place_z h5, h6, setE_z h5]
theorem append_fz {ms : List M} {d : D} (h : ms.length < sizeLine) : mAppend ms [.fz d] = some (ms ++ [.fz d], .fz .non) := by
  unfold mAppend
  simp only [h, if_true]
end
def dot (rs ts : List Int) : Int := (List.zipWith (· * ·) rs ts).sum
theorem intsOf_ints : ∀ L : List Int, intsOf (L.map .int) = some L
  | [] => by rfl
  | x :: L => by
    show (match intsOf (L.map .int) with
      | some ns => some (x :: ns)
      | none => none) = _
    rw [intsOf_ints L]
theorem allFz_fz : ∀ ds : List D, allFz (ds.map .fz) = some ds
  | [] => by rfl
  | d :: ds => by
    show (match allFz (ds.map .fz) with
      | some ds => some (d :: ds)
      | none => none) = _
    rw [allFz_fz ds]
theorem items_f {env : En} {d : D} : items env (.fz d) = some d := by rfl
theorem items_o {env : En} {ds : List D} : items env (oD ds) = some (.lst ds) := by
  unfold items
  rw [show slots (oD ds) = [] from slotsL_fz ds]
  exact datW_oD ds
theorem kid_fz {i : Nat} {p : List Pa} : ∀ (ds : List D) (k : Nat), kid i p k (ds.map .fz) = ds.map .fz
  | [], _ => by rfl
  | d :: ds, k => by
    show M.fz d :: kid i p (k + 1) (ds.map .fz) = _
    rw [kid_fz ds]
    rfl
theorem elems_b {env : En} {i : Nat} {ds : List D} (h : env.get i = some (oD ds)) : elems env (.bp i []) = some (true, ds.map .fz) := by
  unfold elems
  simp only [place_z h, kid_fz]
theorem items_b {env : En} {i : Nat} {ds : List D} (h : env.get i = some (oD ds)) : items env (.bp i []) = some (.lst ds) := by
  unfold items
  rw [show slots (.bp i []) = [i] by rfl, elems_b h]
  show (allFz (ds.map .fz)).map _ = _
  rw [allFz_fz]
  rfl
theorem zipD_ints : ∀ rs ts : List Int, zipD (rs.map .int) (ts.map .int) = (rs.zip ts).map fun p => .tup [.int p.1, .int p.2]
  | [], ts => by cases ts <;> rfl
  | r :: rs, [] => by rfl
  | r :: rs, t :: ts => by
    show D.tup [.int r, .int t] :: zipD (rs.map .int) (ts.map .int) = _
    rw [zipD_ints rs ts]
    rfl
theorem zip_it {env : En} {fs : En → Option (List M)} {a b : M} {rs ts : List Int} (h : fs env = some [a, b]) (ha : items env a = some (lI rs)) (hb : items env b = some (lI ts)) : itZipP fs env = some ((rs.zip ts).map fun p => .tup [.int p.1, .int p.2]) := by
  have e : itemsL env [a, b] = some [lI rs, lI ts] := by
    show (match items env a, (match items env b, some [] with
      | some d, some ds => some (d :: ds)
      | _, _ => none : Option (List D)) with
      | some d, some ds => some (d :: ds)
      | _, _ => none) = _
    rw [ha, hb]
  unfold itZipP
  rw [h]
  simp only [e]
  show (some (zipD (rs.map .int) (ts.map .int)) : Option (List D)) = _
  rw [zipD_ints]
/-- a comprehension over pairs of numbers -/
theorem lc_zip {vs : List Nat} {t : Tg} {elt : En → Option M} {env : En} {fs : En → Option (List M)} {a b : M} {rs ts : List Int} {v : Int → Int → Int} (h : fs env = some [a, b]) (ha : items env a = some (lI rs)) (hb : items env b = some (lI ts))
    (hE : ∀ p ∈ rs.zip ts, ∃ e1, asT (lkOf vs) t (.tup [.int p.1, .int p.2]) (env.wipe vs) = some e1 ∧ elt e1 = some (.fz (.int (v p.1 p.2)))) (hl : rs.length ≤ sizeLine) : lcF vs t (itZipP fs) cYes elt env = some (oI (List.zipWith v rs ts)) := by
  have := lcL_mem (vs := vs) (t := t) (elt := elt) (env := env) (v := fun d => match d with
    | .tup [.int x, .int y] => .fz (.int (v x y))
    | _ => .fz .non) ((rs.zip ts).map fun p => .tup [.int p.1, .int p.2]) (fun d hd => by
      obtain ⟨p, hp, rfl⟩ := List.mem_map.mp hd
      obtain ⟨e1, h1, h2⟩ := hE p hp
      exact ⟨e1, h1, h2, rfl⟩)
  rw [List.map_map] at this
  have e : (rs.zip ts).map ((fun d => match d with
    | D.tup [.int x, .int y] => M.fz (.int (v x y))
    | _ => M.fz .non) ∘ fun p => .tup [.int p.1, .int p.2]) = ((List.zipWith v rs ts).map D.int).map M.fz := by
    rw [← List.map_uncurry_zip_eq_zipWith, List.map_map, List.map_map]
    rfl
  rw [e] at this
  refine lcF_of (zip_it h ha hb) this ?_
  simp only [List.length_map, List.length_zipWith]
  omega
theorem sum_of {env : En} {e : En → Option M} {a : M} {L : List Int} (h : e env = some a) (ha : dats env [a] = some [lI L]) : opr (sop gSum) (aCons e aNil) env = some (.fz (.int L.sum)) := by
  refine opr_of (acons_of h e_anil) (sop_of ha (d := .int L.sum) ?_ rfl)
  show (match intsOf (L.map .int) with
    | some ns => some (D.int ns.sum)
    | none => none) = _
  rw [intsOf_ints]
theorem cMul_dot {rs ts : List Int} (a b : Nat) (hr : ∀ r ∈ rs, r.natAbs < 2 ^ a) (ht : ∀ t ∈ ts, t.natAbs < 2 ^ b) (h : a + b ≤ 134217728) : ∀ p ∈ rs.zip ts, cMul p.1 p.2 = true := fun p hp => by
  obtain ⟨h1, h2⟩ := List.of_mem_zip (a := p.1) (b := p.2) hp
  exact cMul_ok a b (hr _ h1) (ht _ h2) h
theorem retM_oI {lk : Nat → Bool} {env : En} (ds : List D) : retM lk env (some (oD ds)) = some (.rt (oD ds) env) := by
  unfold retM sRet
  show (match stow 9 env (oD ds) with
    | some (m', e2) => some (Fl.rt m' e2)
    | none => none) = _
  rw [stow_s (k := 8)]
theorem dat_of {env : En} {m : M} {d : D} (h : dats env [m] = some [d]) : dat env m = some d := by
  have e : dats env [m] = (match datW (plD env) m, some [] with
    | some d, some ds => some (d :: ds)
    | _, _ => none : Option (List D)) := by rfl
  rw [e] at h
  show datW (plD env) m = _
  cases hm : datW (plD env) m with
  | none => rw [hm] at h; cases h
  | some d' => rw [hm] at h; cases h; rfl
theorem len_b {env : En} {f : En → Option M} {m : M} {ds : List D} (h : f env = some m) (hd : dats env [m] = some [.lst ds]) : opr (sop gLen) (aCons f aNil) env = some (.fz (.int ds.length)) :=
  opr_of (acons_of h e_anil) (sop_of hd (show gLen [.lst ds] = some (.int ds.length) from rfl) rfl)
theorem k_eq {neg : Bool} {env : En} {i j : Int} : sop (gEq neg) env [.fz (.int i), .fz (.int j)] = some (.fz (.bl (if neg then !(i == j) else i == j))) := by
  refine sop_of rfl (d := .bl (if neg then !(i == j) else i == j)) ?_ rfl
  rfl
theorem idx_f {env : En} {ds : List D} {i : Int} {d : D} (h : L2.atI ds i = some d) : oIdx env [.fz (.lst ds), .fz (.int i)] = some (.fz d) := by
  have h1 : oIx true env [.fz (.lst ds), .fz (.int i)] = some (.fz d) := by
    show L2.atI (ds.map M.fz) i = _
    exact atI_map h
  show oOr (oIx true) _ env _ = _
  unfold oOr
  rw [h1]
theorem atI_nat {α : Type} {xs : List α} {i : Nat} {x : α} (h : xs[i]? = some x) : L2.atI xs (i : Int) = some x := by
  have hlt := (List.getElem?_eq_some_iff.mp h).1
  unfold L2.atI L2.ixN
  rw [if_pos (by omega), if_pos (by exact_mod_cast hlt)]
  exact h
theorem listOf_b {env : En} {i : Nat} {ds : List D} (h : env.get i = some (oD ds)) : oListOf env [.bp i []] = some (oD ds) := by
  unfold oListOf
  simp only [elems_b h]
theorem itX_of {b : Bool} {g : En → Option (M × En)} {env e1 e2 : En} {m : M} {d : D} {ds : List D} (h : g env = some (m, e1)) (h1 : stow 0 e1 m = some (.fz d, e2)) (h2 : isLst d = b) (h3 : itemsD d = some ds) : itX b g env = some (ds, e2) := by
  unfold itX
  rw [h]
  simp only [h1, h2, h3, if_true]
theorem k_andN {env : En} {a b : Nat} : sop iAnd env [.fz (.int a), .fz (.int b)] = some (.fz (.int ((a &&& b : Nat) : Int))) := k_and
theorem bitOrN (a b : Nat) : Builtin.bitOr (a : Int) (b : Int) = ((a ||| b : Nat) : Int) := by
  have h1 : ¬ (0 : Int) ≤ Builtin.bitNot (a : Int) := by unfold Builtin.bitNot; omega
  have h2 : ¬ (0 : Int) ≤ Builtin.bitNot (b : Int) := by unfold Builtin.bitNot; omega
  have h3 : ∀ x : Int, Builtin.bitNot (Builtin.bitNot x) = x := fun x => by unfold Builtin.bitNot; omega
  unfold Builtin.bitOr Builtin.bitAnd
  rw [decide_eq_false h1, decide_eq_false h2]
  simp only [h3, Int.toNat_natCast]
theorem k_orN {env : En} {a b : Nat} : sop iOr env [.fz (.int a), .fz (.int b)] = some (.fz (.int ((a ||| b : Nat) : Int))) := k_or.trans (by rw [bitOrN])
theorem augI_of {env : En} {op : Int → Int → Int} {fo fi fe : En → Option M} {i : Nat} {j b a : Int} {ms ms' : List M} {r : M} (h1 : fo env = some (.bp i [])) (h2 : fi env = some (.fz (.int j))) (h3 : fe env = some (.fz (.int b))) (h4 : env.get i = some (.ol ms)) (h5 : L2.atI ms j = some (.fz (.int a))) (h6 : mSet ms [.fz (.int j), .fz (.int (op a b))] = some (ms', r)) : sAugI op fo fi fe env = some (.nx (env.put i (.ol ms'))) := by
  unfold sAugI
  rw [h1, h2, h3]
  simp only [place_z h4, h5, h6, setE_z h4]
theorem mSet_nat {L : List Int} {i : Nat} {x : Int} (h : i < L.length) : mSet ((L.map D.int).map .fz) [.fz (.int (i : Int)), .fz (.int x)] = some (((L.set i x).map D.int).map .fz, .fz .non) := by
  have hx : L2.ixN L.length (i : Int) = some i := by
    unfold L2.ixN
    rw [if_pos (by omega), if_pos (by exact_mod_cast h), Int.toNat_natCast]
  unfold mSet
  simp only [List.length_map, hx]
  simp [List.map_set]
theorem atI_ints {L : List Int} {i : Nat} (h : i < L.length) : L2.atI ((L.map D.int).map M.fz) (i : Int) = some (.fz (.int L[i])) := by
  refine atI_nat ?_
  simp [h]
theorem elems_o {env : En} {ms : List M} : elems env (.ol ms) = some (true, ms) := by rfl
theorem cat_oo {env : En} {xs ys : List D} (h : xs.length + ys.length ≤ sizeLine) : oAdd env [oD xs, oD ys] = some (oD (xs ++ ys)) := by
  have h1 : sop iAdd env [oD xs, oD ys] = none := by
    unfold sop
    rw [dats_o (dats_o dats_n)]
    rfl
  have h2 : sop gStr env [oD xs, oD ys] = none := by
    unfold sop
    rw [dats_o (dats_o dats_n)]
    rfl
  have h3 : oCat env [oD xs, oD ys] = some (oD (xs ++ ys)) := by
    unfold oCat
    simp only [elems_o, List.length_map]
    rw [if_pos h]
    show _ = some (M.ol ((xs ++ ys).map M.fz))
    rw [List.map_append]
  show oOr (sop iAdd) (oOr (sop gStr) oCat) env _ = _
  unfold oOr
  rw [h1, h2, h3]
theorem idx_b {env : En} {i : Nat} {L : List Int} {k : Nat} (h : env.get i = some (oI L)) (hk : k < L.length) : oIdx env [.bp i [], .fz (.int (k : Int))] = some (.fz (.int L[k])) := by
  have h1 : oIx true env [.bp i [], .fz (.int (k : Int))] = some (.fz (.int L[k])) := by
    show (match elems env (.bp i []) with
      | some (c, xs) => if c = true then L2.atI xs (k : Int) else none
      | none => none) = _
    rw [elems_b h]
    exact atI_ints hk
  show oOr (oIx true) _ env _ = _
  unfold oOr
  rw [h1]
theorem idx_i {env : En} {L : List Int} {k : Nat} (hk : k < L.length) : oIdx env [.fz (lI L), .fz (.int (k : Int))] = some (.fz (.int L[k])) :=
  idx_f (atI_nat (by simp [hk]))
theorem append_ints {L : List Int} {x : Int} (h : L.length < sizeLine) : mAppend ((L.map D.int).map .fz) [.fz (.int x)] = some (((L ++ [x]).map D.int).map .fz, .fz .non) := by
  rw [append_fz (by simpa using h), List.map_append, List.map_append]
  rfl
theorem k_eqF {env : En} {i j : Int} : sop (gEq false) env [.fz (.int i), .fz (.int j)] = some (.fz (.bl (i == j))) := k_eq.trans (by simp)
theorem k_eqT {env : En} {i j : Int} : sop (gEq true) env [.fz (.int i), .fz (.int j)] = some (.fz (.bl (!(i == j)))) := k_eq.trans (by simp)
theorem lifI_of {it : En → Option (List D)} {env : En} {ds : List D} (h : it env = some ds) : lifI it env = some (ds, env) := by
  unfold lifI
  rw [h]
end T2
end
section
set_option Elab.async false
set_option linter.all false
set_option maxRecDepth 100000
namespace T2
open PySem PySem.Spec PyProof.Rows L2
/-- own slots as they were, the others as they are -/
def En.back : List Nat → En → En → En
  | [], _, e => e
  | v :: vs, o, e => (En.back vs o e).set v (o.get v)
/-- own slots hold nothing that changes -/
def okV (env : En) : List Nat → Bool
  | [] => true
  | v :: vs => (match env.get v with
    | none => true
    | some (.fz _) => true
    | _ => false) && okV env vs
/-- the items, the outer slots going along -/
def lcLX (vs : List Nat) (t : Tg) (cond : En → Option Bool) (elt : En → Option (M × En)) : List D → En → Option (List M × En)
  | [], env => some ([], env)
  | d :: ds, env => match asT (lkOf vs) t d (env.wipe vs) with
    | some e1 => match cond e1 with
      | some true => match elt e1 with
        | some (m, e2) => if (slots m).isEmpty && okV env vs then (match lcLX vs t cond elt ds (En.back vs env e2) with
          | some (ms, e3) => some (m :: ms, e3)
          | none => none) else none
        | none => none
      | some false => lcLX vs t cond elt ds env
      | none => none
    | none => none
def lcX (vs : List Nat) (t : Tg) (it : En → Option (List D × En)) (cond : En → Option Bool) (elt : En → Option (M × En)) : En → Option (M × En) := fun env => match it env with
  | some (ds, e1) => match lcLX vs t cond elt ds e1 with
    | some (ms, e2) => if ms.length ≤ sizeLine then some (.ol ms, e2) else none
    | none => none
  | none => none
def itR1X (gs : En → Option (List M × En)) : En → Option (List D × En) := fun env => match gs env with
  | some ([.fz (.int j)], e1) => if inR j then some (rngD 0 j.toNat, e1) else none
  | _ => none
section
variable {X : Cx} {tg a b : Expr} {gs : En → Option (List M × En)} {p pos : Pos}
theorem pdi_range1X (hg : Gl X "range") (hm : X.mg "range" = none) (ha : PXA X [a] gs) (hs : starEach [a] X.env = [(false, eval a X.env)] := by rfl) : PDI X tg (.Call (.Name "range" p) [a] [] pos) (itR1X gs) :=
  PI.imp (pi_range1 hg hm ha hs) fun σ H R h => by
    obtain ⟨env, ds, env', F, fp, e, ok, q⟩ := h
    unfold itR1X at e
    split at e
    · rename_i j e1 hj
      split at e
      · rename_i hr
        cases e
        refine ⟨env, [.fz (.int j)], _, F, fp, hj, ok, fun vs F1 H1 fp1 A g o n a' b' => ?_⟩
        obtain ⟨v, rfl, o1⟩ := ownL1 o
        simp only [Own, Rep] at o1
        unfold inR at hr
        have hr := of_decide_eq_true hr
        exact ⟨j, by rw [o1.2], hr.1, hr.2, q _ F1 H1 fp1 g it_rng⟩
      · cases e
    · cases e
end
end T2
end
section
set_option Elab.async false
set_option linter.all false
set_option maxRecDepth 100000
namespace T2
open PySem
section
variable {env e1 e2 e3 : En} {f g t : En → Option M} {fs : En → Option (List M)} {a b r m m' : M} {ms bs as : List M} {o : En → List M → Option M} {d : D} {i k : Nat} {S T : En → Option Fl} {R : Option Fl} {c c' : Bool}
theorem x_nam {i : Nat} (h : env.get i = some m) (h' : namM i (some m) = some r) : nam i env = some r := by rw [e_nam, h, h']
theorem x_lifT {t : En → Option Bool} (h : t env = some c) : lifT t env = some (c, env) := by unfold lifT; rw [h]
theorem x_if {t : En → Option (Bool × En)} (h : t env = some (c, e1)) (h' : (if c = true then S e1 else T e1) = R) : sIf t S T env = R := by
  unfold sIf
  rw [h]
  cases c
  · simpa using h'
  · simpa using h'
theorem x_or {f g : En → Option Bool} (h : f env = some c) (h' : g env = some c') : dOr f g env = some (c || c') := by
  unfold dOr; rw [h]
  cases c
  · simpa using h'
  · rfl
theorem x_and {f g : En → Option Bool} (h : f env = some c) (h' : g env = some c') : dAnd f g env = some (c && c') := by
  unfold dAnd; rw [h]
  cases c
  · rfl
  · simpa using h'
theorem x_vand (h : f env = some (.fz (.bl c))) (h' : g env = some (.fz (.bl c'))) : vAnd f g env = some (.fz (.bl (c && c'))) := by
  unfold vAnd; rw [h]
  cases c
  · rfl
  · simpa using h'
theorem x_vor (h : f env = some (.fz (.bl c))) (h' : g env = some (.fz (.bl c'))) : vOr f g env = some (.fz (.bl (c || c'))) := by
  unfold vOr; rw [h]
  cases c
  · simpa using h'
  · rfl
theorem x_dif {t : En → Option Bool} (h : t env = some c) (h' : f env = some a) (h'' : g env = some b) : dIf t f g env = some (if c = true then a else b) := by
  unfold dIf; rw [h]
  cases c
  · simpa using h''
  · simpa using h'
theorem x_val {t : En → Option Bool} (h : t env = some c) : val t env = some (.fz (.bl c)) := by unfold val; rw [h]
/-- name = value -/
theorem x_asg {lk : Nat → Bool} {i k : Nat} {G : En → Option (M × En)} {m2 : M} (hl : lk i = false) (h : G env = some (m, e1)) (hs : stow k e1 m = some (m', e2)) (hm : m' = m2) (hi : Nat.ble (i + 1) e2.length = true) (he : e2.put i m2 = e3) : sAsg lk i k G env = some (.nx e3) := by
  subst hm he
  exact asgX_of h hs hl (Nat.le_of_ble_eq_true hi)
theorem nrm_I {v w : Int} (h : v = w) : (M.fz (.int v)) = .fz (.int w) := by rw [h]
theorem nrm_B {v w : Bool} (h : v = w) : (M.fz (.bl v)) = .fz (.bl w) := by rw [h]
theorem nrm_O {v w : List Int} (h : v = w) : oI v = oI w := by rw [h]
theorem nrm_L {v w : List Int} (h : v = w) : (M.fz (lI v)) = .fz (lI w) := by rw [h]
theorem x_ret {lk : Nat → Bool} {G : En → Option (M × En)} {m2 : M} (h : G env = some (m, e1)) (hm : m = m2) (hs : retM lk e1 (some m2) = R) : sRet lk G env = R := by
  subst hm
  unfold retM sRet at hs
  unfold sRet
  rw [h]
  exact hs
theorem stow_f {k : Nat} : stow k env (.fz d) = some (.fz d, env) := by cases k <;> rfl
theorem x_mutP {fo : En → Option M} {mu : List M → List M → Option (List M × M)} {ms' : List M} {res : M} {p : List Pa} (h1 : fo env = some (.bp i p)) (h2 : fs env = some as) (h0 : isOl (env.place i p) = true) (h3 : stowA k env as = some (bs, e2)) (h4 : e2.place i p = some (.ol ms)) (h5 : mu ms bs = some (ms', res)) (h6 : setE e2 i p (.ol ms') = some e3) : xMutP k fo fs mu env = some (res, e3) := by
  unfold xMutP
  rw [h1]
  simp only [h2, h0, h3, if_true, h4, h5, h6]
theorem setE_put {m0 : M} (h : env.get i = some m0) (he : env.put i m = e1) : setE env i [] m = some e1 := by subst he; exact setE_z h
theorem x_mut {fo : En → Option M} {gs : En → Option (List M × En)} {mu : List M → List M → Option (List M × M)} {ms' : List M} {res : M} (h1 : fo env = some (.bp i [])) (h2 : gs env = some (as, e1)) (h0 : alv e1 (.bp i []) = true ∧ isOl (env.place i []) = true) (h3 : stowA k e1 as = some (bs, e2)) (h4 : e2.get i = some (.ol ms)) (h5 : mu ms bs = some (ms', res)) (he : e2.put i (.ol ms') = e3) : xMut k fo gs mu env = some (res, e3) := by
  subst he
  exact mutX_of h1 h2 h0 h3 h4 h5
theorem x_callI {io : List Bool} {F : Fn} {gs : En → Option (List M × En)} {i : Nat} {rest tl cs : List M} {n n' : M} (h1 : gs env = some (.bp i [] :: rest, e1)) (h2 : slotsL rest = []) (h3 : e1.get i = some n) (h4 : shutZ io.tail rest = some cs) (h5 : F (n :: cs) = some (r, n' :: tl)) (he : e1.put i n' = e2) : callI io F gs env = some (r, e2) := by
  subst he
  exact callI_of h1 h2 h3 h4 h5
theorem x_set {fo fi : En → Option M} {G : En → Option (M × En)} {ms' : List M} {r2 : M} {j : Int} (h1 : G env = some (m, e1)) (h2 : stow k e1 m = some (m', e2)) (h3 : fo e2 = some (.bp i [])) (h4 : fi e2 = some (.fz (.int j))) (h5 : e2.get i = some (.ol ms)) (h6 : mSet ms [.fz (.int j), m'] = some (ms', r2)) (he : e2.put i (.ol ms') = e3) : sSet k fo fi G env = some (.nx e3) := by
  subst he
  exact set_of h1 h2 h3 h4 h5 h6
theorem x_augN {lk : Nat → Bool} {op : Int → Int → Int} {i : Nat} {G : En → Option (M × En)} {x y : Int} (h : env.get i = some (.fz (.int x))) (h' : G env = some (.fz (.int y), e1)) (hl : lk i = false) (hi : Nat.ble (i + 1) e1.length = true) (he : e1.put i (.fz (.int (op x y))) = e2) : sAugN lk op i G env = some (.nx e2) := by
  subst he
  unfold sAugN
  rw [h]
  simp only [h']
  rw [if_pos ⟨hl, Nat.le_of_ble_eq_true hi⟩]
theorem x_for {lk : Nat → Bool} {t : Tg} {it : En → Option (List D × En)} {ds : List D} (h : it env = some (ds, e1)) (h' : lpF lk t S ds e1 = R) : sFor lk t it S env = R := for_of h h'
/-- ranges -/
theorem x_rng1 {j : Int} (h : fs env = some [.fz (.int j)]) (h' : inR j = true) : itR1 fs env = some (rngD 0 j.toNat) := by
  unfold itR1
  rw [h]
  simp only [h', if_true]
theorem x_rng2 {i j : Int} (h : fs env = some [.fz (.int i), .fz (.int j)]) (h' : inR i = true) (h'' : inR j = true) : itR2 fs env = some (rngD i (j - i).toNat) := by
  unfold itR2
  rw [h]
  simp only [h', h'', Bool.and_self, if_true]
theorem rngD0 (n : Nat) : rngD 0 n = (List.range n).map fun k : Nat => D.int k := by unfold rngD; simp
theorem inR_of {j : Int} (h : -(2 ^ 62) ≤ j) (h' : j < 2 ^ 62) : inR j = true := by unfold inR; exact decide_eq_true ⟨h, h'⟩
theorem x_xop {gs : En → Option (List M × En)} (h : gs env = some (ms, e1)) (h' : o e1 ms = some r) : xop o gs env = some (r, e1) := xop_of h h'
theorem isi_int {x : Int} (h : f env = some (.fz (.int x))) : oIsi (kitT "int") f env = some (.fz (.bl true)) := by
  unfold oIsi; rw [h]; rfl
theorem isi_nbool {x : Int} (h : f env = some (.fz (.int x))) : oIsi (kitT "bool") f env = some (.fz (.bl false)) := by
  unfold oIsi; rw [h]; rfl
theorem items_lst {ds : List D} (h : f env = some m) (h' : items env m = some (.lst ds)) : itP true f env = some ds := by
  unfold itP
  rw [h]
  simp only [h']
  rfl
def at1 (L : List Int) (j : Int) : Int := L.getD j.toNat 0
theorem at1_nat {L : List Int} {k : Nat} (h : k < L.length) : at1 L k = L[k] := by unfold at1; simp [h]
theorem x_idxF {L : List Int} {j : Int} (h0 : 0 ≤ j) (h1 : j < L.length) : oIdx env [.fz (lI L), .fz (.int j)] = some (.fz (.int (at1 L j))) := by
  obtain ⟨k, rfl⟩ : ∃ k : Nat, j = k := ⟨j.toNat, by omega⟩
  have hk : k < L.length := by omega
  rw [at1_nat hk]
  exact idx_i hk
theorem x_idxB {i : Nat} {L : List Int} {j : Int} (h : env.get i = some (oI L)) (h0 : 0 ≤ j) (h1 : j < L.length) : oIdx env [.bp i [], .fz (.int j)] = some (.fz (.int (at1 L j))) := by
  obtain ⟨k, rfl⟩ : ∃ k : Nat, j = k := ⟨j.toNat, by omega⟩
  have hk : k < L.length := by omega
  rw [at1_nat hk]
  exact idx_b h hk
theorem x_idxO {L : List Int} {j : Int} (h0 : 0 ≤ j) (h1 : j < L.length) : oIdx env [oI L, .fz (.int j)] = some (.fz (.int (at1 L j))) := by
  obtain ⟨k, rfl⟩ : ∃ k : Nat, j = k := ⟨j.toNat, by omega⟩
  have hk : k < L.length := by omega
  rw [at1_nat hk]
  have h1 : oIx true env [oI L, .fz (.int (k : Int))] = some (.fz (.int L[k])) := by
    show L2.atI ((L.map D.int).map M.fz) (k : Int) = _
    exact atI_ints hk
  show oOr (oIx true) _ env _ = _
  unfold oOr
  rw [h1]
theorem x_lenI {L : List Int} (h : f env = some m) (hd : dats env [m] = some [lI L]) : opr (sop gLen) (aCons f aNil) env = some (.fz (.int L.length)) := by
  have := len_b h hd
  rwa [List.length_map] at this
theorem x_lenS {ns : List Int} (h : f env = some (.fz (.scr ns))) : opr (sop gLen) (aCons f aNil) env = some (.fz (.int ns.length)) :=
  opr_of (acons_of h e_anil) (sop_of (dats_f dats_n) (show gLen [.scr ns] = some (.int ns.length) from rfl) rfl)
theorem x_sumI {L : List Int} (h : f env = some a) (ha : dats env [a] = some [lI L]) : opr (sop gSum) (aCons f aNil) env = some (.fz (.int L.sum)) := sum_of h ha
theorem x_append {L : List Int} {x : Int} (h : (L.length : Int) < 16777216) : mAppend ((L.map D.int).map .fz) [.fz (.int x)] = some (((L ++ [x]).map D.int).map .fz, .fz .non) := append_ints (by simp only [sizeLine]; omega)
theorem x_mset {L : List Int} {j x : Int} (h0 : 0 ≤ j) (h1 : j < L.length) : mSet ((L.map D.int).map .fz) [.fz (.int j), .fz (.int x)] = some (((L.set j.toNat x).map D.int).map .fz, .fz .non) := by
  obtain ⟨k, rfl⟩ : ∃ k : Nat, j = k := ⟨j.toNat, by omega⟩
  rw [mSet_nat (by omega), Int.toNat_natCast]
theorem x_sl {lo hi : Option (En → Option M)} {l h : Option Int} (h0 : f env = some m) (hl : sPart lo env = some l) (hh : sPart hi env = some h) (hs : slM env l h m = some r) : oSl f lo hi env = some r := by
  unfold oSl
  rw [h0, hl, hh]
  exact hs
theorem part_n : sPart none env = some none := by rfl
theorem part_s {j : Int} (h : f env = some (.fz (.int j))) : sPart (some f) env = some (some j) := by
  simp only [sPart, h]
theorem slM_b {i : Nat} {L : List Int} {l h : Option Int} (h0 : env.get i = some (oI L)) : slM env l h (.bp i []) = some (oI (cutM L l h)) := by
  unfold slM
  simp only [elems_b h0, cut_map]
theorem slM_s {ns : List Int} {l h : Option Int} : slM env l h (.fz (.scr ns)) = some (oI (cutM ns l h)) := by
  show some (M.ol ((cutM ns l h).map fun n => .fz (.int n))) = _
  show _ = some (M.ol (((cutM ns l h).map D.int).map M.fz))
  rw [List.map_map]
  rfl
theorem slM_f {L : List Int} {l h : Option Int} : slM env l h (.fz (lI L)) = some (oI (cutM L l h)) := by
  show some (M.ol ((cutM ((L.map D.int).map M.fz) l h))) = _
  rw [cut_map, cut_map]
theorem sub_from {α : Type} (xs : List α) (k : Nat) : cutM xs (some (k : Int)) none = xs.drop k := by
  unfold cutM
  have h1 : ¬ (k : Int) < 0 := by omega
  simp only [HT.sIx, if_neg h1]
  by_cases h : k ≤ xs.length
  · have : min (Int.toNat (k : Int)) xs.length = k := by omega
    simp [List.take_of_length_le, Nat.min_eq_left h]
  · simp [List.drop_eq_nil_of_le, Nat.le_of_lt (Nat.lt_of_not_le h), Nat.min_eq_right (Nat.le_of_lt (Nat.lt_of_not_le h))]
theorem x_cat {xs ys : List Int} (h : xs.length + ys.length ≤ sizeLine) : oAdd env [oI xs, oI ys] = some (oI (xs ++ ys)) := by
  have := cat_oo (env := env) (xs := xs.map .int) (ys := ys.map .int) (by simpa using h)
  rw [this]
  show some (oD _) = some (oD _)
  rw [List.map_append]
theorem k_lstI1 {x : Int} : oLst env [.fz (.int x)] = some (oI [x]) := k_lst (by simp [sizeLine])
theorem k_lstI0 : oLst env [] = some (oI []) := k_lst (by simp [sizeLine])
def rngI (n : Int) : List Int := (List.range n.toNat).map fun k : Nat => (k : Int)
def rngI2 (i j : Int) : List Int := (List.range (j - i).toNat).map fun k : Nat => i + (k : Int)
theorem mem_rngI {n x : Int} : x ∈ rngI n ↔ 0 ≤ x ∧ x < n := by
  unfold rngI
  simp only [List.mem_map, List.mem_range]
  constructor
  · rintro ⟨k, hk, rfl⟩
    omega
  · rintro ⟨h, h'⟩
    exact ⟨x.toNat, by omega, by omega⟩
theorem mem_rngI2 {i j x : Int} : x ∈ rngI2 i j ↔ i ≤ x ∧ x < j := by
  unfold rngI2
  simp only [List.mem_map, List.mem_range]
  constructor
  · rintro ⟨k, hk, rfl⟩
    omega
  · rintro ⟨h, h'⟩
    exact ⟨(x - i).toNat, by omega, by omega⟩
theorem rngI_len {n : Int} : (rngI n).length = n.toNat := by unfold rngI; simp
theorem rngI2_len {i j : Int} : (rngI2 i j).length = (j - i).toNat := by unfold rngI2; simp
theorem x_rI1 {j : Int} (h : fs env = some [.fz (.int j)]) (h' : inR j = true) : itR1 fs env = some ((rngI j).map .int) := by
  rw [x_rng1 h h', rngD0]
  unfold rngI
  rw [List.map_map]
  rfl
theorem x_rI2 {i j : Int} (h : fs env = some [.fz (.int i), .fz (.int j)]) (h' : inR i = true) (h'' : inR j = true) : itR2 fs env = some ((rngI2 i j).map .int) := by
  rw [x_rng2 h h' h'']
  unfold rngI2 rngD
  rw [List.map_map]
  rfl
theorem asT_nm {lk : Nat → Bool} {i : Nat} (h : lk i = false) (h' : Nat.ble (i + 1) env.length = true) (he : env.put i (.fz d) = e1) : asT lk (.nm i) d env = some e1 := by
  subst he
  unfold asT
  rw [if_pos ⟨h, Nat.le_of_ble_eq_true h'⟩]
theorem lp_inv {lk : Nat → Bool} {t : Tg} {B : En → Option Fl} (Inv : List D → En → Prop) (ts : List D) (hs : ∀ pre d post, pre ++ d :: post = ts → ∀ e, Inv pre e → ∃ e1 e2, asT lk t d e = some e1 ∧ B e1 = some (.nx e2) ∧ Inv (pre ++ [d]) e2) {e : En} (h0 : Inv [] e) :
    ∃ e', lpF lk t B ts e = some (.nx e') ∧ Inv ts e' := by
  suffices ∀ (post pre : List D) (e : En), pre ++ post = ts → Inv pre e → ∃ e', lpF lk t B post e = some (.nx e') ∧ Inv ts e' from this ts [] e rfl h0
  intro post
  induction post with
  | nil =>
    intro pre e hp h
    rw [List.append_nil] at hp
    subst hp
    exact ⟨e, lp_nil, h⟩
  | cons d post ih =>
    intro pre e hp h
    obtain ⟨e1, e2, h1, h2, h3⟩ := hs pre d post hp e h
    obtain ⟨e', h4, h5⟩ := ih (pre ++ [d]) e2 (by rw [List.append_assoc]; exact hp) h3
    exact ⟨e', lp_cons h1 h2 h4, h5⟩
/-- over range(n): the turn's number -/
theorem lp_rng {lk : Nat → Bool} {t : Tg} {B : En → Option Fl} (Inv : Nat → En → Prop) (n : Int) (hs : ∀ k : Nat, (k : Int) < n → ∀ e, Inv k e → ∃ e1 e2, asT lk t (.int k) e = some e1 ∧ B e1 = some (.nx e2) ∧ Inv (k + 1) e2) {e : En} (h0 : Inv 0 e) :
    ∃ e', lpF lk t B ((rngI n).map .int) e = some (.nx e') ∧ Inv n.toNat e' := by
  obtain ⟨e', h1, h2⟩ := lp_inv (lk := lk) (t := t) (B := B) (fun pre e => Inv pre.length e) ((rngI n).map .int) (fun pre d post hp e h => by
    have hd : ((rngI n).map D.int)[pre.length]? = some d := by rw [← hp]; simp
    have hlen : pre.length < ((rngI n).map D.int).length := by rw [← hp]; simp
    rw [List.length_map, rngI_len] at hlen
    have : d = .int pre.length := by
      unfold rngI at hd
      rw [List.map_map, List.getElem?_map, List.getElem?_range hlen] at hd
      cases hd
      rfl
    subst this
    obtain ⟨e1, e2, g1, g2, g3⟩ := hs pre.length (by omega) e h
    exact ⟨e1, e2, g1, g2, by simpa using g3⟩) h0
  rw [List.length_map, rngI_len] at h2
  exact ⟨e', h1, h2⟩
theorem k_eqLF {xs ys : List Int} (hd : dats env [a, b] = some [lI xs, lI ys]) : sop (gEq false) env [a, b] = some (.fz (.bl (xs == ys))) := (sop_of hd (gEq_ints false xs ys) rfl).trans (by simp)
theorem k_eqLT {xs ys : List Int} (hd : dats env [a, b] = some [lI xs, lI ys]) : sop (gEq true) env [a, b] = some (.fz (.bl (!(xs == ys)))) := (sop_of hd (gEq_ints true xs ys) rfl).trans (by simp)
theorem g_get {i : Nat} (h : En.get env i = some m) : En.get env i = some m := h
theorem g_place {i : Nat} {p : List Pa} (h : En.place env i p = some m) : En.place env i p = some m := h
theorem g_isOl {q : Option M} (h : isOl q = true) : isOl q = true := h
theorem g_alv (h : alv env m = true) : alv env m = true := h
theorem g_alv2 {q : Prop} (h : alv env m = true) (h' : q) : alv env m = true ∧ q := ⟨h, h'⟩
theorem g_stow {k : Nat} {q : Option (M × En)} (h : stow k env m = q) : stow k env m = q := h
theorem g_slots {l : List Nat} (h : slotsL ms = l) : slotsL ms = l := h
theorem g_ble {x y : Nat} (h : Nat.ble x y = true) : Nat.ble x y = true := h
theorem g_put {i : Nat} (h : En.put env i m = e1) : En.put env i m = e1 := h
theorem g_retM {lk : Nat → Bool} {q : Option M} (h : retM lk env q = R) : retM lk env q = R := h
theorem g_outs {lk : Nat → Bool} {j : Nat} {q : Option (List M)} (h : outs lk env j ms = q) : outs lk env j ms = q := h
theorem g_shut {io : List Bool} {q : Option (List M)} (h : shutZ io ms = q) : shutZ io ms = q := h
theorem slotsL_n : slotsL [] = [] := rfl
theorem slotsL_cf (h : slotsL ms = []) : slotsL (.fz d :: ms) = [] := h
theorem slotsL_co {ds : List D} (h : slotsL ms = []) : slotsL (oD ds :: ms) = [] := by
  show slotsL (ds.map .fz) ++ slotsL ms = []
  rw [slotsL_fz, h]
  rfl
theorem shutZ_n : shutZ [] [] = some [] := rfl
theorem stowA_n {k : Nat} : stowA k env [] = some ([], env) := rfl
theorem stowA_1 {k : Nat} (h : stow k env m = some (m', e1)) : stowA k env [m] = some ([m'], e1) := by
  unfold stowA
  simp only [h]
theorem stowA_2 {k : Nat} (h : stow k env m = some (m', e1)) : stowA k env [.fz d, m] = some ([.fz d, m'], e1) := by
  unfold stowA
  simp only [h]
theorem g_eq {A : Type} {x : Option A} {y : A} (h : x = some y) : x = some y := h
theorem g_prop {p : Prop} (h : p) : p := h
theorem x_augI {op : Int → Int → Int} {fo fi fe : En → Option M} {i : Nat} {j b : Int} {L : List Int} (h1 : fo env = some (.bp i [])) (h2 : fi env = some (.fz (.int j))) (h3 : fe env = some (.fz (.int b))) (h4 : env.get i = some (oI L)) (h5 : 0 ≤ j) (h6 : j < L.length) (he : env.put i (oI (L.set j.toNat (op (at1 L j) b))) = e1) : sAugI op fo fi fe env = some (.nx e1) := by
  subst he
  have h7 : L2.atI ((L.map D.int).map M.fz) j = some (.fz (.int (at1 L j))) := by
    obtain ⟨k, rfl⟩ : ∃ k : Nat, j = k := ⟨j.toNat, by omega⟩
    rw [at1_nat (by omega)]
    exact atI_ints (by omega)
  exact augI_of h1 h2 h3 h4 h7 (x_mset h5 h6)
theorem setE_p1 {i k : Nat} {p : List Pa} {ms ms' : List M} {x n : M} (hp : p = [.ix k]) (h : env.get i = some (.ol ms)) (hk : ms[k]? = some x) (hs : ms.set k n = ms') (he : env.put i (.ol ms') = e1) : setE env i p n = some e1 := by
  subst hs he hp
  unfold setE
  rw [h]
  have : setP (.ol ms) [.ix k] n = some (.ol (ms.set k n)) := by
    show (match ms[k]? with
      | some m => (setP m [] n).map fun m' => M.ol (ms.set k m')
      | none => none) = _
    rw [hk]
    simp only [setP_nil, Option.map_some]
  simp only [this, Option.map_some]
theorem g_set {ms ms' : List M} {k : Nat} {n : M} (h : ms.set k n = ms') : ms.set k n = ms' := h
theorem x_unp {lk : Nat → Bool} {t : Tg} {G : En → Option (M × En)} (h : G env = some (m, e1)) (hs : stow 0 e1 m = some (.fz d, e2)) (ha : asT lk t d e2 = some e3) : sUnp lk t G env = some (.nx e3) := by
  unfold sUnp
  rw [h]
  simp only [hs, ha]
theorem asT_tp {lk : Nat → Bool} {ts : List Tg} {ds : List D} (h : ts.length = ds.length) (h' : asTs lk ts ds env = some e1) : asT lk (.tp ts) (.tup ds) env = some e1 := by
  unfold asT
  rw [if_pos h]
  exact h'
theorem asT_tl {lk : Nat → Bool} {ts : List Tg} {ds : List D} (h : ts.length = ds.length) (h' : asTs lk ts ds env = some e1) : asT lk (.tp ts) (.lst ds) env = some e1 := by
  unfold asT
  rw [if_pos h]
  exact h'
theorem asTs_n {lk : Nat → Bool} : asTs lk [] [] env = some env := by unfold asTs; rfl
theorem asTs_c {lk : Nat → Bool} {t : Tg} {ts : List Tg} {ds : List D} (h : asT lk t d env = some e1) (h' : asTs lk ts ds e1 = some e2) : asTs lk (t :: ts) (d :: ds) env = some e2 := by
  unfold asTs
  rw [h]
  exact h'
theorem x_wh {n : Nat} {c : En → Option (Bool × En)} (h : lpW c S n env = R) : sWh n c S env = R := h
theorem g_lp {lk : Nat → Bool} {t : Tg} {ts : List D} (h : lpF lk t S ts env = R) : lpF lk t S ts env = R := h
theorem g_lw {n : Nat} {c : En → Option (Bool × En)} (h : lpW c S n env = R) : lpW c S n env = R := h
theorem shut_f {k : Nat} : shut k (.fz d) = some (.fz d) := by cases k <;> rfl
theorem shut_s {k : Nat} {ds : List D} : shut (k + 1) (oD ds) = some (oD ds) := by
  show (shutL k (ds.map .fz)).map M.ol = _
  rw [shutL_fz]
  rfl
theorem shut_ol {k : Nat} {ms ms' : List M} (h : shutL k ms = some ms') : shut (k + 1) (.ol ms) = some (.ol ms') := by
  show (shutL k ms).map M.ol = _
  rw [h]
  rfl
theorem shut_ot {k : Nat} {ms ms' : List M} (h : shutL k ms = some ms') : shut (k + 1) (.ot ms) = some (.ot ms') := by
  show (shutL k ms).map M.ot = _
  rw [h]
  rfl
theorem shutL_n {k : Nat} : shutL k [] = some [] := by cases k <;> rfl
theorem shutL_c {k : Nat} {ms ms' : List M} (h : shut k m = some m') (h' : shutL k ms = some ms') : shutL k (m :: ms) = some (m' :: ms') := by
  show (match shut k m, shutL k ms with
    | some n, some ns => some (n :: ns)
    | _, _ => none) = _
  rw [h, h']
theorem stow_ol {k : Nat} {ms ms' : List M} (h : slotsL ms = []) (h' : shutL k ms = some ms') : stow (k + 1) env (.ol ms) = some (.ol ms', env) := by
  unfold stow
  rw [show slots (.ol ms) = [] from h]
  show (shut (k + 1) (.ol ms)).map _ = _
  rw [shut_ol h']
  rfl
theorem stow_ot {k : Nat} {ms ms' : List M} (h : slotsL ms = []) (h' : shutL k ms = some ms') : stow (k + 1) env (.ot ms) = some (.ot ms', env) := by
  unfold stow
  rw [show slots (.ot ms) = [] from h]
  show (shut (k + 1) (.ot ms)).map _ = _
  rw [shut_ot h']
  rfl
theorem slotsL_cl {ns : List M} (h : slotsL ns = []) (h' : slotsL ms = []) : slotsL (.ol ns :: ms) = [] := by
  show slotsL ns ++ slotsL ms = []
  rw [h, h']
  rfl
theorem slotsL_ct {ns : List M} (h : slotsL ns = []) (h' : slotsL ms = []) : slotsL (.ot ns :: ms) = [] := by
  show slotsL ns ++ slotsL ms = []
  rw [h, h']
  rfl
theorem g_meq {m m' : M} (h : m = m') : m = m' := h
end
end T2
end
section
set_option Elab.async false
set_option linter.all false
set_option maxRecDepth 100000
namespace T2
open PySem PySem.Spec PyProof.Rows L2
def lpO (x : Nat) (body : En → Option Fl) : List M → En → Option (List M × En)
  | [], env => some ([], env)
  | m :: ms, env => match body (env.put x m) with
    | some (.nx e2) => match e2.get x with
      | some m' => match lpO x body ms (e2.kill x) with
        | some (ms', e3) => some (m' :: ms', e3)
        | none => none
      | none => none
    | _ => none
def sForO (lk : Nat → Bool) (i x : Nat) (body : En → Option Fl) : En → Option Fl := fun env => match env.get i with
  | some (.ol ms) => if lk x = false ∧ x < env.length ∧ i ≠ x then (match lpO x body ms ((env.kill i).kill x) with
    | some (ms', e) => some (.nx (e.put i (.ol ms')))
    | none => none) else none
  | _ => none
section
variable {X : Cx} {lk lk' : Nat → Bool} {body : List Stmt} {f : En → Option Fl} {pos p1 p2 : Pos} {i x : Nat} {y z : Str}
theorem ond_kill {env : En} {fp : Nat → List Addr} {i : Nat} {a : Addr} (h : Ond (env.kill i) fp a) : Ond env fp a ∧ (∃ j, j ≠ i ∧ ∃ m, env.get j = some m ∧ a ∈ fp j) := by
  obtain ⟨j, m, e, ha⟩ := h
  rw [En.get_kill] at e
  split at e
  · cases e
  · rename_i hne
    exact ⟨⟨j, m, e, ha⟩, j, hne, m, e, ha⟩
theorem pds_forO (hp : PassesOwn (model X.prog X.w) X.A X.env X.xe) (hc : X.calm = true) (hN : X.N.Nodup) (hz : X.N[i]? = some z) (hy : X.N[x]? = some y) (hv : Vis X.env.scope z) (hd : (z == ("__debug__" : Str)) = false) (hcd : (z == ("__classdict__" : Str)) = false)
    (hx : Loc X.env.scope y) (hf : X.fn y = true ∨ X.env.scope.names.lookup y = some .local) (hl1 : ∀ j, lk j = true → lk' j = true) (hl2 : lk' i = true) (hl3 : lk' x = true) (hb : PDSs X lk' body f)
    (hs : ∀ w, foldedSetIterable (.Name z p1) X.env w = pure w := by intro _; rfl) : PDS X lk (.For (.Name y p2) (.Name z p1) body [] pos) (sForO lk i x f) := by
  refine PS.imp (ps_for hp hc (pi_list (pe_var hz hv hd hcd)) (pg_name hN hy hx hf) hb hs) fun D σ H h => ?_
  obtain ⟨env, r, F, fp, e, ok, q⟩ := h
  unfold sForO at e
  split at e
  · rename_i ms hm
    split at e
    · rename_i hcond
      obtain ⟨c1, c2, c3⟩ := hcond
      split at e
      · rename_i ms' ef hlp
        cases e
        obtain ⟨v, hv1, hv2⟩ := ok.slot i _ hm
        have hnd := ok.nd i _ hm
        simp only [Own] at hv2
        obtain ⟨p, vs, B, rfl, hfp, hFp, hHp, hO⟩ := hv2
        have g0 : Go X.K [] σ env fp F H σ ((env.kill i).kill x) fp F H := (kill_ok ok).trans (kill_ok (kill_ok ok).ok) (fun a z => by cases z)
        have hon : ∀ a, a ∈ p :: B → Ond env fp a := fun a ha => ⟨i, _, hm, by rw [hfp]; exact ha⟩
        have hoff : ∀ a, a ∈ p :: B → ¬ Ond ((env.kill i).kill x) fp a := fun a ha w => by
          obtain ⟨w1, _⟩ := ond_kill w
          obtain ⟨_, j, hj, m, hjm, hja⟩ := ond_kill w1
          exact hj (ok.dj j i m _ a hjm hm hja (by rw [hfp]; exact ha))
        rw [hfp] at hnd
        have hlen := hO.len
        refine ⟨_, hv1, p, rfl, ⟨vs, SqL.of hHp⟩, ?_⟩
        refine ⟨fun k mm σ' H' => mm = ms.length - k ∧ k ≤ ms.length ∧ ∃ env' F' fp' ms1 ms2 A1 A2, lpO x f (ms.drop k) env' = some (ms2, ef) ∧ ms' = ms1 ++ ms2 ∧ H' p = some (.lst vs) ∧ F' p = none ∧ OwnL X.K noBr F' H' ms1 (vs.take k) A1 ∧ OwnL X.K noBr F' H' (ms.drop k) (vs.drop k) A2 ∧
            (p :: (A1 ++ A2)).Nodup ∧ (∀ a ∈ p :: (A1 ++ A2), H a = none ∨ Ond env fp a) ∧ (∀ a ∈ p :: (A1 ++ A2), ¬ Ond env' fp' a) ∧ Go X.K [] σ env fp F H σ' env' fp' F' H' ∧ Lk lk σ σ' ∧ σ'[i]? = some (some (.ref p)) ∧ x < env'.length,
          ⟨_, rfl, Nat.zero_le _, _, F, fp, [], ms', [], B, by rw [List.drop_zero]; exact hlp, rfl, hHp, hFp, ownL_nil, by simpa using hO, by simpa using hnd, fun a ha => .inr (hon a (by simpa using ha)), fun a ha => hoff a (by simpa using ha), g0, fun _ _ => rfl, hv1, by simpa [En.kill] using c2⟩, fun k mm σ' H' hW => ?_⟩
        obtain ⟨rfl, hk, env', F', fp', ms1, ms2, A1, A2, hl, hms, hHp', hFp', hO1, hO2, hn, hA, hno, g, l, hsi, hxl⟩ := hW
        by_cases hlt : k < ms.length
        · right
          have hkv : k < vs.length := by omega
          have hdm : ms.drop k = ms[k] :: ms.drop (k + 1) := List.drop_eq_getElem_cons hlt
          have hdv : vs.drop k = vs[k] :: vs.drop (k + 1) := List.drop_eq_getElem_cons hkv
          rw [hdm] at hl hO2
          rw [hdv] at hO2
          simp only [OwnL] at hO2
          obtain ⟨u, rest, Bk, Ck, hu, hAk, hok, hrest⟩ := hO2
          cases hu
          subst hAk
          simp only [lpO] at hl
          refine ⟨⟨vs, vs[k], SqL.of hHp', by rw [List.getElem?_eq_getElem hkv]⟩, fun σ5 H5 => ∃ env' F' fp' ms1 ms2 A1 A2, lpO x f (ms.drop (k + 1)) env' = some (ms2, ef) ∧ ms' = ms1 ++ ms2 ∧ H5 p = some (.lst vs) ∧ F' p = none ∧ OwnL X.K noBr F' H5 ms1 (vs.take (k + 1)) A1 ∧ OwnL X.K noBr F' H5 (ms.drop (k + 1)) (vs.drop (k + 1)) A2 ∧
            (p :: (A1 ++ A2)).Nodup ∧ (∀ a ∈ p :: (A1 ++ A2), H a = none ∨ Ond env fp a) ∧ (∀ a ∈ p :: (A1 ++ A2), ¬ Ond env' fp' a) ∧ Go X.K [] σ env fp F H σ5 env' fp' F' H5 ∧ Lk lk σ σ5 ∧ σ5[i]? = some (some (.ref p)) ∧ x < env'.length,
            fun σ5 H5 hN5 => ⟨ms.length - (k + 1), by omega, rfl, hlt, hN5⟩, fun w H2 hyl => ?_⟩
          obtain ⟨rfl, hw⟩ := hyl
          have hw := hw vs (SqL.of hHp')
          rw [List.getElem?_eq_getElem hkv] at hw
          cases hw
          have hBk : ∀ a ∈ Bk, ¬ Ond env' fp' a := fun a ha => hno a (by simp [ha])
          have nBk : Bk.Nodup := by
            have := (List.nodup_cons.mp hn).2
            exact ((List.nodup_append.mp ((List.nodup_append.mp this).2.1)).1)
          have g1 := set_ok (i := x) (v := vs[k]) g.ok hok nBk hBk hxl
          show ∃ env r F fp, _
          split at hl
          · rename_i e2 he2
            split at hl
            · rename_i m' hm'
              split at hl
              · rename_i ms3 e3 hl3'
                cases hl
                refine ⟨_, _, F', _, he2, g1.ok, fun σ5 F5 H5 fp5 g5 l5 => ?_⟩
                have hsx' : x < σ'.length := by rw [← g.ok.len]; exact hxl
                have hsx : σ5[x]? = some (some vs[k]) := (l5 x hl3).trans (List.getElem?_set_self hsx')
                obtain ⟨u, hu1, hu2⟩ := g5.ok.slot x m' hm'
                rw [hsx] at hu1
                cases hu1
                have n0 := (List.nodup_cons.mp hn)
                have n1 := List.nodup_append.mp n0.2
                have n2 := List.nodup_append.mp n1.2.1
                have hmem : ∀ a, a ∈ p :: (A1 ++ Ck) → a ∈ p :: (A1 ++ (Bk ++ Ck)) := fun a ha => by
                  simp only [List.mem_cons, List.mem_append] at ha ⊢
                  rcases ha with h | h | h
                  · exact .inl h
                  · exact .inr (.inl h)
                  · exact .inr (.inr (.inr h))
                have hnB : ∀ a, a ∈ p :: (A1 ++ Ck) → a ∉ Bk := fun a ha hb => by
                  simp only [List.mem_cons, List.mem_append] at ha
                  rcases ha with h | h | h
                  · subst h
                    exact n0.1 (by simp [hb])
                  · exact n1.2.2 a h a (by simp [hb]) rfl
                  · exact n2.2.2 a hb a h rfl
                have hno1 : ∀ a, a ∈ p :: (A1 ++ Ck) → ¬ Ond (env'.put x ms[k]) (fun j => if j = x then Bk else fp' j) a := fun a ha ⟨j, m, hj, hja⟩ => by
                  rw [En.get_put hxl] at hj
                  by_cases e : j = x
                  · simp only [e, if_true] at hja
                    exact hnB a ha hja
                  · simp only [if_neg e] at hj hja
                    exact hno a (hmem a ha) ⟨j, m, hj, hja⟩
                have hold : ∀ a, a ∈ p :: (A1 ++ Ck) → F' a = none ∧ ∃ o, H2 a = some o := fun a ha => by
                  simp only [List.mem_cons, List.mem_append] at ha
                  rcases ha with h | h | h
                  · subst h
                    exact ⟨hFp', _, hHp'⟩
                  · exact hO1.at _ _ _ a h
                  · exact hrest.at _ _ _ a h
                have hF5 : ∀ a, a ∈ p :: (A1 ++ Ck) → F5 a = none := fun a ha => by
                  obtain ⟨h1, o, h2⟩ := hold a ha
                  cases z : F5 a with
                  | none => rfl
                  | some w =>
                    rcases g5.nw a (by rw [z]; simp) with w | w | w | w
                    · exact absurd h1 w
                    · rw [h2] at w
                      cases w
                    · exact absurd w (hno1 a ha)
                    · cases w
                have hH5 : ∀ a, a ∈ p :: (A1 ++ Ck) → ∀ o, H2 a = some o → H5 a = some o := fun a ha o e => g5.keep a o e (hno1 a ha) (by simp)
                have hno5 : ∀ a, a ∈ p :: (A1 ++ Ck) → ¬ Ond e2 fp5 a := fun a ha w => by
                  obtain ⟨_, o, h2⟩ := hold a ha
                  rcases g5.nf a w with z | z | z
                  · rw [h2] at z
                    cases z
                  · exact hno1 a ha z
                  · cases z
                have hx5 : ∀ a, a ∈ fp5 x → Ond e2 fp5 a := fun a ha => ⟨x, m', hm', ha⟩
                have htk : vs.take (k + 1) = vs.take k ++ [vs[k]] := by rw [List.take_succ, List.getElem?_eq_getElem hkv]; rfl
                have gg := ((g.trans g1 fun a ha => hA a (by simp [ha])).trans g5 fun a z => by cases z)
                refine ⟨e2.kill x, F5, fp5, ms1 ++ [m'], ms3, A1 ++ fp5 x, Ck, hl3', by rw [hms, List.append_assoc]; rfl, hH5 p (by simp) _ hHp', hF5 p (by simp), ?_, ?_, ?_, ?_, ?_, gg.trans (kill_ok g5.ok) (fun a z => by cases z), (l.trans (Lk.set c1)).trans fun j hj => l5 j (hl1 j hj), ?_, ?_⟩
                · rw [htk]
                  refine (hO1.mono g5.fr (fun _ _ _ z => z) _ _ _ fun a ha => ⟨hF5 a (by simp [ha]), hH5 a (by simp [ha])⟩).append ?_
                  simp only [OwnL]
                  exact ⟨_, [], fp5 x, [], rfl, by simp, hu2, rfl, rfl⟩
                · exact hrest.mono g5.fr (fun _ _ _ z => z) _ _ _ fun a ha => ⟨hF5 a (by simp [ha]), hH5 a (by simp [ha])⟩
                · refine List.nodup_cons.mpr ⟨fun hp5 => ?_, ?_⟩
                  · simp only [List.mem_append] at hp5
                    rcases hp5 with (h | h) | h
                    · exact n0.1 (by simp [h])
                    · exact hno5 p (by simp) (hx5 p h)
                    · exact n0.1 (by simp [h])
                  · refine List.nodup_append.mpr ⟨List.nodup_append.mpr ⟨n1.1, g5.ok.nd x m' hm', fun a ha b hb => ?_⟩, n2.2.1, fun a ha b hb => ?_⟩
                    · rintro rfl
                      exact hno5 a (by simp [ha]) (hx5 a hb)
                    · rintro rfl
                      rcases List.mem_append.mp ha with h | h
                      · exact n1.2.2 a h a (by simp [hb]) rfl
                      · exact hno5 a (by simp [hb]) (hx5 a h)
                · intro a ha
                  by_cases h : a ∈ fp5 x
                  · rcases g5.nf a (hx5 a h) with z | ⟨j, m, hj, hja⟩ | z
                    · exact .inl (g.stay a z)
                    · rw [En.get_put hxl] at hj
                      by_cases e : j = x
                      · simp only [e, if_true] at hja
                        exact hA a (by simp [hja])
                      · simp only [if_neg e] at hj hja
                        exact g.ond ⟨j, m, hj, hja⟩
                    · cases z
                  · refine hA a (hmem a ?_)
                    simp only [List.mem_cons, List.mem_append] at ha ⊢
                    rcases ha with h' | (h' | h') | h'
                    · exact .inl h'
                    · exact .inr (.inl h')
                    · exact absurd h' h
                    · exact .inr (.inr h')
                · intro a ha w
                  obtain ⟨w1, j, hj, m, hjm, hja⟩ := ond_kill w
                  by_cases h : a ∈ fp5 x
                  · exact hj (g5.ok.dj j x m m' a hjm hm' hja h)
                  · refine hno5 a ?_ w1
                    simp only [List.mem_cons, List.mem_append] at ha ⊢
                    rcases ha with h' | (h' | h') | h'
                    · exact .inl h'
                    · exact .inr (.inl h')
                    · exact absurd h' h
                    · exact .inr (.inr h')
                · rw [l5 i hl2, List.getElem?_set_ne (Ne.symm c3)]
                  exact hsi
                · have : x < e2.length := by
                    rw [g5.ok.len]
                    exact (List.getElem?_eq_some_iff.mp hsx).1
                  simpa [En.kill] using this
              · cases hl
            · cases hl
          · cases hl
        · left
          have hk' : k = ms.length := by omega
          subst hk'
          rw [List.drop_length] at hl hO2
          cases hl
          rw [List.append_nil] at hms
          subst hms
          simp only [OwnL] at hO2
          obtain ⟨hv0, rfl⟩ := hO2
          rw [List.append_nil] at hn hA hno
          have hil := (List.getElem?_eq_some_iff.mp hsi).1
          rw [← g.ok.len] at hil
          have ht : vs.take ms.length = vs := List.take_of_length_le (by omega)
          rw [ht] at hO1
          have hown : Own X.K noBr F' H' (.ol ms') (.ref p) (p :: A1) := by
            simp only [Own]
            exact ⟨p, vs, A1, rfl, rfl, hFp', hHp', hO1⟩
          have g1 := set_ok (i := i) (v := .ref p) g.ok hown hn hno hil
          have hset : σ'.set i (some (.ref p)) = σ' := by
            refine List.ext_getElem? fun j => ?_
            by_cases e : j = i
            · subst e
              rw [List.getElem?_set_self (by rw [← g.ok.len]; exact hil), hsi]
            · rw [List.getElem?_set_ne (Ne.symm e)]
          rw [hset] at g1
          exact ⟨⟨vs, SqL.of hHp', by omega⟩, q σ' F' H' _ (g.trans g1 hA) l⟩
      · cases e
    · cases e
  · cases e
end
def froz : Option M → Option M
  | some m => (dat0 m).map .fz
  | none => none
def frzT (f : En → Option Bool) : En → Option Bool := fun env => f (env.map froz)
def frzE (f : En → Option M) : En → Option M := fun env => match f (env.map froz) with
  | some r => if sLf r then some r else none
  | none => none
section
variable {K : PySem.W.Frag} {F H : Hp} {σ : L2.St} {env : En} {fp : Nat → List Addr}
theorem get_froz {i : Nat} {m : M} (h : En.get (env.map froz) i = some m) : ∃ n d, env.get i = some n ∧ dat0 n = some d ∧ m = .fz d := by
  unfold En.get at h ⊢
  rw [List.getElem?_map] at h
  cases hq : env[i]? with
  | none => rw [hq] at h; cases h
  | some o =>
    rw [hq] at h
    cases o with
    | none => cases h
    | some n =>
      cases hd : dat0 n with
      | none =>
        simp only [Option.map_some, froz, hd, Option.map_none] at h
        cases h
      | some d =>
        simp only [Option.map_some, froz, hd] at h
        cases h
        exact ⟨n, d, rfl, hd, rfl⟩
theorem envFrz (ok : EnvOk K F H σ env fp) : EnvOk K H H σ (env.map froz) fun _ => [] := by
  refine ⟨by rw [List.length_map]; exact ok.len, .refl _, fun i m e => ?_, fun i m e => .nil, fun i j m n a e e' ha => by cases ha⟩
  obtain ⟨n, d, h1, h2, rfl⟩ := get_froz e
  obtain ⟨v, h3, h4⟩ := ok.slot i n h1
  exact ⟨v, h3, own_fz (datW_ok ok.sub (fun _ _ _ _ z => z.elim) n v _ d h4 h2 fun _ _ _ z => z)⟩
end
theorem pdt_frz {X : Cx} {e : Expr} {f : En → Option Bool} (h : PDT X e f) : PDT X e (frzT f) := PT.imp h fun σ H Q h => by
  obtain ⟨env, b, F, fp, e, ok, q⟩ := h
  exact ⟨_, b, H, _, e, envFrz ok, fun F' H' s => q F H' (.mk' (.refl _) s.hp (ok.sub.trans s.hp) fun _ z => .inl z)⟩
theorem froz_n : froz none = none := rfl
theorem froz_f {d : D} : froz (some (.fz d)) = some (.fz d) := rfl
theorem froz_o {ds : List D} : froz (some (oD ds)) = some (.fz (.lst ds)) := by
  show (datW (fun _ _ => none) (oD ds)).map M.fz = _
  rw [datW_oD]
  rfl
theorem dat0_f {d : D} : dat0 (.fz d) = some d := rfl
theorem dat0_o {ds : List D} : dat0 (oD ds) = some (.lst ds) := datW_oD ds
def datL0 (ms : List M) : Option (List D) := datWL (fun _ _ => none) ms
theorem datL0_n : datL0 [] = some [] := rfl
theorem datL0_c {m : M} {ms : List M} {d : D} {ds : List D} (h : dat0 m = some d) (h' : datL0 ms = some ds) : datL0 (m :: ms) = some (d :: ds) := by
  show (match datW (fun _ _ => none) m, datWL (fun _ _ => none) ms with
    | some d, some ds => some (d :: ds)
    | _, _ => none) = _
  rw [show datW (fun _ _ => none) m = some d from h, show datWL (fun _ _ => none) ms = some ds from h']
theorem dat0_l {ms : List M} {ds : List D} (h : datL0 ms = some ds) : dat0 (.ol ms) = some (.lst ds) := by
  show (datWL (fun _ _ => none) ms).map D.lst = _
  rw [show datWL (fun _ _ => none) ms = some ds from h]
  rfl
theorem dat0_t {ms : List M} {ds : List D} (h : datL0 ms = some ds) : dat0 (.ot ms) = some (.tup ds) := by
  show (datWL (fun _ _ => none) ms).map D.tup = _
  rw [show datWL (fun _ _ => none) ms = some ds from h]
  rfl
theorem froz_m {m : M} {d : D} (h : dat0 m = some d) : froz (some m) = some (.fz d) := by
  show (dat0 m).map M.fz = _
  rw [h]
  rfl
def frozL (env : En) : En := env.map froz
theorem frozL_n : frozL [] = [] := rfl
theorem frozL_c {o o' : Option M} {env env' : En} (h : froz o = o') (h' : frozL env = env') : frozL (o :: env) = o' :: env' := by
  subst h h'
  rfl
theorem x_frzT {f : En → Option Bool} {env env' : En} {b : Bool} (h : frozL env = env') (h' : f env' = some b) : frzT f env = some b := by
  subst h
  exact h'
theorem x_frzE {f : En → Option M} {env env' : En} {r : M} (h : frozL env = env') (h' : f env' = some r) (h'' : sLf r = true) : frzE f env = some r := by
  subst h
  unfold frzE
  rw [show env.map froz = frozL env from rfl, h']
  simp only [h'', if_true]
theorem stow_zl {env : En} {ms : List M} {ds : List D} (h : slotsL ms = []) (h' : datL0 ms = some ds) : stow 0 env (.ol ms) = some (.fz (.lst ds), env) := by
  unfold stow
  rw [show slots (.ol ms) = [] from h]
  show (shut 0 (.ol ms)).map _ = _
  rw [show shut 0 (.ol ms) = (dat0 (.ol ms)).map .fz by rfl, dat0_l h']
  rfl
theorem stow_zt {env : En} {ms : List M} {ds : List D} (h : slotsL ms = []) (h' : datL0 ms = some ds) : stow 0 env (.ot ms) = some (.fz (.tup ds), env) := by
  unfold stow
  rw [show slots (.ot ms) = [] from h]
  show (shut 0 (.ot ms)).map _ = _
  rw [show shut 0 (.ot ms) = (dat0 (.ot ms)).map .fz by rfl, dat0_t h']
  rfl
theorem sLf_ol {L : List Int} : sLf (oI L) = true := sLf_oI L
theorem sLf_nil : sLf (.ol []) = true := rfl
theorem lpO_n {x : Nat} {B : En → Option Fl} {env : En} : lpO x B [] env = some ([], env) := rfl
theorem lpO_c {x : Nat} {B : En → Option Fl} {env e1 e2 e3 e4 : En} {m m' : M} {ms ms' : List M} (he : env.put x m = e1) (h : B e1 = some (.nx e2)) (h' : e2.get x = some m') (hk : e2.kill x = e3) (h'' : lpO x B ms e3 = some (ms', e4)) : lpO x B (m :: ms) env = some (m' :: ms', e4) := by
  subst he hk
  unfold lpO
  rw [h]
  simp only [h', h'']
theorem x_forO {lk : Nat → Bool} {i x : Nat} {B : En → Option Fl} {env e1 e2 e3 : En} {ms ms' : List M} (hl : lk x = false) (hx : Nat.ble (x + 1) env.length = true) (hi : i ≠ x) (h : env.get i = some (.ol ms)) (he : (env.kill i).kill x = e1) (h' : lpO x B ms e1 = some (ms', e2)) (he' : e2.put i (.ol ms') = e3) : sForO lk i x B env = some (.nx e3) := by
  subst he he'
  unfold sForO
  rw [h]
  simp only [h']
  rw [if_pos ⟨hl, Nat.le_of_ble_eq_true hx, hi⟩]
end T2
end
section
set_option Elab.async false
set_option linter.all false
set_option maxRecDepth 100000
namespace T2
open PySem
mutual
/-- as Python has it -/
def eqD : D → D → Bool
  | .non, .non => true
  | .bl a, .bl b => a == b
  | .bl a, .int j => (if a then 1 else 0) == j
  | .int i, .bl b => i == (if b then 1 else 0)
  | .int i, .int j => i == j
  | .str x, .str y => x == y
  | .lst xs, .lst ys => eqDL xs ys
  | .tup xs, .tup ys => eqDL xs ys
  | _, _ => false
def eqDL : List D → List D → Bool
  | [], [] => true
  | x :: xs, y :: ys => eqD x y && eqDL xs ys
  | _, _ => false
end
mutual
/-- data that is compared: no deeper than k, its texts plain -/
def gd : Nat → D → Bool
  | _, .non => true
  | _, .bl _ => true
  | _, .int _ => true
  | _, .str x => PyData.strOk x
  | k + 1, .lst xs => gdL k xs
  | k + 1, .tup xs => gdL k xs
  | _, _ => false
def gdL : Nat → List D → Bool
  | _, [] => true
  | k, x :: xs => gd k x && gdL k xs
end
mutual
theorem gd_ok : ∀ (k : Nat) (d : D), gd k d = true → ∃ x, pyD d = some x ∧ PyData.canLay0 x = true ∧ PyData.depth x ≤ k
  | k, .non, _ => ⟨.none, rfl, rfl, Nat.zero_le _⟩
  | k, .bl b, _ => ⟨.bool b, rfl, rfl, Nat.zero_le _⟩
  | k, .int i, _ => ⟨.int i, rfl, rfl, Nat.zero_le _⟩
  | k, .str x, h => ⟨.str x, rfl, by simpa [gd, PyData.canLay0] using h, Nat.zero_le _⟩
  | k + 1, .lst xs, h => by
    obtain ⟨ys, h1, h2, h3⟩ := gdL_ok k xs (by simpa [gd] using h)
    exact ⟨.list ys, by simp [pyD, h1], by simpa [PyData.canLay0] using h2, by simpa [PyData.depth] using h3⟩
  | k + 1, .tup xs, h => by
    obtain ⟨ys, h1, h2, h3⟩ := gdL_ok k xs (by simpa [gd] using h)
    exact ⟨.tuple ys, by simp [pyD, h1], by simpa [PyData.canLay0] using h2, by simpa [PyData.depth] using h3⟩
  | 0, .lst xs, h => by simp [gd] at h
  | 0, .tup xs, h => by simp [gd] at h
  | k, .ins _ _, h => by cases k <;> simp [gd] at h
  | k, .dic _ _, h => by cases k <;> simp [gd] at h
  | k, .any, h => by cases k <;> simp [gd] at h
  | k, .exc _ _ _, h => by cases k <;> simp [gd] at h
  | k, .scr _, h => by cases k <;> simp [gd] at h
theorem gdL_ok : ∀ (k : Nat) (ds : List D), gdL k ds = true → ∃ xs, pyDL ds = some xs ∧ PyData.canLayAll0 xs = true ∧ PyData.depthAll xs ≤ k
  | k, [], _ => ⟨[], rfl, rfl, Nat.zero_le _⟩
  | k, d :: ds, h => by
    simp only [gdL, Bool.and_eq_true] at h
    obtain ⟨x, h1, h2, h3⟩ := gd_ok k d h.1
    obtain ⟨xs, h4, h5, h6⟩ := gdL_ok k ds h.2
    exact ⟨x :: xs, by simp [pyDL, h1, h4], by simp [PyData.canLayAll0, h2, h5], by simp only [PyData.depthAll]; exact Nat.max_le.mpr ⟨h3, h6⟩⟩
end
mutual
theorem eqD_ok : ∀ (d e : D) (x y : PyData), (∃ k, gd k d = true) → (∃ k, gd k e = true) → pyD d = some x → pyD e = some y → PyData.eqv x y = eqD d e
  | d, e, x, y, hd, he, h, h' => by
    cases d with
    | ins _ _ => obtain ⟨k, hk⟩ := hd; cases k <;> simp [gd] at hk
    | scr _ => obtain ⟨k, hk⟩ := hd; cases k <;> simp [gd] at hk
    | dic _ _ => obtain ⟨k, hk⟩ := hd; cases k <;> simp [gd] at hk
    | any => obtain ⟨k, hk⟩ := hd; cases k <;> simp [gd] at hk
    | exc _ _ _ => obtain ⟨k, hk⟩ := hd; cases k <;> simp [gd] at hk
    | lst xs =>
      cases e with
      | ins _ _ => obtain ⟨k, hk⟩ := he; cases k <;> simp [gd] at hk
      | scr _ => obtain ⟨k, hk⟩ := he; cases k <;> simp [gd] at hk
      | dic _ _ => obtain ⟨k, hk⟩ := he; cases k <;> simp [gd] at hk
      | any => obtain ⟨k, hk⟩ := he; cases k <;> simp [gd] at hk
      | exc _ _ _ => obtain ⟨k, hk⟩ := he; cases k <;> simp [gd] at hk
      | lst ys =>
        simp only [pyD, Option.map_eq_some_iff] at h h'
        obtain ⟨us, h1, rfl⟩ := h
        obtain ⟨vs, h2, rfl⟩ := h'
        obtain ⟨k, hk⟩ := hd
        obtain ⟨j, hj⟩ := he
        cases k with
        | zero => simp [gd] at hk
        | succ k =>
          cases j with
          | zero => simp [gd] at hj
          | succ j => simpa [PyData.eqv, eqD] using eqDL_ok xs ys us vs ⟨k, by simpa [gd] using hk⟩ ⟨j, by simpa [gd] using hj⟩ h1 h2
      | tup ys =>
        simp only [pyD, Option.map_eq_some_iff] at h h'
        obtain ⟨us, h1, rfl⟩ := h
        obtain ⟨vs, h2, rfl⟩ := h'
        simp [PyData.eqv, eqD]
      | _ => simp only [pyD, Option.map_eq_some_iff] at h; obtain ⟨us, h1, rfl⟩ := h; simp only [pyD, Option.some.injEq] at h'; subst h'; simp [PyData.eqv, eqD]
    | tup xs =>
      cases e with
      | ins _ _ => obtain ⟨k, hk⟩ := he; cases k <;> simp [gd] at hk
      | scr _ => obtain ⟨k, hk⟩ := he; cases k <;> simp [gd] at hk
      | dic _ _ => obtain ⟨k, hk⟩ := he; cases k <;> simp [gd] at hk
      | any => obtain ⟨k, hk⟩ := he; cases k <;> simp [gd] at hk
      | exc _ _ _ => obtain ⟨k, hk⟩ := he; cases k <;> simp [gd] at hk
      | tup ys =>
        simp only [pyD, Option.map_eq_some_iff] at h h'
        obtain ⟨us, h1, rfl⟩ := h
        obtain ⟨vs, h2, rfl⟩ := h'
        obtain ⟨k, hk⟩ := hd
        obtain ⟨j, hj⟩ := he
        cases k with
        | zero => simp [gd] at hk
        | succ k =>
          cases j with
          | zero => simp [gd] at hj
          | succ j => simpa [PyData.eqv, eqD] using eqDL_ok xs ys us vs ⟨k, by simpa [gd] using hk⟩ ⟨j, by simpa [gd] using hj⟩ h1 h2
      | lst ys =>
        simp only [pyD, Option.map_eq_some_iff] at h h'
        obtain ⟨us, h1, rfl⟩ := h
        obtain ⟨vs, h2, rfl⟩ := h'
        simp [PyData.eqv, eqD]
      | _ => simp only [pyD, Option.map_eq_some_iff] at h; obtain ⟨us, h1, rfl⟩ := h; simp only [pyD, Option.some.injEq] at h'; subst h'; simp [PyData.eqv, eqD]
    | _ =>
      cases e with
      | ins _ _ => obtain ⟨k, hk⟩ := he; cases k <;> simp [gd] at hk
      | scr _ => obtain ⟨k, hk⟩ := he; cases k <;> simp [gd] at hk
      | dic _ _ => obtain ⟨k, hk⟩ := he; cases k <;> simp [gd] at hk
      | any => obtain ⟨k, hk⟩ := he; cases k <;> simp [gd] at hk
      | exc _ _ _ => obtain ⟨k, hk⟩ := he; cases k <;> simp [gd] at hk
      | lst ys => simp only [pyD, Option.map_eq_some_iff] at h'; obtain ⟨us, h1, rfl⟩ := h'; simp only [pyD, Option.some.injEq] at h; subst h; simp [PyData.eqv, eqD]
      | tup ys => simp only [pyD, Option.map_eq_some_iff] at h'; obtain ⟨us, h1, rfl⟩ := h'; simp only [pyD, Option.some.injEq] at h; subst h; simp [PyData.eqv, eqD]
      | _ => simp only [pyD, Option.some.injEq] at h h'; subst h h'; simp [PyData.eqv, eqD]
theorem eqDL_ok : ∀ (ds es : List D) (xs ys : List PyData), (∃ k, gdL k ds = true) → (∃ k, gdL k es = true) → pyDL ds = some xs → pyDL es = some ys → PyData.eqvAll xs ys = eqDL ds es
  | [], [], xs, ys, _, _, h, h' => by cases h; cases h'; rfl
  | [], e :: es, xs, ys, _, _, h, h' => by
    simp only [pyDL] at h h'
    cases h
    split at h'
    · cases h'; rfl
    · cases h'
  | d :: ds, [], xs, ys, _, _, h, h' => by
    simp only [pyDL] at h h'
    cases h'
    split at h
    · cases h; rfl
    · cases h
  | d :: ds, e :: es, xs, ys, ⟨k, hk⟩, ⟨j, hj⟩, h, h' => by
    simp only [pyDL] at h h'
    simp only [gdL, Bool.and_eq_true] at hk hj
    split at h
    · rename_i x xs' h1 h2
      cases h
      split at h'
      · rename_i y ys' h3 h4
        cases h'
        simp only [PyData.eqvAll, eqDL]
        rw [eqD_ok d e x y ⟨k, hk.1⟩ ⟨j, hj.1⟩ h1 h3, eqDL_ok ds es xs' ys' ⟨k, hk.2⟩ ⟨j, hj.2⟩ h2 h4]
      · cases h'
    · cases h
end
theorem gEq_gen {neg : Bool} {d e : D} (hd : gd 64 d = true) (he : gd 64 e = true) : gEq neg [d, e] = some (.bl (if neg then !eqD d e else eqD d e)) := by
  obtain ⟨x, h1, h2, h3⟩ := gd_ok 64 d hd
  obtain ⟨y, h4, h5, h6⟩ := gd_ok 64 e he
  unfold gEq
  simp only [h1, h4]
  have sx : SeqAt.shaped x = true := by unfold SeqAt.shaped; simp [h2, h3]
  have sy : SeqAt.shaped y = true := by unfold SeqAt.shaped; simp [h5, h6]
  rw [sx, sy, eqD_ok d e x y ⟨_, hd⟩ ⟨_, he⟩ h1 h4]
  rfl
theorem k_eqGT {env : En} {a b : M} {d e : D} (h : dats env [a, b] = some [d, e]) (hd : gd 64 d = true) (he : gd 64 e = true) : sop (gEq true) env [a, b] = some (.fz (.bl (!eqD d e))) := (sop_of h (gEq_gen hd he) rfl).trans (by simp)
theorem k_eqGF {env : En} {a b : M} {d e : D} (h : dats env [a, b] = some [d, e]) (hd : gd 64 d = true) (he : gd 64 e = true) : sop (gEq false) env [a, b] = some (.fz (.bl (eqD d e))) := (sop_of h (gEq_gen hd he) rfl).trans (by simp)
theorem gd_int {k : Nat} {i : Int} : gd k (.int i) = true := by cases k <;> rfl
theorem gd_bl {k : Nat} {i : Bool} : gd k (.bl i) = true := by cases k <;> rfl
theorem gd_non {k : Nat} : gd k .non = true := by cases k <;> rfl
theorem gd_lst {k : Nat} {ds : List D} (h : gdL k ds = true) : gd (k + 1) (.lst ds) = true := h
theorem gd_tup {k : Nat} {ds : List D} (h : gdL k ds = true) : gd (k + 1) (.tup ds) = true := h
theorem gdL_n {k : Nat} : gdL k [] = true := by cases k <;> rfl
theorem gdL_c {k : Nat} {d : D} {ds : List D} (h : gd k d = true) (h' : gdL k ds = true) : gdL k (d :: ds) = true := by
  show (gd k d && gdL k ds) = true
  rw [h, h']
  rfl
theorem gdL_all {k : Nat} : ∀ {ds : List D}, (∀ d ∈ ds, gd k d = true) → gdL k ds = true
  | [], _ => gdL_n
  | d :: ds, h => gdL_c (h d (List.mem_cons_self ..)) (gdL_all fun e he => h e (List.mem_cons_of_mem _ he))
theorem gdL_map {α : Type} {k : Nat} {f : α → D} {xs : List α} (h : ∀ x ∈ xs, gd k (f x) = true) : gdL k (xs.map f) = true := gdL_all fun d hd => by
  obtain ⟨x, hx, rfl⟩ := List.mem_map.mp hd
  exact h x hx
theorem gdL_ints {k : Nat} {L : List Int} : gdL k (L.map .int) = true := gdL_map fun _ _ => gd_int
theorem gd_lI {k : Nat} {L : List Int} : gd (k + 1) (lI L) = true := gd_lst gdL_ints
mutual
theorem eqD_self : ∀ (k : Nat) (d : D), gd k d = true → eqD d d = true
  | k, .non, _ => rfl
  | k, .bl b, _ => by simp [eqD]
  | k, .int i, _ => by simp [eqD]
  | k, .str x, h => by simp [eqD]
  | k + 1, .lst xs, h => by simpa [eqD] using eqDL_self k xs (by simpa [gd] using h)
  | k + 1, .tup xs, h => by simpa [eqD] using eqDL_self k xs (by simpa [gd] using h)
  | 0, .lst xs, h => by simp [gd] at h
  | 0, .tup xs, h => by simp [gd] at h
  | k, .ins _ _, h => by cases k <;> simp [gd] at h
  | k, .dic _ _, h => by cases k <;> simp [gd] at h
  | k, .any, h => by cases k <;> simp [gd] at h
  | k, .exc _ _ _, h => by cases k <;> simp [gd] at h
  | k, .scr _, h => by cases k <;> simp [gd] at h
theorem eqDL_self : ∀ (k : Nat) (ds : List D), gdL k ds = true → eqDL ds ds = true
  | k, [], _ => rfl
  | k, d :: ds, h => by
    simp only [gdL, Bool.and_eq_true] at h
    simp only [eqDL, eqD_self k d h.1, eqDL_self k ds h.2, Bool.and_self]
end
theorem k_eqST {env : En} {a b : M} {d : D} (h : dats env [a, b] = some [d, d]) (hd : gd 64 d = true) : sop (gEq true) env [a, b] = some (.fz (.bl false)) := (k_eqGT h hd hd).trans (by rw [eqD_self 64 d hd]; rfl)
theorem k_eqSF {env : En} {a b : M} {d : D} (h : dats env [a, b] = some [d, d]) (hd : gd 64 d = true) : sop (gEq false) env [a, b] = some (.fz (.bl true)) := (k_eqGF h hd hd).trans (by rw [eqD_self 64 d hd])
theorem dats_e {env : En} {ms : List M} {cs : List D} (h : dats env ms = some cs) : dats env (.ol [] :: ms) = some (lI [] :: cs) := dats_o (ds := []) h
theorem dats_m {env : En} {i : Nat} {m : M} {d : D} {ms : List M} {cs : List D} (h0 : env.get i = some m) (hd : dat0 m = some d) (h : dats env ms = some cs) : dats env (.bp i [] :: ms) = some (d :: cs) := by
  have hp : plD env i [] = some d := by
    unfold plD
    rw [place_z h0]
    exact hd
  show (match datW (plD env) (.bp i []), datWL (plD env) ms with
    | some d, some ds => some (d :: ds)
    | _, _ => none) = _
  rw [show datWL (plD env) ms = some cs from h, show datW (plD env) (.bp i []) = plD env i [] by rfl, hp]
section
variable {vs : List Nat} {t : Tg} {cond : En → Option Bool} {elt : En → Option M} {env e1 : En} {d : D} {ds : List D} {ms : List M} {m : M}
theorem lcL_n : lcL vs t cond elt env [] = some [] := by unfold lcL; rfl
theorem lcL_s (hT : asT (lkOf vs) t d (env.wipe vs) = some e1) {c : Bool} (hC : cond e1 = some c) (hc : c = false) (h : lcL vs t cond elt env ds = some ms) : lcL vs t cond elt env (d :: ds) = some ms := by
  subst hc
  unfold lcL
  rw [hT]
  simp only [hC, h]
theorem lcL_t (hT : asT (lkOf vs) t d (env.wipe vs) = some e1) {c : Bool} (hC : cond e1 = some c) (hc : c = true) (hE : elt e1 = some m) (hs : slotsL [m] = []) (h : lcL vs t cond elt env ds = some ms) : lcL vs t cond elt env (d :: ds) = some (m :: ms) := by
  subst hc
  have hs' : slots m = [] := by
    have : slotsL [m] = slots m ++ [] := rfl
    rw [this, List.append_nil] at hs
    exact hs
  unfold lcL
  rw [hT]
  simp only [hC, hE, h, hs', List.isEmpty_nil, if_true]
theorem x_lc {it : En → Option (List D)} (h : it env = some ds) (h' : lcL vs t cond elt env ds = some ms) (hl : ms.length ≤ sizeLine) : lcF vs t it cond elt env = some (.ol ms) := lcF_of h h' hl
theorem x_yes : cYes env = some true := rfl
end
theorem x_isi {env : En} {f : En → Option M} {m : M} {d : D} {T n : String} {b : Bool} (h : f env = some m) (hd : dats env [m] = some [d]) (hn : tyN d = some n) (hk : kitT T n = some b) : oIsi (kitT T) f env = some (.fz (.bl b)) := by
  unfold oIsi
  rw [h]
  simp only [dat_of hd, hn, hk]
theorem x_lcX {vs : List Nat} {t : Tg} {cond : En → Option Bool} {it : En → Option (List D × En)} {elt : En → Option (M × En)} {env e1 e2 : En} {ds : List D} {ms : List M} (h : it env = some (ds, e1)) (h' : lcLX vs t cond elt ds e1 = some (ms, e2)) (hl : ms.length ≤ sizeLine) : lcX vs t it cond elt env = some (.ol ms, e2) := by
  unfold lcX
  rw [h]
  simp only [h', hl, if_true]
theorem e_xnil {env : En} : xNil env = some ([], env) := rfl
theorem k_lstI2 {env : En} {x y : Int} : oLst env [.fz (.int x), .fz (.int y)] = some (oI [x, y]) := k_lst (by simp [sizeLine])
theorem k_lstI3 {env : En} {x y z : Int} : oLst env [.fz (.int x), .fz (.int y), .fz (.int z)] = some (oI [x, y, z]) := k_lst (by simp [sizeLine])
theorem k_lstI4 {env : En} {x y z u : Int} : oLst env [.fz (.int x), .fz (.int y), .fz (.int z), .fz (.int u)] = some (oI [x, y, z, u]) := k_lst (by simp [sizeLine])
theorem k_lstI5 {env : En} {x y z u v : Int} : oLst env [.fz (.int x), .fz (.int y), .fz (.int z), .fz (.int u), .fz (.int v)] = some (oI [x, y, z, u, v]) := k_lst (by simp [sizeLine])
theorem k_lstI6 {env : En} {x y z u v w : Int} : oLst env [.fz (.int x), .fz (.int y), .fz (.int z), .fz (.int u), .fz (.int v), .fz (.int w)] = some (oI [x, y, z, u, v, w]) := k_lst (by simp [sizeLine])
end T2
end
section
set_option Elab.async false
set_option linter.all false
set_option maxRecDepth 100000
namespace T2
open PySem PySem.Spec PyProof.Rows L2
def okR3 (i j c : Int) : Bool := decide (c ≠ 0) && decide (c.natAbs < 1073741824) && Builtin.Range.small i j c
def rszN (i j c : Int) : Nat := (Builtin.Range.rangeSize i j c).toNat
def rngS (i j c : Int) : List Int := (List.range (rszN i j c)).map fun k : Nat => i + (k : Int) * c
def itR3 (fs : En → Option (List M)) : En → Option (List D) := fun env => match fs env with
  | some [.fz (.int i), .fz (.int j), .fz (.int c)] => if okR3 i j c then some ((rngS i j c).map .int) else none
  | _ => none
def blsOf : List D → Option (List Bool)
  | [] => some []
  | .bl b :: ds => (blsOf ds).map (b :: ·)
  | _ => none
def gAny : List D → Option D
  | [.lst ds] => match blsOf ds with
    | some bs => some (.bl (bs.any id))
    | none => none
  | _ => none
def gAll : List D → Option D
  | [.lst ds] => match blsOf ds with
    | some bs => some (.bl (bs.all id))
    | none => none
  | _ => none
def chS (o o' : En → List M → Option M) (f g h : En → Option M) : En → Option Bool := fun env => match f env, g env with
  | some a, some (.fz d) => if scal d then (match o env [a, .fz d] with
    | some (.fz (.bl true)) => match h env with
      | some c => match o' env [.fz d, c] with
        | some (.fz (.bl r)) => some r
        | _ => none
      | none => none
    | some (.fz (.bl false)) => some false
    | _ => none) else none
  | _, _ => none
section
variable {X : Cx} {tg a b c e : Expr} {fs : En → Option (List M)} {p pos rp rpos : Pos} {ta : TA}
def oListR3 (fs : En → Option (List M)) : En → Option M := fun env => match fs env with
  | some [.fz (.int i), .fz (.int j), .fz (.int c)] => if okR3 i j c && decide (rszN i j c ≤ 16777216) then some (oI (rngS i j c)) else none
  | _ => none
/-- xs[::-1] of a list of data -/
def oRev (f : En → Option M) : En → Option M := fun env => match f env with
  | some (.fz (.scr ns)) => some (oI ns.reverse)
  | some m => match elems env m with
    | some (true, ms) => match allFz ms with
      | some ds => some (oD ds.reverse)
      | none => none
    | _ => none
  | none => none
theorem RepL.reverse {K : PySem.W.Frag} {F : Hp} : ∀ {ds : List D} {vs : List V}, RepL K F ds vs → RepL K F ds.reverse vs.reverse
  | [], vs, h => by
    simp only [RepL] at h
    subst h
    simp only [List.reverse_nil, RepL]
  | d :: ds, vs, h => by
    simp only [RepL] at h
    obtain ⟨v, r, rfl, h1, h2⟩ := h
    rw [List.reverse_cons, List.reverse_cons]
    refine repL_append (RepL.reverse h2) ?_
    simp only [RepL]
    exact ⟨v, [], rfl, h1, rfl⟩
end
section
variable {env : En} {f g h : En → Option M} {fs : En → Option (List M)} {m a b c : M} {L : List Int} {o o' : En → List M → Option M} {d : D}
theorem x_rI3 {i j k : Int} (h : fs env = some [.fz (.int i), .fz (.int j), .fz (.int k)]) (h' : okR3 i j k = true) : itR3 fs env = some ((rngS i j k).map .int) := by
  unfold itR3
  rw [h]
  simp only [h', if_true]
theorem x_listR3 {i j k : Int} (h : fs env = some [.fz (.int i), .fz (.int j), .fz (.int k)]) (h' : okR3 i j k = true) (h'' : rszN i j k ≤ 16777216) : oListR3 fs env = some (oI (rngS i j k)) := by
  unfold oListR3
  rw [h]
  simp only [h', h'', decide_true, Bool.and_self, if_true]
theorem x_revB {i : Nat} (h : f env = some (.bp i [])) (h0 : env.get i = some (oI L)) : oRev f env = some (oI L.reverse) := by
  unfold oRev
  rw [h]
  simp only [elems_b h0, allFz_fz]
  show some (oD (L.map D.int).reverse) = some (oD (L.reverse.map D.int))
  rw [← List.map_reverse]
theorem x_revF (h : f env = some (.fz (lI L))) : oRev f env = some (oI L.reverse) := by
  unfold oRev
  rw [h]
  show (match allFz ((L.map D.int).map .fz) with
    | some ds => some (oD ds.reverse)
    | none => none) = _
  rw [allFz_fz]
  show some (oD (L.map D.int).reverse) = some (oD (L.reverse.map D.int))
  rw [← List.map_reverse]
theorem blsOf_map (bs : List Bool) : blsOf (bs.map .bl) = some bs := by
  induction bs with
  | nil => rfl
  | cons b bs ih =>
    show (blsOf (bs.map .bl)).map (b :: ·) = _
    rw [ih]
    rfl
abbrev lB (bs : List Bool) : D := .lst (bs.map .bl)
theorem x_anyB {bs : List Bool} (h : f env = some m) (hd : dats env [m] = some [lB bs]) : opr (sop gAny) (aCons f aNil) env = some (.fz (.bl (bs.any id))) :=
  opr_of (acons_of h e_anil) (sop_of hd (by show (match blsOf (bs.map .bl) with
    | some bs => some (D.bl (bs.any id))
    | none => none) = _
                                            rw [blsOf_map]) rfl)
theorem x_allB {bs : List Bool} (h : f env = some m) (hd : dats env [m] = some [lB bs]) : opr (sop gAll) (aCons f aNil) env = some (.fz (.bl (bs.all id))) :=
  opr_of (acons_of h e_anil) (sop_of hd (by show (match blsOf (bs.map .bl) with
    | some bs => some (D.bl (bs.all id))
    | none => none) = _
                                            rw [blsOf_map]) rfl)
theorem x_ch {k r : Bool} (hf : f env = some a) (hg : g env = some (.fz d)) (hs : scal d = true) (h1 : o env [a, .fz d] = some (.fz (.bl k))) (hh : h env = some c) (h2 : o' env [.fz d, c] = some (.fz (.bl r))) : chS o o' f g h env = some (k && r) := by
  unfold chS
  rw [hf, hg]
  simp only [hs, h1, if_true]
  cases k
  · rfl
  · simp only [hh, h2, Bool.true_and]
end
theorem anyEqv : ∀ (ds : List D) (d : D) (xs : List PyData) (x : PyData), (∃ k, gdL k ds = true) → (∃ k, gd k d = true) → pyDL ds = some xs → pyD d = some x → (xs.any fun z => PyData.eqv z x) = ds.any fun z => eqD z d
  | [], d, xs, x, _, _, h, _ => by cases h; rfl
  | e :: ds, d, xs, x, ⟨k, hk⟩, hd, h, h' => by
    simp only [pyDL] at h
    simp only [gdL, Bool.and_eq_true] at hk
    split at h
    · rename_i y ys h1 h2
      cases h
      simp only [List.any_cons]
      rw [eqD_ok e d y x ⟨k, hk.1⟩ hd h1 h', anyEqv ds d ys x ⟨k, hk.2⟩ hd h2 h']
    · cases h
theorem gInL_gen {neg : Bool} {d : D} {ds : List D} (hd : gd 64 d = true) (he : gdL 63 ds = true) : gInL neg [d, .lst ds] = some (.bl (if neg then !(ds.any fun z => eqD z d) else ds.any fun z => eqD z d)) := by
  obtain ⟨x, h1, h2, h3⟩ := gd_ok 64 d hd
  obtain ⟨xs, h4, h5, h6⟩ := gdL_ok 63 ds he
  unfold gInL
  simp only [h1, h4]
  have sx : SeqAt.shaped x = true := by unfold SeqAt.shaped; simp [h2, h3]
  have sy : SeqAt.shaped (.list xs) = true := by
    unfold SeqAt.shaped
    have : PyData.canLay0 (.list xs) = true := by simpa [PyData.canLay0] using h5
    have h7 : PyData.depth (.list xs) ≤ 64 := by simp only [PyData.depth]; omega
    simp [this, h7]
  rw [sx, sy, anyEqv ds d xs x ⟨_, he⟩ ⟨_, hd⟩ h4 h1]
  rfl
section
variable {env : En} {a b : M} {L : List Int} {x : Int} {bs : List Bool}
theorem k_inG {d : D} {ds : List D} (h : dats env [a, b] = some [d, .lst ds]) (hd : gd 64 d = true) (he : gdL 63 ds = true) : oIn env [a, b] = some (.fz (.bl (ds.any fun z => eqD z d))) := by
  show oOr (sop (gInL false)) _ env _ = _
  unfold oOr
  rw [sop_of h (gInL_gen hd he) rfl]
  rfl
theorem k_ninG {d : D} {ds : List D} (h : dats env [a, b] = some [d, .lst ds]) (hd : gd 64 d = true) (he : gdL 63 ds = true) : oNin env [a, b] = some (.fz (.bl (!(ds.any fun z => eqD z d)))) := by
  show oOr (sop (gInL true)) _ env _ = _
  unfold oOr
  rw [sop_of h (gInL_gen hd he) rfl]
  rfl
theorem any_ints : (L.map D.int).any (fun z => eqD z (.int x)) = L.contains x := by
  induction L with
  | nil => rfl
  | cons y L ih =>
    rw [List.map_cons, List.any_cons, ih, List.contains_cons]
    show (y == x || _) = _
    rw [BEq.comm]
theorem k_inI (h : dats env [a, b] = some [.int x, lI L]) : oIn env [a, b] = some (.fz (.bl (L.contains x))) := (k_inG h gd_int gdL_ints).trans (by rw [any_ints])
theorem k_ninI (h : dats env [a, b] = some [.int x, lI L]) : oNin env [a, b] = some (.fz (.bl (!(L.contains x)))) := (k_ninG h gd_int gdL_ints).trans (by rw [any_ints])
theorem any_bls {y : Bool} : (bs.map D.bl).any (fun z => eqD z (.bl y)) = bs.contains y := by
  induction bs with
  | nil => rfl
  | cons z L ih =>
    rw [List.map_cons, List.any_cons, ih, List.contains_cons]
    show (z == y || _) = _
    rw [BEq.comm]
theorem k_inB {y : Bool} (h : dats env [a, b] = some [.bl y, lB bs]) : oIn env [a, b] = some (.fz (.bl (bs.contains y))) := (k_inG h gd_bl (gdL_map fun _ _ => gd_bl)).trans (by rw [any_bls])
theorem k_ninB {y : Bool} (h : dats env [a, b] = some [.bl y, lB bs]) : oNin env [a, b] = some (.fz (.bl (!(bs.contains y)))) := (k_ninG h gd_bl (gdL_map fun _ _ => gd_bl)).trans (by rw [any_bls])
theorem listOf_f {ds : List D} : oListOf env [.fz (.lst ds)] = some (oD ds) := by rfl
theorem listOf_o {ds : List D} : oListOf env [oD ds] = some (oD ds) := by rfl
theorem listOf_s {ns : List Int} : oListOf env [.fz (.scr ns)] = some (oI ns) := by
  show some (M.ol (ns.map fun n => .fz (.int n))) = _
  rw [map_fz_int]
theorem x_catBB {i j : Nat} {xs ys : List Int} (h : env.get i = some (oI xs)) (h' : env.get j = some (oI ys)) (hl : xs.length + ys.length ≤ sizeLine) : oAdd env [.bp i [], .bp j []] = some (oI (xs ++ ys)) := by
  have h1 : sop iAdd env [.bp i [], .bp j []] = none := by
    unfold sop
    rw [dats_b h (dats_b h' dats_n)]
    rfl
  have h2 : sop gStr env [.bp i [], .bp j []] = none := by
    unfold sop
    rw [dats_b h (dats_b h' dats_n)]
    rfl
  have h3 : oCat env [.bp i [], .bp j []] = some (oI (xs ++ ys)) := by
    unfold oCat
    simp only [elems_b h, elems_b h', List.length_map]
    rw [if_pos hl]
    show some (M.ol _) = some (M.ol (((xs ++ ys).map D.int).map M.fz))
    rw [List.map_append, List.map_append]
  show oOr (sop iAdd) (oOr (sop gStr) oCat) env _ = _
  unfold oOr
  rw [h1, h2, h3]
theorem x_catBO {i : Nat} {xs ys : List Int} (h : env.get i = some (oI xs)) (hl : xs.length + ys.length ≤ sizeLine) : oAdd env [.bp i [], oI ys] = some (oI (xs ++ ys)) := by
  have h1 : sop iAdd env [.bp i [], oI ys] = none := by
    unfold sop
    rw [dats_b h (dats_o dats_n)]
    rfl
  have h2 : sop gStr env [.bp i [], oI ys] = none := by
    unfold sop
    rw [dats_b h (dats_o dats_n)]
    rfl
  have h3 : oCat env [.bp i [], oI ys] = some (oI (xs ++ ys)) := by
    unfold oCat
    simp only [elems_b h, elems_o, List.length_map]
    rw [if_pos hl]
    show some (M.ol _) = some (M.ol (((xs ++ ys).map D.int).map M.fz))
    rw [List.map_append, List.map_append]
  show oOr (sop iAdd) (oOr (sop gStr) oCat) env _ = _
  unfold oOr
  rw [h1, h2, h3]
theorem elems_f {ds : List D} : elems env (.fz (.lst ds)) = some (true, ds.map .fz) := rfl
theorem x_catFO {xs ys : List Int} (hl : xs.length + ys.length ≤ sizeLine) : oAdd env [.fz (lI xs), oI ys] = some (oI (xs ++ ys)) := by
  have h1 : sop iAdd env [.fz (lI xs), oI ys] = none := by
    unfold sop
    rw [dats_f (dats_o dats_n)]
    rfl
  have h2 : sop gStr env [.fz (lI xs), oI ys] = none := by
    unfold sop
    rw [dats_f (dats_o dats_n)]
    rfl
  have h3 : oCat env [.fz (lI xs), oI ys] = some (oI (xs ++ ys)) := by
    unfold oCat
    simp only [elems_f, elems_o, List.length_map]
    rw [if_pos hl]
    show some (M.ol _) = some (M.ol (((xs ++ ys).map D.int).map M.fz))
    rw [List.map_append, List.map_append]
  show oOr (sop iAdd) (oOr (sop gStr) oCat) env _ = _
  unfold oOr
  rw [h1, h2, h3]
theorem x_catFF {xs ys : List Int} (hl : xs.length + ys.length ≤ sizeLine) : oAdd env [.fz (lI xs), .fz (lI ys)] = some (oI (xs ++ ys)) := by
  have h1 : sop iAdd env [.fz (lI xs), .fz (lI ys)] = none := by
    unfold sop
    rw [dats_f (dats_f dats_n)]
    rfl
  have h2 : sop gStr env [.fz (lI xs), .fz (lI ys)] = none := by
    unfold sop
    rw [dats_f (dats_f dats_n)]
    rfl
  have h3 : oCat env [.fz (lI xs), .fz (lI ys)] = some (oI (xs ++ ys)) := by
    unfold oCat
    simp only [elems_f, List.length_map]
    rw [if_pos hl]
    show some (M.ol _) = some (M.ol (((xs ++ ys).map D.int).map M.fz))
    rw [List.map_append, List.map_append]
  show oOr (sop iAdd) (oOr (sop gStr) oCat) env _ = _
  unfold oOr
  rw [h1, h2, h3]
theorem x_clear {ms : List M} : mClear ms [] = some ([], .fz .non) := rfl
end
section
variable {lk : Nat → Bool} {env : En}
theorem retM_oIe {L L' : List Int} (h : L = L') : retM lk env (some (oI L)) = some (.rt (oI L') env) := by subst h; exact retM_oI _
theorem retM_Ie {x y : Int} (h : x = y) : retM lk env (some (.fz (.int x))) = some (.rt (.fz (.int y)) env) := by subst h; exact retM_fz
theorem retM_Be {x y : Bool} (h : x = y) : retM lk env (some (.fz (.bl x))) = some (.rt (.fz (.bl y)) env) := by subst h; exact retM_fz
end
theorem bitAndN (a b : Nat) : Builtin.bitAnd (a : Int) (b : Int) = ((a &&& b : Nat) : Int) := rfl
end T2
end
section
set_option Elab.async false
set_option linter.all false
set_option maxRecDepth 100000
namespace T2
open PySem
section
variable {env e1 e2 : En} {f g : En → Option M} {fs : En → Option (List M)} {a b r m m' : M} {d : D} {ds : List D} {α β : Type}
theorem stow_b0 {i : Nat} (h : env.get i = some (oD ds)) (he : env.put i (.fz (.lst ds)) = e1) : stow 0 env (.bp i []) = some (.fz (.lst ds), e1) := by
  subst he
  have h1 : dat env (.bp i []) = some (.lst ds) := dat_of (dats_b h dats_n)
  unfold stow
  show (match dat env (.bp i []), frS [i] env with
    | some d, some env' => some (M.fz d, env')
    | _, _ => none) = _
  rw [h1]
  have h2 : frS [i] env = some (env.put i (.fz (.lst ds))) := by
    unfold frS
    rw [h]
    show (match dat0 (oD ds) with
      | some d => frS [] (env.put i (.fz d))
      | none => none) = _
    rw [dat0_o]
    rfl
  rw [h2]
theorem stow_bm {i : Nat} (h : env.get i = some m) (hm : dat0 m = some d) (he : env.put i (.fz d) = e1) : stow 0 env (.bp i []) = some (.fz d, e1) := by
  subst he
  have h1 : dat env (.bp i []) = some d := dat_of (dats_m h hm dats_n)
  unfold stow
  show (match dat env (.bp i []), frS [i] env with
    | some d, some env' => some (M.fz d, env')
    | _, _ => none) = _
  rw [h1]
  have h2 : frS [i] env = some (env.put i (.fz d)) := by
    unfold frS
    rw [h]
    show (match dat0 m with
      | some d => frS [] (env.put i (.fz d))
      | none => none) = _
    rw [hm]
    rfl
  rw [h2]
theorem x_idxM [Inhabited α] {F : α → D} {xs : List α} {j : Int} (h0 : 0 ≤ j) (h1 : j < xs.length) : oIdx env [.fz (.lst (xs.map F)), .fz (.int j)] = some (.fz (F (xs.getD j.toNat default))) := by
  obtain ⟨k, rfl⟩ : ∃ k : Nat, j = k := ⟨j.toNat, by omega⟩
  have hk : k < xs.length := by omega
  refine idx_f (atI_nat ?_)
  rw [List.getElem?_map, List.getElem?_eq_getElem hk]
  simp [List.getD, hk]
theorem x_lenM {F : α → D} {xs : List α} (h : f env = some m) (hd : dats env [m] = some [.lst (xs.map F)]) : opr (sop gLen) (aCons f aNil) env = some (.fz (.int xs.length)) := by
  have := len_b h hd
  rwa [List.length_map] at this
theorem x_lenG (h : f env = some m) (hd : dats env [m] = some [.lst ds]) : opr (sop gLen) (aCons f aNil) env = some (.fz (.int ds.length)) := len_b h hd
theorem x_lenT (h : f env = some m) (hd : dats env [m] = some [.tup ds]) : opr (sop gLen) (aCons f aNil) env = some (.fz (.int ds.length)) :=
  opr_of (acons_of h e_anil) (sop_of hd (show gLen [.tup ds] = some (.int ds.length) from rfl) rfl)
/-- a comprehension over anything -/
theorem lcL_map {vs : List Nat} {t : Tg} {elt : En → Option M} {F : α → D} {w : α → M} {e1 : α → En} : ∀ (xs : List α) (hT : ∀ x ∈ xs, asT (lkOf vs) t (F x) (env.wipe vs) = some (e1 x)) (hE : ∀ x ∈ xs, elt (e1 x) = some (w x)) (hs : ∀ x ∈ xs, slotsL [w x] = []), lcL vs t cYes elt env (xs.map F) = some (xs.map w)
  | [], _, _, _ => lcL_n
  | x :: xs, hT, hE, hs => lcL_t (hT x (List.mem_cons_self ..)) x_yes rfl (hE x (List.mem_cons_self ..)) (hs x (List.mem_cons_self ..)) (lcL_map xs (fun y hy => hT y (List.mem_cons_of_mem _ hy)) (fun y hy => hE y (List.mem_cons_of_mem _ hy)) (fun y hy => hs y (List.mem_cons_of_mem _ hy)))
theorem x_lcMM {vs : List Nat} {t : Tg} {elt : En → Option M} {it : En → Option (List D)} {F : α → D} {xs : List α} {w : α → M} {e1 : α → En} (h : it env = some (xs.map F)) (hT : ∀ x ∈ xs, asT (lkOf vs) t (F x) (env.wipe vs) = some (e1 x)) (hE : ∀ x ∈ xs, elt (e1 x) = some (w x)) (hs : ∀ x ∈ xs, slotsL [w x] = []) (hl : xs.length ≤ sizeLine) : lcF vs t it cYes elt env = some (.ol (xs.map w)) :=
  lcF_of h (lcL_map xs hT hE hs) (by simpa using hl)
theorem x_lcMI {vs : List Nat} {t : Tg} {elt : En → Option M} {it : En → Option (List D)} {F : α → D} {xs : List α} {v : α → Int} {e1 : α → En} (h : it env = some (xs.map F)) (hT : ∀ x ∈ xs, asT (lkOf vs) t (F x) (env.wipe vs) = some (e1 x)) (hE : ∀ x ∈ xs, elt (e1 x) = some (.fz (.int (v x)))) (hl : xs.length ≤ sizeLine) : lcF vs t it cYes elt env = some (oI (xs.map v)) := by
  rw [x_lcMM (w := fun x => .fz (.int (v x))) h hT hE (fun _ _ => rfl) hl]
  show _ = some (M.ol (((xs.map v).map D.int).map M.fz))
  rw [List.map_map, List.map_map]
  rfl
theorem datL0_map {w : α → M} {v : α → D} : ∀ (xs : List α) (h : ∀ x ∈ xs, dat0 (w x) = some (v x)), datL0 (xs.map w) = some (xs.map v)
  | [], _ => datL0_n
  | x :: xs, h => datL0_c (h x (List.mem_cons_self ..)) (datL0_map xs fun y hy => h y (List.mem_cons_of_mem _ hy))
theorem dat0_map {w : α → M} {v : α → D} {xs : List α} (h : ∀ x ∈ xs, dat0 (w x) = some (v x)) : dat0 (.ol (xs.map w)) = some (.lst (xs.map v)) := dat0_l (datL0_map xs h)
theorem slotsL_map {w : α → M} : ∀ (xs : List α) (h : ∀ x ∈ xs, slotsL [w x] = []), slotsL (xs.map w) = []
  | [], _ => rfl
  | x :: xs, h => by
    show slots (w x) ++ slotsL (xs.map w) = []
    rw [slotsL_map xs fun y hy => h y (List.mem_cons_of_mem _ hy)]
    exact h x (List.mem_cons_self ..)
theorem slotsL_m {w : α → M} {xs : List α} {ms : List M} (h : ∀ x ∈ xs, slotsL [w x] = []) (h' : slotsL ms = []) : slotsL (.ol (xs.map w) :: ms) = [] := slotsL_cl (slotsL_map xs h) h'
theorem shutL_map {k : Nat} {w w' : α → M} : ∀ (xs : List α) (h : ∀ x ∈ xs, shut k (w x) = some (w' x)), shutL k (xs.map w) = some (xs.map w')
  | [], _ => shutL_n
  | x :: xs, h => shutL_c (h x (List.mem_cons_self ..)) (shutL_map xs fun y hy => h y (List.mem_cons_of_mem _ hy))
theorem shut_m {k : Nat} {w w' : α → M} {xs : List α} (h : ∀ x ∈ xs, shut k (w x) = some (w' x)) : shut (k + 1) (.ol (xs.map w)) = some (.ol (xs.map w')) := shut_ol (shutL_map xs h)
theorem shut_z {m : M} (h : dat0 m = some d) : shut 0 m = some (.fz d) := by
  have : shut 0 m = (dat0 m).map .fz := by cases m <;> rfl
  rw [this, h]
  rfl
/-- a call's argument as data -/
theorem shutZ_d {bs : List Bool} {ms cs : List M} (hd : dat0 m = some d) (h : shutZ bs ms = some cs) : shutZ (false :: bs) (m :: ms) = some (.fz d :: cs) := by
  show (match shut 0 m, shutZ bs ms with
    | some n, some ns => some (n :: ns)
    | _, _ => none) = _
  rw [h, shut_z hd]
theorem datWL_map {bp : Nat → List Pa → Option D} {w : α → M} {v : α → D} : ∀ (xs : List α) (h : ∀ x ∈ xs, datW bp (w x) = some (v x)), datWL bp (xs.map w) = some (xs.map v)
  | [], _ => rfl
  | x :: xs, h => by
    show (match datW bp (w x), datWL bp (xs.map w) with
      | some d, some ds => some (d :: ds)
      | _, _ => none) = _
    rw [h x (List.mem_cons_self ..), datWL_map xs fun y hy => h y (List.mem_cons_of_mem _ hy)]
    rfl
theorem x_extend {ms : List M} (h : ms.length + ds.length ≤ sizeLine) : mExtend ms [.fz (.lst ds)] = some (ms ++ ds.map .fz, .fz .non) := by
  unfold mExtend
  simp only [h, if_true]
theorem x_appD {es : List D} (h : (es.length : Int) < 16777216) : mAppend (es.map .fz) [.fz d] = some ((es ++ [d]).map .fz, .fz .non) := by
  rw [append_fz (by simp only [List.length_map, sizeLine]; omega), List.map_append]
  rfl
theorem k_tup2 {d e : D} : oTup env [.fz d, .fz e] = some (.fz (.tup [d, e])) := rfl
theorem k_tup3 {d e f : D} : oTup env [.fz d, .fz e, .fz f] = some (.fz (.tup [d, e, f])) := rfl
theorem k_tup4 {d e f g : D} : oTup env [.fz d, .fz e, .fz f, .fz g] = some (.fz (.tup [d, e, f, g])) := rfl
theorem k_tup1 {d : D} : oTup env [.fz d] = some (.fz (.tup [d])) := rfl
theorem k_tupOl2 {d : D} {ms : List M} : oTup env [.fz d, .ol ms] = some (.ot [.fz d, .ol ms]) := rfl
theorem k_tupOl2' {d : D} {ms : List M} : oTup env [.ol ms, .fz d] = some (.ot [.ol ms, .fz d]) := rfl
theorem pow2_pos {k : Nat} : (0 : Int) < 1 * 2 ^ k := by
  have : (0 : Int) < 2 ^ k := Int.pow_pos (by decide)
  omega
theorem pow2_log {k : Nat} (h : k < 9000) : ((1 : Int) * 2 ^ k).natAbs.log2 < 9000 := by
  rw [Int.one_mul, Int.natAbs_pow]
  show (2 ^ k).log2 < 9000
  rw [Nat.log2_two_pow]
  exact h
theorem lp_map {lk : Nat → Bool} {t : Tg} {B : En → Option Fl} {F : α → D} (Inv : List α → En → Prop) (ts : List α) (hs : ∀ pre x post, pre ++ x :: post = ts → ∀ e, Inv pre e → ∃ e1 e2, asT lk t (F x) e = some e1 ∧ B e1 = some (.nx e2) ∧ Inv (pre ++ [x]) e2) {e : En} (h0 : Inv [] e) :
    ∃ e', lpF lk t B (ts.map F) e = some (.nx e') ∧ Inv ts e' := by
  suffices ∀ (post pre : List α) (e : En), pre ++ post = ts → Inv pre e → ∃ e', lpF lk t B (post.map F) e = some (.nx e') ∧ Inv ts e' from this ts [] e rfl h0
  intro post
  induction post with
  | nil =>
    intro pre e hp h
    rw [List.append_nil] at hp
    subst hp
    exact ⟨e, lp_nil, h⟩
  | cons d post ih =>
    intro pre e hp h
    obtain ⟨e1, e2, h1, h2, h3⟩ := hs pre d post hp e h
    obtain ⟨e', h4, h5⟩ := ih (pre ++ [d]) e2 (by rw [List.append_assoc]; exact hp) h3
    exact ⟨e', lp_cons h1 h2 h4, h5⟩
theorem x_lcG {vs : List Nat} {t : Tg} {elt : En → Option M} {it : En → Option (List D)} {F : α → D} {xs : List α} {w : α → M} {e1 : α → En} (h : it env = some (xs.map F)) (hT : ∀ x ∈ xs, asT (lkOf vs) t (F x) (env.wipe vs) = some (e1 x)) (hE : ∀ x ∈ xs, elt (e1 x) = some (w x)) (hs : ∀ x ∈ xs, slotsL [w x] = []) (hl : xs.length ≤ sizeLine) (hr : M.ol (xs.map w) = r) : lcF vs t it cYes elt env = some r := by
  subst hr
  exact x_lcMM h hT hE hs hl
theorem lcL_mapg {vs : List Nat} {t : Tg} {cond : En → Option Bool} {elt : En → Option M} {F : α → D} {c : α → Bool} {w : α → M} {e1 : α → En} : ∀ (xs : List α) (hT : ∀ x ∈ xs, asT (lkOf vs) t (F x) (env.wipe vs) = some (e1 x)) (hC : ∀ x ∈ xs, cond (e1 x) = some (c x)) (hE : ∀ x ∈ xs, c x = true → elt (e1 x) = some (w x)) (hs : ∀ x ∈ xs, slotsL [w x] = []), lcL vs t cond elt env (xs.map F) = some ((xs.filter c).map w)
  | [], _, _, _, _ => lcL_n
  | x :: xs, hT, hC, hE, hs => by
    have ih := lcL_mapg xs (fun y hy => hT y (List.mem_cons_of_mem _ hy)) (fun y hy => hC y (List.mem_cons_of_mem _ hy)) (fun y hy => hE y (List.mem_cons_of_mem _ hy)) (fun y hy => hs y (List.mem_cons_of_mem _ hy))
    cases hc : c x with
    | false =>
      rw [List.filter_cons_of_neg (by rw [hc]; simp)]
      exact lcL_s (hT x (List.mem_cons_self ..)) (hC x (List.mem_cons_self ..)) hc ih
    | true =>
      rw [List.filter_cons_of_pos hc]
      exact lcL_t (hT x (List.mem_cons_self ..)) (hC x (List.mem_cons_self ..)) hc (hE x (List.mem_cons_self ..) hc) (hs x (List.mem_cons_self ..)) ih
theorem x_lcGf {vs : List Nat} {t : Tg} {cond : En → Option Bool} {elt : En → Option M} {it : En → Option (List D)} {F : α → D} {xs : List α} {c : α → Bool} {w : α → M} {e1 : α → En} (h : it env = some (xs.map F)) (hT : ∀ x ∈ xs, asT (lkOf vs) t (F x) (env.wipe vs) = some (e1 x)) (hC : ∀ x ∈ xs, cond (e1 x) = some (c x)) (hE : ∀ x ∈ xs, c x = true → elt (e1 x) = some (w x)) (hs : ∀ x ∈ xs, slotsL [w x] = []) (hl : xs.length ≤ sizeLine) (hr : M.ol ((xs.filter c).map w) = r) : lcF vs t it cond elt env = some r := by
  subst hr
  exact lcF_of h (lcL_mapg xs hT hC hE hs) (by simp only [List.length_map]; exact Nat.le_trans (List.length_filter_le _ _) hl)
theorem nlc_I {xs : List α} {v : α → Int} : M.ol (xs.map fun x => .fz (.int (v x))) = oI (xs.map v) := by
  show _ = M.ol (((xs.map v).map D.int).map M.fz)
  rw [List.map_map, List.map_map]
  rfl
theorem nlc_B {xs : List α} {v : α → Bool} : M.ol (xs.map fun x => .fz (.bl (v x))) = oD ((xs.map v).map .bl) := by
  show _ = M.ol (((xs.map v).map D.bl).map M.fz)
  rw [List.map_map, List.map_map]
  rfl
theorem nlc_D {xs : List α} {v : α → D} : M.ol (xs.map fun x => .fz (v x)) = oD (xs.map v) := by
  show _ = M.ol ((xs.map v).map M.fz)
  rw [List.map_map]
  rfl
theorem zipIdx_en {F : α → D} : ∀ (xs : List α) (k : Nat), enD k (xs.map F) = (xs.zipIdx k).map fun p => D.tup [.int (p.2 : Nat), F p.1]
  | [], k => rfl
  | x :: xs, k => by
    show D.tup [.int (k : Nat), F x] :: enD (k + 1) (xs.map F) = _
    rw [zipIdx_en xs (k + 1)]
    rfl
theorem x_enP {F : α → D} {xs : List α} (h : fs env = some [a]) (ha : items env a = some (.lst (xs.map F))) : itEnP fs env = some (xs.zipIdx.map fun p => .tup [.int (p.2 : Nat), F p.1]) := by
  have e : itemsL env [a] = some [.lst (xs.map F)] := by
    show (match items env a, some [] with
      | some d, some ds => some (d :: ds)
      | _, _ => none : Option (List D)) = _
    rw [ha]
  unfold itEnP
  rw [h]
  simp only [e]
  show (some (enD 0 (xs.map F)) : Option (List D)) = _
  rw [zipIdx_en]
theorem zipD_map {F : α → D} {G : β → D} : ∀ (xs : List α) (ys : List β), zipD (xs.map F) (ys.map G) = (xs.zip ys).map fun p => D.tup [F p.1, G p.2]
  | [], ys => by cases ys <;> rfl
  | x :: xs, [] => rfl
  | x :: xs, y :: ys => by
    show D.tup [F x, G y] :: zipD (xs.map F) (ys.map G) = _
    rw [zipD_map xs ys]
    rfl
theorem x_zipP {F : α → D} {G : β → D} {xs : List α} {ys : List β} (h : fs env = some [a, b]) (ha : items env a = some (.lst (xs.map F))) (hb : items env b = some (.lst (ys.map G))) : itZipP fs env = some ((xs.zip ys).map fun p => .tup [F p.1, G p.2]) := by
  have e : itemsL env [a, b] = some [.lst (xs.map F), .lst (ys.map G)] := by
    show (match items env a, (match items env b, some [] with
      | some d, some ds => some (d :: ds)
      | _, _ => none : Option (List D)) with
      | some d, some ds => some (d :: ds)
      | _, _ => none) = _
    rw [ha, hb]
  unfold itZipP
  rw [h]
  simp only [e]
  show (some (zipD (xs.map F) (ys.map G)) : Option (List D)) = _
  rw [zipD_map]
theorem datW_m {bp : Nat → List Pa → Option D} {w : α → M} {v : α → D} {xs : List α} (h : ∀ x ∈ xs, datW bp (w x) = some (v x)) : datW bp (.ol (xs.map w)) = some (.lst (xs.map v)) := by
  show (datWL bp (xs.map w)).map D.lst = _
  rw [datWL_map xs h]
  rfl
theorem datW_f {bp : Nat → List Pa → Option D} : datW bp (.fz d) = some d := rfl
theorem dats_w {ms : List M} {cs : List D} (hx : datW (plD env) m = some d) (h : dats env ms = some cs) : dats env (m :: ms) = some (d :: cs) := by
  show (match datW (plD env) m, datWL (plD env) ms with
    | some d, some ds => some (d :: ds)
    | _, _ => none) = _
  rw [show datWL (plD env) ms = some cs from h, hx]
theorem datW_t {bp : Nat → List Pa → Option D} {ms : List M} {ds : List D} (h : datWL bp ms = some ds) : datW bp (.ot ms) = some (.tup ds) := by
  show (datWL bp ms).map D.tup = _
  rw [h]
  rfl
theorem datW_l {bp : Nat → List Pa → Option D} {ms : List M} {ds : List D} (h : datWL bp ms = some ds) : datW bp (.ol ms) = some (.lst ds) := by
  show (datWL bp ms).map D.lst = _
  rw [h]
  rfl
theorem datWL_n {bp : Nat → List Pa → Option D} : datWL bp [] = some [] := rfl
theorem datWL_c {bp : Nat → List Pa → Option D} {ms : List M} {ds : List D} (h : datW bp m = some d) (h' : datWL bp ms = some ds) : datWL bp (m :: ms) = some (d :: ds) := by
  show (match datW bp m, datWL bp ms with
    | some d, some ds => some (d :: ds)
    | _, _ => none) = _
  rw [h, h']
theorem rng_nat {n x : Int} {b : Nat} (h : x ∈ rngI n) (hn : n ≤ b) : x.toNat < b := by
  have := mem_rngI.mp h
  omega
theorem rng_nat2 {m n x : Int} {b : Nat} (h : x ∈ rngI2 m n) (h0 : 0 ≤ m) (hn : n ≤ b) : x.toNat < b := by
  have := mem_rngI2.mp h
  omega
theorem k_tupBp2 {i : Nat} {p : List Pa} : oTup env [.fz d, .bp i p] = some (.ot [.fz d, .bp i p]) := rfl
theorem retM_t1 {lk : Nat → Bool} {i : Nat} {d d' : D} (h : env.get i = some m) (hm : dat0 m = some d') : retM lk env (some (.ot [.fz d, .bp i []])) = some (.rt (.fz (.tup [d, d'])) (env.put i (.fz d'))) := by
  have h1 : dat env (.ot [.fz d, .bp i []]) = some (.tup [d, d']) := by
    show (datWL (plD env) [.fz d, .bp i []]).map D.tup = _
    rw [show datWL (plD env) [.fz d, .bp i []] = some [d, d'] from dats_f (dats_m h hm dats_n)]
    rfl
  have h2 : frS [i] env = some (env.put i (.fz d')) := by
    unfold frS
    rw [h]
    show (match dat0 m with
      | some d => frS [] (env.put i (.fz d))
      | none => none) = _
    rw [hm]
    rfl
  have h3 : stow 9 env (.ot [.fz d, .bp i []]) = some (.fz (.tup [d, d']), env.put i (.fz d')) := by
    unfold stow
    show (match dat env (.ot [.fz d, .bp i []]), frS [i] env with
      | some d, some env' => some (M.fz d, env')
      | _, _ => none) = _
    rw [h1, h2]
  unfold retM sRet
  show (match stow 9 env (.ot [.fz d, .bp i []]) with
    | some (m', e2) => some (Fl.rt m' e2)
    | none => none) = _
  rw [h3]
theorem retM_ol {lk : Nat → Bool} {ms ms' : List M} (h : slotsL ms = []) (h' : shutL 8 ms = some ms') : retM lk env (some (.ol ms)) = some (.rt (.ol ms') env) := by
  unfold retM sRet
  show (match stow 9 env (.ol ms) with
    | some (m', e2) => some (Fl.rt m' e2)
    | none => none) = _
  rw [stow_ol (k := 8) h h']
theorem retM_ot {lk : Nat → Bool} {ms ms' : List M} (h : slotsL ms = []) (h' : shutL 8 ms = some ms') : retM lk env (some (.ot ms)) = some (.rt (.ot ms') env) := by
  unfold retM sRet
  show (match stow 9 env (.ot ms) with
    | some (m', e2) => some (Fl.rt m' e2)
    | none => none) = _
  rw [stow_ot (k := 8) h h']
theorem slotsL_f {xs : List D} : slotsL (xs.map .fz) = [] := slotsL_fz xs
theorem shutL_f {k : Nat} {xs : List D} : shutL k (xs.map .fz) = some (xs.map .fz) := shutL_fz xs
theorem gd_str {k : Nat} {x : Str} (h : PyData.strOk x = true) : gd k (.str x) = true := by cases k <;> exact h
theorem idx_t {ds : List D} {i : Int} {d : D} (h : L2.atI ds i = some d) : oIdx env [.fz (.tup ds), .fz (.int i)] = some (.fz d) := by
  have h0 : oIx true env [.fz (.tup ds), .fz (.int i)] = none := rfl
  have h1 : oIx false env [.fz (.tup ds), .fz (.int i)] = some (.fz d) := by
    show L2.atI (ds.map M.fz) i = _
    exact atI_map h
  show oOr (oIx true) (oOr (oIx false) _) env _ = _
  unfold oOr
  rw [h0, h1]
theorem k_idxT0 {a0 : D} {ds : List D} : oIdx env [.fz (.tup (a0 :: ds)), .fz (.int 0)] = some (.fz a0) := idx_t (atI_nat (i := 0) rfl)
theorem k_idxL0 {a0 : D} {ds : List D} : oIdx env [.fz (.lst (a0 :: ds)), .fz (.int 0)] = some (.fz a0) := idx_f (atI_nat (i := 0) rfl)
theorem k_idxT1 {a0 a1 : D} {ds : List D} : oIdx env [.fz (.tup (a0 :: a1 :: ds)), .fz (.int 1)] = some (.fz a1) := idx_t (atI_nat (i := 1) rfl)
theorem k_idxL1 {a0 a1 : D} {ds : List D} : oIdx env [.fz (.lst (a0 :: a1 :: ds)), .fz (.int 1)] = some (.fz a1) := idx_f (atI_nat (i := 1) rfl)
theorem k_idxT2 {a0 a1 a2 : D} {ds : List D} : oIdx env [.fz (.tup (a0 :: a1 :: a2 :: ds)), .fz (.int 2)] = some (.fz a2) := idx_t (atI_nat (i := 2) rfl)
theorem k_idxL2 {a0 a1 a2 : D} {ds : List D} : oIdx env [.fz (.lst (a0 :: a1 :: a2 :: ds)), .fz (.int 2)] = some (.fz a2) := idx_f (atI_nat (i := 2) rfl)
theorem k_idxT3 {a0 a1 a2 a3 : D} {ds : List D} : oIdx env [.fz (.tup (a0 :: a1 :: a2 :: a3 :: ds)), .fz (.int 3)] = some (.fz a3) := idx_t (atI_nat (i := 3) rfl)
theorem k_idxL3 {a0 a1 a2 a3 : D} {ds : List D} : oIdx env [.fz (.lst (a0 :: a1 :: a2 :: a3 :: ds)), .fz (.int 3)] = some (.fz a3) := idx_f (atI_nat (i := 3) rfl)
theorem k_idxT4 {a0 a1 a2 a3 a4 : D} {ds : List D} : oIdx env [.fz (.tup (a0 :: a1 :: a2 :: a3 :: a4 :: ds)), .fz (.int 4)] = some (.fz a4) := idx_t (atI_nat (i := 4) rfl)
theorem k_idxL4 {a0 a1 a2 a3 a4 : D} {ds : List D} : oIdx env [.fz (.lst (a0 :: a1 :: a2 :: a3 :: a4 :: ds)), .fz (.int 4)] = some (.fz a4) := idx_f (atI_nat (i := 4) rfl)
theorem g_idxB {i : Nat} {p : List Pa} {j : Int} (h : oIdx env [.bp i p, .fz (.int j)] = some r) : oIdx env [.bp i p, .fz (.int j)] = some r := h
theorem g_lt {x y : Int} (h : x < y) : x < y := h
theorem g_le {x y : Int} (h : x ≤ y) : x ≤ y := h
theorem g_ltN {x y : Nat} (h : x < y) : x < y := h
theorem g_leN {x y : Nat} (h : x ≤ y) : x ≤ y := h
theorem x_extendD {es : List D} (h : es.length + ds.length ≤ sizeLine) : mExtend (es.map .fz) [.fz (.lst ds)] = some ((es ++ ds).map .fz, .fz .non) := by
  rw [x_extend (by simpa using h), List.map_append]
theorem k_min2 {i j : Int} : oMin env [.fz (.int i), .fz (.int j)] = some (.fz (.int (if j < i then j else i))) := rfl
theorem k_max2 {i j : Int} : oMax env [.fz (.int i), .fz (.int j)] = some (.fz (.int (if j > i then j else i))) := rfl
theorem k_xor {i j : Int} : sop iXor env [.fz (.int i), .fz (.int j)] = some (.fz (.int (Builtin.bitXor i j))) := rfl
theorem or_xor_and : ∀ (n a b : Nat), a < 2 ^ n → b < 2 ^ n → a ||| b = (a ^^^ b) + (a &&& b)
  | 0, a, b, ha, hb => by
    have : a = 0 := by simp at ha; exact ha
    have : b = 0 := by simp at hb; exact hb
    subst a b
    rfl
  | n + 1, a, b, ha, hb => by
    have ih := or_xor_and n (a / 2) (b / 2) (by rw [Nat.pow_succ] at ha; omega) (by rw [Nat.pow_succ] at hb; omega)
    have e1 : (a ||| b) / 2 = a / 2 ||| b / 2 := Nat.or_div_two ..
    have e2 : (a ^^^ b) / 2 = a / 2 ^^^ b / 2 := Nat.xor_div_two ..
    have e3 : (a &&& b) / 2 = a / 2 &&& b / 2 := Nat.and_div_two ..
    have m1 : (a ||| b) % 2 = 1 ↔ a % 2 = 1 ∨ b % 2 = 1 := Nat.or_mod_two_eq_one
    have m2 : (a ^^^ b) % 2 = 1 ↔ ¬ (a % 2 = 1 ↔ b % 2 = 1) := Nat.xor_mod_two_eq_one
    have m3 : (a &&& b) % 2 = 1 ↔ a % 2 = 1 ∧ b % 2 = 1 := Nat.and_mod_two_eq_one
    rw [← e1, ← e2, ← e3] at ih
    generalize a ||| b = p at *
    generalize a ^^^ b = q at *
    generalize a &&& b = r at *
    clear e1 e2 e3
    rcases Nat.mod_two_eq_zero_or_one a with h1 | h1 <;> rcases Nat.mod_two_eq_zero_or_one b with h2 | h2 <;> rw [h1, h2] at m1 m2 m3 <;> simp at m1 m2 m3 <;> omega
theorem bitXorN (a b : Nat) : Builtin.bitXor (a : Int) (b : Int) = ((a ^^^ b : Nat) : Int) := by
  have h : a ||| b = (a ^^^ b) + (a &&& b) := by
    have h1 := Nat.lt_two_pow_self (n := a)
    have h2 := Nat.lt_two_pow_self (n := b)
    refine or_xor_and (a + b) a b (Nat.lt_of_lt_of_le h1 (Nat.pow_le_pow_right (by decide) (by omega))) (Nat.lt_of_lt_of_le h2 (Nat.pow_le_pow_right (by decide) (by omega)))
  unfold Builtin.bitXor
  rw [bitOrN, bitAndN, h]
  omega
theorem k_xorN {a b : Nat} : sop iXor env [.fz (.int a), .fz (.int b)] = some (.fz (.int ((a ^^^ b : Nat) : Int))) := by rw [k_xor, bitXorN]
theorem k_minN {a b : Nat} : oMin env [.fz (.int a), .fz (.int b)] = some (.fz (.int ((min a b : Nat) : Int))) := by
  rw [k_min2]
  have : (if (b : Int) < (a : Int) then (b : Int) else (a : Int)) = ((min a b : Nat) : Int) := by
    split <;> omega
  rw [this]
theorem x_andF {f g : En → Option Bool} {c : Bool} (h : f env = some c) (hc : c = false) : dAnd f g env = some false := by
  subst hc
  unfold dAnd
  rw [h]
theorem x_orT {f g : En → Option Bool} {c : Bool} (h : f env = some c) (hc : c = true) : dOr f g env = some true := by
  subst hc
  unfold dOr
  rw [h]
theorem x_ifT {c : Bool} {x y R : Option Fl} (h : c = true) (h' : x = R) : (if c = true then x else y) = R := by rw [if_pos h]; exact h'
theorem x_ifF {c : Bool} {x y R : Option Fl} (h : c = false) (h' : y = R) : (if c = true then x else y) = R := by subst h; simpa using h'
theorem gInT_ints {neg : Bool} {x : Int} : ∀ L : List Int, gInT neg [.int x, .tup (L.map .int)] = some (.bl (if neg then !L.contains x else L.contains x)) := fun L => by
  have h1 : (L.map D.int).all scal = true := by
    rw [List.all_map]
    exact List.all_eq_true.mpr fun _ _ => rfl
  have h2 : ((L.map D.int).map toV).all L2.flatV = true := by
    rw [List.map_map, List.all_map]
    exact List.all_eq_true.mpr fun _ _ => rfl
  have h3 : L2.inV (.int x) ((L.map D.int).map toV) = L.contains x := by
    unfold L2.inV
    rw [List.map_map]
    induction L with
    | nil => rfl
    | cons y L ih =>
      rw [List.map_cons, List.any_cons, List.contains_cons, ih (by
        rw [List.all_map]
        exact List.all_eq_true.mpr fun _ _ => rfl) (by
        rw [List.map_map, List.all_map]
        exact List.all_eq_true.mpr fun _ _ => rfl)]
      show (y == x || _) = (x == y || _)
      rw [BEq.comm]
  have h4 : (scal (.int x) && (L.map D.int).all scal && L2.flatV (toV (.int x)) && ((L.map D.int).map toV).all L2.flatV) = true := by
    rw [h1, h2]
    rfl
  show (if (scal (.int x) && (L.map D.int).all scal && L2.flatV (toV (.int x)) && ((L.map D.int).map toV).all L2.flatV) = true then some (D.bl (if neg = true then !L2.inV (.int x) ((L.map D.int).map toV) else L2.inV (.int x) ((L.map D.int).map toV))) else none) = _
  rw [if_pos h4, h3]
theorem k_inTI {x : Int} {L : List Int} : oIn env [.fz (.int x), .fz (.tup (L.map .int))] = some (.fz (.bl (L.contains x))) := by
  show oOr (sop (gInL false)) (oOr (sop (gInT false)) (sop (gInS false))) env _ = _
  have h1 : sop (gInL false) env [.fz (.int x), .fz (.tup (L.map .int))] = none := rfl
  unfold oOr
  rw [h1]
  simp only
  rw [sop_of (dats_f (dats_f dats_n)) (gInT_ints L) rfl]
  rfl
theorem k_inT2 {x a b : Int} : oIn env [.fz (.int x), .fz (.tup [.int a, .int b])] = some (.fz (.bl ([a, b].contains x))) := k_inTI (L := [a, b])
theorem k_inT3 {x a b c : Int} : oIn env [.fz (.int x), .fz (.tup [.int a, .int b, .int c])] = some (.fz (.bl ([a, b, c].contains x))) := k_inTI (L := [a, b, c])
theorem k_inT4 {x a b c d : Int} : oIn env [.fz (.int x), .fz (.tup [.int a, .int b, .int c, .int d])] = some (.fz (.bl ([a, b, c, d].contains x))) := k_inTI (L := [a, b, c, d])
theorem x_minL {L : List Int} {i : Int} (h : f env = some a) (ha : dats env [a] = some [lI L]) (hm : lMin L = some i) : opr oMin (aCons f aNil) env = some (.fz (.int i)) := by
  refine opr_of (acons_of h e_anil) ?_
  have h1 : sop gMin2 env [a] = none := by
    unfold sop
    rw [ha]
    rfl
  have h2 : gMin [lI L] = some (.int i) := by
    show (match intsOf (L.map .int) with
      | some ns => (lMin ns).map D.int
      | none => none) = _
    rw [intsOf_ints]
    show (lMin L).map D.int = _
    rw [hm]
    rfl
  show oOr (sop gMin2) (sop gMin) env [a] = _
  unfold oOr
  rw [h1, sop_of ha h2 rfl]
theorem x_catOF {xs ys : List Int} (hl : xs.length + ys.length ≤ sizeLine) : oAdd env [oI xs, .fz (lI ys)] = some (oI (xs ++ ys)) := by
  have h1 : sop iAdd env [oI xs, .fz (lI ys)] = none := by
    unfold sop
    rw [dats_o (dats_f dats_n)]
    rfl
  have h2 : sop gStr env [oI xs, .fz (lI ys)] = none := by
    unfold sop
    rw [dats_o (dats_f dats_n)]
    rfl
  have h3 : oCat env [oI xs, .fz (lI ys)] = some (oI (xs ++ ys)) := by
    unfold oCat
    simp only [elems_f, elems_o, List.length_map]
    rw [if_pos hl]
    show some (M.ol _) = some (M.ol (((xs ++ ys).map D.int).map M.fz))
    rw [List.map_append, List.map_append]
  show oOr (sop iAdd) (oOr (sop gStr) oCat) env _ = _
  unfold oOr
  rw [h1, h2, h3]
end
end T2
end
section
set_option Elab.async false
set_option linter.all false
set_option maxRecDepth 100000
namespace T2
open PySem PySem.Spec PyProof.Rows L2
/-- where the text's classes stand -/
class ClsA where
  at_ : Nat → Addr
section
variable {K : PySem.W.Frag}
/-- the subtree at a path, and the tree with another one in its place -/
theorem Own.hole {F H : Hp} : ∀ {p : List Pa} {m : M} {w : V} {A : List Addr} {n : M} {v : V}, Own K noBr F H m w A → getP m p = some n → ValP H w p v →
    ∃ X Y B, A = X ++ B ++ Y ∧ Own K noBr F H n v B ∧
      ∀ F' H' n' B', Same F F' → (∀ x ∈ X ++ Y, F' x = none ∧ ∀ o, H x = some o → H' x = some o) → Own K noBr F' H' n' v B' → ∃ m', setP m p n' = some m' ∧ Own K noBr F' H' m' w (X ++ B' ++ Y)
  | [], m, w, A, n, v, h, e, q => by
    rw [getP_nil] at e
    cases e
    have q : v = w := q
    subst q
    refine ⟨[], [], A, by simp, h, fun F' H' n' B' s k o => ⟨_, setP_nil _ _, ?_⟩⟩
    rw [List.nil_append, List.append_nil]
    exact o
  | .ix kk :: r, m, w, A, n, v, h, e, q => by
    obtain ⟨b, us, u, rfl, q, g, q2⟩ := q
    cases m with
    | ol xs =>
      simp only [Own] at h
      obtain ⟨p, vs', B, e1, rfl, f, q3, h⟩ := h
      cases e1
      have : us = vs' := by rcases q with q | q <;> rw [q3] at q <;> cases q <;> rfl
      subst this
      simp only [getP] at e
      split at e
      · rename_i m' hm
        obtain ⟨X, Y, D, v', rfl, e1, e2, e3⟩ := OwnL.split h hm
        rw [g] at e1
        cases e1
        obtain ⟨X', Y', C, rfl, c2, c3⟩ := Own.hole e2 e q2
        refine ⟨b :: X ++ X', Y' ++ Y, C, by simp, c2, fun F' H' n' B' s k o => ?_⟩
        obtain ⟨n2, s1, s2⟩ := c3 F' H' n' B' s (fun x hx => k x (by
          rcases List.mem_append.mp hx with z | z <;> simp [z])) o
        refine ⟨.ol (xs.set kk n2), by simp only [setP, hm, s1, Option.map_some], ?_⟩
        simp only [Own]
        have kb := k b (by simp)
        exact ⟨b, us, X ++ (X' ++ B' ++ Y') ++ Y, rfl, by simp, kb.1, kb.2 _ q3, e3 F' H' n2 _ s (fun x hx => k x (by
          rcases List.mem_append.mp hx with z | z <;> simp [z])) s2⟩
      · cases e
    | ot xs =>
      simp only [Own] at h
      obtain ⟨p, vs', B, e1, rfl, f, q3, h⟩ := h
      cases e1
      have : us = vs' := by rcases q with q | q <;> rw [q3] at q <;> cases q <;> rfl
      subst this
      simp only [getP] at e
      split at e
      · rename_i m' hm
        obtain ⟨X, Y, D, v', rfl, e1, e2, e3⟩ := OwnL.split h hm
        rw [g] at e1
        cases e1
        obtain ⟨X', Y', C, rfl, c2, c3⟩ := Own.hole e2 e q2
        refine ⟨b :: X ++ X', Y' ++ Y, C, by simp, c2, fun F' H' n' B' s k o => ?_⟩
        obtain ⟨n2, s1, s2⟩ := c3 F' H' n' B' s (fun x hx => k x (by
          rcases List.mem_append.mp hx with z | z <;> simp [z])) o
        refine ⟨.ot (xs.set kk n2), by simp only [setP, hm, s1, Option.map_some], ?_⟩
        simp only [Own]
        have kb := k b (by simp)
        exact ⟨b, us, X ++ (X' ++ B' ++ Y') ++ Y, rfl, by simp, kb.1, kb.2 _ q3, e3 F' H' n2 _ s (fun x hx => k x (by
          rcases List.mem_append.mp hx with z | z <;> simp [z])) s2⟩
      · cases e
    | fz d => cases e
    | bp i p => cases e
    | oi C fs => cases e
    | od _ _ => cases e
    | odt _ => cases e
  | .fd f :: r, m, w, A, n, v, h, e, q => by
    obtain ⟨b, C0, dx0, gs0, u, rfl, q, g, q2⟩ := q
    cases m with
    | oi C xs =>
      simp only [Own] at h
      obtain ⟨p, dx, gs, B, e1, rfl, f1, f2, q3, q4, h⟩ := h
      cases e1
      rw [q3] at q
      cases q
      simp only [getP] at e
      split at e
      · rename_i m' hm
        obtain ⟨X, Y, D, v', rfl, e1, e2, e3⟩ := OwnF.split h hm
        rw [g] at e1
        cases e1
        obtain ⟨X', Y', C', rfl, c2, c3⟩ := Own.hole e2 e q2
        refine ⟨b :: dx0 :: X ++ X', Y' ++ Y, C', by simp, c2, fun F' H' n' B' s k o => ?_⟩
        obtain ⟨n2, s1, s2⟩ := c3 F' H' n' B' s (fun x hx => k x (by
          rcases List.mem_append.mp hx with z | z <;> simp [z])) o
        refine ⟨.oi C0 (setF xs f n2), by simp only [setP, hm, s1, Option.map_some], ?_⟩
        simp only [Own]
        have kb := k b (by simp)
        have kd := k dx0 (by simp)
        exact ⟨b, dx0, gs0, X ++ (X' ++ B' ++ Y') ++ Y, rfl, by simp, kb.1, kd.1, kb.2 _ q3, kd.2 _ q4, e3 F' H' n2 _ s (fun x hx => k x (by
          rcases List.mem_append.mp hx with z | z <;> simp [z])) s2⟩
      · cases e
    | fz d => cases e
    | bp i p => cases e
    | ol ms => cases e
    | ot ms => cases e
    | od _ _ => cases e
    | odt _ => cases e
end
section
variable {K : PySem.W.Frag} {F H F' H' : Hp} {σ σ' : L2.St} {env env' : En} {fp fp' : Nat → List Addr} {A B : List Addr}
/-- a slot's subtree changes: its nodes B become B', the heap changes at B alone -/
theorem hole_ok (ok : EnvOk K F H σ env fp) {i : Nat} {p : List Pa} {n : M} {v : V} (hpl : env.place i p = some n) (hv : plc H σ env i p v) :
    ∃ B, Own K noBr F H n v B ∧ B.Nodup ∧ (∀ c ∈ B, Ond env fp c) ∧
      ∀ H' n' B', Own K noBr F H' n' v B' → B'.Nodup → (∀ c ∈ B', c ∈ B ∨ ¬ Ond env fp c) → (∀ x o, x ∉ B → H x = some o → H' x = some o) → (∀ x, H' x = none → H x = none) → (∀ x od u, H x = some (.frz od u) → H' x = some (.frz od u)) → ∃ env' fp', setE env i p n' = some env' ∧ Go K B' σ env fp F H σ env' fp' F H' ∧ ∀ x, Ond env' fp' x → x ∈ B' ∨ (Ond env fp x ∧ x ∉ B) := by
  obtain ⟨w, hw, hval, _⟩ := hv
  unfold En.place at hpl
  split at hpl
  · rename_i m hm
    obtain ⟨w', k1, k2⟩ := ok.slot i m hm
    rw [hw] at k1
    cases k1
    obtain ⟨X, Y, C, eA, c2, c3⟩ := k2.hole hpl hval
    have nd := ok.nd i m hm
    rw [eA] at nd
    have hlt := En.get_lt hm
    have inA : ∀ x, x ∈ X ++ C ++ Y → x ∈ fp i := fun x hx => by rw [eA]; exact hx
    have nd1 := List.nodup_append.mp nd
    have nd2 := List.nodup_append.mp nd1.1
    have sep : ∀ x ∈ X ++ Y, x ∉ C := fun x hx => by
      rcases List.mem_append.mp hx with z | z
      · exact fun h => nd2.2.2 x z x h rfl
      · exact fun h => nd1.2.2 x (by simp [h]) x z rfl
    have F0 : ∀ x ∈ fp i, F x = none := fun x hx => (k2.at _ _ _ x hx).1
    refine ⟨C, c2, nd2.2.1, fun c hc => ⟨i, m, hm, inA c (by simp [hc])⟩, fun H' n' B' o n sC up stay lok => ?_⟩
    obtain ⟨m', s1, s2⟩ := c3 F H' n' B' (.refl _) (fun x hx => ⟨F0 x (inA x (by rcases List.mem_append.mp hx with z | z <;> simp [z])), fun o => up x o (sep x hx)⟩) o
    have inN : ∀ x, x ∈ X ++ B' ++ Y → x ∈ B' ∨ (x ∈ fp i ∧ x ∉ C) := fun x hx => by
      simp only [List.mem_append] at hx
      rcases hx with (z | z) | z
      · exact .inr ⟨inA x (by simp [z]), sep x (by simp [z])⟩
      · exact .inl z
      · exact .inr ⟨inA x (by simp [z]), sep x (by simp [z])⟩
    have onN : ∀ x, Ond (env.put i m') (fun j => if j = i then X ++ B' ++ Y else fp j) x → x ∈ B' ∨ (Ond env fp x ∧ x ∉ C) := fun x ⟨j, y, hj, hx⟩ => by
      by_cases h : j = i
      · simp only [if_pos h] at hx
        rcases inN x hx with z | z
        · exact .inl z
        · exact .inr ⟨⟨i, m, hm, z.1⟩, z.2⟩
      · simp only [if_neg h] at hx
        rw [En.get_put hlt, if_neg h] at hj
        exact .inr ⟨⟨j, y, hj, hx⟩, fun z => h (ok.dj j i y m x hj hm hx (inA x (by simp [z])))⟩
    have ne' : ∀ {j y x}, j ≠ i → env.get j = some y → x ∈ fp j → x ∉ C ∧ x ∉ B' := fun {j y x} hj hy hx => by
      refine ⟨fun z => hj (ok.dj j i y m x hy hm hx (inA x (by simp [z]))), fun z => ?_⟩
      rcases sC x z with w | w
      · exact hj (ok.dj j i y m x hy hm hx (inA x (by simp [w])))
      · exact w ⟨j, y, hy, hx⟩
    refine ⟨env.put i m', _, by unfold setE; simp only [hm, s1, Option.map_some], ⟨.refl _, fun x o e no _ => up x o (fun z => no ⟨i, m, hm, inA x (by simp [z])⟩) e, stay, fun x z => .inl z, fun x z => ?_, ?_, lok⟩, onN⟩
    · rcases onN x z with z | z
      · exact .inr (.inr z)
      · exact .inr (.inl z.1)
    · refine ⟨by unfold En.put; rw [List.length_set]; exact ok.len, fun x o e => ?_, fun j y hj => ?_, fun j y hj => ?_, fun j k y y' x hj hk hx hx' => ?_⟩
      · exact up x o (fun z => by rw [F0 x (inA x (by simp [z]))] at e; cases e) (ok.sub _ _ e)
      · rw [En.get_put hlt] at hj
        by_cases h : j = i
        · subst h
          rw [if_pos rfl] at hj
          cases hj
          refine ⟨w, hw, ?_⟩
          simp only [if_pos]
          exact s2
        · rw [if_neg h] at hj
          obtain ⟨w', z1, z2⟩ := ok.slot j y hj
          refine ⟨w', z1, ?_⟩
          simp only [if_neg h]
          exact z2.mono (.refl _) (fun _ _ _ z => z) _ _ _ fun x hx => ⟨(z2.at _ _ _ x hx).1, fun u => up x u (ne' h hj hx).1⟩
      · rw [En.get_put hlt] at hj
        by_cases h : j = i
        · simp only [if_pos h]
          have d1 : ∀ x ∈ B', x ∉ X ++ Y := fun x hx hz => by
            rcases sC x hx with w | w
            · exact sep x hz w
            · exact w ⟨i, m, hm, inA x (by rcases List.mem_append.mp hz with z | z <;> simp [z])⟩
          refine List.nodup_append.mpr ⟨List.nodup_append.mpr ⟨nd2.1, n, fun x hx y hy e => ?_⟩, nd1.2.1, fun x hx y hy e => ?_⟩
          · subst e
            exact d1 x hy (by simp [hx])
          · subst e
            simp only [List.mem_append] at hx
            rcases hx with z | z
            · exact nd1.2.2 x (by simp [z]) x hy rfl
            · exact d1 x z (by simp [hy])
        · rw [if_neg h] at hj
          simp only [if_neg h]
          exact ok.nd j y hj
      · have cross : ∀ k y, k ≠ i → env.get k = some y → ∀ x, x ∈ X ++ B' ++ Y → x ∈ fp k → False := fun k y hk hy x h1 h2 => by
          rcases inN x h1 with z | z
          · exact (ne' hk hy h2).2 z
          · exact hk (ok.dj k i y m x hy hm h2 z.1)
        rw [En.get_put hlt] at hj hk
        by_cases hj' : j = i
        · simp only [if_pos hj'] at hx
          by_cases hk' : k = i
          · rw [hj', hk']
          · rw [if_neg hk'] at hk
            simp only [if_neg hk'] at hx'
            exact (cross k y' hk' hk x hx hx').elim
        · rw [if_neg hj'] at hj
          simp only [if_neg hj'] at hx
          by_cases hk' : k = i
          · simp only [if_pos hk'] at hx'
            exact (cross j y hj' hj x hx' hx).elim
          · rw [if_neg hk'] at hk
            simp only [if_neg hk'] at hx'
            exact ok.dj j k y y' x hj hk hx hx'
  · cases hpl
end
end T2
end
section
set_option Elab.async false
set_option linter.all false
set_option maxRecDepth 100000
namespace T2
open PySem PySem.Spec PyProof.Rows L2
def keyD : D → Option Key
  | .int i => some (.inl i)
  | .str s => some (.inr s)
  | _ => none
def kD : Key → D
  | .inl i => .int i
  | .inr s => .str s
def getK (kvs : List (Key × D)) (k : Key) : Option D := (kvs.find? fun kv => decide (kv.1 = k)).map (·.2)
def putD (kvs : List (Key × D)) (k : Key) (d : D) : List (Key × D) := if (kvs.any fun kv => decide (kv.1 = k)) = true then kvs.map fun kv => if kv.1 = k then (kv.1, d) else kv else kvs ++ [(k, d)]
section
variable {K : PySem.W.Frag} {F H : Hp}
theorem keyD_ok {d : D} {k : Key} {v : V} (h : Rep K F d v) (e : keyD d = some k) : v = kV k := by
  cases d with
  | int i =>
    cases e
    simp only [Rep] at h
    exact h
  | str i =>
    cases e
    simp only [Rep] at h
    exact h
  | _ => cases e
theorem zip_len {kvs : List (Key × D)} {vs : List V} (h : RepL K F (kvs.map (·.2)) vs) : (zipK kvs vs).length = kvs.length := by
  have := h.len
  unfold zipK
  simp at this ⊢
  omega
theorem zip_keys : ∀ {kvs : List (Key × D)} {vs : List V}, RepL K F (kvs.map (·.2)) vs → (zipK kvs vs).map (·.1) = kvs.map (·.1)
  | [], vs, h => rfl
  | kv :: kvs, vs, h => by
    simp only [List.map_cons, RepL] at h
    obtain ⟨v, r, rfl, q, q2⟩ := h
    have := zip_keys q2
    unfold zipK at this ⊢
    simp only [List.map_cons, List.zip_cons_cons]
    rw [this]
theorem valV_ok {k : Key} : ∀ {kvs : List (Key × D)} {vs : List V}, RepL K F (kvs.map (·.2)) vs → (getK kvs k = none ∧ valV (zipK kvs vs) k = none) ∨ ∃ d v, getK kvs k = some d ∧ valV (zipK kvs vs) k = some v ∧ Rep K F d v
  | [], vs, h => .inl ⟨rfl, rfl⟩
  | kv :: kvs, vs, h => by
    simp only [List.map_cons, RepL] at h
    obtain ⟨v, r, rfl, q, q2⟩ := h
    by_cases hk : kv.1 = k
    · refine .inr ⟨kv.2, v, ?_, ?_, q⟩
      · unfold getK
        simp [hk]
      · unfold valV zipK
        simp [hk]
    · have e1 : getK (kv :: kvs) k = getK kvs k := by
        unfold getK
        simp [hk]
      have e2 : valV (zipK (kv :: kvs) (v :: r)) k = valV (zipK kvs r) k := by
        unfold valV zipK
        simp [hk]
      rw [e1, e2]
      exact valV_ok q2
theorem any_zip {k : Key} {kvs : List (Key × D)} {vs : List V} (h : RepL K F (kvs.map (·.2)) vs) : ((zipK kvs vs).any fun kv => decide (kv.1 = k)) = kvs.any fun kv => decide (kv.1 = k) := by
  have e1 : ∀ l : List (Key × V), (l.any fun kv => decide (kv.1 = k)) = (l.map (·.1)).any fun x => decide (x = k) := fun l => by rw [List.any_map]; rfl
  have e2 : ∀ l : List (Key × D), (l.any fun kv => decide (kv.1 = k)) = (l.map (·.1)).any fun x => decide (x = k) := fun l => by rw [List.any_map]; rfl
  rw [e1, e2, zip_keys h]
theorem put_map {k : Key} {d : D} {v : V} (hd : Rep K F d v) : ∀ {kvs : List (Key × D)} {vs : List V}, RepL K F (kvs.map (·.2)) vs → ∃ vs', ((zipK kvs vs).map fun kv => if kv.1 = k then (kv.1, v) else kv) = zipK (kvs.map fun kv => if kv.1 = k then (kv.1, d) else kv) vs' ∧ RepL K F ((kvs.map fun kv => if kv.1 = k then (kv.1, d) else kv).map (·.2)) vs'
  | [], vs, h => ⟨vs, rfl, h⟩
  | kv :: kvs, vs, h => by
    simp only [List.map_cons, RepL] at h
    obtain ⟨u, r, rfl, q, q2⟩ := h
    obtain ⟨vs', e1, e2⟩ := put_map hd q2
    by_cases hk : kv.1 = k
    · refine ⟨v :: vs', ?_, ?_⟩
      · unfold zipK at e1 ⊢
        simp only [List.map_cons, List.zip_cons_cons, hk, if_true]
        rw [e1]
      · simp only [List.map_cons, hk, if_true, RepL]
        exact ⟨v, vs', rfl, hd, e2⟩
    · refine ⟨u :: vs', ?_, ?_⟩
      · unfold zipK at e1 ⊢
        simp only [List.map_cons, List.zip_cons_cons, hk, if_false]
        rw [e1]
      · simp only [List.map_cons, hk, if_false, RepL]
        exact ⟨u, vs', rfl, q, e2⟩
theorem put_app {k : Key} {d : D} {v : V} (hd : Rep K F d v) : ∀ {kvs : List (Key × D)} {vs : List V}, RepL K F (kvs.map (·.2)) vs → zipK kvs vs ++ [(k, v)] = zipK (kvs ++ [(k, d)]) (vs ++ [v]) ∧ RepL K F ((kvs ++ [(k, d)]).map (·.2)) (vs ++ [v])
  | [], vs, h => by
    simp only [List.map_nil, RepL] at h
    subst h
    refine ⟨rfl, ?_⟩
    simp only [List.nil_append, List.map_cons, List.map_nil, RepL]
    exact ⟨v, [], rfl, hd, rfl⟩
  | kv :: kvs, vs, h => by
    simp only [List.map_cons, RepL] at h
    obtain ⟨u, r, rfl, q, q2⟩ := h
    obtain ⟨e1, e2⟩ := put_app (k := k) hd q2
    refine ⟨?_, ?_⟩
    · unfold zipK at e1 ⊢
      simp only [List.map_cons, List.zip_cons_cons, List.cons_append]
      rw [e1]
    · simp only [List.cons_append, List.map_cons, RepL]
      exact ⟨u, r ++ [v], rfl, q, e2⟩
theorem put_ok {k : Key} {d : D} {v : V} (hd : Rep K F d v) {kvs : List (Key × D)} {vs : List V} (h : RepL K F (kvs.map (·.2)) vs) : ∃ vs', putK (zipK kvs vs) k v = zipK (putD kvs k d) vs' ∧ RepL K F ((putD kvs k d).map (·.2)) vs' := by
  unfold putK putD
  rw [any_zip h]
  split
  · exact put_map hd h
  · exact ⟨_, put_app hd h⟩
end
/-- a dict that is no part of a slot, or stands at a place -/
def dicO (env : En) : M → Option (List (Key × D))
  | .od _ kvs => some kvs
  | .fz (.dic ks ds) => some (ks.zip ds)
  | .bp i p => match env.place i p with
    | some (.od _ kvs) => some kvs
    | _ => none
  | _ => none
/-- .. that is not locked -/
def dicU (env : En) : M → Option (List (Key × D))
  | .od false kvs => some kvs
  | .bp i p => match env.place i p with
    | some (.od false kvs) => some kvs
    | _ => none
  | _ => none
section
variable {K : PySem.W.Frag} {F H F' H' : Hp} {σ : L2.St} {env : En} {fp : Nat → List Addr} {A B : List Addr}
theorem lkd.rd {lk : Bool} {p : Addr} {o : HO} (h : lkd lk H p o) : Rd H p o := by
  rcases h with ⟨h1, h2⟩ | ⟨h1, od, h2⟩
  · exact .inl h2
  · exact .inr ⟨od, h2⟩
/-- what stands at a place -/
theorem place_ok (ok : EnvOk K F H σ env fp) {i : Nat} {p : List Pa} {v : V} {n : M} (h : plc H σ env i p v) (hn : env.place i p = some n) : ∃ C, Own K noBr F H n v C := by
  obtain ⟨w, hw, hv, _⟩ := h
  unfold En.place at hn
  split at hn
  · rename_i m' hm
    obtain ⟨w', g1, g2⟩ := ok.slot i m' hm
    rw [hw] at g1
    cases g1
    obtain ⟨C, c1, _⟩ := g2.path hn hv
    exact ⟨C, c1⟩
  · cases hn
theorem dicO_ok (ok : EnvOk K F H σ env fp) {m : M} {v : V} {kvs : List (Key × D)} (h : Own K (plc H σ env) F H m v A) (e : dicO env m = some kvs) : ∃ a vs, v = .ref a ∧ Rd H a (.dK (zipK kvs vs)) ∧ RepL K F (kvs.map (·.2)) vs := by
  unfold dicO at e
  split at e
  · cases e
    simp only [Own] at h
    obtain ⟨p, vs, rfl, _, _, q, r⟩ := h
    exact ⟨p, vs, rfl, q.rd, r⟩
  · rename_i ks ds
    cases e
    simp only [Own, Rep] at h
    obtain ⟨_, a, vs, rfl, l, q, r⟩ := h
    have e1 : (ks.zip ds).map (·.1) = ks := List.map_fst_zip (by omega)
    have e2 : (ks.zip ds).map (·.2) = ds := List.map_snd_zip (by omega)
    refine ⟨a, vs, rfl, ?_, by rw [e2]; exact r⟩
    unfold zipK
    rw [e1]
    exact q.imp (ok.sub _ _) fun ⟨o, z⟩ => ⟨o, ok.sub _ _ z⟩
  · split at e
    · rename_i hn
      cases e
      simp only [Own] at h
      obtain ⟨C, c⟩ := place_ok ok h.2 hn
      simp only [Own] at c
      obtain ⟨p, vs, rfl, _, _, q, r⟩ := c
      exact ⟨p, vs, rfl, q.rd, r⟩
    · cases e
  · cases e
theorem dicU_ok (ok : EnvOk K F H σ env fp) {m : M} {v : V} {kvs : List (Key × D)} (h : Own K (plc H σ env) F H m v A) (e : dicU env m = some kvs) : ∃ a vs, v = .ref a ∧ H a = some (.dK (zipK kvs vs)) ∧ RepL K F (kvs.map (·.2)) vs := by
  unfold dicU at e
  have key : ∀ {u : V} {C : List Addr} {br}, Own K br F H (.od false kvs) u C → ∃ a vs, u = .ref a ∧ H a = some (.dK (zipK kvs vs)) ∧ RepL K F (kvs.map (·.2)) vs := fun {u C br} h => by
    simp only [Own] at h
    obtain ⟨p, vs, rfl, _, _, q, r⟩ := h
    rcases q with ⟨_, q⟩ | ⟨z, _⟩
    · exact ⟨p, vs, rfl, q, r⟩
    · cases z
  split at e
  · cases e
    exact key h
  · split at e
    · rename_i hn
      cases e
      simp only [Own] at h
      obtain ⟨C, c⟩ := place_ok ok h.2 hn
      exact key c
    · cases e
  · cases e
end
def oDG : En → List M → Option M := fun env ms => match ms with
  | [m, .fz kd] => match dicO env m, keyD kd with
    | some kvs, some k => (getK kvs k).map .fz
    | _, _ => none
  | _ => none
def oDLen : En → List M → Option M := fun env ms => match ms with
  | [m] => match dicU env m with
    | some kvs => some (.fz (.int kvs.length))
    | _ => none
  | _ => none
section
variable {K : PySem.W.Frag}
theorem s_dget : OpS K oDG (r2L fun x y H Q => ∃ a v, x = .ref a ∧ DGet H a y (some v) ∧ Q v H) := by
  intro σ env F H fp ms vs A m Q ok hO hn dj e q
  unfold oDG at e
  split at e
  · rename_i x kd
    split at e
    · rename_i kvs k h1 h2
      obtain ⟨v, w, B, C, rfl, rfl, o1, o2⟩ := ownL2 hO
      simp only [Own] at o2
      obtain ⟨rfl, o2⟩ := o2
      obtain ⟨a, us, rfl, hr, r⟩ := dicO_ok ok o1 h1
      obtain ⟨d, hd, rfl⟩ := Option.map_eq_some_iff.mp e
      rcases valV_ok (k := k) r with ⟨z, _⟩ | ⟨d', u, z1, z2, z3⟩
      · rw [z] at hd
        cases hd
      · rw [z1] at hd
        cases hd
        exact ⟨_, _, rfl, a, u, rfl, .inl ⟨_, k, hr, keyD_ok o2 h2, z2.symm⟩, q u F H [] (.mk' (.refl _) (.refl _) ok.sub fun a h => .inl h) (own_fz z3) .nil fun a z => by cases z⟩
    · cases e
  · cases e
theorem s_dlen : OpS K oDLen (fun xs H Q => ∃ a kvs, xs = [V.ref a] ∧ H a = some (HO.dK kvs) ∧ Q (V.int (kvs.length : Nat)) H) := by
  intro σ env F H fp ms vs A m Q ok hO hn dj e q
  unfold oDLen at e
  split at e
  · rename_i x
    split at e
    · rename_i kvs h1
      cases e
      obtain ⟨v, rfl, o1⟩ := ownL1 hO
      obtain ⟨a, us, rfl, hr, r⟩ := dicU_ok ok o1 h1
      refine ⟨a, _, rfl, hr, ?_⟩
      rw [zip_len r]
      exact q _ F H [] (.mk' (.refl _) (.refl _) ok.sub fun a h => .inl h) (own_fz (by simp only [Rep])) .nil fun a z => by cases z
    · cases e
  · cases e
end
section
variable {X : Cx} {o i a b : Expr} {fo fi fa fb : En → Option M} {pos : Pos}
theorem pd_dget (hu : X.A.units + 1 < cLine) (ho : PD X o fo) (hi : PD X i fi) (hs : NoSl i := by intro _ _; rfl) : PD X (.Subscript o i pos) (bin oDG fo fi) := by
  refine PE.imp (pe_dget hu ho hi hs) fun σ H Q q => ?_
  refine (tDA.op s_dget q).two.mono fun v H1 h1 => h1.mono fun w H2 h2 => ?_
  obtain ⟨x, y, e, h2⟩ := h2
  cases e
  exact h2
end
/-- {} -/
def fDNew : En → Option M := fun _ => some (.od false [])
theorem pd_dnew {X : Cx} {pos : Pos} : PD X (.Dict [] [] pos) fDNew := by
  refine PE.imp pe_dnewK fun σ H Q h => ?_
  obtain ⟨env, m, F, fp, e, ok, q⟩ := h
  cases e
  intro p hp
  have s : Same H (upd H p (.dK [])) := fun b o e => by rw [upd_ne (ne_of_none e hp)]; exact e
  refine q (.ref p) F _ [p] (.mk' (.refl _) s (ok.sub.trans s) fun a h => .inl h) ?_ (by simp) fun a ha => by rw [List.mem_singleton.mp ha]; exact hp
  simp only [Own]
  exact ⟨p, [], rfl, rfl, ok.sub.free hp, .inl ⟨rfl, upd_same⟩, by simp only [List.map_nil, RepL]⟩
theorem ValP.snocF {H : Hp} {a C dx : Addr} {gs : List (Str × V)} {f : Str} {u : V} (q : H a = some (.ins C dx gs)) (g : gs.lookup f = some u) : ∀ {p : List Pa} {w : V}, ValP H w p (.ref a) → ValP H w (p ++ [.fd f]) u
  | [], w, h => by
    have h : V.ref a = w := h
    subst h
    exact ⟨a, C, dx, gs, u, rfl, q, g, rfl⟩
  | .ix j :: r, w, h => by
    obtain ⟨b, vs', u', e, q', g', h⟩ := h
    exact ⟨b, vs', u', e, q', g', ValP.snocF q g h⟩
  | .fd f :: r, w, h => by
    obtain ⟨b, C, dx, gs, u', e, q', g', h⟩ := h
    exact ⟨b, C, dx, gs, u', e, q', g', ValP.snocF q g h⟩
theorem getP_snocF {C : Addr} {fs : List (Str × M)} {f : Str} {n : M} (hn : getF fs f = some n) : ∀ {p : List Pa} {m : M}, getP m p = some (.oi C fs) → getP m (p ++ [.fd f]) = some n
  | [], m, h => by
    rw [getP_nil] at h
    cases h
    show getP (.oi C fs) [.fd f] = some n
    simp only [getP, hn]
  | .ix j :: r, m, h => by
    cases m with
    | ol xs =>
      simp only [List.cons_append, getP] at h ⊢
      cases e : xs[j]? with
      | none => rw [e] at h; simp at h
      | some x => rw [e] at h; exact getP_snocF hn h
    | ot xs =>
      simp only [List.cons_append, getP] at h ⊢
      cases e : xs[j]? with
      | none => rw [e] at h; simp at h
      | some x => rw [e] at h; exact getP_snocF hn h
    | fz d => cases h
    | bp i p => cases h
    | oi C fs => cases h
    | od _ _ => cases h
    | odt _ => cases h
  | .fd f :: r, m, h => by
    cases m with
    | oi C xs =>
      simp only [List.cons_append, getP] at h ⊢
      cases e : getF xs f with
      | none => rw [e] at h; simp at h
      | some x => rw [e] at h; exact getP_snocF hn h
    | fz d => cases h
    | bp i p => cases h
    | ol xs => cases h
    | ot xs => cases h
    | od _ _ => cases h
    | odt _ => cases h
def lookD : List (Str × D) → Str → Option D
  | [], _ => none
  | p :: r, f => if p.1 = f then some p.2 else lookD r f
theorem RepF.get {K : PySem.W.Frag} {F : Hp} {f : Str} : ∀ {fs : List (Str × D)} {gs : List (Str × V)} {d : D}, RepF K F fs gs → lookD fs f = some d → ∃ v, gs.lookup f = some v ∧ Rep K F d v
  | [], gs, d, h, e => by cases e
  | p :: fs, gs, d, h, e => by
    simp only [RepF] at h
    obtain ⟨v, r, rfl, q, q2⟩ := h
    unfold lookD at e
    split at e
    · rename_i hf
      cases e
      exact ⟨v, by rw [List.lookup_cons, hf]; simp, q⟩
    · rename_i hf
      obtain ⟨w, e1, e2⟩ := RepF.get q2 e
      refine ⟨w, ?_, e2⟩
      rw [List.lookup_cons]
      have : (f == p.1) = false := by simpa using fun z => hf z.symm
      simp only [this, e1]
section
variable [ca : ClsA]
/-- o.f, o an instance of the text's class number n -/
def oFld (n : Nat) (f : Str) : En → List M → Option M := fun env ms => match ms with
  | [.oi C fs] => if C = ca.at_ n then getF fs f else none
  | [.fz (.ins C fs)] => if C = ca.at_ n then (lookD fs f).map .fz else none
  | [.bp i p] => match env.place i p with
    | some (.oi C fs) => if C = ca.at_ n then (match getF fs f with
      | some (.fz d) => some (.fz d)
      | some _ => some (.bp i (p ++ [.fd f]))
      | none => none) else none
    | _ => none
  | _ => none
def rFld (K : PySem.W.Frag) (f : Str) : V → Hp → VK → Prop := fun x H Q => ∃ a C dx fs v, x = .ref a ∧ H a = some (.ins C dx fs) ∧ Cls K C ∧ NoAttr K C f ∧ fs.lookup f = some v ∧ Q v H
theorem s_fld {K : PySem.W.Frag} {n : Nat} {f : Str} (hc : Cls K (ca.at_ n)) (ha : NoAttr K (ca.at_ n) f) : OpS K (oFld n f) (r1L (rFld K f)) := by
  intro σ env F H fp ms vs A m Q ok hO hn dj e q
  unfold oFld at e
  split at e
  · rename_i C fs
    split at e
    · rename_i hC
      subst hC
      obtain ⟨v, rfl, o1⟩ := ownL1 hO
      simp only [Own] at o1
      obtain ⟨p, dx, gs, B, rfl, rfl, f1, f2, q3, q4, h⟩ := o1
      obtain ⟨u, B', e1, e2, e3⟩ := OwnF.get h e
      exact ⟨_, rfl, p, _, dx, gs, u, rfl, q3, hc, ha, e1, keepS ok e2 (e3.trans ((List.sublist_cons_self _ _).trans (List.sublist_cons_self _ _))) hn q⟩
    · cases e
  · rename_i C fs
    split at e
    · rename_i hC
      subst hC
      obtain ⟨d, hd, rfl⟩ := Option.map_eq_some_iff.mp e
      obtain ⟨v, rfl, o1⟩ := ownL1 hO
      simp only [Own, Rep] at o1
      obtain ⟨rfl, p, dx, gs, rfl, q3, q4, h⟩ := o1
      obtain ⟨u, e1, e2⟩ := h.get hd
      exact ⟨_, rfl, p, _, dx, gs, u, rfl, ok.sub _ _ q3, hc, ha, e1, keepS ok (B := []) (own_fz e2) (List.nil_sublist _) hn q⟩
    · cases e
  · rename_i i p
    obtain ⟨v, rfl, o1⟩ := ownL1 hO
    simp only [Own] at o1
    obtain ⟨rfl, w, hw, hv, nn, hnn⟩ := o1
    split at e
    · rename_i C fs hn'
      split at e
      · rename_i hC
        subst hC
        have hpl := hn'
        obtain ⟨CC, c⟩ := place_ok ok ⟨w, hw, hv, nn, hnn⟩ hn'
        simp only [Own] at c
        obtain ⟨pp, dx, gs, B, rfl, rfl, f1, f2, q3, q4, h⟩ := c
        unfold En.place at hn'
        split at hn'
        · rename_i m' hm
          have pl : ∀ x, getF fs f = some x → env.place i (p ++ [.fd f]) = some x := fun x hx => by
            unfold En.place
            rw [hm]
            exact getP_snocF hx hn'
          split at e
          · rename_i d hd
            cases e
            obtain ⟨u, B', e1, e2, e3⟩ := OwnF.get h hd
            simp only [Own] at e2
            exact ⟨_, rfl, pp, _, dx, gs, u, rfl, q3, hc, ha, e1, keepS ok (B := []) (own_fz e2.2) (List.nil_sublist _) hn q⟩
          · rename_i x hne hx
            cases e
            obtain ⟨u, B', e1, e2, e3⟩ := OwnF.get h hx
            exact ⟨_, rfl, pp, _, dx, gs, u, rfl, q3, hc, ha, e1, keepS ok (B := []) (own_bp ⟨w, hw, hv.snocF q3 e1, x, pl x hx⟩) (List.nil_sublist _) hn q⟩
          · cases e
        · cases hn'
      · cases e
    · cases e
  · cases e
theorem pd_fld {X : Cx} {e : Expr} {fe : En → Option M} {n : Nat} {f : Str} {pos : Pos} (hc : Cls X.K (ca.at_ n)) (ha : NoAttr X.K (ca.at_ n) f) (he : PD X e fe) (hb : attributeBase e f X.env (eval e X.env) = eval e X.env := by rfl) : PD X (.Attribute e f pos) (una (oFld n f) fe) := by
  refine PE.imp (pe_fld he hb) fun σ H Q q => ?_
  refine (tDA.op (s_fld hc ha) q).one.mono fun v H1 h1 => ?_
  obtain ⟨x, e, h1⟩ := h1
  cases e
  exact h1
end
/-- x.bit_length() -/
def iBits := gU fun i => (Builtin.Int.intBits i : Nat)
theorem pd_bits {X : Cx} {e : Expr} {fe : En → Option M} {apos pos : Pos} (he : PD X e fe) (hbase : attributeBase e "bit_length" X.env (eval e X.env) = eval e X.env := by rfl) (hline : (apos.endLine == pos.line) = true := by rfl) : PD X (.Call (.Attribute e "bit_length" apos) [] [] pos) (una (sop iBits) fe) := by
  refine PE.imp (pe_bits he hbase hline) fun σ H Q q => ?_
  refine (tDA.op (sU (f := fun i => ((Builtin.Int.intBits i : Nat) : Int))) q).one.mono fun v H1 h1 => ?_
  obtain ⟨x, e, i, rfl, h1⟩ := h1
  cases e
  exact ⟨i, rfl, h1⟩
end T2
end
section
set_option Elab.async false
set_option linter.all false
set_option maxRecDepth 100000
namespace T2
open PySem PySem.Spec PyProof.Rows L2
section
variable {K : PySem.W.Frag} {F H F' H' : Hp} {σ : L2.St} {env : En} {fp : Nat → List Addr} {A B : List Addr} {br : Nat → List Pa → V → Prop}
theorem OwnF.len : ∀ {ms : List (Str × M)} {vs : List (Str × V)} {A : List Addr}, OwnF K br F H ms vs A → ms.length = vs.length
  | [], vs, A, h => by
    simp only [OwnF] at h
    rw [h.1]
    rfl
  | n :: ms, vs, A, h => by
    simp only [OwnF] at h
    obtain ⟨v, r, B, C, rfl, rfl, q, q2⟩ := h
    simp only [List.length_cons, OwnF.len q2]
theorem OwnF.put {f : Str} {m : M} {v : V} (hm : Own K br F H m v A) : ∀ {fs : List (Str × M)} {gs : List (Str × V)} {B : List Addr}, OwnF K br F H fs gs B → (B ++ A).Nodup → ∃ B2, OwnF K br F H (setF fs f m) (putF f v gs) B2 ∧ B2.Nodup ∧ ∀ x ∈ B2, x ∈ B ++ A
  | [], gs, B, h, n => by
    simp only [OwnF] at h
    obtain ⟨rfl, rfl⟩ := h
    refine ⟨A, ?_, by simpa using n, fun x hx => by simpa using hx⟩
    simp only [setF, OwnF]
    exact ⟨v, [], A, [], rfl, by simp, hm, rfl, rfl⟩
  | m0 :: fs, gs, B, h, n => by
    simp only [OwnF] at h
    obtain ⟨v0, r, B0, C, rfl, rfl, q, q2⟩ := h
    have n1 := List.nodup_append.mp n
    have n2 := List.nodup_append.mp n1.1
    by_cases hf : m0.1 = f
    · refine ⟨A ++ C, ?_, List.nodup_append.mpr ⟨n1.2.1, n2.2.1, fun x hx y hy e => n1.2.2 y (by simp [hy]) x hx e.symm⟩, fun x hx => ?_⟩
      · have e1 : setF (m0 :: fs) f m = (f, m) :: fs := by unfold setF; rw [if_pos hf]
        have e2 : putF f v ((m0.1, v0) :: r) = (f, v) :: r := by unfold putF; rw [if_pos hf, hf]
        rw [e1, e2]
        simp only [OwnF]
        exact ⟨v, r, A, C, rfl, rfl, hm, q2⟩
      · rcases List.mem_append.mp hx with z | z <;> simp [z]
    · have n3 : (C ++ A).Nodup := List.nodup_append.mpr ⟨n2.2.1, n1.2.1, fun x hx y hy => n1.2.2 x (by simp [hx]) y hy⟩
      obtain ⟨B2, h1, h2, h3⟩ := OwnF.put hm q2 n3
      refine ⟨B0 ++ B2, ?_, List.nodup_append.mpr ⟨n2.1, h2, fun x hx y hy e => ?_⟩, fun x hx => ?_⟩
      · have e1 : setF (m0 :: fs) f m = m0 :: setF fs f m := by
          show (if m0.1 = f then (f, m) :: fs else m0 :: setF fs f m) = _
          rw [if_neg hf]
        have e2 : putF f v ((m0.1, v0) :: r) = (m0.1, v0) :: putF f v r := by
          show (if m0.1 = f then (m0.1, v) :: r else (m0.1, v0) :: putF f v r) = _
          rw [if_neg hf]
        rw [e1, e2]
        simp only [OwnF]
        exact ⟨v0, _, B0, B2, rfl, rfl, q, h1⟩
      · subst e
        rcases List.mem_append.mp (h3 x hy) with z | z
        · exact n2.2.2 x hx x z rfl
        · exact n1.2.2 x (by simp [hx]) x z rfl
      · rcases List.mem_append.mp hx with z | z
        · simp [z]
        · rcases List.mem_append.mp (h3 x z) with w | w <;> simp [w]
/-- temporary nodes stay in a step -/
theorem Own.tmp {m : M} {v : V} (h : Own K noBr F H m v A) (s : Step [] F H F' H') : Own K noBr F' H' m v A := h.mono s.fr (fun _ _ _ z => z) _ _ _ fun c hc => by
  obtain ⟨z1, u, z2⟩ := h.at _ _ _ c hc
  refine ⟨?_, s.hp c⟩
  cases z : F' c with
  | none => rfl
  | some u' =>
    rcases s.nw c (by rw [z]; simp) with w | w | w
    · exact absurd z1 w
    · rw [z2] at w
      cases w
    · cases w
end
section
variable [ca : ClsA]
/-- o.f = e -/
def sFldS (n k : Nat) (f : Str) (fo : En → Option M) (g : En → Option (M × En)) : En → Option Fl := fun env => match g env with
  | some (m, e1) => match stow k e1 m with
    | some (m', e2) => match fo e2 with
      | some (.bp i p) => match e2.place i p with
        | some (.oi C fs) => if C = ca.at_ n ∧ fs.length < 1000 then (match setE e2 i p (.oi C (setF fs f m')) with
          | some e3 => some (.nx e3)
          | none => none) else none
        | _ => none
      | _ => none
    | none => none
  | none => none
theorem pds_fld {X : Cx} {lk : Nat → Bool} {o e : Expr} {fo : En → Option M} {g : En → Option (M × En)} {n : Nat} {f : Str} {pos pos' : Pos} (k : Nat) (hc : Cls X.K (ca.at_ n)) (ha : NoAttr X.K (ca.at_ n) f) (he : PX X e g) (ho : PD X o fo)
    (hs : swapsWith e (some (.Attribute o f pos')) pos.line X.env = pure false := by rfl) : PDS X lk (.Assign [.Attribute o f pos'] e pos) (sFldS n k f fo g) := by
  refine PS.imp (ps_fld ho he hs) fun D σ H h => ?_
  obtain ⟨env, r, F, fp, e, ok, q⟩ := h
  unfold sFldS at e
  split at e
  · rename_i m e1 h1
    split at e
    · rename_i m' e2 h2
      split at e
      · rename_i i p h3
        split at e
        · rename_i C fs h4
          split at e
          · rename_i hC
            split at e
            · rename_i e3 h5
              cases e
              obtain ⟨rfl, hl⟩ := hC
              refine ⟨env, m, e1, F, fp, h1, ok, fun v F1 H1 fp1 A g1 o1 n1 a1 b1 => ?_⟩
              obtain ⟨F2, fp2, A', g2, o2, n2, a2, b2⟩ := stow_go g1 o1 n1 a1 b1 h2
              refine ⟨e2, _, F2, fp2, h3, g2.ok, fun x F3 H3 A3 s3 o3 n3 a3 => ?_⟩
              simp only [Own] at o3
              obtain ⟨rfl, w, hw, hv, _⟩ := o3
              have g3 := g2.trans (s3.go g2.ok fun a z => by cases z) (fun a z => by cases z)
              have o2' : Own X.K noBr F3 H3 m' v A' := o2.tmp s3
              obtain ⟨B, o4, nB, onB, up⟩ := hole_ok g3.ok h4 ⟨w, hw, hv, _, h4⟩
              simp only [Own] at o4
              obtain ⟨a, dx, gs, B0, rfl, rfl, f1, f2, q3, q4, r4⟩ := o4
              refine ⟨a, _, dx, gs, rfl, q3, hc, ha, by rw [← r4.len]; exact hl, ?_⟩
              have nB1 := List.nodup_cons.mp nB
              have nB2 := List.nodup_cons.mp nB1.2
              have aA : ∀ c, c ∈ a :: dx :: B0 → c ∉ A' := fun c hc z => b2 c z (onB c hc)
              have nBA : (B0 ++ A').Nodup := List.nodup_append.mpr ⟨nB2.2, n2, fun x hx y hy e => aA x (by simp [hx]) (e ▸ hy)⟩
              obtain ⟨B2, p1, p2, p3⟩ := OwnF.put (f := f) o2' r4 nBA
              have ne : ∀ x ∈ B2, x ≠ a ∧ x ≠ dx := fun x hx => by
                rcases List.mem_append.mp (p3 x hx) with z | z
                · exact ⟨fun e => nB1.1 (by simp [← e, z]), fun e => nB2.1 (by simp [← e, z])⟩
                · exact ⟨fun e => aA a (by simp) (e ▸ z), fun e => aA dx (by simp) (e ▸ z)⟩
              have ndx : dx ≠ a := fun e => nB1.1 (by simp [e])
              obtain ⟨e4, fp4, t1, t2, t3⟩ := up (upd H3 a (.ins (ca.at_ n) dx (putF f v gs))) (.oi (ca.at_ n) (setF fs f m')) (a :: dx :: B2) (by
                simp only [Own]
                exact ⟨a, dx, _, B2, rfl, rfl, f1, f2, upd_same, by rw [upd_ne ndx]; exact q4, p1.mono (.refl _) (fun _ _ _ z => z) _ _ _ fun x hx => ⟨(p1.at _ _ _ x hx).1, fun o z => by rw [upd_ne (ne x hx).1]; exact z⟩⟩)
                (List.nodup_cons.mpr ⟨fun z => by
                  rcases List.mem_cons.mp z with z | z
                  · exact ndx z.symm
                  · exact (ne a z).1 rfl, List.nodup_cons.mpr ⟨fun z => (ne dx z).2 rfl, p2⟩⟩)
                (fun c hc => by
                  rcases List.mem_cons.mp hc with z | z
                  · exact .inl (by simp [z])
                  rcases List.mem_cons.mp z with z | z
                  · exact .inl (by simp [z])
                  rcases List.mem_append.mp (p3 c z) with z | z
                  · exact .inl (by simp [z])
                  · exact .inr (b2 c z))
                (fun x o hx z => by rw [upd_ne fun e => hx (by simp [e])]; exact z)
                (fun x z => by
                  by_cases hx : x = a
                  · subst hx
                    rw [upd_same] at z
                    cases z
                  · rw [upd_ne hx] at z
                    exact z)
                (fun x od u z => by rw [upd_ne fun e => by rw [e, q3] at z; cases z]; exact z)
              rw [h5] at t1
              cases t1
              refine q σ F3 _ fp4 (g3.trans t2 fun c hc => ?_) fun _ _ => rfl
              rcases List.mem_cons.mp hc with z | z
              · exact g3.ond (onB c (by simp [z]))
              rcases List.mem_cons.mp z with z | z
              · exact g3.ond (onB c (by simp [z]))
              rcases List.mem_append.mp (p3 c z) with z | z
              · exact g3.ond (onB c (by simp [z]))
              · exact a2 c z
            · cases e
          · cases e
        · cases e
      · cases e
    · cases e
  · cases e
end
/-- d[k] = e -/
def sDSet (fo fi : En → Option M) (g : En → Option (M × En)) : En → Option Fl := fun env => match g env with
  | some (m, e1) => match stow 0 e1 m with
    | some (.fz d, e2) => match fo e2, fi e2 with
      | some (.bp i p), some (.fz kd) => match e2.place i p, keyD kd with
        | some (.od false kvs), some k => if kvs.length < sizeLine then (match setE e2 i p (.od false (putD kvs k d)) with
          | some e3 => some (.nx e3)
          | none => none) else none
        | _, _ => none
      | _, _ => none
    | _ => none
  | none => none
theorem pds_dset {X : Cx} {lk : Nat → Bool} {o ix e : Expr} {fo fi : En → Option M} {g : En → Option (M × En)} {pos pos' : Pos} (hu : X.A.units + 1 < cLine) (he : PX X e g) (ho : PD X o fo) (hi : PD X ix fi)
    (hs : swapsWith e (some (.Subscript o ix pos')) pos.line X.env = pure false := by rfl) : PDS X lk (.Assign [.Subscript o ix pos'] e pos) (sDSet fo fi g) := by
  refine PS.imp (ps_dput hu ho hi he hs) fun D σ H h => ?_
  obtain ⟨env, r, F, fp, e, ok, q⟩ := h
  unfold sDSet at e
  split at e
  · rename_i m e1 h1
    split at e
    · rename_i d e2 h2
      split at e
      · rename_i i p kd h3 h4
        split at e
        · rename_i kvs k h5 h6
          split at e
          · rename_i hl
            split at e
            · rename_i e3 h7
              cases e
              refine ⟨env, m, e1, F, fp, h1, ok, fun v F1 H1 fp1 A g1 o1 n1 a1 b1 => ?_⟩
              obtain ⟨F2, fp2, A', g2, o2, n2, a2, b2⟩ := stow_go g1 o1 n1 a1 b1 h2
              refine ⟨e2, _, F2, fp2, h3, g2.ok, fun x F3 H3 A3 s3 o3 n3 a3 => ?_⟩
              simp only [Own] at o3
              obtain ⟨rfl, w, hw, hv, _⟩ := o3
              refine ⟨e2, _, F3, fp2, h4, g2.ok.step s3 (fun a z => by cases z), fun y F4 H4 A4 s4 o4 n4 a4 => ?_⟩
              simp only [Own] at o4
              obtain ⟨rfl, o4⟩ := o4
              have s34 := s3.trans s4 fun a z => by cases z
              have g4 := g2.trans (s34.go g2.ok fun a z => by cases z) (fun a z => by cases z)
              simp only [Own] at o2
              have rd : Rep X.K F4 d v := Rep.mono s34.fr _ _ o2.2
              obtain ⟨B, o5, nB, onB, up⟩ := hole_ok g4.ok h5 ⟨w, hw, hv.mono s4.hp, _, h5⟩
              simp only [Own] at o5
              obtain ⟨a, vs, rfl, rfl, f1, q3, r4⟩ := o5
              have q3 : H4 a = some (.dK (zipK kvs vs)) := by
                rcases q3 with ⟨_, z⟩ | ⟨z, _⟩
                · exact z
                · cases z
              obtain ⟨vs', p1, p2⟩ := put_ok (k := k) rd r4
              refine ⟨a, upd H4 a (.dK (putK (zipK kvs vs) k v)), rfl, .inl ⟨_, k, q3, keyD_ok o4 h6, by rw [zip_len r4]; exact hl, rfl⟩, ?_⟩
              obtain ⟨e4, fp4, t1, t2, t3⟩ := up (upd H4 a (.dK (putK (zipK kvs vs) k v))) (.od false (putD kvs k d)) [a] (by
                simp only [Own]
                exact ⟨a, vs', rfl, rfl, f1, .inl ⟨rfl, by rw [upd_same, p1]⟩, p2⟩) (by simp) (fun c hc => .inl hc)
                (fun x o hx z => by rw [upd_ne fun e => hx (by simp [e])]; exact z)
                (fun x z => by
                  by_cases hx : x = a
                  · subst hx
                    rw [upd_same] at z
                    cases z
                  · rw [upd_ne hx] at z
                    exact z)
                (fun x od u z => by rw [upd_ne fun e => by rw [e, q3] at z; cases z]; exact z)
              rw [h7] at t1
              cases t1
              exact q σ F4 _ fp4 (g4.trans t2 fun c hc => g4.ond (onB c hc)) fun _ _ => rfl
            · cases e
          · cases e
        · cases e
      · cases e
    · cases e
  · cases e
end T2
end
section
set_option Elab.async false
set_option linter.all false
set_option maxRecDepth 100000
namespace T2
open PySem PySem.Spec PyProof.Rows L2
/-- a dict's view of its keys -/
def viewP (p d : Addr) : Heap → Prop := fun h => h.get? p = some { cls := .type "dict_keys", data := .fields #[.ref d] }
def tKeysV (td : TE) : TE := fun σ H Q => td σ H fun x H1 => ∃ d kvs, x = .ref d ∧ Rd H1 d (.dK kvs) ∧ ∀ p, H1 p = none → Q (.ref p) (upd H1 p (.ext (viewP p d)))
section
variable {X : Cx} {e : Expr} {td : TE} {apos cpos : Pos}
theorem pe_keysV (he : PE X e td) (hbase : attributeBase e "keys" X.env (eval e X.env) = eval e X.env := by rfl) (hline : (apos.endLine == cpos.line) = true := by rfl) : PE X (.Call (.Attribute e "keys" apos) [] [] cpos) (tKeysV td) := by
  refine ⟨fun pins s σ H Q I h => ?_⟩
  refine wpAny_Call_method (T := "dict") (id := "dict.keys") hbase rfl hline F.plainAttrs_dict F.slot_dict_keys F.type_dict_keys (thn (he.run pins s σ H _ I h) fun u s1 ⟨x, H1, I1, rx, d, kvs, ex, hd, q⟩ => ?_)
  subst ex
  obtain rfl : u = Value.ref d := rx
  obtain ⟨z, lo, vs, rk, hm⟩ := (show ObjOk X.prog X.w H1 s1.heap d (.dK kvs) from hd.ok I1.hok)
  refine ⟨hm.typeIs, hm.mapOf.noDict, ?_⟩
  show wpAny _ _ (callWith cpos (.builtin "dict.keys") [.ref d] [] []) _ X.xe s1
  refine method_meetsIn F.slot_dict_keys F.entry_dict_keys rfl (PySem.evalArgs_none ⟨rfl, hm.typeIs, F.args_dict_keys_1 _, _, PySem.W.kdl_meets_keys (mixKind X.prog X.w) d lo, ⟨vs, hm⟩, ?_⟩)
  refine ⟨.ref s1.heap.objs.size, _, I1.laid (t' := s1.toks) (o := .ext (viewP s1.heap.objs.size d)) (fun b ob q => Heap.get?_push_of_some _ q) (Nat.le_refl _) ?_, rfl, q _ (I1.hok.fresh (Nat.le_refl _))⟩
  exact ⟨Heap.get?_push_size _ rfl, ⟨_, Heap.get?_push_size _ rfl⟩, fun h1 h2 a b => b _ a⟩
def rListK : List V → Hp → VK → Prop := fun xs H Q => ∃ p d kvs, xs = [.ref p] ∧ H p = some (.ext (viewP p d)) ∧ Rd H d (.dK kvs) ∧ ∀ q, H q = none → Q (.ref q) (upd H q (.lst (kvs.map fun kv => kV kv.1)))
theorem call_list_keysV (hc : X.calm = true) : CallR X (.type "list") rListK := by
  intro pins s σ H xs us Q I r h
  obtain ⟨p, d, kvs, e, hp, hk, q⟩ := h
  subst e
  obtain ⟨u, eu, rx⟩ := r.one
  obtain rfl : u = Value.ref p := by cases rx; rfl
  subst eu
  obtain ⟨hv, _, _⟩ := (show ObjOk X.prog X.w H s.heap p (.ext (viewP p d)) from I.hok p _ hp)
  obtain ⟨z, lo, vs, rk, hd⟩ := (show ObjOk X.prog X.w H s.heap d (.dK kvs) from hk.ok I.hok)
  obtain ⟨ep, hat⟩ := hd.dictAt
  have hl : kvs.length = vs.length := Paired.length rk
  refine PySem.W.kdl_call (PySem.W.kdl_keys (knd := mixKind X.prog X.w) (kvs := vs) (ep := ep) (r := p) (d := d)) (I.ok.hd hc) ⟨⟨_, hv, rfl, rfl⟩, hat⟩ (by rw [← hl]; exact z) fun h' tk acc' c' hkeep hS hacc => ?_
  refine ⟨.ref s.heap.objs.size, upd H s.heap.objs.size (.lst (kvs.map fun kv => kV kv.1)), I.laid hkeep (Nat.le_refl _) (show ObjOk X.prog X.w _ _ _ (.lst (kvs.map fun kv => kV kv.1)) from ⟨?_, acc'.toList, c', ?_, ?_⟩), rfl, q _ (I.hok.fresh (Nat.le_refl _))⟩
  · rw [List.length_map]; exact z
  · have el : acc'.toList.length = acc'.size := by simp
    refine vals_of_at (by rw [List.length_map, el, hacc.1, hl]) fun j x w h1 h2 => ?_
    obtain ⟨k, y, hky, hi⟩ := hacc.2 j w (by rw [← Array.getElem?_toList]; exact h2)
    have e1 : (kvs.map (·.1))[j]? = some k := by
      rw [KV.keys rk, List.getElem?_map, hky] <;> rfl
    have e2 : (kvs.map fun kv => kV kv.1)[j]? = some (kV k) := by
      have e3 : (kvs.map fun kv => kV kv.1) = (kvs.map (·.1)).map kV := by rw [List.map_map] <;> rfl
      rw [e3, List.getElem?_map, e1] <;> rfl
    rw [e2] at h1
    cases h1
    exact keyIs_rel hi
  · rw [Array.toArray_toList]; exact hS
end
/-- list(d.keys()) -/
def oKeys : En → List M → Option M := fun env ms => match ms with
  | [m] => match dicO env m with
    | some kvs => some (oD (kvs.map fun kv => kD kv.1))
    | none => none
  | _ => none
theorem pd_listKeys {X : Cx} {e : Expr} {fe : En → Option M} {x : Str} {p apos cpos pos : Pos} (hc : X.calm = true) (he : PD X e fe) (hg : Gl X x) (hm : X.mg x = none) (hv : bootBuiltins x = some (.type "list"))
    (hn : x ≠ "__name__" := by decide) (hdb : (x == ("__debug__" : Str)) = false := by decide)
    (hbase : attributeBase e "keys" X.env (eval e X.env) = eval e X.env := by rfl) (hline : (apos.endLine == cpos.line) = true := by rfl)
    (hst : starEach [.Call (.Attribute e "keys" apos) [] [] cpos] X.env = (false, eval (.Call (.Attribute e "keys" apos) [] [] cpos) X.env) :: starEach [] X.env := by rfl)
    (hpl : (backTo pos (starEach [] X.env)).any (·.1) = false := by rfl) :
    PD X (.Call (.Name x p) [.Call (.Attribute e "keys" apos) [] [] cpos] [] pos) (una oKeys fe) := by
  refine PE.imp (pe_callTy (call_list_keysV hc) hg hm hv (pa_cons (pe_keysV he hbase hline) pa_nil hst) hn hdb hst hpl) fun σ H Q h => ?_
  obtain ⟨env, m, F, fp, e, ok, q⟩ := h
  simp only [opr, aCons, aNil] at e
  cases hf : fe env with
  | none => rw [hf] at e; cases e
  | some m0 =>
    rw [hf] at e
    simp only [oKeys] at e
    split at e
    · rename_i kvs hk
      cases e
      refine ⟨env, m0, F, fp, hf, ok, fun v F1 H1 A s o n a => ?_⟩
      obtain ⟨d, vs, rfl, hr, r⟩ := dicO_ok (ok.step s fun a z => by cases z) o hk
      refine ⟨d, zipK kvs vs, rfl, hr, fun p hp => ?_⟩
      have s1 : Same H1 (upd H1 p (.ext (viewP p d))) := fun b o e => by rw [upd_ne (ne_of_none e hp)]; exact e
      refine ⟨p, d, zipK kvs vs, rfl, upd_same, hr.imp (s1 _ _) (fun ⟨o, z⟩ => ⟨o, s1 _ _ z⟩), fun l hl => ?_⟩
      have s2 : Same (upd H1 p (.ext (viewP p d))) (upd (upd H1 p (.ext (viewP p d))) l (.lst ((zipK kvs vs).map fun kv => kV kv.1))) := fun b o e => by rw [upd_ne (ne_of_none e hl)]; exact e
      have hS := (s.hp.trans s1).trans s2
      have hl1 : H1 l = none := s1.free hl
      refine q (.ref l) F1 _ [l] ⟨s.fr, fun b o e _ => hS b o e, fun b e => hS.free e, (s.sub.trans s1).trans s2, s.nw, fun a od u e => hS _ _ e⟩ ?_ (by simp) fun b hb => by rw [List.mem_singleton.mp hb]; exact s.hp.free hl1
      have rk : ∀ {kvs : List (Key × D)}, RepL X.K F1 (kvs.map fun kv => kD kv.1) (kvs.map fun kv => kV kv.1) := fun {kvs} => by
        induction kvs with
        | nil => simp only [List.map_nil, RepL]
        | cons kv kvs ih =>
          simp only [List.map_cons, RepL]
          refine ⟨_, _, rfl, ?_, ih⟩
          cases kv.1 with
          | inl i => simp only [kD, Rep]; rfl
          | inr i => simp only [kD, Rep]; rfl
      have ek : ((zipK kvs vs).map fun kv => kV kv.1) = kvs.map fun kv => kV kv.1 := by
        have := zip_keys r
        have e1 : ((zipK kvs vs).map fun kv => kV kv.1) = ((zipK kvs vs).map (·.1)).map kV := by rw [List.map_map]; rfl
        rw [e1, this, List.map_map]
        rfl
      unfold oD
      simp only [Own]
      exact ⟨l, _, [], rfl, rfl, s.sub.free hl1, upd_same, by rw [ek]; exact ownL_fz rk⟩
    · cases e
end T2
end
section
set_option Elab.async false
set_option linter.all false
set_option maxRecDepth 100000
namespace T2
open PySem PySem.Spec PyProof.Rows L2
/-- the names vs as they are behind the body; the others as they were -/
def backV : List Nat → En → En → Option En
  | [], _, env => some env
  | v :: vs, e2, env => match backV vs e2 env with
    | some e => match e2.get v with
      | some (.fz d) => if scal d then some (e.put v (.fz d)) else none
      | some _ => none
      | none => some (e.kill v)
    | none => none
def lkV (lk : Nat → Bool) (vs : List Nat) : Nat → Bool := fun j => lk j || !vs.contains j
/-- for t in d.keys(): body -/
def sForK (lk : Nat → Bool) (vs : List Nat) (t : Tg) (fo : En → Option M) (body : En → Option Fl) : En → Option Fl := fun env => match fo env with
  | some (.bp i p) => match env.place i p with
    | some (.od false kvs) => match setE env i p (.od true kvs) with
      | some e1 => match fo e1 with
        | some (.bp i' p') => if i' = i ∧ p' = p ∧ vs.all (fun v => !lk v) = true then (match lpF (lkV lk vs) t body (kvs.map fun kv => kD kv.1) (e1.map froz) with
          | some (.nx ef) => if ef.length = env.length then (match backV vs ef env with
            | some e => some (.nx e)
            | none => none) else none
          | _ => none) else none
        | _ => none
      | none => none
    | _ => none
  | _ => none
theorem ValP.inj {H : Hp} : ∀ {p : List Pa} {w v v' : V}, ValP H w p v → ValP H w p v' → v = v'
  | [], w, v, v', h, h' => Eq.trans h (Eq.symm h')
  | .ix k :: r, w, v, v', h, h' => by
    obtain ⟨a, vs, u, rfl, q, g, h⟩ := h
    obtain ⟨a', vs', u', e, q', g', h'⟩ := h'
    cases e
    have : vs = vs' := by rcases q with q | q <;> rcases q' with q' | q' <;> rw [q] at q' <;> cases q' <;> rfl
    subst this
    rw [g] at g'
    cases g'
    exact ValP.inj h h'
  | .fd f :: r, w, v, v', h, h' => by
    obtain ⟨a, C, dx, gs, u, rfl, q, g, h⟩ := h
    obtain ⟨a', C', dx', gs', u', e, q', g', h'⟩ := h'
    cases e
    rw [q] at q'
    cases q'
    rw [g] at g'
    cases g'
    exact ValP.inj h h'
section
variable {K : PySem.W.Frag} {F H : Hp}
theorem Own.val : ∀ {p : List Pa} {m n : M} {w : V} {A : List Addr}, Own K noBr F H m w A → getP m p = some n → ∃ v, ValP H w p v
  | [], m, n, w, A, h, e => ⟨w, rfl⟩
  | .ix k :: r, m, n, w, A, h, e => by
    cases m with
    | ol xs =>
      simp only [Own] at h
      obtain ⟨p, vs, B, rfl, rfl, f, q3, h⟩ := h
      simp only [getP] at e
      split at e
      · rename_i m' hm
        obtain ⟨u, B', e1, e2, e3⟩ := OwnL.get h hm
        obtain ⟨v, hv⟩ := Own.val e2 e
        exact ⟨v, p, vs, u, rfl, .inl q3, e1, hv⟩
      · cases e
    | ot xs =>
      simp only [Own] at h
      obtain ⟨p, vs, B, rfl, rfl, f, q3, h⟩ := h
      simp only [getP] at e
      split at e
      · rename_i m' hm
        obtain ⟨u, B', e1, e2, e3⟩ := OwnL.get h hm
        obtain ⟨v, hv⟩ := Own.val e2 e
        exact ⟨v, p, vs, u, rfl, .inr q3, e1, hv⟩
      · cases e
    | fz d => cases e
    | bp i p => cases e
    | oi C fs => cases e
    | od _ _ => cases e
    | odt _ => cases e
  | .fd f :: r, m, n, w, A, h, e => by
    cases m with
    | oi C xs =>
      simp only [Own] at h
      obtain ⟨p, dx, gs, B, rfl, rfl, f1, f2, q3, q4, h⟩ := h
      simp only [getP] at e
      split at e
      · rename_i m' hm
        obtain ⟨u, B', e1, e2, e3⟩ := OwnF.get h hm
        obtain ⟨v, hv⟩ := Own.val e2 e
        exact ⟨v, p, C, dx, gs, u, rfl, q3, e1, hv⟩
      · cases e
    | fz d => cases e
    | bp i p => cases e
    | ol ms => cases e
    | ot ms => cases e
    | od _ _ => cases e
    | odt _ => cases e
end
theorem backV_len : ∀ {vs : List Nat} {e2 env e : En}, backV vs e2 env = some e → e.length = env.length
  | [], e2, env, e, h => by cases h; rfl
  | v :: vs, e2, env, e, h => by
    simp only [backV] at h
    split at h
    · rename_i e0 h0
      have := backV_len h0
      split at h
      · split at h
        · cases h
          unfold En.put
          rw [List.length_set]
          exact this
        · cases h
      · cases h
      · cases h
        unfold En.kill
        rw [List.length_set]
        exact this
    · cases h
theorem backV_get : ∀ {vs : List Nat} {e2 env e : En} {j : Nat} {m : M}, backV vs e2 env = some e → e2.length = env.length → e.get j = some m → (j ∉ vs ∧ env.get j = some m) ∨ (j ∈ vs ∧ ∃ d, m = .fz d ∧ scal d = true ∧ e2.get j = some (.fz d))
  | [], e2, env, e, j, m, h, hl, hj => by
    cases h
    exact .inl ⟨by simp, hj⟩
  | v :: vs, e2, env, e, j, m, h, hl, hj => by
    have hlen := backV_len h
    simp only [backV] at h
    split at h
    · rename_i e0 h0
      have hl0 := backV_len h0
      split at h
      · rename_i d hd
        split at h
        · rename_i hs
          cases h
          have hv : v < e0.length := by rw [hl0, ← hl]; exact En.get_lt hd
          rw [En.get_put hv] at hj
          by_cases hjv : j = v
          · rw [if_pos hjv] at hj
            cases hj
            subst hjv
            exact .inr ⟨by simp, d, rfl, hs, hd⟩
          · rw [if_neg hjv] at hj
            rcases backV_get h0 hl hj with ⟨a, b⟩ | ⟨a, b⟩
            · exact .inl ⟨by simp [hjv, a], b⟩
            · exact .inr ⟨by simp [a], b⟩
        · cases h
      · cases h
      · rename_i hd
        cases h
        rw [En.get_kill] at hj
        by_cases hjv : j = v
        · rw [if_pos hjv] at hj
          cases hj
        · rw [if_neg hjv] at hj
          rcases backV_get h0 hl hj with ⟨a, b⟩ | ⟨a, b⟩
          · exact .inl ⟨by simp [hjv, a], b⟩
          · exact .inr ⟨by simp [a], b⟩
    · cases h
theorem repK {K : PySem.W.Frag} {F : Hp} (k : Key) : Rep K F (kD k) (kV k) := by
  cases k with
  | inl i => simp only [kD, Rep]; rfl
  | inr i => simp only [kD, Rep]; rfl
section
variable {X : Cx} {lk : Nat → Bool} {tg o : Expr} {body : List Stmt} {t : Tg} {fo : En → Option M} {f : En → Option Fl} {pos apos cpos : Pos}
theorem pds_forK (vs : List Nat) (hp : PassesOwn (model X.prog X.w) X.A X.env X.xe) (hc : X.calm = true) (ho : PD X o fo) (hg : PT' X (lkV lk vs) tg t) (hb : PDSs X (lkV lk vs) body f)
    (hbase : attributeBase o "keys" X.env (eval o X.env) = eval o X.env := by rfl) (hline : (apos.endLine == cpos.line) = true := by rfl)
    (hs : ∀ x, foldedSetIterable (.Call (.Attribute o "keys" apos) [] [] cpos) X.env x = pure x := by intro _; rfl) : PDS X lk (.For tg (.Call (.Attribute o "keys" apos) [] [] cpos) body [] pos) (sForK lk vs t fo f) := by
  refine PS.imp (ps_lock (ps_for hp hc (pi_keysM ho hbase hline) hg hb hs)) fun D σ H h => ?_
  obtain ⟨env, r, F, fp, e, ok, q⟩ := h
  unfold sForK at e
  split at e
  · rename_i i p h1
    split at e
    · rename_i kvs h2
      split at e
      · rename_i e1 h3
        split at e
        · rename_i i' p' h4
          split at e
          · rename_i hcd
            obtain ⟨rfl, rfl, hvs⟩ := hcd
            split at e
            · rename_i ef hlp
              split at e
              · rename_i hef
                split at e
                · rename_i ee hbk
                  cases e
                  -- the dict
                  have h2' := h2
                  unfold En.place at h2'
                  split at h2'
                  · rename_i m hm
                    obtain ⟨w, hw, hO⟩ := ok.slot _ m hm
                    obtain ⟨v, hv⟩ := hO.val h2'
                    obtain ⟨B, o5, nB, onB, up⟩ := hole_ok ok h2 ⟨w, hw, hv, _, h2⟩
                    simp only [Own] at o5
                    obtain ⟨d, us, rfl, rfl, f1, q3, r4⟩ := o5
                    have q3 : H d = some (.dK (zipK kvs us)) := by
                      rcases q3 with ⟨_, z⟩ | ⟨z, _⟩
                      · exact z
                      · cases z
                    refine ⟨d, _, q3, trivial, fun od => ?_⟩
                    obtain ⟨e4, fp4, t1, t2, t3⟩ := up (upd H d (.frz od (.dK (zipK kvs us)))) (.od true kvs) [d] (by
                      simp only [Own]
                      exact ⟨d, us, rfl, rfl, f1, .inr ⟨rfl, od, upd_same⟩, r4⟩) (by simp) (fun c hc => .inl hc)
                      (fun x o hx z => by rw [upd_ne fun e => hx (by simp [e])]; exact z)
                      (fun x z => by
                        by_cases hx : x = d
                        · subst hx
                          rw [upd_same] at z
                          cases z
                        · rw [upd_ne hx] at z
                          exact z)
                      (fun x od u z => by rw [upd_ne fun e => by rw [e, q3] at z; cases z]; exact z)
                    rw [h3] at t1
                    cases t1
                    refine ⟨e1, _, F, fp4, h4, t2.ok, fun x F2 H2 A2 s2 o2 n2 a2 => ?_⟩
                    simp only [Own] at o2
                    obtain ⟨rfl, w', hw', hv', _⟩ := o2
                    rw [hw] at hw'
                    cases hw'
                    have hd2 : H2 d = some (.frz od (.dK (zipK kvs us))) := s2.hp _ _ upd_same
                    have hx : x = .ref d := by
                      have hvL : ValP H2 w p' (.ref d) := by
                        have : ∀ {p : List Pa} {w v : V}, ValP H w p v → (∀ b, v = .ref b → b = d) → ValP H2 w p v := fun {p} => by
                          induction p with
                          | nil => intro w v h _; exact h
                          | cons st r ih =>
                            intro w v h hb
                            cases st with
                            | ix k =>
                              obtain ⟨a, vs, u, rfl, q, g, h⟩ := h
                              have ne : a ≠ d := fun e => by subst e; rcases q with q | q <;> rw [q3] at q <;> cases q
                              exact ⟨a, vs, u, rfl, q.imp (fun z => s2.hp _ _ (by rw [upd_ne ne]; exact z)) (fun z => s2.hp _ _ (by rw [upd_ne ne]; exact z)), g, ih h hb⟩
                            | fd f =>
                              obtain ⟨a, C, dx, gs, u, rfl, q, g, h⟩ := h
                              have ne : a ≠ d := fun e => by subst e; rw [q3] at q; cases q
                              exact ⟨a, C, dx, gs, u, rfl, s2.hp _ _ (by rw [upd_ne ne]; exact q), g, ih h hb⟩
                        exact this hv fun b e => by cases e; rfl
                      exact hv'.inj hvL
                    subst hx
                    refine ⟨d, od, zipK kvs us, rfl, hd2, ?_⟩
                    have okf : EnvOk X.K H2 H2 σ (e1.map froz) fun _ => [] := envFrz (t2.ok.step s2 (fun a z => by cases z))
                    have keep : ∀ {H' : Hp}, Same H2 H' → Same H (upd H' d (.dK (zipK kvs us))) := fun {H'} s b o z => by
                      by_cases hb : b = d
                      · subst hb
                        rw [upd_same, ← q3, z]
                      · rw [upd_ne hb]
                        exact s _ _ (s2.hp _ _ (by rw [upd_ne hb]; exact z))
                    have fin : ∀ σ' F' H' fp', Go X.K [] σ (e1.map froz) (fun _ => []) H2 H2 σ' ef fp' F' H' → Lk (lkV lk vs) σ σ' → Same H2 F' → H' d = some (.frz od (.dK (zipK kvs us))) ∧ D.nx σ' (upd H' d (.dK (zipK kvs us))) := fun σ' F' H' fp' g l s => by
                      refine ⟨g.ok.sub _ _ (s _ _ hd2), ?_⟩
                      have hS : Same H (upd H' d (.dK (zipK kvs us))) := keep (s.trans g.ok.sub)
                      have hvl : ∀ v ∈ vs, lk v = false := fun v hv => by
                        have := List.all_eq_true.mp hvs v hv
                        simpa using this
                      have fpE : ∀ j, ((fun j => if j ∈ vs then ([] : List Addr) else fp j) j) = if j ∈ vs then [] else fp j := fun _ => rfl
                      have on : ∀ a, Ond ee (fun j => if j ∈ vs then ([] : List Addr) else fp j) a → Ond env fp a := fun a ⟨j, mm, hj, ha⟩ => by
                        rcases backV_get hbk hef hj with ⟨z1, z2⟩ | ⟨z1, z2⟩
                        · simp only [if_neg z1] at ha
                          exact ⟨j, mm, z2, ha⟩
                        · simp only [if_pos z1] at ha
                          cases ha
                      refine q σ' F _ (fun j => if j ∈ vs then [] else fp j) ⟨.refl _, fun a o z _ _ => hS _ _ z, fun a z => hS.free z, fun a z => .inl z, fun a z => .inr (.inl (on a z)), ⟨?_, ok.sub.trans hS, fun j mm hj => ?_, fun j mm hj => ?_, fun j k mm nn a hj hk ha hb => ?_⟩, fun a od u z => hS _ _ z⟩ fun j hj => l j (by unfold lkV; rw [hj]; rfl)
                      · rw [backV_len hbk, ← hef]
                        exact g.ok.len
                      · rcases backV_get hbk hef hj with ⟨z1, z2⟩ | ⟨z1, dd, rfl, z3, z4⟩
                        · simp only [if_neg z1]
                          obtain ⟨v, y1, y2⟩ := ok.slot j mm z2
                          refine ⟨v, by rw [l j (by unfold lkV; simp [z1])]; exact y1, y2.mono (.refl _) (fun _ _ _ z => z) _ _ _ fun a ha => ⟨(y2.at _ _ _ a ha).1, hS a⟩⟩
                        · simp only [if_pos z1]
                          obtain ⟨v, y1, y2⟩ := g.ok.slot j _ z4
                          simp only [Own] at y2
                          exact ⟨v, y1, own_fz ((rep_sc z3).mpr ((rep_sc z3).mp y2.2))⟩
                      · rcases backV_get hbk hef hj with ⟨z1, z2⟩ | ⟨z1, dd, rfl, z3, z4⟩
                        · simp only [if_neg z1]
                          exact ok.nd j mm z2
                        · simp only [if_pos z1]
                          exact .nil
                      · rcases backV_get hbk hef hj with ⟨z1, z2⟩ | ⟨z1, z2⟩
                        · rcases backV_get hbk hef hk with ⟨y1, y2⟩ | ⟨y1, y2⟩
                          · simp only [if_neg z1] at ha
                            simp only [if_neg y1] at hb
                            exact ok.dj j k mm nn a z2 y2 ha hb
                          · simp only [if_pos y1] at hb
                            cases hb
                        · simp only [if_pos z1] at ha
                          cases ha
                    refine ⟨fun i m σ' H' => m = kvs.length - i ∧ i ≤ kvs.length ∧ ∃ env' F' fp', lpF (lkV lk vs) t f ((kvs.map fun kv => kD kv.1).drop i) env' = some (.nx ef) ∧ Go X.K [] σ (e1.map froz) (fun _ => []) H2 H2 σ' env' fp' F' H' ∧ Lk (lkV lk vs) σ σ' ∧ Same H2 F',
                      ⟨_, rfl, Nat.zero_le _, _, H2, _, by rw [List.drop_zero]; exact hlp, Go.refl okf, fun _ _ => rfl, .refl _⟩, fun i m σ' H' hW => ?_⟩
                    obtain ⟨rfl, hi, env', F', fp', hl, g, l, s⟩ := hW
                    have hdl : H' d = some (.frz od (.dK (zipK kvs us))) := g.ok.sub _ _ (s _ _ hd2)
                    by_cases hlt : i < kvs.length
                    · right
                      obtain ⟨dd, hdd⟩ : ∃ d, (kvs.map fun kv => kD kv.1)[i]? = some d := ⟨_, List.getElem?_eq_getElem (by simpa using hlt)⟩
                      have hdrop : (kvs.map fun kv => kD kv.1).drop i = dd :: (kvs.map fun kv => kD kv.1).drop (i + 1) := by
                        rw [List.drop_eq_getElem_cons (by simpa using hlt)]
                        rw [List.getElem?_eq_getElem (by simpa using hlt)] at hdd
                        cases hdd
                        rfl
                      rw [hdrop] at hl
                      simp only [lpF] at hl
                      refine ⟨⟨hdl, by rw [zip_len r4]; exact hlt⟩, fun σ2 H2' => ∃ env2 F2 fp2, lpF (lkV lk vs) t f ((kvs.map fun kv => kD kv.1).drop (i + 1)) env2 = some (.nx ef) ∧ Go X.K [] σ (e1.map froz) (fun _ => []) H2 H2 σ2 env2 fp2 F2 H2' ∧ Lk (lkV lk vs) σ σ2 ∧ Same H2 F2,
                        fun σ2 H2' ⟨env2, F2, fp2, a, b, c, d'⟩ => ⟨kvs.length - (i + 1), by omega, rfl, hlt, env2, F2, fp2, a, b, c, d'⟩, fun x H3 hy => ?_⟩
                      obtain ⟨rfl, k, v, hkv, rfl⟩ := hy
                      have hk : dd = kD k := by
                        have hz := zip_keys r4
                        have e1 : (zipK kvs us)[i]?.map (·.1) = some k := by rw [hkv]; rfl
                        rw [← List.getElem?_map, hz, List.getElem?_map] at e1
                        rw [List.getElem?_map] at hdd
                        cases hq : kvs[i]? with
                        | none => rw [hq] at e1; cases e1
                        | some kv =>
                          rw [hq] at e1 hdd
                          cases e1
                          cases hdd
                          rfl
                      subst hk
                      split at hl
                      · rename_i e3 h3'
                        refine ⟨kD k, env', e3, F', fp', repK k, h3', g.ok, fun σ3 fp3 g3 l3 => ?_⟩
                        have g4 := g.trans g3 (fun a z => by cases z)
                        split at hl
                        · rename_i e4 h4'
                          exact ⟨e3, _, F', fp3, h4', g4.ok, fun σ5 F5 H5 fp5 g5 l5 => ⟨e4, F5, fp5, hl, g4.trans g5 (fun a z => by cases z), (l.trans l3).trans l5, s.trans g5.fr⟩⟩
                        · rename_i e4 h4'
                          exact ⟨e3, _, F', fp3, h4', g4.ok, fun σ5 F5 H5 fp5 g5 l5 => ⟨e4, F5, fp5, hl, g4.trans g5 (fun a z => by cases z), (l.trans l3).trans l5, s.trans g5.fr⟩⟩
                        · rename_i e4 h4'
                          cases hl
                          exact ⟨e3, _, F', fp3, h4', g4.ok, fun σ5 F5 H5 fp5 g5 l5 => fin σ5 F5 H5 fp5 (g4.trans g5 fun a z => by cases z) ((l.trans l3).trans l5) (s.trans g5.fr)⟩
                        · cases hl
                        · cases hl
                      · cases hl
                    · left
                      have hi' : i = kvs.length := by omega
                      subst hi'
                      rw [List.drop_eq_nil_of_le (by simp)] at hl
                      cases hl
                      exact ⟨⟨hdl, by rw [zip_len r4]; exact Nat.le_refl _⟩, fin σ' F' H' fp' g l s⟩
                  · cases h2'
                · cases e
              · cases e
            · cases e
          · cases e
        · cases e
      · cases e
    · cases e
  · cases e
end
end T2
end
section
set_option Elab.async false
set_option linter.all false
set_option maxRecDepth 100000
namespace T2
open PySem PySem.Spec PyProof.Rows L2
section
variable [ca : ClsA]
/-- C(..): a new instance behind its __init__ -/
def oMake (n : Nat) (io : List Bool) (f : Fn) : En → List M → Option M := fun env ms => match slotsL ms with
  | [] => match shutZ io ms with
    | some cs => match f (.oi (ca.at_ n) [] :: cs) with
      | some (.fz .non, m' :: _) => some m'
      | _ => none
    | none => none
  | _ => none
/-- o.m(..), o in slot i -/
def callM (n : Nat) (mn : Str) (io : List Bool) (f : Fn) (i : Nat) (gs : En → Option (List M × En)) : En → Option (M × En) := fun env => match env.get i with
  | some (.oi C fs) => if C = ca.at_ n ∧ (getF fs mn).isNone = true then callI io f (xCons (lif (nam i)) gs) env else none
  | _ => none
section
variable {K : PySem.W.Frag}
theorem s_make {n : Nat} {io : List Bool} {f : Fn} {E : XK} : OpS K (oMake n io f) (fun vs H Q => ∀ x dx, H x = none → H dx = none → dx ≠ x → SpI K f (.ref x :: vs) (upd (upd H dx (.own x)) x (.ins (ca.at_ n) dx [])) (fun v H2 => v = .non ∧ Q (.ref x) H2) E) := by
  intro σ env F H fp ms vs A m Q ok hO hn dj e q
  unfold oMake at e
  split at e
  · split at e
    · rename_i cs hc
      split at e
      · rename_i m' tl hf
        cases e
        intro x dx hx hdx ne
        obtain ⟨A', h1, h2⟩ := shutZ_ok hO hn hc
        obtain ⟨f1, f2, f3⟩ := fr_frz2 (A := A) ok.sub fun a ha => (hO.at _ _ _ a (h1.subset ha)).1
        have sH : Same H (upd (upd H dx (.own x)) x (.ins (ca.at_ n) dx [])) := fun b o z => by
          rw [upd_ne (ne_of_none z hx), upd_ne (ne_of_none z hdx)]
          exact z
        have inH : ∀ a ∈ A, ∃ o, H a = some o := fun a ha => (hO.at _ _ _ a ha).2
        have nx : x ∉ A' := fun z => by
          obtain ⟨o, z⟩ := inH x (h1.subset z)
          rw [hx] at z
          cases z
        have nd : dx ∉ A' := fun z => by
          obtain ⟨o, z⟩ := inH dx (h1.subset z)
          rw [hdx] at z
          cases z
        have Fx : frz2 F H A A' x = none := by
          cases z : frz2 F H A A' x with
          | none => rfl
          | some u => rw [f2.free hx] at z; cases z
        have Fdx : frz2 F H A A' dx = none := by
          cases z : frz2 F H A A' dx with
          | none => rfl
          | some u => rw [f2.free hdx] at z; cases z
        have oc : OwnL K noBr (frz2 F H A A') (upd (upd H dx (.own x)) x (.ins (ca.at_ n) dx [])) (.oi (ca.at_ n) [] :: cs) (.ref x :: vs) (x :: dx :: A') := by
          simp only [OwnL, Own, OwnF]
          exact ⟨.ref x, vs, [x, dx], A', rfl, rfl, ⟨x, dx, [], [], rfl, rfl, Fx, Fdx, upd_same, by rw [upd_ne ne, upd_same], rfl, rfl⟩, (h2 _ f1).mono (.refl _) (fun _ _ _ z => z) _ _ _ fun a ha => ⟨((h2 _ f1).at _ _ _ a ha).1, sH a⟩⟩
        have ndc : (x :: dx :: A').Nodup := List.nodup_cons.mpr ⟨fun z => by
          rcases List.mem_cons.mp z with z | z
          · exact ne z.symm
          · exact nx z, List.nodup_cons.mpr ⟨nd, hn.sublist h1⟩⟩
        obtain ⟨fpc, okc, on⟩ := envOf (f2.trans sH) oc ndc
        have onc : ∀ a, Ond ((.oi (ca.at_ n) [] :: cs).map some) fpc a → H a = none ∨ a ∈ A := fun a z => by
          rcases List.mem_cons.mp (on a z) with z | z
          · exact .inl (by rw [z]; exact hx)
          rcases List.mem_cons.mp z with z | z
          · exact .inl (by rw [z]; exact hdx)
          · exact .inr (h1.subset z)
        refine ⟨_, _, _, _, fpc, hf, okc, fun v F' H' fp' B g o nb a b => ?_⟩
        simp only [Own, Rep] at o
        refine ⟨o.2, ?_⟩
        have h0 : En.get ((m :: tl).map some) 0 = some m := rfl
        obtain ⟨w, y1, y2⟩ := g.ok.slot 0 m h0
        simp only [List.map_cons, List.getElem?_cons_zero, Option.some.injEq] at y1
        subst y1
        refine q (.ref x) F' H' (fp' 0) ⟨f1.1.trans g.fr, fun c u z nc => g.keep c u (sH _ _ z) (fun w => ?_) (by simp), fun c z => sH.free (g.stay c z), g.ok.sub, fun c z => ?_, fun c od u z => g.lok _ _ _ (sH _ _ z)⟩ (y2.mono (.refl _) (fun _ _ _ z => z.elim) _ _ _ fun c hc => ⟨(y2.at _ _ _ c hc).1, fun _ z => z⟩) (g.ok.nd 0 m h0) fun c hc => ?_
        · rcases onc c w with y | y
          · rw [y] at z
            cases z
          · exact nc y
        · rcases g.nw c z with w | w | w | w
          · rcases f3 c w with w | w
            · exact .inl w
            · exact .inr (.inr w.1)
          · exact .inr (.inl (sH.free w))
          · exact .inr (onc c w)
          · cases w
        · rcases g.ond ⟨0, m, h0, hc⟩ with w | w
          · exact .inl (sH.free w)
          · exact onc c w
      · cases e
    · cases e
  · cases e
theorem OwnF.none {br : Nat → List Pa → V → Prop} {F H : Hp} {f : Str} : ∀ {fs : List (Str × M)} {gs : List (Str × V)} {A : List Addr}, OwnF K br F H fs gs A → getF fs f = none → gs.lookup f = none
  | [], gs, A, h, e => by
    simp only [OwnF] at h
    rw [h.1]
    rfl
  | p :: fs, gs, A, h, e => by
    simp only [OwnF] at h
    obtain ⟨v, r, B, C, rfl, rfl, q, q2⟩ := h
    unfold getF at e
    split at e
    · cases e
    · rename_i hf
      rw [List.lookup_cons]
      have : (f == p.1) = false := by simpa using fun z => hf z.symm
      simp only [this]
      exact OwnF.none q2 e
theorem tXA.nam {i : Nat} {gs : En → Option (List M × En)} {σ : L2.St} {H : Hp} {R : List V → Hp → Prop} {x : V} (h : tXA K (xCons (lif (nam i)) gs) σ H R) (hx : σ[i]? = some (some x)) : tXA K gs σ H fun vs H2 => R (x :: vs) H2 := by
  have h := tX.of h.cons
  obtain ⟨env, m, F, fp, e, ok, q⟩ := h
  unfold T2.nam at e
  split at e
  · rename_i d hm
    cases e
    obtain ⟨v, e1, e2⟩ := ok.slot i _ hm
    rw [hx] at e1
    cases e1
    simp only [Own] at e2
    exact q x F H [] (.refl ok.sub) (own_fz e2.2) .nil fun a z => by cases z
  · rename_i m' hne hm
    cases e
    obtain ⟨v, e1, e2⟩ := ok.slot i _ hm
    rw [hx] at e1
    cases e1
    refine q x F H [] (.refl ok.sub) (own_bp ⟨x, hx, rfl, m', ?_⟩) .nil fun a z => by cases z
    unfold En.place
    rw [hm]
    unfold getP
    cases m' <;> rfl
  · cases e
theorem tX.meth {n i : Nat} {mn : Str} {io : List Bool} {f : Fn} {gs : En → Option (List M × En)} {σ : L2.St} {H : Hp} {Q : VK} {E : XK} (h : tX K (callM n mn io f i gs) σ H Q) :
    ∃ v, σ[i]? = some (some v) ∧ ∃ a dx fs, v = .ref a ∧ H a = some (.ins (ca.at_ n) dx fs) ∧ fs.lookup mn = none ∧ tXA K gs σ H fun vs H2 => SpI K f (v :: vs) H2 Q E := by
  obtain ⟨env, m, env', F, fp, e, ok, q⟩ := h
  unfold callM at e
  split at e
  · rename_i C fs hm
    split at e
    · rename_i hC
      obtain ⟨rfl, hf⟩ := hC
      obtain ⟨v, e1, e2⟩ := ok.slot i _ hm
      simp only [Own] at e2
      obtain ⟨p, dx, gs', B, rfl, hfp, f1, f2, q3, q4, hh⟩ := e2
      refine ⟨_, e1, p, dx, gs', rfl, q3, hh.none (Option.isNone_iff_eq_none.mp hf), ?_⟩
      exact tXA.nam (tXA.mutc (E := E) ⟨env, m, env', F, fp, e, ok, q⟩) e1
    · cases e
  · cases e
end
section
variable {X : Cx} {k : Nat} {fa C : Addr} {fd : FuncData} {ps : List Str} {fn : Fn} {x : Str} {p pos apos : Pos} {e : Expr} {es : List Expr} {io : List Bool} {fs : En → Option (List M)} {gs : En → Option (List M × En)} {n : Nat}
theorem pd_make0 (M : Mk X.K (ca.at_ n) fa) (F : FnG X.prog X.w X.K X.mg X.base CX0 k fa fd ps (SpI X.K fn)) (hr : RoomG (k + 1) X.A) (hg : Gl X x) (hm : X.mg x = some (.ref (ca.at_ n))) (hb : Binds X.K fd ps [])
    (hdb : (x == ("__debug__" : Str)) = false := by decide) : PD X (.Call (.Name x p) [] [] pos) (opr (oMake n [] fn) aNil) :=
  PE.imp (pe_makeG0 (dvs := []) (E := E0) M F hr hg hm hb .nil pass0 hdb) fun σ H Q q => by
    have := tDA.nil (tDA.op (s_make (E := E0)) q)
    exact fun y dy h1 h2 h3 => this y dy h1 h2 h3
theorem px_meth (i : Nat) (io : List Bool) {mn : Str} {pl : Sem Bool} (hN : X.N[i]? = some x) (hv : Vis X.env.scope x) (hd : (x == ("__debug__" : Str)) = false) (hcd : (x == ("__classdict__" : Str)) = false) (hc : Cls X.K (ca.at_ n)) (hm : Meth X.K (ca.at_ n) mn fa)
    (F : FnG X.prog X.w X.K X.mg X.base CX0 k fa fd ps (SpI X.K fn)) (hr : RoomG k X.A) (hb : Binds X.K fd ps []) (ha : PXA X (e :: es) gs)
    (he : starEach (e :: es) X.env = (false, eval e X.env) :: starEach es X.env := by rfl) (hpl : (backTo pos (starEach es X.env)).any (·.1) = false := by rfl)
    (ht : eval (.Call (.Attribute (.Name x p) mn apos) (e :: es) [] pos) X.env = (do
      let ov ← eval (.Name x p) X.env
      standAt apos.atName
      let (f, first) ← holding [ov] (getMethod ov mn pl)
      callWith pos f first (backTo pos (starEach (e :: es) X.env)) (backToKw pos (keywordEach [] X.env))) := by rfl) :
    PX X (.Call (.Attribute (.Name x p) mn apos) (e :: es) [] pos) (callM n mn io fn i gs) :=
  PE.imp (pe_methG (dvs := []) (E := E0) (pl := pl) (pe_var hN hv hd hcd) hc hm F hr hb .nil pass0 ha he hpl ht) fun σ H Q q => by
    obtain ⟨v, h1, a, dx, fs, h2, h3, h4, h5⟩ := tX.meth (E := E0) q
    exact ⟨v, h1, a, dx, fs, h2, h3, h4, h5.mono fun vs H1 h => by rw [List.append_nil]; exact h⟩
end
end
end T2
end
section
set_option Elab.async false
set_option linter.all false
set_option maxRecDepth 100000
namespace T2
open PySem PySem.Spec PyProof.Rows L2
/-- a method of the class at C: where it stands, its promise -/
structure Dm (P : Program) (w : World) (K : PySem.W.Frag) (mg : Str → Option Value) (base : Heap) (C : Addr) (m : Str) (k : Nat) (ps : List Str) (fn : Fn) : Prop where
  ex : ∃ (f : Addr) (fd : FuncData), Meth K C m f ∧ Binds K fd ps [] ∧ FnG P w K mg base CX0 k f fd ps (SpI K fn)
/-- the __init__ of the class at C -/
structure Di (P : Program) (w : World) (K : PySem.W.Frag) (mg : Str → Option Value) (base : Heap) (C : Addr) (k : Nat) (ps : List Str) (fn : Fn) : Prop where
  ex : ∃ (f : Addr) (fd : FuncData), Mk K C f ∧ Binds K fd ps [] ∧ FnG P w K mg base CX0 k f fd ps (SpI K fn)
theorem fnOk_imp {P : Program} {w : World} {K : PySem.W.Frag} {mg : Str → Option Value} {base : Heap} {CX : CXT} {k : Nat} {f : Addr} {fd : FuncData} {ps : List Str} {sp sp' : Sp} (F : FnG P w K mg base CX k f fd ps sp) (i : ∀ vs H Q E, sp' vs H Q E → sp vs H Q E) : FnG P w K mg base CX k f fd ps sp' :=
  F.imp i
end T2
end
section
set_option Elab.async false
set_option linter.all false
set_option maxRecDepth 100000
namespace T2
open PySem PySem.Spec PyProof.Rows L2
theorem getF_1 {f : Str} {m : M} {fs : List (Str × M)} : getF ((f, m) :: fs) f = some m := if_pos rfl
theorem setF_1 {f : Str} {m m' : M} {fs : List (Str × M)} : setF ((f, m) :: fs) f m' = (f, m') :: fs := if_pos rfl
theorem lookD_1 {f : Str} {d : D} {fs : List (Str × D)} : lookD ((f, d) :: fs) f = some d := if_pos rfl
def notFz : M → Bool
  | .fz _ => false
  | _ => true
section
variable [ca : ClsA] {n : Nat} {f : Str} {env e1 e2 e3 : En} {i : Nat} {p : List Pa} {fs : List (Str × M)} {m m' : M} {d : D}
theorem k_fldP (h : env.get i = some (.oi (ca.at_ n) fs)) (h' : getF fs f = some m) (hn : notFz m = true) : oFld n f env [.bp i []] = some (.bp i [.fd f]) := by
  have hp : env.place i [] = some (.oi (ca.at_ n) fs) := by
    unfold En.place
    rw [h]
    rfl
  unfold oFld
  simp only [hp, if_true, h']
  cases m with
  | fz d => cases hn
  | _ => rfl
theorem k_fldF {ds : List (Str × D)} (h : lookD ds f = some d) : oFld n f env [.fz (.ins (ca.at_ n) ds)] = some (.fz d) := by
  unfold oFld
  simp only [if_true, h, Option.map_some]
theorem k_fldO (h : getF fs f = some m) : oFld n f env [.oi (ca.at_ n) fs] = some m := by
  unfold oFld
  simp only [if_true, h]
theorem place_fd (h : env.get i = some (.oi C fs)) (h' : getF fs f = some m) : env.place i [.fd f] = some m := by
  unfold En.place
  rw [h]
  show (match getF fs f with
    | some m => getP m []
    | none => none) = some m
  rw [h']
  exact getP_nil m
theorem setE_fd (h : env.get i = some (.oi C fs)) (h' : getF fs f = some m) (he : env.put i (.oi C (setF fs f m')) = e1) : setE env i [.fd f] m' = some e1 := by
  subst he
  unfold setE
  rw [h]
  have : setP (.oi C fs) [.fd f] m' = some (.oi C (setF fs f m')) := by
    show (match getF fs f with
      | some m => (setP m [] m').map fun m' => M.oi C (setF fs f m')
      | none => none) = _
    simp only [h', setP_nil, Option.map_some]
  simp only [this, Option.map_some]
theorem x_callM {mn : Str} {io : List Bool} {F : Fn} {gs : En → Option (List M × En)} {R : Option (M × En)} (h : env.get i = some (.oi (ca.at_ n) fs)) (hf : getF fs mn = none) (h' : callI io F (xCons (lif (nam i)) gs) env = R) : callM n mn io F i gs env = R := by
  unfold callM
  simp only [h, hf, Option.isNone_none, and_self, if_true]
  exact h'
theorem k_make0 {F : Fn} {tl : List M} (h : F [.oi (ca.at_ n) []] = some (.fz .non, m' :: tl)) : oMake n [] F env [] = some m' := by
  have h1 : slotsL [] = [] := rfl
  have h2 : shutZ [] [] = some [] := rfl
  unfold oMake
  simp only [h1, h2, h]
theorem x_fldS {k : Nat} {fo : En → Option M} {g : En → Option (M × En)} (h1 : g env = some (m, e1)) (h2 : stow k e1 m = some (m', e2)) (h3 : fo e2 = some (.bp i [])) (h4 : e2.get i = some (.oi (ca.at_ n) fs)) (hl : Nat.ble (fs.length + 1) 1000 = true) (he : e2.put i (.oi (ca.at_ n) (setF fs f m')) = e3) : sFldS n k f fo g env = some (.nx e3) := by
  subst he
  have hp : e2.place i [] = some (.oi (ca.at_ n) fs) := by
    unfold En.place
    rw [h4]
    rfl
  have hs : setE e2 i [] (.oi (ca.at_ n) (setF fs f m')) = some (e2.put i (.oi (ca.at_ n) (setF fs f m'))) := by
    unfold setE
    rw [h4]
    rfl
  have hl := Nat.le_of_ble_eq_true hl
  unfold sFldS
  simp only [h1, h2, h3, hp, hs]
  rw [if_pos ⟨trivial, by omega⟩]
end
section
variable {env e1 e2 e3 : En} {i : Nat} {p : List Pa} {m m' : M} {d kd : D} {b : Bool} {kvs : List (Key × D)}
theorem k_dgP {k : Key} (h : env.place i p = some (.od b kvs)) (hk : keyD kd = some k) (h' : getK kvs k = some d) : oDG env [.bp i p, .fz kd] = some (.fz d) := by
  unfold oDG dicO
  simp only [h, hk, h', Option.map_some]
theorem k_dgF {ks : List Key} {ds : List D} {k : Key} (hk : keyD kd = some k) (h' : getK (ks.zip ds) k = some d) : oDG env [.fz (.dic ks ds), .fz kd] = some (.fz d) := by
  unfold oDG dicO
  simp only [hk, h', Option.map_some]
theorem k_keysP (h : env.place i p = some (.od b kvs)) : oKeys env [.bp i p] = some (oD (kvs.map fun kv => kD kv.1)) := by
  unfold oKeys dicO
  simp only [h]
theorem k_dlenO : oDLen env [.od false kvs] = some (.fz (.int kvs.length)) := rfl
theorem k_bits {j : Int} : sop iBits env [.fz (.int j)] = some (.fz (.int (Builtin.Int.intBits j : Nat))) := id rfl
theorem x_dset {fo fi : En → Option M} {g : En → Option (M × En)} {k : Key} (h1 : g env = some (m, e1)) (h2 : stow 0 e1 m = some (.fz d, e2)) (h3 : fo e2 = some (.bp i p)) (h4 : fi e2 = some (.fz kd)) (h5 : e2.place i p = some (.od false kvs)) (h6 : keyD kd = some k) (hl : kvs.length < sizeLine) (h7 : setE e2 i p (.od false (putD kvs k d)) = some e3) : sDSet fo fi g env = some (.nx e3) := by
  unfold sDSet
  simp only [h1, h2, h3, h4, h5, h6, h7]
  rw [if_pos hl]
theorem x_forK {lk : Nat → Bool} {vs : List Nat} {t : Tg} {fo : En → Option M} {body : En → Option Fl} {ef e : En} (h1 : fo env = some (.bp i p)) (h2 : env.place i p = some (.od false kvs)) (h3 : setE env i p (.od true kvs) = some e1) (h4 : fo e1 = some (.bp i p)) (h5 : vs.all (fun v => !lk v) = true) (h6 : frozL e1 = e2) (h7 : lpF (lkV lk vs) t body (kvs.map fun kv => kD kv.1) e2 = some (.nx ef)) (h8 : ef.length = env.length) (h9 : backV vs ef env = some e) : sForK lk vs t fo body env = some (.nx e) := by
  subst h6
  unfold frozL at h7
  unfold sForK
  simp only [h1, h2, h3, h4]
  rw [if_pos ⟨trivial, trivial, h5⟩, h7]
  simp only [h8, if_true, h9]
theorem backV_n {e2 env : En} : backV [] e2 env = some env := rfl
theorem backV_f {v : Nat} {vs : List Nat} {e2 env e e' : En} (h : backV vs e2 env = some e) (h' : e2.get v = some (.fz d)) (hs : scal d = true) (he : e.put v (.fz d) = e') : backV (v :: vs) e2 env = some e' := by
  subst he
  simp only [backV, h, h', hs, if_true]
theorem backV_k {v : Nat} {vs : List Nat} {e2 env e e' : En} (h : backV vs e2 env = some e) (h' : e2.get v = none) (he : e.kill v = e') : backV (v :: vs) e2 env = some e' := by
  subst he
  simp only [backV, h, h']
end
/-- the data of an instance with one dict -/
theorem dat0_i1 {C : Addr} {f : Str} {m : M} {d : D} (h : dat0 m = some d) : dat0 (.oi C [(f, m)]) = some (.ins C [(f, d)]) := by
  show (match datW (fun _ _ => none) m, some [] with
    | some d, some ds => some ((f, d) :: ds)
    | _, _ => none).map (D.ins C) = _
  rw [show datW (fun _ _ => none) m = some d from h]
  rfl
theorem dat0_d {b : Bool} {kvs : List (Key × D)} : dat0 (.od b kvs) = some (.dic (kvs.map (·.1)) (kvs.map (·.2))) := rfl
end T2
end
section
set_option Elab.async false
set_option linter.all false
set_option maxRecDepth 100000
namespace T2
open PySem PySem.Spec PyProof.Rows L2
def gIsB (neg : Bool) : List D → Option D
  | [.bl a, .bl b] => some (.bl (if neg then !decide (a = b) else decide (a = b)))
  | _ => none
theorem k_isB {env : En} {a b : Bool} : sop (gIsB false) env [.fz (.bl a), .fz (.bl b)] = some (.fz (.bl (decide (a = b)))) := id rfl
theorem k_notB {env : En} {a b : Bool} : sop (gIsB true) env [.fz (.bl a), .fz (.bl b)] = some (.fz (.bl (!decide (a = b)))) := id rfl
end T2
end
section
set_option Elab.async false
set_option linter.all false
set_option maxRecDepth 100000
namespace T2
open PySem PySem.Spec PyProof.Rows L2
section
variable {env e1 : En} {m : M} {d : D}
theorem idx_ot {ms : List M} {i : Int} (h : L2.atI ms i = some m) : oIdx env [.ot ms, .fz (.int i)] = some m := by
  have h0 : oIx true env [.ot ms, .fz (.int i)] = none := rfl
  have h1 : oIx false env [.ot ms, .fz (.int i)] = some m := h
  show oOr (oIx true) (oOr (oIx false) _) env _ = _
  unfold oOr
  rw [h0, h1]
theorem k_idxO0 {ms : List M} : oIdx env [.ot (m :: ms), .fz (.int 0)] = some m := idx_ot (atI_nat (i := 0) rfl)
theorem k_idxO1 {ms : List M} {n : M} : oIdx env [.ot (n :: m :: ms), .fz (.int 1)] = some m := idx_ot (atI_nat (i := 1) rfl)
theorem k_idxO2 {ms : List M} {n o : M} : oIdx env [.ot (n :: o :: m :: ms), .fz (.int 2)] = some m := idx_ot (atI_nat (i := 2) rfl)
end
end T2
end
section
set_option Elab.async false
set_option linter.all false
set_option maxRecDepth 100000
namespace T2
open PySem PySem.Spec PyProof.Rows L2
section
variable {K : PySem.W.Frag} {F H : Hp} {σ : L2.St} {env : En}
mutual
theorem Own.nobr {br : Nat → List Pa → V → Prop} : ∀ (m : M) (v : V) (A : List Addr), slots m = [] → Own K br F H m v A → Own K noBr F H m v A
  | .fz d, v, A, hs, h => by
    simp only [Own] at h ⊢
    exact h
  | .bp i p, v, A, hs, h => by
    simp only [slots] at hs
    cases hs
  | .ol ms, v, A, hs, h => by
    simp only [slots] at hs
    simp only [Own] at h ⊢
    obtain ⟨p, vs, B, e, rfl, f, q, r⟩ := h
    exact ⟨p, vs, B, e, rfl, f, q, OwnL.nobr ms vs B hs r⟩
  | .ot ms, v, A, hs, h => by
    simp only [slots] at hs
    simp only [Own] at h ⊢
    obtain ⟨p, vs, B, e, rfl, f, q, r⟩ := h
    exact ⟨p, vs, B, e, rfl, f, q, OwnL.nobr ms vs B hs r⟩
  | .oi C fs, v, A, hs, h => by
    simp only [slots] at hs
    simp only [Own] at h ⊢
    obtain ⟨p, dx, gs, B, e, rfl, f, f2, q, q2, r⟩ := h
    exact ⟨p, dx, gs, B, e, rfl, f, f2, q, q2, OwnF.nobr fs gs B hs r⟩
  | .od lk kvs, v, A, hs, h => by
    simp only [Own] at h ⊢
    exact h
  | .odt kvs, v, A, hs, h => by
    simp only [Own] at h ⊢
    exact h
theorem OwnL.nobr {br : Nat → List Pa → V → Prop} : ∀ (ms : List M) (vs : List V) (A : List Addr), slotsL ms = [] → OwnL K br F H ms vs A → OwnL K noBr F H ms vs A
  | [], vs, A, hs, h => by simpa only [OwnL] using h
  | m :: ms, vs, A, hs, h => by
    simp only [slotsL, List.append_eq_nil_iff] at hs
    simp only [OwnL] at h ⊢
    obtain ⟨v, r, B, C, e, rfl, q, q2⟩ := h
    exact ⟨v, r, B, C, e, rfl, Own.nobr m v B hs.1 q, OwnL.nobr ms r C hs.2 q2⟩
theorem OwnF.nobr {br : Nat → List Pa → V → Prop} : ∀ (ms : List (Str × M)) (vs : List (Str × V)) (A : List Addr), slotsF ms = [] → OwnF K br F H ms vs A → OwnF K noBr F H ms vs A
  | [], vs, A, hs, h => by simpa only [OwnF] using h
  | m :: ms, vs, A, hs, h => by
    simp only [slotsF, List.append_eq_nil_iff] at hs
    simp only [OwnF] at h ⊢
    obtain ⟨v, r, B, C, e, rfl, q, q2⟩ := h
    exact ⟨v, r, B, C, e, rfl, Own.nobr m.2 v B hs.1 q, OwnF.nobr ms r C hs.2 q2⟩
end
end
/-- slots' trees go into a tuple -/
def movL (lk : Nat → Bool) : List M → En → Option (List M × En)
  | [], env => some ([], env)
  | m :: ms, env => match m with
    | .bp i p => match p, env.get i with
      | [], some n => if lk i = false then (match movL lk ms (env.kill i) with
        | some (ns, e2) => some (n :: ns, e2)
        | none => none) else none
      | _, _ => none
    | m => if slots m = [] then (match movL lk ms env with
      | some (ns, e2) => some (m :: ns, e2)
      | none => none) else none
section
variable {K : PySem.W.Frag} {F H : Hp} {σ : L2.St}
structure Mv (K : PySem.W.Frag) (F H : Hp) (σ : L2.St) (env env' : En) (fp : Nat → List Addr) (A : List Addr) (ns : List M) (vs : List V) (A' : List Addr) : Prop where
  own : OwnL K noBr F H ns vs A'
  nd : A'.Nodup
  fr : ∀ a ∈ A', a ∈ A ∨ Ond env fp a
  off : ∀ a ∈ A', ¬ Ond env' fp a
  go : Go K [] σ env fp F H σ env' fp F H
  sub : ∀ i m, env'.get i = some m → env.get i = some m
theorem movL_ok {env0 : En} {lk : Nat → Bool} {fp : Nat → List Addr} : ∀ (ms : List M) (vs : List V) (A : List Addr) (env env' : En) (ns : List M), EnvOk K F H σ env fp → OwnL K (plc H σ env0) F H ms vs A → A.Nodup → (∀ a ∈ A, ¬ Ond env fp a) → movL lk ms env = some (ns, env') → ∃ A', Mv K F H σ env env' fp A ns vs A'
  | [], vs, A, env, env', ns, ok, h, hn, ho, e => by
    simp only [movL, Option.some.injEq, Prod.mk.injEq] at e
    obtain ⟨rfl, rfl⟩ := e
    simp only [OwnL] at h
    refine ⟨[], ?_, .nil, fun a ha => (by cases ha), fun a ha => (by cases ha), Go.refl ok, fun _ _ h => h⟩
    simp only [OwnL]
    exact ⟨h.1, trivial⟩
  | m :: ms, vs, A, env, env', ns, ok, h, hn, ho, e => by
    simp only [OwnL] at h
    obtain ⟨v, r, B, C, rfl, rfl, q, q2⟩ := h
    have hnB := (List.nodup_append.mp hn).1
    have hnC := (List.nodup_append.mp hn).2.1
    have hBC := (List.nodup_append.mp hn).2.2
    have tree : ∀ (hs : slots m = []) (e : (match movL lk ms env with
        | some (ns, e2) => some (m :: ns, e2)
        | none => none) = some (ns, env')), ∃ A', Mv K F H σ env env' fp (B ++ C) ns (v :: r) A' := fun hs e => by
      split at e
      · rename_i ns2 e2 h2
        cases e
        obtain ⟨C', mv⟩ := movL_ok ms r C env env' ns2 ok q2 hnC (fun a ha => ho a (List.mem_append_right _ ha)) h2
        refine ⟨B ++ C', ?_, ?_, fun a ha => ?_, fun a ha => ?_, mv.go, mv.sub⟩
        · simp only [OwnL]
          exact ⟨v, r, B, C', rfl, rfl, Own.nobr m v B hs q, mv.own⟩
        · refine List.nodup_append.mpr ⟨hnB, mv.nd, fun a ha b hb hab => ?_⟩
          subst hab
          rcases mv.fr a hb with z | z
          · exact hBC a ha a z rfl
          · exact ho a (List.mem_append_left _ ha) z
        · rcases List.mem_append.mp ha with z | z
          · exact .inl (List.mem_append_left _ z)
          · rcases mv.fr a z with y | y
            · exact .inl (List.mem_append_right _ y)
            · exact .inr y
        · rcases List.mem_append.mp ha with z | z
          · intro ⟨i, n, hi, hia⟩
            exact ho a (List.mem_append_left _ z) ⟨i, n, mv.sub i n hi, hia⟩
          · exact mv.off a z
      · cases e
    unfold movL at e
    split at e
    · rename_i i p
      split at e
      · rename_i n hg
        split at e
        · rename_i hl
          split at e
          · rename_i ns2 e2 h2
            cases e
            simp only [Own] at q
            obtain ⟨rfl, w, hw, hv, _⟩ := q
            have hv : v = w := hv
            subst hv
            obtain ⟨u, k1, k2⟩ := ok.slot i n hg
            rw [hw] at k1
            cases k1
            have gk := kill_ok (i := i) ok
            have hok : ∀ a, Ond (env.kill i) fp a → Ond env fp a := fun a ⟨j, n, hj, hc⟩ => by
              rw [En.get_kill] at hj
              split at hj
              · cases hj
              · exact ⟨j, n, hj, hc⟩
            obtain ⟨C', mv⟩ := movL_ok ms r C (env.kill i) env' ns2 gk.ok q2 hnC (fun a ha z => ho a (List.mem_append_right _ ha) (hok a z)) h2
            have apart : ∀ a ∈ fp i, ¬ Ond (env.kill i) fp a := fun a ha ⟨j, n', hj, hc⟩ => by
              rw [En.get_kill] at hj
              split at hj
              · cases hj
              · rename_i hne
                exact hne (ok.dj j i n' n a hj hg hc ha)
            have subk : ∀ j m, (env.kill i).get j = some m → env.get j = some m := fun j m hj => by
              rw [En.get_kill] at hj
              split at hj
              · cases hj
              · exact hj
            refine ⟨fp i ++ C', ?_, ?_, fun a ha => ?_, fun a ha => ?_, gk.trans mv.go (fun a z => by cases z), fun j m hj => subk j m (mv.sub j m hj)⟩
            · simp only [OwnL]
              exact ⟨v, r, fp i, C', rfl, rfl, k2, mv.own⟩
            · refine List.nodup_append.mpr ⟨ok.nd i n hg, mv.nd, fun a ha b hb hab => ?_⟩
              subst hab
              rcases mv.fr a hb with z | z
              · exact ho a (List.mem_append_right _ z) ⟨i, n, hg, ha⟩
              · exact apart a ha z
            · rcases List.mem_append.mp ha with z | z
              · exact .inr ⟨i, n, hg, z⟩
              · rcases mv.fr a z with y | y
                · exact .inl (List.mem_append_right _ y)
                · exact .inr (hok a y)
            · rcases List.mem_append.mp ha with z | z
              · intro ⟨j, n', hj, hc⟩
                exact apart a z ⟨j, n', mv.sub j n' hj, hc⟩
              · exact mv.off a z
          · cases e
        · cases e
      · cases e
    · split at e
      · rename_i hs
        exact tree hs e
      · cases e
end
/-- return of a tuple whose trees are the caller's -/
def sRetO (lk : Nat → Bool) (g : En → Option (M × En)) : En → Option Fl := fun env => match g env with
  | some (.ot ms, e1) => match movL lk ms e1 with
    | some (ns, e2) => some (.rt (.ot ns) e2)
    | none => none
  | some (.fz d, e1) => some (.rt (.fz d) e1)
  | _ => none
theorem pds_retO {X : Cx} {lk : Nat → Bool} {g : En → Option (M × En)} {e : Expr} {pos : Pos} (he : PX X e g) : PDS X lk (.Return (some e) pos) (sRetO lk g) := by
  refine PS.imp (ps_ret he) fun D σ H h => ?_
  obtain ⟨env, r, F, fp, e, ok, q⟩ := h
  unfold sRetO at e
  split at e
  · rename_i ms e1 h1
    split at e
    · rename_i ns e2 h2
      cases e
      refine ⟨env, _, e1, F, fp, h1, ok, fun v F1 H1 fp1 A g1 o n a b => ?_⟩
      simp only [Own] at o
      obtain ⟨p, vs, B, rfl, rfl, f, z, r⟩ := o
      have hn := List.nodup_cons.mp n
      obtain ⟨B', mv⟩ := movL_ok ms vs B e1 e2 ns g1.ok r hn.2 (fun a ha => b a (List.mem_cons_of_mem _ ha)) h2
      have hp : p ∉ B' := fun hpB => by
        rcases mv.fr p hpB with y | y
        · exact hn.1 y
        · exact b p List.mem_cons_self y
      refine q (.ref p) σ F1 H1 fp1 (p :: B') (g1.trans mv.go fun a z => by cases z) (fun _ _ => rfl) ?_ (List.nodup_cons.mpr ⟨hp, mv.nd⟩) (fun c hc => ?_) fun c hc z => ?_
      · simp only [Own]
        exact ⟨p, vs, B', rfl, rfl, f, z, mv.own⟩
      · rcases List.mem_cons.mp hc with y | y
        · rw [y]; exact a p List.mem_cons_self
        · rcases mv.fr c y with u | u
          · exact a c (List.mem_cons_of_mem _ u)
          · exact g1.ond u
      · rcases List.mem_cons.mp hc with y | y
        · rw [y] at z
          obtain ⟨j, n', hj, hc'⟩ := z
          exact b p List.mem_cons_self ⟨j, n', mv.sub j n' hj, hc'⟩
        · exact mv.off c y z
    · cases e
  · rename_i d e1 h1
    cases e
    refine ⟨env, _, e1, F, fp, h1, ok, fun v F1 H1 fp1 A g1 o n a b => ?_⟩
    simp only [Own] at o
    exact q v σ F1 H1 fp1 A g1 (fun _ _ => rfl) (by simp only [Own]; exact o) n a b
  · cases e
section
variable {lk : Nat → Bool} {env e1 e2 : En} {m n : M} {ms ns : List M} {d : D}
theorem movL_n : movL lk [] env = some ([], env) := rfl
theorem movL_f (h : movL lk ms env = some (ns, e2)) : movL lk (.fz d :: ms) env = some (.fz d :: ns, e2) := by
  unfold movL
  simp only [slots, if_true, h]
theorem movL_b {i : Nat} (hg : env.get i = some n) (hl : lk i = false) (hk : env.kill i = e1) (h : movL lk ms e1 = some (ns, e2)) : movL lk (.bp i [] :: ms) env = some (n :: ns, e2) := by
  subst hk
  unfold movL
  simp only [hg, hl, if_true, h]
theorem movL_l {xs : List M} (hs : slotsL [.ol xs] = []) (h : movL lk ms env = some (ns, e2)) : movL lk (.ol xs :: ms) env = some (.ol xs :: ns, e2) := by
  have hs : slots (.ol xs) = [] := by
    simp only [slotsL, List.append_nil] at hs
    exact hs
  unfold movL
  simp only [hs, if_true, h]
theorem x_retO {g : En → Option (M × En)} (h : g env = some (.ot ms, e1)) (h' : movL lk ms e1 = some (ns, e2)) : sRetO lk g env = some (.rt (.ot ns) e2) := by
  unfold sRetO
  rw [h]
  simp only [h']
end
end T2
end
section
set_option Elab.async false
set_option linter.all false
set_option maxRecDepth 100000
namespace T2
open PySem PySem.Spec PyProof.Rows L2
section
variable {env e1 e2 e3 : En} {m m' r r2 : M} {d : D} {ms ms' ns cs : List M} {ds : List D}
theorem callB_x {io : List Bool} {F : Fn} {i : Nat} {l : List Nat} (h : slotsL ms = i :: l) (h1 : dats env ms = some ds) (hm : ds.map .fz = ns) (h2 : F ns = some (r, cs)) (h3 : sLf r = true) : callP io F env ms = some r := by
  subst hm
  exact callB_of h h1 h2 h3
theorem slM_fD {l h : Option Int} : slM env l h (.fz (.lst ds)) = some (oD (cutM ds l h)) := by
  have key : slM env l h (.fz (.lst ds)) = some (.ol (cutM (ds.map .fz) l h)) := rfl
  rw [key]
  show _ = some (M.ol ((cutM ds l h).map .fz))
  unfold cutM
  rw [List.map_take, List.map_drop, List.length_map]
end
end T2
end
section
set_option Elab.async false
set_option linter.all false
set_option maxRecDepth 100000
namespace T2
open PySem PySem.Spec PyProof.Rows L2
end T2
end
section
set_option Elab.async false
set_option linter.all false
set_option maxRecDepth 100000
namespace T2
open PySem PySem.Spec PyProof.Rows L2
end T2
end
section
set_option Elab.async false
set_option linter.all false
set_option maxRecDepth 100000
namespace T2
open PySem PySem.Spec PyProof.Rows L2
end T2
end
section
set_option Elab.async false
set_option linter.all false
set_option maxRecDepth 100000
namespace T2
open PySem PySem.Spec PyProof.Rows L2
end T2
end
section
set_option Elab.async false
set_option linter.all false
set_option maxRecDepth 100000
namespace T2
open PySem PySem.Spec PyProof.Rows L2
end T2
end
section
set_option Elab.async false
set_option linter.all false
set_option maxRecDepth 100000
namespace T2
open PySem PySem.Spec PyProof.Rows L2
section
variable {a b c d e f x : M}
abbrev F1 (a : M) : List (Str × M) := [("many", a)]
abbrev F2 (a b : M) : List (Str × M) := [("many", a), ("signs", b)]
abbrev F3 (a b c : M) : List (Str × M) := [("many", a), ("signs", b), ("rows", c)]
abbrev F4 (a b c d : M) : List (Str × M) := [("many", a), ("signs", b), ("rows", c), ("basis", d)]
abbrev F5 (a b c d e : M) : List (Str × M) := [("many", a), ("signs", b), ("rows", c), ("basis", d), ("below", e)]
end
end T2
end
section
set_option Elab.async false
set_option linter.all false
set_option maxRecDepth 100000
set_option maxHeartbeats 4000000
namespace T2
open PySem PySem.Spec PyProof.Rows L2
section
variable {X : Cx} {lk : Nat → Bool} {es : List Expr} {is : List Nat}
theorem Go.and {K : PySem.W.Frag} {σ σ1 σ2 : L2.St} {env e1 e2 : En} {fp fp1 fp2 : Nat → List Addr} {F H : Hp} {B C : List Addr} (g : Go K B σ env fp F H σ1 e1 fp1 F H) (h : Go K C σ1 e1 fp1 F H σ2 e2 fp2 F H) : Go K (B ++ C) σ env fp F H σ2 e2 fp2 F H :=
  ⟨.refl _, fun _ _ e _ _ => e, fun _ e => e, fun _ e => .inl e, fun a z => by
    rcases h.nf a z with u | u | u
    · exact .inl u
    · rcases g.nf a u with w | w | w
      · exact .inl w
      · exact .inr (.inl w)
      · exact .inr (.inr (List.mem_append_left _ w))
    · exact .inr (.inr (List.mem_append_right _ u)), h.ok, fun _ _ _ e => e⟩
end
end T2
end
section
set_option Elab.async false
set_option linter.all false
set_option maxRecDepth 100000
namespace T2
open PySem PySem.Spec PyProof.Rows L2
end T2
end
section
set_option Elab.async false
set_option linter.all false
set_option maxRecDepth 100000
namespace T2
open PySem PySem.Spec PyProof.Rows L2
section
variable {X : Cx} {tg e a b : Expr} {f g : En → Option M} {p pos rp rpos apos : Pos}
def encD (d : D) : PyData := (pyD d).getD .none
def tupC : PyData → Bool
  | .tuple (_ :: _) => true
  | _ => false
def othC : PyData → Bool
  | .none => false
  | .tuple _ => false
  | _ => true
def okS (ds : List D) : Bool := (ds.all fun d => (pyD d).isSome && decide ((encD d).depth ≤ 60)) && (ds.all fun d => ds.all fun e => PySem.W.alike (encD d) (encD e)) && (ds.all (fun d => tupC (encD d)) || ds.all fun d => othC (encD d)) && decide (ds.length ≤ sizeLine)
end
end T2
end
section
set_option Elab.async false
set_option linter.all false
set_option maxRecDepth 100000
namespace T2
open PySem PySem.Spec PyProof.Rows L2
end T2
end
section
set_option Elab.async false
set_option linter.all false
set_option maxRecDepth 100000
namespace T2
open PySem PySem.Spec PyProof.Rows L2
end T2
end
section
set_option Elab.async false
set_option linter.all false
set_option maxRecDepth 100000
namespace T2
open PySem PySem.Spec PyProof.Rows L2
end T2
end
section
set_option Elab.async false
set_option linter.all false
set_option maxRecDepth 100000
namespace T2
open PySem PySem.Spec PyProof.Rows L2
end T2
end
section
set_option Elab.async false
set_option linter.all false
set_option maxRecDepth 100000
namespace T2
open PySem PySem.Spec PyProof.Rows L2 PySem.W PySem.Calls
end T2
end
section
set_option Elab.async false
set_option linter.all false
set_option maxRecDepth 100000
namespace T2
open PySem PySem.Spec PyProof.Rows L2
/-- the done part of the list, with the rest of the tree -/
def PR (K : PySem.W.Frag) (AR : List Addr) (H1 : Hp) (F' H' : Hp) (ms : List M) (vs : List V) (A1 : List Addr) : Prop :=
  ∃ A0, A1 = AR ++ A0 ∧ OwnL K noBr F' H' ms vs A0 ∧ ∀ x ∈ AR, F' x = none ∧ (∃ o, H1 x = some o) ∧ ∀ o, H1 x = some o → H' x = some o
section
variable {K : PySem.W.Frag} {AR : List Addr} {H1 F H F' H' : Hp} {ms ms' : List M} {vs vs' : List V} {A B : List Addr}
theorem PR.at (h : PR K AR H1 F H ms vs A) : ∀ a ∈ A, F a = none ∧ ∃ o, H a = some o := by
  obtain ⟨A0, rfl, h1, h2⟩ := h
  intro a ha
  rcases List.mem_append.mp ha with ha | ha
  · obtain ⟨z1, ⟨o, z2⟩, z3⟩ := h2 a ha
    exact ⟨z1, o, z3 o z2⟩
  · exact h1.at _ _ _ a ha
theorem PR.mono (h : PR K AR H1 F H ms vs A) (s : Same F F') (k : ∀ a ∈ A, F' a = none ∧ ∀ o, H a = some o → H' a = some o) : PR K AR H1 F' H' ms vs A := by
  obtain ⟨A0, rfl, h1, h2⟩ := h
  exact ⟨A0, rfl, h1.mono s (fun _ _ _ z => z) _ _ _ fun a ha => k a (by simp [ha]), fun x hx => ⟨(k x (by simp [hx])).1, (h2 x hx).2.1, fun o e => (k x (by simp [hx])).2 o ((h2 x hx).2.2 o e)⟩⟩
theorem PR.app (h : PR K AR H1 F H ms vs A) (h' : OwnL K noBr F H ms' vs' B) : PR K AR H1 F H (ms ++ ms') (vs ++ vs') (A ++ B) := by
  obtain ⟨A0, rfl, h1, h2⟩ := h
  exact ⟨A0 ++ B, by rw [List.append_assoc], h1.append h', h2⟩
end
theorem perm1 {α : Type} (X Y B : List α) (a : α) : (X ++ (a :: B) ++ Y).Perm (a :: (X ++ Y ++ B)) := by
  rw [List.append_assoc, List.cons_append]
  refine List.perm_middle.trans (List.Perm.cons a ?_)
  rw [List.append_assoc]
  exact List.Perm.append_left X List.perm_append_comm
end T2
end
section
set_option Elab.async false
set_option linter.all false
set_option maxRecDepth 100000
namespace T2
open PySem PySem.Spec PyProof.Rows L2
end T2
end
section
set_option Elab.async false
set_option linter.all false
set_option maxRecDepth 100000
namespace T2
open PySem PySem.Spec PyProof.Rows L2
end T2
end
section
set_option Elab.async false
set_option linter.all false
set_option maxRecDepth 100000
namespace T2
open PySem PySem.Spec PyProof.Rows L2
def oTupOf : En → List M → Option M := fun env ms => match ms with
  | [.fz (.scr _)] => none
  | [m] => match elems env m with
    | some (true, xs) => some (mkT xs)
    | _ => none
  | _ => none
section
variable {K : PySem.W.Frag}
theorem s_tupOf : OpS K oTupOf (fun xs H Q => ∃ p ys, xs = [.ref p] ∧ ((SqL K H p ys ∧ ∀ l, H l = none → Q (.ref l) (upd H l (.tup ys))) ∨ (SqT K H p ys ∧ Q (.ref p) H))) := by
  intro σ env F H fp ms vs A m Q ok hO hn dj e q
  unfold oTupOf at e
  split at e
  · cases e
  · rename_i x hx
    split at e
    · rename_i xs he
      cases e
      obtain ⟨v, rfl, o⟩ := ownL1 hO
      obtain ⟨a, us, D, rfl, l1, l2, h3, s1⟩ := elems_ok ok o he
      exact ⟨a, us, rfl, .inl ⟨SqL.of (l1 rfl), fun l hl => newT ok h3 s1 hn hl q⟩⟩
    · cases e
  · cases e
end
theorem x_tupOf {env : En} {ds : List D} : oTupOf env [oD ds] = some (mkT (ds.map .fz)) := by rfl
end T2
end
section
set_option Elab.async false
set_option linter.all false
set_option maxRecDepth 100000
namespace T2
open PySem PySem.Spec PyProof.Rows L2
end T2
end
section
set_option Elab.async false
set_option linter.all false
set_option maxRecDepth 100000
namespace T2
open PySem PySem.Spec PyProof.Rows L2
end T2
end
section
set_option Elab.async false
set_option linter.all false
set_option maxRecDepth 100000
namespace T2
open PySem PySem.Spec PyProof.Rows L2
end T2
end
section
set_option Elab.async false
set_option linter.all false
set_option maxRecDepth 100000
namespace T2
open PySem PySem.Spec PyProof.Rows L2
end T2
end
section
set_option Elab.async false
set_option linter.all false
set_option maxRecDepth 100000
namespace T2
open PySem PySem.Spec PyProof.Rows L2
end T2
end
section
set_option Elab.async false
set_option linter.all false
set_option maxRecDepth 100000
namespace T2
open PySem PySem.Spec PyProof.Rows L2
theorem roomG_of {k : Nat} (r : Room k callerA) : RoomG k callerA := ⟨r, rfl⟩
/-- the law's def is called on the script -/
theorem call_g {P : Program} {w : World} {K : PySem.W.Frag} {mg mb : Str → Option Value} {k : Nat} {fa a : Addr} {d : FuncData} {x : Str} {sp : Sp} {s : Shared} {us : List Value} {ns : List Int}
    (KX : K.In s.heap) (nm : s.heap.Ns mainGlobals mg) (nb : s.heap.Ns builtinsNs mb) (ob : ∀ x : Str, x ≠ "__name__" → mb x = bootBuiltins x) (lim : s.heap.NoLimit) (hg : s.gens = #[])
    (ha : s.heap.get? a = some { cls := .type "list", data := .seq us.toArray }) (hi : IntsAre us ns) (hl : ns.length ≤ sizeLine) (hr : Room k callerA)
    (F : ∀ base : Heap, K.In base → base.Ns mainGlobals mg → FnG P w K mg base CX0 k fa d [x] sp) (bd : ∀ (s : Shared) (u : Value), BindsTo s d ⟨[u], []⟩ [(x, u)])
    (hsp : ∀ H : Hp, SqL K H a (ns.map V.int) → sp [.ref a] H (fun v _ => v = .bl true) fun _ _ _ => False) :
    codeAny (model P w) callerA (.call (.ref fa) ⟨[.ref a], []⟩) (fun r t => r = .ok (.ret (.bool true)) ∧ OldK s.heap t.heap ∧ t.os = s.os ∧ AllBare t.gens) s := by
  have rv := vals_ints hi
  have go : ∀ H : Hp, Only H → SqL K H a (ns.map V.int) → HOk P w H s.heap → (∀ b, H b ≠ none → b = a ∧ K.lookup a = none) →
      codeAny (model P w) callerA (.call (.ref fa) ⟨[.ref a], []⟩) (fun r t => r = .ok (.ret (.bool true)) ∧ OldK s.heap t.heap ∧ t.os = s.os ∧ AllBare t.gens) s := by
    intro H hO hS hok hA
    have plain : ∀ {b : Addr} {o : Obj}, s.heap.get? b = some o → (∀ vs n, o.data ≠ .seq vs n) → H b = none := fun {b o} e h1 => by
      refine Classical.byContradiction fun h2 => ?_
      obtain ⟨rfl, _⟩ := hA b h2
      rw [ha] at e
      cases e
      exact h1 _ _ rfl
    have ns' : ∀ {b : Addr} {m : Str → Option Value}, s.heap.Ns b m → (hidT s.heap H).Ns b m := fun {b m} ⟨o, es, ep, e, dd, r⟩ => ⟨o, es, ep, hidT_get e (plain e fun vs n z => by rw [dd] at z; cases z), dd, r⟩
    have kin : K.In (hidT s.heap H) := fun b o e => hidT_get (KX b o e) (Classical.byContradiction fun h2 => by
      obtain ⟨rfl, h3⟩ := hA b h2
      rw [e] at h3
      cases h3)
    obtain ⟨mc, l1, l2⟩ := lim
    have e0 : Env0 P w K mg (hidT s.heap H) callerA [] s H :=
      ⟨rfl, ⟨kin, ns' nm, ⟨mb, ns' nb, ob⟩, mc, ns' l1, l2⟩, fun _ _ e => of_hidT e, Nat.le_of_eq (hidT_size _ _), trivial, (fun _ z => by cases z), hok, .of_eq hg⟩
    refine codeAny_mono ((F _ kin (ns' nm)).runs (us := [.ref a]) (zs := [.ref a]) (roomG_of hr) e0 (bd s (.ref a)) (.cons rfl .nil) (hsp H hS)) fun r t h => ?_
    rcases r with u | fl
    · exact (show False from h).elim
    · rcases fl with u | u | u | u
      all_goals first
      | exact (show False from h).elim
      | (obtain ⟨v, H', os, bare, un, hok', rr, q⟩ := h
         obtain rfl : v = .bl true := q
         obtain rfl : u = Value.bool true := rr
         refine ⟨rfl, OldK.of_keep fun b o e => ?_, os, bare⟩
         rcases hO b with z | ⟨o', xs, z⟩
         · exact un.keep b o e z (fun y => by cases y) (by simp)
         · obtain ⟨e1, _⟩ := hok b _ z
           obtain ⟨e2, _⟩ := hok' b _ (un.frzs b o' _ z)
           rw [e] at e1
           cases e1
           exact e2)
  by_cases hk : ∃ o, K.lookup a = some o
  · obtain ⟨o, hk⟩ := hk
    have e := KX a o hk
    rw [ha] at e
    cases e
    exact go (fun _ => none) (fun _ => .inl rfl) (.inr ⟨_, us.toArray, _, hk, rfl, rfl, rfl, by rw [List.size_toArray, hi.length]; exact hl, by simpa using rv⟩) (fun b u z => by cases z) fun b z => absurd rfl z
  · have hk' : K.lookup a = none := Option.eq_none_iff_forall_ne_some.mpr fun o z => hk ⟨o, z⟩
    obtain ⟨H, hH⟩ : ∃ H : Hp, H = fun b => if b = a then some (.frz { cls := .type "list", data := .seq us.toArray } (.lst (ns.map V.int))) else none := ⟨_, rfl⟩
    have at_a : H a = some (.frz { cls := .type "list", data := .seq us.toArray } (.lst (ns.map V.int))) := by rw [hH]; exact if_pos rfl
    have off : ∀ b, b ≠ a → H b = none := fun b hb => by rw [hH]; exact if_neg hb
    refine go H (fun b => ?_) (.inl (.inr ⟨_, at_a⟩)) (fun b u z => ?_) fun b z => ⟨Classical.byContradiction fun h => z (off b h), hk'⟩
    · by_cases h : b = a
      · exact .inr ⟨_, _, by rw [h]; exact at_a⟩
      · exact .inl (off b h)
    · by_cases h : b = a
      · subst h
        rw [at_a] at z
        cases z
        exact ⟨ha, by rw [List.length_map]; exact hl, us, _, rv, ha⟩
      · rw [off b h] at z
        cases z
theorem walk_g {l : PySem.W.OpenLaw} {n k : Nat} {q : Program} {loose : List Str} {XP : (Str → Option Value) → Heap → Prop} {YP : World → Heap → Prop} {r : DefRec} {K : Params → PySem.W.Frag} {sp : World → Sp} {x : Str}
    (hn : l.most = some n) (hz : n ≤ sizeLine) (hdf : r.params.defaults = []) (hr : Room k callerA) (hY : ∀ (w : World) (h : Heap), YP w h → (K w.params).In h)
    (F : ∀ (w : World) (mg : Str → Option Value) (fa : Addr) (h : Heap), (K w.params).In h → h.Ns mainGlobals mg → mg r.name = some (.ref fa) →
      ∃ d : FuncData, (∀ (s : Shared) (u : Value), BindsTo s d ⟨[u], []⟩ [(x, u)]) ∧ ∀ base : Heap, (K w.params).In base → base.Ns mainGlobals mg → FnG l.prog w (K w.params) mg base CX0 k fa d [x] (sp w))
    (hsp : ∀ (w : World) (H : Hp) (a : Addr) (ns : List Int), ns.length ≤ n → (∀ z ∈ ns, Builtin.Int.intBits z ≤ 1048576) → SqL (K w.params) H a (ns.map V.int) → sp w [.ref a] H (fun v _ => v = .bl true) fun _ _ _ => False) :
    PySem.W.WalkO q loose XP YP l.row.toRowW r [] (fun f vs => PySem.call f vs) :=
  Att.attach_callB hn hdf fun w _ s mg mb fa _ _ _ _ a us ns G Y _ _ _ hm ho hi hlen hbits hg => by
    obtain ⟨d, hb, hF⟩ := F w mg fa _ (hY w _ Y) G.T.g hm
    exact call_g (hY w _ Y) G.T.g G.T.b G.T.builtins G.T.nolimit hg ho hi (Nat.le_trans hlen hz) hr hF hb fun H hS => hsp w H a ns hlen hbits hS
mutual
def gT : D → Bool
  | .non => true
  | .bl _ => true
  | .int i => decide (i.natAbs.log2 < 1920)
  | .str x => decide ((reprText x).length ≤ 1921)
  | .lst ds => gTL ds
  | .tup ds => gTL ds
  | _ => false
def gTL : List D → Bool
  | [] => true
  | d :: ds => gT d && gTL ds
end
end T2
end
section
namespace T2
open PySem PySem.Spec PyProof.Rows L2
set_option linter.all false
set_option maxHeartbeats 1000000
end T2
end
section
namespace T2
open PySem PySem.Spec PyProof.Rows L2
set_option linter.all false
set_option maxHeartbeats 1000000
section
variable {K : PySem.W.Frag} {F H F' H' : Hp} {σ σ' : L2.St} {env env' : En} {fp fp' : Nat → List Addr} {p : Addr} {o : HO}
theorem go_off (g : Go K [] σ env fp F H σ' env' fp' F' H') (h1 : H p = some o) (h2 : F p = none) (h3 : ¬ Ond env fp p) : H' p = some o ∧ F' p = none ∧ ¬ Ond env' fp' p := by
  refine ⟨g.keep p o h1 h3 (by simp), ?_, fun w => ?_⟩
  · cases z : F' p with
    | none => rfl
    | some w =>
      rcases g.nw p (by rw [z]; simp) with w | w | w | w
      · exact absurd h2 w
      · rw [h1] at w
        cases w
      · exact absurd w h3
      · cases w
  · rcases g.nf p w with z | z | z
    · rw [h1] at z
      cases z
    · exact h3 z
    · cases z
end
end T2
end
section
set_option Elab.async false
set_option linter.all false
set_option maxRecDepth 100000
namespace T2
open PySem PySem.Spec PyProof.Rows L2
set_option maxHeartbeats 1000000
end T2
end
section
set_option Elab.async false
set_option linter.all false
set_option maxRecDepth 100000
namespace T2
open PySem PySem.Spec PyProof.Rows L2
set_option maxHeartbeats 1000000
end T2
end
section
set_option Elab.async false
set_option linter.all false
set_option maxRecDepth 100000
namespace T2
open PySem PySem.Spec PyProof.Rows L2
set_option maxHeartbeats 1000000
end T2
end
section
set_option Elab.async false
set_option linter.all false
set_option maxRecDepth 100000
namespace T2
open PySem PySem.Spec PyProof.Rows L2
set_option maxHeartbeats 1000000
end T2
end
section
set_option Elab.async false
set_option linter.all false
set_option maxRecDepth 100000
namespace T2
open PySem PySem.Spec PyProof.Rows L2
end T2
end
section
namespace T2
open PySem PySem.Spec PyProof.Rows L2
set_option linter.all false
set_option maxHeartbeats 1000000
/-- the body of such a loop: what changes, then the test, which must fail -/
def tEB (K : PySem.W.Frag) (lk : Nat → Bool) (f : En → Option Fl) (t : En → Option Bool) : TS := fun D σ H =>
  tS K lk f { D with nx := fun σ1 H1 => tDT K t σ1 H1 fun b H2 => b = false ∧ D.nx σ1 H2 } σ H
def PEB (X : Cx) (lk : Nat → Bool) (b : List Stmt) (f : En → Option Fl) (t : En → Option Bool) : Prop := PSs X b (tEB X.K lk f t)
section
variable {X : Cx} {lk : Nat → Bool} {st : Stmt} {sts : List Stmt} {f g : En → Option Fl} {t : En → Option Bool} {pos : Pos}
theorem peb_if {c : Expr} {a : List Stmt} {ta : TS} (hc : PDT X c t) (ha : PSs X a ta) : PEB X lk [.If c a [] pos] sNil t := by
  refine PSs.imp (pss_one (ps_if hc ha pss_nil)) fun D σ H h => ?_
  obtain ⟨env, r, F, fp, e, ok, q⟩ := h
  cases e
  obtain ⟨env1, b, F1, fp1, h1, ok1, q1⟩ := q σ F H fp (Go.refl ok) fun i _ => rfl
  refine ⟨env1, b, F1, fp1, h1, ok1, fun F' H' s => ?_⟩
  obtain ⟨rfl, z⟩ := q1 F' H' s
  exact iteF z
theorem peb_cons (h1 : PDS X lk st f) (h2 : PEB X lk sts g t) : PEB X lk (st :: sts) (sSeq f g) t := by
  refine PSs.imp (pss_cons h1 h2) fun D σ H h => ?_
  obtain ⟨env, r, F, fp, e, ok, q⟩ := h
  unfold sSeq at e
  split at e
  · rename_i e1 h1
    exact ⟨env, _, F, fp, h1, ok, fun σ1 F1 H1 fp1 g1 l1 => ⟨e1, r, F1, fp1, e, g1.ok, q.after g1 l1⟩⟩
  · rename_i r' hne
    cases r with
    | nx e1 => exact absurd e (hne e1)
    | rt m e1 => exact ⟨env, _, F, fp, e, ok, q⟩
    | bk e1 => exact ⟨env, _, F, fp, e, ok, q⟩
    | ct e1 => exact ⟨env, _, F, fp, e, ok, q⟩
end
def lpEP (i kx x : Nat) (pth : List Pa) (mt : M) (body : En → Option Fl) (t : En → Option Bool) : Nat → List M → List M → En → Option (List M × En)
  | _, done, [], env => some (done, env)
  | k, done, m :: ms, env => match body ((env.put kx (.fz (.int (k : Nat)))).put x m) with
    | some (.nx e2) => match e2.get x with
      | some m' => match setP mt pth (.ol (done ++ m' :: ms)) with
        | some mm => match t ((e2.kill x).put i mm) with
          | some false => lpEP i kx x pth mt body t (k + 1) (done ++ [m']) ms (e2.kill x)
          | _ => none
        | none => none
      | none => none
    | _ => none
def sForEP (lk : Nat → Bool) (i kx x : Nat) (fe : En → Option M) (body : En → Option Fl) (t : En → Option Bool) : En → Option Fl := fun env => match fe env with
  | some (.bp i' p) => if i' = i then (match env.get i with
    | some m => match getP m p with
      | some (.ol ms) => if (lk x = false ∧ lk kx = false) ∧ (x < env.length ∧ kx < env.length) ∧ i ≠ x ∧ i ≠ kx ∧ kx ≠ x then (match lpEP i kx x p m body t 0 [] ms (((env.kill i).kill x).kill kx) with
        | some (ms', e) => match setP m p (.ol ms') with
          | some m' => some (.nx (e.put i m'))
          | none => none
        | none => none) else none
      | _ => none
    | none => none) else none
  | _ => none
/-- the list as it stands: what is done, what is still to come -/
structure EF (K : PySem.W.Frag) (AR : List Addr) (Hs : Hp) (p : Addr) (vs : List V) (k j : Nat) (ms1 ms2 : List M) (A1 A2 : List Addr) (env : En) (fp : Nat → List Addr) (F H : Hp) : Prop where
  hp : H p = some (.lst vs)
  hf : F p = none
  o1 : PR K AR Hs F H ms1 (vs.take k) A1
  o2 : OwnL K noBr F H ms2 (vs.drop j) A2
  nd : (p :: (A1 ++ A2)).Nodup
  no : ∀ a ∈ p :: (A1 ++ A2), ¬ Ond env fp a
section
variable {K : PySem.W.Frag} {AR A1 A2 : List Addr} {Hs F H F' H' : Hp} {p : Addr} {vs : List V} {k j : Nat} {ms1 ms2 : List M} {env env' : En} {fp fp' : Nat → List Addr} {σ σ' : L2.St}
theorem EF.at (e : EF K AR Hs p vs k j ms1 ms2 A1 A2 env fp F H) : ∀ a ∈ p :: (A1 ++ A2), F a = none ∧ ∃ o, H a = some o := fun a ha => by
  rcases List.mem_cons.mp ha with h | h
  · subst h
    exact ⟨e.hf, _, e.hp⟩
  · rcases List.mem_append.mp h with h | h
    · exact e.o1.at a h
    · exact e.o2.at _ _ _ a h
theorem EF.go (e : EF K AR Hs p vs k j ms1 ms2 A1 A2 env fp F H) (g : Go K [] σ env fp F H σ' env' fp' F' H') : EF K AR Hs p vs k j ms1 ms2 A1 A2 env' fp' F' H' := by
  have off : ∀ a ∈ p :: (A1 ++ A2), F' a = none ∧ (∀ o, H a = some o → H' a = some o) ∧ ¬ Ond env' fp' a := fun a ha => by
    obtain ⟨h1, o, h2⟩ := e.at a ha
    obtain ⟨z1, z2, z3⟩ := go_off g h2 h1 (e.no a ha)
    refine ⟨z2, fun o' h => ?_, z3⟩
    rw [h2] at h
    cases h
    exact z1
  exact ⟨(off p (by simp)).2.1 _ e.hp, (off p (by simp)).1, e.o1.mono g.fr fun a ha => ⟨(off a (by simp [ha])).1, (off a (by simp [ha])).2.1⟩,
    e.o2.mono g.fr (fun _ _ _ z => z) _ _ _ fun a ha => ⟨(off a (by simp [ha])).1, (off a (by simp [ha])).2.1⟩, e.nd, fun a ha => (off a ha).2.2⟩
end
section
variable {X : Cx} {lk lk' : Nat → Bool} {body : List Stmt} {f : En → Option Fl} {t : En → Option Bool} {pos p0 p1 p2 p3 tpos : Pos} {i kx x kk : Nat} {y z : Str}
theorem pds_forEP {it : Expr} {fe : En → Option M} (hp : PassesOwn (model X.prog X.w) X.A X.env X.xe) (hc : X.calm = true) (hN : X.N.Nodup) (hg : Gl X "enumerate") (hm : X.mg "enumerate" = none) (he0 : PD X it fe)
    (hz : X.N[kx]? = some z) (hzl : Loc X.env.scope z) (hzf : X.fn z = true ∨ X.env.scope.names.lookup z = some .local) (hy : X.N[x]? = some y)
    (hx : Loc X.env.scope y) (hf : X.fn y = true ∨ X.env.scope.names.lookup y = some .local) (hl1 : ∀ j, lk j = true → lk' j = true) (hl2 : lk' i = true) (hl3 : lk' x = true) (hl4 : lk' kx = true) (hb : PEB X lk' body f t)
    (hst : starEach [it] X.env = [(false, eval it X.env)] := by rfl)
    (ha : (assignEach [.Name z p0, .Name y p2] X.env).map (·.2) = assign (.Name z p0) X.env :: (assignEach [.Name y p2] X.env).map (·.2) := by rfl) (ha2 : (assignEach [.Name y p2] X.env).map (·.2) = assign (.Name y p2) X.env :: (assignEach [] X.env).map (·.2) := by rfl)
    (hn : (assignEach [.Name z p0, .Name y p2] X.env).length = 2 := by rfl) (hfi : (assignEach [.Name z p0, .Name y p2] X.env).findIdx? (·.1) = none := by rfl)
    (hs : ∀ w, foldedSetIterable (.Call (.Name "enumerate" p1) [it] [] p3) X.env w = pure w := by intro _; rfl) : PDS X lk (.For (.Tuple [.Name z p0, .Name y p2] kk tpos) (.Call (.Name "enumerate" p1) [it] [] p3) body [] pos) (sForEP lk i kx x fe f t) := by
  refine PS.imp (ps_for hp hc (pi_enum hg hm (pa_cons he0 pa_nil hst) hst) (pg_tup hc (pgs_cons (pg_name hN hz hzl hzf) (pgs_cons (pg_name hN hy hx hf) pgs_nil ha2) ha) hn hfi) hb hs) fun D σ H h => ?_
  obtain ⟨env, r, F, fp, e, ok, q⟩ := h
  unfold sForEP at e
  split at e
  case h_2 => cases e
  rename_i i' pth hfe
  split at e
  case isFalse => cases e
  rename_i hii
  have hii : i = i' := hii.symm
  subst hii
  split at e
  case h_2 => cases e
  rename_i mt hmt
  split at e
  case h_2 => cases e
  rename_i ms hgp
  split at e
  case isFalse => cases e
  rename_i hcond
  obtain ⟨⟨c1, c1'⟩, ⟨c2, c2'⟩, c3, c4, c5⟩ := hcond
  split at e
  case h_2 => cases e
  rename_i ms' ef hlp
  split at e
  case h_2 => cases e
  rename_i mt' hsp
  cases e
  refine ⟨env, _, F, fp, hfe, ok, fun v Fs Hs As ss so sn sa => ?_⟩
  simp only [Own] at so
  obtain ⟨rfl, w0, hw0, hvp, _⟩ := so
  have gs := ss.go ok fun a z => by cases z
  obtain ⟨w1, hv1, hv2⟩ := gs.ok.slot i _ hmt
  rw [hw0] at hv1
  cases hv1
  have hnd := gs.ok.nd i _ hmt
  obtain ⟨Bq, hq, _⟩ := Own.path hv2 hgp hvp
  simp only [Own] at hq
  obtain ⟨p, vs, Bq', rfl, _, hFp, hHp, _⟩ := hq
  obtain ⟨XX, YY, B, vs2, hfp, hHp2, hO, ctx⟩ := Own.node hv2 hgp hvp
  rw [hHp] at hHp2
  cases hHp2
  have g0 : Go X.K [] σ env fp Fs Hs σ (((env.kill i).kill x).kill kx) fp Fs Hs := ((kill_ok gs.ok).trans (kill_ok (kill_ok gs.ok).ok) (fun a z => by cases z)).trans (kill_ok (kill_ok (kill_ok gs.ok).ok).ok) (fun a z => by cases z)
  have pm := perm1 XX YY B p
  have hon : ∀ a, a ∈ p :: (XX ++ YY ++ B) → Ond env fp a := fun a ha => ⟨i, _, hmt, by rw [hfp]; exact pm.mem_iff.mpr ha⟩
  have hoff : ∀ a, a ∈ p :: (XX ++ YY ++ B) → ¬ Ond (((env.kill i).kill x).kill kx) fp a := fun a ha w => by
    obtain ⟨w0, _⟩ := ond_kill w
    obtain ⟨w1, _⟩ := ond_kill w0
    obtain ⟨_, j, hj, m, hjm, hja⟩ := ond_kill w1
    exact hj (gs.ok.dj j i m _ a hjm hmt hja (by rw [hfp]; exact pm.mem_iff.mpr ha))
  have hat : ∀ x ∈ XX ++ YY, Fs x = none ∧ ∃ o, Hs x = some o := fun x hx => hv2.at _ _ _ x (by rw [hfp]; exact pm.mem_iff.mpr (by simp only [List.mem_cons, List.mem_append] at hx ⊢; exact .inr (.inl hx)))
  rw [hfp] at hnd
  have hlen := hO.len
  have e0 : EF X.K (XX ++ YY) Hs p vs 0 0 [] ms (XX ++ YY) B (((env.kill i).kill x).kill kx) fp Fs Hs :=
    ⟨hHp, hFp, ⟨[], by simp, by simpa using ownL_nil, fun x hx => ⟨(hat x hx).1, (hat x hx).2, fun o e => e⟩⟩, by simpa using hO, pm.nodup_iff.mp hnd, hoff⟩
  refine ⟨p, vs, rfl, SqL.of hHp, ?_⟩
  refine ⟨fun k mm σ' H' => mm = ms.length - k ∧ k ≤ ms.length ∧ ∃ env' F' fp' ms1 A1 A2, lpEP i kx x pth mt f t k ms1 (ms.drop k) env' = some (ms', ef) ∧ EF X.K (XX ++ YY) Hs p vs k k ms1 (ms.drop k) A1 A2 env' fp' F' H' ∧
      (∀ a ∈ p :: (A1 ++ A2), Hs a = none ∨ Ond env fp a) ∧ Go X.K [] σ env fp Fs Hs σ' env' fp' F' H' ∧ Lk lk σ σ' ∧ σ'[i]? = some (some w0) ∧ x < env'.length ∧ kx < env'.length,
    ⟨_, rfl, Nat.zero_le _, _, Fs, fp, [], XX ++ YY, B, by rw [List.drop_zero]; exact hlp, by rw [List.drop_zero]; exact e0, fun a ha => .inr (hon a ha), g0, fun _ _ => rfl, hw0, by simpa [En.kill] using c2, by simpa [En.kill] using c2'⟩, fun k mm σ' H' hW => ?_⟩
  obtain ⟨rfl, hk, env', F', fp', ms1, A1, A2, hl, ef1, hA, g, l, hsi, hxl0, hkl⟩ := hW
  by_cases hlt : k < ms.length
  · right
    have hkv : k < vs.length := by omega
    have hdm : ms.drop k = ms[k] :: ms.drop (k + 1) := List.drop_eq_getElem_cons hlt
    have hdv : vs.drop k = vs[k] :: vs.drop (k + 1) := List.drop_eq_getElem_cons hkv
    have hO2 := ef1.o2
    rw [hdm] at hl hO2
    rw [hdv] at hO2
    simp only [OwnL] at hO2
    obtain ⟨u, rest, Bk, Ck, hu, hAk, hok, hrest⟩ := hO2
    cases hu
    subst hAk
    simp only [lpEP] at hl
    refine ⟨⟨vs, vs[k], SqL.of ef1.hp, by rw [List.getElem?_eq_getElem hkv]⟩, fun σ5 H5 => ∃ env' F' fp' ms1 A1 A2, lpEP i kx x pth mt f t (k + 1) ms1 (ms.drop (k + 1)) env' = some (ms', ef) ∧ EF X.K (XX ++ YY) Hs p vs (k + 1) (k + 1) ms1 (ms.drop (k + 1)) A1 A2 env' fp' F' H5 ∧
      (∀ a ∈ p :: (A1 ++ A2), Hs a = none ∨ Ond env fp a) ∧ Go X.K [] σ env fp Fs Hs σ5 env' fp' F' H5 ∧ Lk lk σ σ5 ∧ σ5[i]? = some (some w0) ∧ x < env'.length ∧ kx < env'.length,
      fun σ5 H5 hN5 => ⟨ms.length - (k + 1), by omega, rfl, hlt, hN5⟩, fun w H2 hyl => ?_⟩
    obtain ⟨T, wx, rfl, hT, rfl, hwx⟩ := hyl
    have hwx := hwx vs (SqL.of ef1.hp)
    rw [List.getElem?_eq_getElem hkv] at hwx
    cases hwx
    have sT : Step [] F' H' F' (upd H' T (.tup [.int (k : Nat), vs[k]])) := .mk' (.refl _) (fun b o e => by rw [upd_ne (fun z => by rw [z, hT] at e; cases e)]; exact e) (fun b o e => by rw [upd_ne (fun z => by rw [z] at e; have := g.ok.sub _ _ e; rw [hT] at this; cases this)]; exact g.ok.sub _ _ e) fun a z => .inl z
    have gT := sT.go g.ok fun a z => by cases z
    have efT := ef1.go gT
    refine ⟨T, [.int (k : Nat), vs[k]], rfl, SqT.of (upd_same), rfl, _, _, rfl, ?_⟩
    have gk := set_ok (K := X.K) (i := kx) (v := .int (k : Nat)) gT.ok (own_fz (d := .int (k : Nat)) (br := noBr) (by simp only [Rep])) .nil (fun a z => by cases z) hkl
    have gk0 : Go X.K [] σ' env' fp' F' H' _ _ _ F' _ := gT.trans gk fun a z => by cases z
    have efk := efT.go gk
    have hok2 : Own X.K noBr F' (upd H' T (.tup [.int (k : Nat), vs[k]])) ms[k] vs[k] Bk := hok.mono (.refl _) (fun _ _ _ z => z) _ _ _ fun a ha => ⟨(ef1.at a (by simp [ha])).1, fun o e => sT.hp _ _ e⟩
    have hBk : ∀ a ∈ Bk, ¬ Ond (env'.put kx (.fz (.int (k : Nat)))) (fun j => if j = kx then [] else fp' j) a := fun a ha => efk.no a (by simp [ha])
    have nBk : Bk.Nodup := by
      have := (List.nodup_cons.mp ef1.nd).2
      exact ((List.nodup_append.mp ((List.nodup_append.mp this).2.1)).1)
    have hxl : x < (env'.put kx (.fz (.int (k : Nat)))).length := by
      unfold En.put
      rw [List.length_set]
      omega
    have g1 := set_ok (i := x) (v := vs[k]) gk.ok hok2 nBk hBk hxl
    have n0 := List.nodup_cons.mp ef1.nd
    have n1 := List.nodup_append.mp n0.2
    have n2 := List.nodup_append.mp n1.2.1
    have hmem : ∀ a, a ∈ p :: (A1 ++ Ck) → a ∈ p :: (A1 ++ (Bk ++ Ck)) := fun a ha => by
      simp only [List.mem_cons, List.mem_append] at ha ⊢
      rcases ha with h | h | h
      · exact .inl h
      · exact .inr (.inl h)
      · exact .inr (.inr (.inr h))
    have hnB : ∀ a, a ∈ p :: (A1 ++ Ck) → a ∉ Bk := fun a ha hb => by
      simp only [List.mem_cons, List.mem_append] at ha
      rcases ha with h | h | h
      · subst h
        exact n0.1 (by simp [hb])
      · exact n1.2.2 a h a (by simp [hb]) rfl
      · exact n2.2.2 a hb a h rfl
    have efL : EF X.K (XX ++ YY) Hs p vs k (k + 1) ms1 (ms.drop (k + 1)) A1 Ck ((env'.put kx (.fz (.int (k : Nat)))).put x ms[k]) (fun j => if j = x then Bk else (fun j => if j = kx then [] else fp' j) j) F' (upd H' T (.tup [.int (k : Nat), vs[k]])) := by
      refine ⟨efk.hp, efk.hf, efk.o1, hrest.mono (.refl _) (fun _ _ _ z => z) _ _ _ fun a ha => ⟨(ef1.at a (by simp [ha])).1, fun o e => sT.hp _ _ e⟩, ?_, fun a ha ⟨j, m, hj, hja⟩ => ?_⟩
      · refine List.nodup_cons.mpr ⟨fun h => n0.1 ?_, List.nodup_append.mpr ⟨n1.1, n2.2.1, fun a ha b hb => n1.2.2 a ha b (by simp [hb])⟩⟩
        simp only [List.mem_append] at h ⊢
        exact h.imp id .inr
      · rw [En.get_put hxl] at hj
        by_cases e : j = x
        · simp only [e, if_true] at hja
          exact hnB a ha hja
        · simp only [if_neg e] at hj hja
          exact efk.no a (hmem a ha) ⟨j, m, hj, hja⟩
    refine ⟨vs[k], [], rfl, rfl, ?_⟩
    split at hl
    case h_2 => cases hl
    rename_i e2 he2
    split at hl
    case h_2 => cases hl
    rename_i m' hm'
    split at hl
    case h_2 => cases hl
    rename_i mk hmk
    split at hl
    case h_2 => cases hl
    rename_i htest
    refine ⟨_, _, F', _, he2, g1.ok, fun σ5 F5 H5 fp5 g5 l5 => ?_⟩
    have hsx' : x < (σ'.set kx (some (V.int (k : Nat)))).length := by rw [← gk.ok.len]; exact hxl
    have hsx : σ5[x]? = some (some vs[k]) := (l5 x hl3).trans (List.getElem?_set_self hsx')
    obtain ⟨u, hu1, hu2⟩ := g5.ok.slot x m' hm'
    rw [hsx] at hu1
    cases hu1
    have ef5 := efL.go g5
    have hno5 := ef5.no
    have hx5 : ∀ a, a ∈ fp5 x → Ond e2 fp5 a := fun a ha => ⟨x, m', hm', ha⟩
    have htk : vs.take (k + 1) = vs.take k ++ [vs[k]] := by rw [List.take_succ, List.getElem?_eq_getElem hkv]; rfl
    have hA1 : ∀ a ∈ Bk, Hs a = none ∨ Ond env fp a := fun a ha => hA a (by simp [ha])
    have gg : Go X.K [] σ env fp Fs Hs σ5 e2 fp5 F5 H5 := ((g.trans gk0 fun a z => by cases z).trans g1 hA1).trans g5 fun a z => by cases z
    have kl := kill_ok (i := x) g5.ok
    have gkl := gg.trans kl fun a z => by cases z
    have ef6 : EF X.K (XX ++ YY) Hs p vs (k + 1) (k + 1) (ms1 ++ [m']) (ms.drop (k + 1)) (A1 ++ fp5 x) Ck (e2.kill x) fp5 F5 H5 := by
      refine ⟨ef5.hp, ef5.hf, ?_, ef5.o2, ?_, fun a ha w => ?_⟩
      · rw [htk]
        refine ef5.o1.app ?_
        simp only [OwnL]
        exact ⟨_, [], fp5 x, [], rfl, by simp, hu2, rfl, rfl⟩
      · refine List.nodup_cons.mpr ⟨fun hp5 => ?_, ?_⟩
        · simp only [List.mem_append] at hp5
          rcases hp5 with (h | h) | h
          · exact n0.1 (by simp [h])
          · exact hno5 p (by simp) (hx5 p h)
          · exact n0.1 (by simp [h])
        · refine List.nodup_append.mpr ⟨List.nodup_append.mpr ⟨n1.1, g5.ok.nd x m' hm', fun a ha b hb => ?_⟩, n2.2.1, fun a ha b hb => ?_⟩
          · rintro rfl
            exact hno5 a (by simp [ha]) (hx5 a hb)
          · rintro rfl
            rcases List.mem_append.mp ha with h | h
            · exact n1.2.2 a h a (by simp [hb]) rfl
            · exact hno5 a (by simp [hb]) (hx5 a h)
      · obtain ⟨w1, j, hj, m, hjm, hja⟩ := ond_kill w
        by_cases h : a ∈ fp5 x
        · exact hj (g5.ok.dj j x m m' a hjm hm' hja h)
        · refine hno5 a ?_ w1
          simp only [List.mem_cons, List.mem_append] at ha ⊢
          rcases ha with h' | (h' | h') | h'
          · exact .inl h'
          · exact .inr (.inl h')
          · exact absurd h' h
          · exact .inr (.inr h')
    have hA6 : ∀ a ∈ p :: (A1 ++ fp5 x ++ Ck), Hs a = none ∨ Ond env fp a := fun a ha => by
      by_cases h : a ∈ fp5 x
      · exact gg.ond (hx5 a h)
      · refine hA a (hmem a ?_)
        simp only [List.mem_cons, List.mem_append] at ha ⊢
        rcases ha with h' | (h' | h') | h'
        · exact .inl h'
        · exact .inr (.inl h')
        · exact absurd h' h
        · exact .inr (.inr h')
    have hs5i : σ5[i]? = some (some w0) := by
      rw [l5 i hl2, List.getElem?_set_ne (Ne.symm c3), List.getElem?_set_ne (Ne.symm c4)]
      exact hsi
    have hel5 : x < (e2.kill x).length ∧ kx < (e2.kill x).length := by
      have h1 : x < σ5.length := (List.getElem?_eq_some_iff.mp hsx).1
      have hk5 : σ5[kx]? = some (some (V.int (k : Nat))) := by
        rw [l5 kx hl4, List.getElem?_set_ne (Ne.symm c5)]
        exact List.getElem?_set_self (by rw [← gT.ok.len]; exact hkl)
      have h2 : kx < σ5.length := (List.getElem?_eq_some_iff.mp hk5).1
      rw [kl.ok.len]
      exact ⟨h1, h2⟩
    -- the whole list again
    have hil : i < (e2.kill x).length := by
      rw [kl.ok.len]
      exact (List.getElem?_eq_some_iff.mp hs5i).1
    obtain ⟨A0, hA0, hO0, hR⟩ := ef6.o1
    have hfull : OwnL X.K noBr F5 H5 ((ms1 ++ [m']) ++ ms.drop (k + 1)) (vs.take (k + 1) ++ vs.drop (k + 1)) (A0 ++ Ck) := hO0.append ef6.o2
    rw [List.take_append_drop, List.append_assoc] at hfull
    obtain ⟨mq, hq1, hown⟩ := ctx F5 H5 (ms1 ++ ([m'] ++ ms.drop (k + 1))) vs (A0 ++ Ck) gg.fr (fun x hx => ⟨(hR x hx).1, (hR x hx).2.2⟩) ef6.hf ef6.hp hfull
    have hmq : mk = mq := by
      have : setP mt pth (.ol (ms1 ++ m' :: ms.drop (k + 1))) = some mq := hq1
      rw [hmk] at this
      cases this
      rfl
    subst hmq
    have pm6 := perm1 XX YY (A0 ++ Ck) p
    have nd6 : (p :: (XX ++ YY ++ (A0 ++ Ck))).Nodup := by
      have := ef6.nd
      rw [hA0, List.append_assoc] at this
      exact this
    have mem6 : ∀ a, a ∈ p :: (XX ++ YY ++ (A0 ++ Ck)) → a ∈ p :: (A1 ++ fp5 x ++ Ck) := fun a ha => by
      rw [hA0, List.append_assoc]
      exact ha
    have g6 := set_ok (i := i) (v := w0) kl.ok hown (pm6.nodup_iff.mpr nd6) (fun a ha => ef6.no a (mem6 a (pm6.mem_iff.mp ha))) hil
    have hset : σ5.set i (some w0) = σ5 := by
      refine List.ext_getElem? fun j => ?_
      by_cases e : j = i
      · subst e
        rw [List.getElem?_set_self (List.getElem?_eq_some_iff.mp hs5i).1, hs5i]
      · rw [List.getElem?_set_ne (Ne.symm e)]
    rw [hset] at g6
    refine ⟨_, false, F5, _, htest, g6.ok, fun F7 H7 s7 => ⟨rfl, ?_⟩⟩
    have g7 := s7.go kl.ok fun a z => by cases z
    exact ⟨e2.kill x, F7, fp5, ms1 ++ [m'], A1 ++ fp5 x, Ck, hl, ef6.go g7, hA6, gkl.trans g7 (fun a z => by cases z), ((l.trans (Lk.set c1')).trans (Lk.set c1)).trans fun j hj => l5 j (hl1 j hj), hs5i, hel5.1, hel5.2⟩
  · left
    have hk' : k = ms.length := by omega
    subst hk'
    have hO2 := ef1.o2
    rw [List.drop_length] at hl hO2
    cases hl
    simp only [OwnL] at hO2
    obtain ⟨hv0, rfl⟩ := hO2
    have hn := ef1.nd
    have hno := ef1.no
    rw [List.append_nil] at hn hA hno
    have hil := (List.getElem?_eq_some_iff.mp hsi).1
    rw [← g.ok.len] at hil
    have ht : vs.take ms.length = vs := List.take_of_length_le (by omega)
    obtain ⟨A0, hA0, hO0, hR⟩ := ef1.o1
    rw [ht] at hO0
    subst hA0
    obtain ⟨mq, hq1, hown⟩ := ctx F' H' ms' vs A0 g.fr (fun x hx => ⟨(hR x hx).1, (hR x hx).2.2⟩) ef1.hf ef1.hp hO0
    rw [hsp] at hq1
    cases hq1
    have pm2 := perm1 XX YY A0 p
    have g1 := set_ok (i := i) (v := w0) g.ok hown (pm2.nodup_iff.mpr hn) (fun a ha => hno a (pm2.mem_iff.mp ha)) hil
    have hset : σ'.set i (some w0) = σ' := by
      refine List.ext_getElem? fun j => ?_
      by_cases e : j = i
      · subst e
        rw [List.getElem?_set_self (by rw [← g.ok.len]; exact hil), hsi]
      · rw [List.getElem?_set_ne (Ne.symm e)]
    rw [hset] at g1
    exact ⟨⟨vs, SqL.of ef1.hp, by omega⟩, q σ' F' H' _ (gs.trans (g.trans g1 fun a ha => hA a (pm2.mem_iff.mp ha)) (fun a z => by cases z)) l⟩
end
theorem lpEP_n {i kx x : Nat} {pth : List Pa} {mt : M} {B : En → Option Fl} {t : En → Option Bool} {k : Nat} {done : List M} {env : En} : lpEP i kx x pth mt B t k done [] env = some (done, env) := rfl
theorem lpEP_c {i kx x : Nat} {pth : List Pa} {mt : M} {B : En → Option Fl} {t : En → Option Bool} {k : Nat} {done : List M} {env e1 e2 e3 : En} {m m' mm : M} {ms : List M} {r : Option (List M × En)} (he : (env.put kx (.fz (.int (k : Nat)))).put x m = e1) (h : B e1 = some (.nx e2)) (h' : e2.get x = some m') (hk : e2.kill x = e3)
    (hs : setP mt pth (.ol (done ++ m' :: ms)) = some mm) (ht : t (e3.put i mm) = some false) (h'' : lpEP i kx x pth mt B t (k + 1) (done ++ [m']) ms e3 = r) : lpEP i kx x pth mt B t k done (m :: ms) env = r := by
  subst he hk
  unfold lpEP
  rw [h]
  simp only [h', hs, ht]
  exact h''
theorem x_forEP {lk : Nat → Bool} {i kx x : Nat} {p : List Pa} {fe : En → Option M} {B : En → Option Fl} {t : En → Option Bool} {env e1 e2 e3 : En} {m m' : M} {ms ms' : List M} (hf : fe env = some (.bp i p)) (hl : lk x = false) (hl2 : lk kx = false) (hx : Nat.ble (x + 1) env.length = true) (hx2 : Nat.ble (kx + 1) env.length = true) (hi : i ≠ x) (hi2 : i ≠ kx) (hi3 : kx ≠ x)
    (h : env.get i = some m) (hg : getP m p = some (.ol ms)) (he : ((env.kill i).kill x).kill kx = e1) (h' : lpEP i kx x p m B t 0 [] ms e1 = some (ms', e2)) (hs : setP m p (.ol ms') = some m') (he' : e2.put i m' = e3) : sForEP lk i kx x fe B t env = some (.nx e3) := by
  subst he he'
  unfold sForEP
  rw [hf]
  simp only [if_true, h, hg, h', hs]
  rw [if_pos ⟨⟨hl, hl2⟩, ⟨Nat.le_of_ble_eq_true hx, Nat.le_of_ble_eq_true hx2⟩, hi, hi2, hi3⟩]
end T2
end
section
namespace T2
open PySem PySem.Spec PyProof.Rows L2
set_option linter.all false
set_option maxHeartbeats 1000000
end T2
end
section
namespace T2
open PySem PySem.Spec PyProof.Rows L2
set_option linter.all false
set_option maxHeartbeats 1000000
end T2
end
section
namespace T2
open PySem PySem.Spec PyProof.Rows L2
set_option linter.all false
set_option maxHeartbeats 2000000
end T2
end
section
namespace T2
open PySem PySem.Spec PyProof.Rows L2
set_option linter.all false
set_option maxHeartbeats 2000000
/-- an exception: its number, its class, its fields -/
structure Exn where
  n : Nat
  C : Addr
  fs : List (Str × D)
/-- class and own dict are those of x; its dict is new over H -/
def ExA (K : PySem.W.Frag) (H F : Hp) (x : Exn) (cls : Value) (d : Option Addr) : Prop :=
  cls = .ref x.C ∧ ∃ gs, (d = none ∨ ∃ dx, d = some dx ∧ H dx = none ∧ F dx = some (.xd gs)) ∧ (d = none → gs = []) ∧ RepF K F x.fs gs
section
variable {K : PySem.W.Frag} {H H' F F' : Hp} {x : Exn} {cls : Value} {d : Option Addr}
theorem ExA.back (h : ExA K H F x cls d) (s : ∀ a, H a = none → H' a = none) : ExA K H' F x cls d := by
  obtain ⟨h1, gs, h2, h3, h4⟩ := h
  exact ⟨h1, gs, h2.imp id (fun ⟨dx, z1, z2, z3⟩ => ⟨dx, z1, s _ z2, z3⟩), h3, h4⟩
end
/-- a statement, a block that lets x out, the slots being env' then -/
def tR (K : PySem.W.Frag) (lk : Nat → Bool) (W : WX) (g : En → Option (Exn × En)) : TS := fun _ σ H => ∃ env x env' F fp, g env = some (x, env') ∧ EnvOk K F H σ env fp ∧
  ∀ cls d σ' F' H' fp', Go K [] σ env fp F H σ' env' fp' F' H' → Lk lk σ σ' → ExA K H F' x cls d → W cls d σ' H'
theorem PS.or {X : Cx} {e : Stmt} {t u : TS} (h : PS X e t) (h' : PS X e u) : PS X e (fun D σ H => t D σ H ∨ u D σ H) := ⟨fun pins s σ H D I q => q.elim (h.run pins s σ H D I) (h'.run pins s σ H D I)⟩
theorem PSs.or {X : Cx} {e : List Stmt} {t u : TS} (h : PSs X e t) (h' : PSs X e u) : PSs X e (fun D σ H => t D σ H ∨ u D σ H) := ⟨fun pins s σ H D I q => q.elim (h.run pins s σ H D I) (h'.run pins s σ H D I)⟩
section
variable {K : PySem.W.Frag} {lk : Nat → Bool} {W : WX} {F H F' H' F1 H1 : Hp} {σ σ' σ1 : L2.St} {env env' env1 : En} {fp fp' fp1 : Nat → List Addr} {x : Exn}
/-- further on: the promise of the rest -/
theorem tR.after {g : En → Option (Exn × En)} {D : Ends} (e : g env1 = some (x, env')) (q : ∀ cls d σ' F' H' fp', Go K [] σ env fp F H σ' env' fp' F' H' → Lk lk σ σ' → ExA K H F' x cls d → W cls d σ' H') (g1 : Go K [] σ env fp F H σ1 env1 fp1 F1 H1) (l1 : Lk lk σ σ1) : tR K lk W g D σ1 H1 :=
  ⟨env1, x, env', F1, fp1, e, g1.ok, fun cls d σ' F' H' fp' g2 l2 a => q cls d σ' F' H' fp' (g1.trans g2 fun a z => by cases z) (l1.trans l2) (a.back g1.stay)⟩
end
end T2
end
section
namespace T2
open PySem PySem.Spec PyProof.Rows L2
set_option linter.all false
set_option maxHeartbeats 2000000
end T2
end
section
namespace T2
open PySem PySem.Spec PyProof.Rows L2
set_option linter.all false
end T2
end
section
set_option Elab.async false
set_option linter.all false
set_option maxRecDepth 100000
set_option maxHeartbeats 4000000
namespace T2
open PySem PySem.Spec PyProof.Rows L2
section
variable {P : Program} {w : World} {A : Around} {E : Value → Shared → Prop} {s : Shared}
/-- the empty set that set.__new__ makes -/
abbrev set0 (w : World) : Obj := { cls := .type "set", dict := none, data := .set #[] 0 (.fresh 0 0 (!w.params.followText "set-order")) }
/-- s, with an empty set laid -/
abbrev sSet0 (w : World) (s : Shared) : Shared := { s with heap := s.heap.push (set0 w) }
/-- what is there after set.__init__ -/
def SetDone (w : World) (s : Shared) (ns : List Int) (s2 : Shared) : Prop := ∃ h' tk c, s2 = { s with heap := h', toks := tk } ∧ SetR w h' s.heap.objs.size (fun j => decide (j ∈ ns)) c ∧ c ≤ ns.length ∧ ∀ b o, s.heap.get? b = some o → h'.get? b = some o
/-- set.__init__(the new set, a list of ints) -/
theorem init_list {l : Addr} {items : Array Value} {ns : List Int} (hh : A.handled = none) (hl : s.heap.IsList l items) (hit : IntsAre items.toList ns) (hb : ns.length + 1 < scanBound) :
    wpAny (model P w) A (Builtin.«set.__init__» ⟨[.ref s.heap.objs.size, .ref l], []⟩) (fun q s2 => q = .done (.ret .none) ∧ SetDone w s ns s2) E (sSet0 w s) := by
  have hisz : items.size = ns.length := by
    have q := IntsAre.length hit
    rwa [Array.length_toList] at q
  have hlS : l < s.heap.objs.size := by
    obtain ⟨o, ho, _⟩ := hl
    exact Heap.lt_size ho
  have hS : (sSet0 w s).heap.get? s.heap.objs.size = some (set0 w) := Heap.get?_push_size _ rfl
  have hl1 : (sSet0 w s).heap.IsList l items := hl.push _
  have hz : (sSet0 w s).heap.objs.size = s.heap.objs.size + 1 := Heap.size_push ..
  obtain ⟨ol, hol, hcl, nl, hdl⟩ := id hl1
  obtain ⟨ocls, odict, odata, oslots⟩ := ol
  simp only at hcl hdl
  subst hcl; subst hdl
  have f1 := F.sub_list_set
  have f2 := F.sub_list_frozenset
  have f3 : (Value.type "list" == Value.type "dict") = false := by decide
  have hval : ∀ (i : Nat) (v : Value), items[i]? = some v → ∃ k t, ns[i]? = some k ∧ v = .int k t := fun i v hv => by
    have hi : i < ns.length := by rw [← hisz]; exact (Array.getElem?_eq_some_iff.mp hv).1
    obtain ⟨t, e⟩ := IntsAre.int_at hit i v (by rw [Array.getElem?_toList]; exact hv)
    rw [List.getD_eq_getElem?_getD, List.getElem?_eq_getElem hi] at e
    exact ⟨ns[i], t, List.getElem?_eq_getElem hi, e⟩
  have ne1 : l ≠ (sSet0 w s).heap.objs.size := by
    show l ≠ (s.heap.push (set0 w)).objs.size
    rw [Heap.size_push]
    exact Nat.ne_of_lt (Nat.lt_succ_of_lt hlS)
  have ne2 : s.heap.objs.size ∉ [(sSet0 w s).heap.objs.size, l] := by
    show _ ∉ [(s.heap.push (set0 w)).objs.size, l]
    rw [Heap.size_push]
    simp only [List.mem_cons, List.not_mem_nil, or_false, not_or]
    exact ⟨Nat.ne_of_lt (Nat.lt_succ_self _), Nat.ne_of_gt hlS⟩
  unfold Builtin.«set.__init__» noKeywords Builtin.Frozenset.updateFrom
  generalize hPI : pyIter = PI
  wp_walk
  subst hPI
  refine wpAny_pyIter_list hl1 (wpAny_bind (wpAny_runValue ?_))
  refine set_update_ints ((Walks.list (A := A.in1) (by simp [hh]) _ l ne1 items).toS) s.heap.objs.size ne2 ns hisz hb hval items.size 0 _ (by omega) (Nat.zero_le _) ⟨⟨_, Heap.get?_push_size _ rfl, rfl, rfl⟩, hl1.push _⟩ ⟨0, Nat.le_refl 0, setR_new_at (Heap.get?_push_of_some _ hS)⟩ fun s2 c hm hc hR => ?_
  obtain ⟨h', g2, d2, tk2, os2⟩ := s2
  obtain rfl : g2 = s.gens := hm.gens
  obtain rfl : d2 = s.drawn := hm.drawn
  obtain rfl : os2 = s.os := hm.os
  refine wpAny_pure (wpAny_pure ⟨rfl, h', tk2, c, rfl, hR, by omega, fun b o e => ?_⟩)
  have hb0 : b < s.heap.objs.size := Heap.lt_size e
  refine hm.heap b o ?_ (Heap.get?_push_of_some _ (Heap.get?_push_of_some _ e))
  show b ∉ [s.heap.objs.size, (s.heap.push (set0 w)).objs.size]
  rw [Heap.size_push]
  simp only [List.mem_cons, List.not_mem_nil, or_false, not_or]
  exact ⟨Nat.ne_of_lt hb0, Nat.ne_of_lt (Nat.lt_succ_of_lt hb0)⟩
/-- set(a list of ints) -/
theorem set_list {l : Addr} {items : Array Value} {ns : List Int} {Q : Value → Shared → Prop} (hh : A.handled = none) (hl : s.heap.IsList l items) (hit : IntsAre items.toList ns) (hb : ns.length + 1 < scanBound)
    (h : ∀ s2, SetDone w s ns s2 → Q (.ref s.heap.objs.size) s2) : wpAny (model P w) A (call (.type "set") [.ref l]) Q E s := by
  obtain ⟨c, tl, hmro⟩ := F.called_set.mro
  have k1 := F.called_set.made
  have k2 := F.called_set.sub
  have k3 := F.called_set.notType
  have k4 := F.called_set.canCreate
  have k5 := F.typeCall_set_1 (.ref l)
  refine wpAny_call (codeAny_of_tree ?_)
  show wpAny _ _ (callAny (.type "set") _) _ _ _
  refine wpAny_pure ⟨Code.quiet_builtin _ (by decide +kernel), codeAny_builtin F.entry_type_call ?_⟩
  rw [Around.under_plain (weight_type_call_type "set" [.ref l] []) rfl]
  repeat (any_goals (first | assumption | wp_step))
  refine codeAny_mono (code_set_led1 (.ref l) (E := E) (Q₁ := fun v s1 => v = .ref s.heap.objs.size ∧ s1 = sSet0 w s) ⟨rfl, rfl⟩) fun r s1 hr => ?_
  rcases r with e | fl
  · exact hr
  rcases fl with _ | v | _ | _
  all_goals first | exact hr.elim | skip
  obtain ⟨rfl, rfl⟩ := hr
  have hT : Shared.TypeIs (sSet0 w s) (.ref s.heap.objs.size) "set" := ⟨_, Heap.get?_push_size _ rfl, rfl⟩
  have k6 := F.called_set.init.lookup
  have k7 := F.called_set.init.bind (.ref s.heap.objs.size)
  repeat (any_goals (first | assumption | wp_step))
  refine codeAny_mono (codeAny_call_builtin (R := wants (fun v s2 => v = .none ∧ SetDone w s ns s2) E) F.called_set.init.plain F.entry_set_init (check_set_init_1 hT (wpAny_mono (init_list (by simp [hh]) hl hit hb) (fun q s2 hq => ?_) fun e s2 he => he))) fun r s2 hr => ?_
  · obtain ⟨rfl, hd⟩ := hq
    exact ⟨rfl, hd⟩
  rcases r with e | fl
  · exact hr
  rcases fl with _ | v | _ | _
  all_goals first | exact hr.elim | skip
  obtain ⟨rfl, hd⟩ := hr
  have k8 := h s2 hd
  repeat (any_goals (first | assumption | wp_step))
end
/-- strictly sorted, each once -/
def ssIns (x : Int) : List Int → List Int
  | [] => [x]
  | y :: ys => if x < y then x :: y :: ys else if x = y then y :: ys else y :: ssIns x ys
def ssort (L : List Int) : List Int := L.foldr ssIns []
theorem ssIns_mem (x k : Int) : ∀ ys : List Int, k ∈ ssIns x ys ↔ k = x ∨ k ∈ ys
  | [] => by simp [ssIns]
  | y :: ys => by
    unfold ssIns
    split
    · simp
    · split
      · rename_i h
        subst h
        simp
      · rw [List.mem_cons, ssIns_mem x k ys, List.mem_cons]
        constructor
        · rintro (h | h | h) <;> simp [h]
        · rintro (h | h | h) <;> simp [h]
theorem ssIns_pw (x : Int) : ∀ ys : List Int, ys.Pairwise (· < ·) → (ssIns x ys).Pairwise (· < ·)
  | [], _ => by simp [ssIns]
  | y :: ys, h => by
    obtain ⟨h1, h2⟩ := List.pairwise_cons.mp h
    unfold ssIns
    split
    · rename_i hx
      exact List.pairwise_cons.mpr ⟨fun z hz => by
        rcases List.mem_cons.mp hz with rfl | hz
        · exact hx
        · have := h1 z hz; omega, h⟩
    · split
      · exact h
      · refine List.pairwise_cons.mpr ⟨fun z hz => ?_, ssIns_pw x ys h2⟩
        rcases (ssIns_mem x z ys).mp hz with rfl | hz
        · omega
        · exact h1 z hz
theorem ssort_mem (k : Int) : ∀ L : List Int, k ∈ ssort L ↔ k ∈ L
  | [] => by simp [ssort]
  | x :: L => by
    show k ∈ ssIns x (ssort L) ↔ _
    rw [ssIns_mem, ssort_mem k L, List.mem_cons]
theorem ssort_pw : ∀ L : List Int, (ssort L).Pairwise (· < ·)
  | [] => by simp [ssort]
  | x :: L => ssIns_pw x _ (ssort_pw L)
theorem pw_unique : ∀ (A B : List Int), A.Pairwise (· < ·) → B.Pairwise (· < ·) → (∀ k, k ∈ A ↔ k ∈ B) → A = B
  | [], [], _, _, _ => rfl
  | [], b :: B, _, _, h => by
    have := (h b).mpr (List.mem_cons_self ..)
    cases this
  | a :: A, [], _, _, h => by
    have := (h a).mp (List.mem_cons_self ..)
    cases this
  | a :: A, b :: B, hA, hB, h => by
    obtain ⟨a1, a2⟩ := List.pairwise_cons.mp hA
    obtain ⟨b1, b2⟩ := List.pairwise_cons.mp hB
    have e : a = b := by
      rcases List.mem_cons.mp ((h a).mp (List.mem_cons_self ..)) with e | e
      · exact e
      · rcases List.mem_cons.mp ((h b).mpr (List.mem_cons_self ..)) with e' | e'
        · exact e'.symm
        · have := a1 b e'
          have := b1 a e
          omega
    subst e
    rw [pw_unique A B a2 b2 fun k => ?_]
    constructor
    · intro hk
      rcases List.mem_cons.mp ((h k).mp (List.mem_cons_of_mem _ hk)) with e | e
      · subst e
        exact absurd (a1 k hk) (by omega)
      · exact e
    · intro hk
      rcases List.mem_cons.mp ((h k).mpr (List.mem_cons_of_mem _ hk)) with e | e
      · subst e
        exact absurd (b1 k hk) (by omega)
      · exact e
theorem ssort_id {L : List Int} (h : L.Pairwise (· < ·)) : ssort L = L := pw_unique _ _ (ssort_pw L) h fun k => ssort_mem k L
/-- set(a list of ints) -/
def rSetL (w : World) (K : PySem.W.Frag) : List V → Hp → VK → Prop := fun vs H Q => ∃ (l : Addr) (ns : List Int), vs = [V.ref l] ∧ SqL K H l (ns.map V.int) ∧ ns.length < 60 ∧
  ∀ p c, H p = none → c ≤ ns.length → Q (.ref p) (upd H p (SetO w p (fun j => decide (j ∈ ns)) c))
section
variable {X : Cx}
theorem cr_setL (hc : X.calm = true) : CallR X (.type "set") (rSetL X.w X.K) := by
  intro pins s σ H vs us Q I r h
  obtain ⟨l, ns, rfl, hs, hl, q⟩ := h
  obtain ⟨its, rv, hli, hz⟩ := I.list hs
  rw [Vals.ref1 r]
  obtain ⟨ob, n, ho, hcl, hdn, hda⟩ := hli
  refine set_list (ns := ns) (I.ok.hd hc) ⟨ob, ho, hcl, n, hda⟩ (by simpa using ints_of_vals rv) (by unfold scanBound; omega) fun s2 ⟨h', tk, c, e, R, hc', hk⟩ => ?_
  subst e
  exact ⟨.ref s.heap.objs.size, upd H s.heap.objs.size (SetO X.w s.heap.objs.size (fun j => decide (j ∈ ns)) c), I.laid (t' := tk) hk (Nat.le_refl _) (setO_new R), rfl, q _ c (I.hok.fresh (Nat.le_refl _)) hc'⟩
end
def intsD : List D → Option (List Int)
  | [] => some []
  | .int n :: ds => match intsD ds with
    | some ns => some (n :: ns)
    | none => none
  | _ => none
theorem intsD_ok : ∀ {ds : List D} {ns : List Int}, intsD ds = some ns → ds = ns.map D.int
  | [], ns, h => by
    cases h
    rfl
  | d :: ds, ns, h => by
    cases d with
    | int n =>
      unfold intsD at h
      split at h
      · rename_i ns' h'
        cases h
        rw [intsD_ok h']
        rfl
      · cases h
    | _ => cases h
theorem intsD_map : ∀ ns : List Int, intsD (ns.map D.int) = some ns
  | [] => rfl
  | n :: ns => by
    rw [List.map_cons]
    unfold intsD
    rw [intsD_map ns]
/-- sorted(set(xs)) -/
def oSS : En → List M → Option M := fun env ms => match ms with
  | [m] => match elems env m with
    | some (true, xs) => match allFz xs with
      | some ds => match intsD ds with
        | some ns => if ns.length < 60 then some (oI (ssort ns)) else none
        | none => none
      | none => none
    | _ => none
  | _ => none
def rSS (w : World) (K : PySem.W.Frag) : List V → Hp → VK → Prop := fun vs H Q => rSetL w K vs H fun x H2 => rSortedSet w [x] H2 Q
theorem repL_vals {K : PySem.W.Frag} {F : Hp} : ∀ {ns : List Int} {us : List V}, RepL K F (ns.map D.int) us → us = ns.map V.int
  | [], us, h => by
    simp only [List.map_nil, RepL] at h
    rw [h]
    rfl
  | n :: ns, us, h => by
    simp only [List.map_cons, RepL] at h
    obtain ⟨v, r, rfl, h1, h2⟩ := h
    simp only [Rep] at h1
    rw [h1, repL_vals h2]
    rfl
theorem s_SS {w : World} {K : PySem.W.Frag} : OpS K oSS (rSS w K) := by
  intro σ env F H fp ms vs A m Q ok hO hn dj e q
  unfold oSS at e
  split at e
  · split at e
    · rename_i xs he
      split at e
      · rename_i ds hd
        split at e
        · rename_i ns hns
          split at e
          · rename_i hl
            cases e
            obtain ⟨v, rfl, o⟩ := ownL1 hO
            obtain ⟨a, us, D', rfl, l1, l2, h3, s1⟩ := elems_ok ok o he
            have hr := (allFz_ok h3 hd).1
            have hs : SqL K H a us := SqL.of (l1 rfl)
            rw [intsD_ok hns] at hr
            have hu := repL_vals hr
            subst hu
            refine ⟨a, ns, rfl, hs, hl, fun p c hp hc => ⟨p, _, c, rfl, upd_same, by omega, fun ns' l hpw hmem hlen hq => ?_⟩⟩
            have e1 : ns' = ssort ns := pw_unique _ _ hpw (ssort_pw ns) fun k => by rw [hmem, ssort_mem]; simp
            subst e1
            have s1 : Same H (upd H p (SetO w p (fun j => decide (j ∈ ns)) c)) := fun b o e => by rw [upd_ne (ne_of_none e hp)]; exact e
            have s2 : Same (upd H p (SetO w p (fun j => decide (j ∈ ns)) c)) (upd (upd H p (SetO w p (fun j => decide (j ∈ ns)) c)) l (.lst ((ssort ns).map V.int))) := fun b o e => by rw [upd_ne (ne_of_none e hq)]; exact e
            have hS := s1.trans s2
            have hl1 : H l = none := s1.free hq
            refine q (.ref l) F _ [l] ⟨.refl _, fun b o e _ => hS b o e, fun b e => hS.free e, ok.sub.trans hS, fun a h => .inl h, fun a od u e => hS _ _ e⟩ ?_ (by simp) fun b hb => by rw [List.mem_singleton.mp hb]; exact .inl hl1
            unfold oI oD
            simp only [Own]
            exact ⟨l, _, [], rfl, rfl, ok.sub.free hl1, upd_same, ownL_fz (repL_ints _)⟩
          · cases e
        · cases e
      · cases e
    · cases e
  · cases e
theorem pd_SS {X : Cx} {e : Expr} {fs : En → Option (List M)} {x y : Str} {p p2 pos2 pos : Pos} (hc : X.calm = true) (hg : Gl X x) (hm : X.mg x = none) (hv : bootBuiltins x = some (.builtin "sorted")) (hg2 : Gl X y) (hm2 : X.mg y = none) (hv2 : bootBuiltins y = some (.type "set")) (ha : PDA X [e] fs)
    (hn : x ≠ "__name__" := by decide) (hdb : (x == ("__debug__" : Str)) = false := by decide) (hn2 : y ≠ "__name__" := by decide) (hdb2 : (y == ("__debug__" : Str)) = false := by decide)
    (hst2 : starEach [e] X.env = (false, eval e X.env) :: starEach [] X.env := by rfl) (hpl2 : (backTo pos2 (starEach [] X.env)).any (·.1) = false := by rfl)
    (hst : starEach [.Call (.Name y p2) [e] [] pos2] X.env = (false, eval (.Call (.Name y p2) [e] [] pos2) X.env) :: starEach [] X.env := by rfl)
    (hpl : (backTo pos (starEach [] X.env)).any (·.1) = false := by rfl) :
    PD X (.Call (.Name x p) [.Call (.Name y p2) [e] [] pos2] [] pos) (opr oSS fs) :=
  PE.imp (pe_callB (cr_sortedSet hc) hg hm hv (pa_cons (pe_callTy (cr_setL hc) hg2 hm2 hv2 ha hn2 hdb2 hst2 hpl2) pa_nil hst) hn hdb hst hpl) fun σ H Q h => tDA.op (s_SS (w := X.w)) h
/-- of a list that is one already -/
theorem k_SS {env : En} {m : M} {ns : List Int} (h : elems env m = some (true, (ns.map D.int).map .fz)) (hl : ns.length < 60) (hp : ns.Pairwise (· < ·)) : oSS env [m] = some (oI ns) := by
  unfold oSS
  simp only [h, allFz_fz, intsD_map, if_pos hl, ssort_id hp]
theorem tD_frz {K : PySem.W.Frag} {f : En → Option M} {σ : L2.St} {H : Hp} {Q : VK} (h : tD K (frzE f) σ H Q) : tD K f σ H Q := by
  obtain ⟨env, m, F, fp, e, ok, q⟩ := h
  unfold frzE at e
  split at e
  · rename_i r hr
    split at e
    · rename_i hl
      cases e
      refine ⟨_, m, H, _, hr, envFrz ok, fun v F' H' A s o n a => q v F H' A (.mk' (.refl _) s.hp (ok.sub.trans s.hp) fun _ z => .inl z) (own_scal m v A o hl fun c hc => ok.sub.free (a c hc)) n a⟩
    · cases e
  · cases e
section
variable {X : Cx} {elt tg iter : Expr} {ifs : List Expr} {scope : Scope} {own : List (Str × Nat)} {pos : Pos} {it : En → Option (List D)} {t : Tg} {cond : En → Option Bool} {f : En → Option M}
/-- name = [..] over a list of owned lists that stays as it is: reckoned with what is frozen -/
theorem pds_setLcZ {lk : Nat → Bool} {i k : Nat} {y : Str} {py spos : Pos} (hc : X.calm = true) (hN : X.N.Nodup) (hy : X.N[i]? = some y) (hyl : X.env.scope.names.lookup y = some .local)
    (hsw : swapsWith (.ListComp elt [⟨tg, iter, ifs, 0⟩] scope pos) (some (.Name y py)) spos.line X.env = pure true) (hi : PDP X tg iter it) (ok : BlkOk X.N X.env.scope scope own)
    (hg : ∀ (s : Shared) (H : Hp) (C : Addr) (cl : List (Str × Addr)) (fp : List Addr), PT' (X.blk s H scope (compEnvC scope cl C X.env) fp) (lkOf (own.map (·.2))) tg t)
    (ht : ∀ (s : Shared) (H : Hp) (C : Addr) (cl : List (Str × Addr)) (fp : List Addr), PTs (X.blk s H scope (compEnvC scope cl C X.env) fp) ifs (tDT X.K cond))
    (he : ∀ (s : Shared) (H : Hp) (C : Addr) (cl : List (Str × Addr)) (fp : List Addr), PD (X.blk s H scope (compEnvC scope cl C X.env) fp) elt f) (hs : ∀ x, foldedSetIterable iter X.env x = pure x := by intro _; rfl) :
    PDS X lk (.Assign [.Name y py] (.ListComp elt [⟨tg, iter, ifs, 0⟩] scope pos) spos) (sAsg lk i k (lif (frzE (lcF (own.map (·.2)) t it cond f)))) :=
  pds_asg (PS.imp (ps_setLc (g := tT X.K (lkOf (own.map fun p : Str × Nat => p.2)) t) (tt := tDT X.K cond) (te := tD X.K f) hc hN hy hyl hsw hi ok hg ht he hs) fun D σ H q => tLc_ok (tD_frz q.of))
end
end T2
end
section
namespace G70
open PySem PySem.Spec PyProof.Rows L2 T2
set_option Elab.async false
set_option linter.all false
set_option maxRecDepth 100000
set_option maxHeartbeats 4000000
def top (i : Nat) : Stmt := PySem.Challenge.pw_telltight_k70_why_a_heap_keeps_it.main.body.getD i (.Pass ⟨0, 0, 0, 0⟩)
variable [ca : ClsA]
abbrev s__law_mixed : Stmt := top 28
abbrev N__law_mixed : List Str := ["_law_cell", "_law_k", "_law_number"]
theorem sc__law_mixed : FnScope N__law_mixed ["_law_cell", "_law_k"] (defScope s__law_mixed) := ⟨rfl, rfl, rfl, by decide +kernel, rfl, by decide +kernel, by decide +kernel⟩
def lk__law_mixed : Nat → Bool := fun i => false
def F__law_mixed : En → Option Fl :=
  (sSeq (sAsg lk__law_mixed 2 0 (lif (bin (sop iMod) (bin oAdd (bin oAdd (bin oMul (bin (sop iMod) (nam 0) (cst (.int 2147483647))) (cst (.int 48271))) (bin oMul (nam 1) (cst (.int 69621)))) (cst (.int 11))) (cst (.int 2147483647)))))
    (sSeq (sAsg lk__law_mixed 2 0 (lif (bin (sop iMod) (bin oMul (nam 2) (nam 2)) (cst (.int 2147483629)))))
    (sRet lk__law_mixed (lif (bin (sop iMod) (bin oMul (nam 2) (nam 2)) (cst (.int 2147483587)))))))
def f__law_mixed : Fn := runD 3 2 lk__law_mixed F__law_mixed
abbrev s__law_take : Stmt := top 30
abbrev N__law_take : List Str := ["_law_pile_here", "_law_many", "_law_digit"]
theorem sc__law_take : FnScope N__law_take ["_law_pile_here", "_law_many"] (defScope s__law_take) := ⟨rfl, rfl, rfl, by decide +kernel, rfl, by decide +kernel, by decide +kernel⟩
def lk__law_take : Nat → Bool := fun i => i == 0
def F__law_take : En → Option Fl :=
  (sSeq (sIf (lifT (tst (bin oIn (bin oIdx (nam 0) (cst (.int 0))) (opr oLst (aCons (cst (.int 0)) (aCons (una (sop (gU fun i => -i)) (cst (.int 1))) aNil))))))
    (sSeq (sSet 0 (nam 0) (cst (.int 2)) (lif (bin oAdd (bin oIdx (nam 0) (cst (.int 2))) (cst (.int 1)))))
    (sRet lk__law_take (lif (bin (sop iMod) (opr (callP [false, false] f__law_mixed) (aCons (bin oIdx (nam 0) (cst (.int 1))) (aCons (bin oIdx (nam 0) (cst (.int 2))) aNil))) (nam 1)))))
    sNil)
    (sSeq (sAsg lk__law_take 2 9 (lif (bin (sop iMod) (bin oIdx (nam 0) (cst (.int 0))) (nam 1))))
    (sSeq (sSet 0 (nam 0) (cst (.int 0)) (lif (bin (sop iDiv) (bin oIdx (nam 0) (cst (.int 0))) (nam 1))))
    (sRet lk__law_take (lif (nam 2))))))
def f__law_take : Fn := runD 3 2 lk__law_take F__law_take
abbrev s__law_pile : Stmt := top 29
abbrev N__law_pile : List Str := ["_law_script", "_law_k", "_law_cell"]
theorem sc__law_pile : FnScope N__law_pile ["_law_script", "_law_k"] (defScope s__law_pile) := ⟨rfl, rfl, rfl, by decide +kernel, rfl, by decide +kernel, by decide +kernel⟩
def lk__law_pile : Nat → Bool := fun i => false
def F__law_pile : En → Option Fl :=
  (sSeq (sAsg lk__law_pile 2 0 (lif (cst (.int 0))))
    (sSeq (sIf (lifT (tst (bin (sop iLt) (nam 1) (opr (sop gLen) (aCons (nam 0) aNil)))))
    (sAsg lk__law_pile 2 0 (lif (bin oIdx (nam 0) (nam 1))))
    sNil)
    (sRet lk__law_pile (lif (opr oLst (aCons (bin oMul (nam 2) (opr (sop gInt) (aCons (bin (sop iGe) (opr (sop gAbs) (aCons (nam 2) aNil)) (bin (sop iPow) (cst (.int 10)) (cst (.int 18)))) aNil))) (aCons (nam 2) (aCons (bin oMul (cst (.int 97)) (nam 1)) aNil))))))))
def f__law_pile : Fn := runD 3 2 lk__law_pile F__law_pile
abbrev s__law_heap : Stmt := top 31
abbrev N__law_heap : List Str := ["_law_script", "_law_start", "_law_n", "_law_many", "_law_views_here", "_law_name", "_law_pile_here", "_law_row", "_law_turn", "_law_mask", "_law_coin"]
theorem sc__law_heap : FnScope N__law_heap ["_law_script", "_law_start", "_law_n"] (defScope s__law_heap) := ⟨rfl, rfl, rfl, by decide +kernel, rfl, by decide +kernel, by decide +kernel⟩
def lk__law_heap : Nat → Bool := fun i => false
def B__law_heap_0 : En → Option Fl :=
  (sSeq (sAsg lk__law_heap 9 0 (callI [true, false] f__law_take (lifA (aCons (nam 6) (aCons (bin (sop iShl) (cst (.int 1)) (nam 3)) aNil)))))
    (sExp (xMutP 0 (nam 7) (aCons (lcF [10] (.nm 10) (itR1 (aCons (nam 3) aNil)) (tst (bin (sop (gEq false)) (bin (sop iAnd) (bin (sop iShr) (nam 9) (nam 10)) (cst (.int 1))) (cst (.int 1)))) (nam 10)) aNil) mAppend)))
def B__law_heap_1 : En → Option Fl :=
  (sSeq (sAsg lk__law_heap 6 9 (lif (opr (callP [false, false] f__law_pile) (aCons (nam 0) (aCons (bin oAdd (bin oAdd (nam 1) (cst (.int 1))) (nam 5)) aNil)))))
    (sSeq (sAsg lk__law_heap 7 1 (lif (opr oLst aNil)))
    (sSeq (sFor lk__law_heap (.nm 8) (itR1X (xCons (callI [true, false] f__law_take (lifA (aCons (nam 6) (aCons (cst (.int 4)) aNil)))) xNil))
    B__law_heap_0)
    (sExp (xMutP 0 (nam 4) (aCons (nam 7) aNil) mAppend)))))
def F__law_heap : En → Option Fl :=
  (sSeq (sAsg lk__law_heap 3 0 (lif (opr (callP [true, false] f__law_take) (aCons (opr (callP [false, false] f__law_pile) (aCons (nam 0) (aCons (nam 1) aNil))) (aCons (cst (.int 7)) aNil)))))
    (sSeq (sAsg lk__law_heap 4 1 (lif (opr oLst aNil)))
    (sSeq (sFor lk__law_heap (.nm 5) (lifI (itR1 (aCons (nam 2) aNil)))
    B__law_heap_1)
    (sRet lk__law_heap (lif (opr oTup (aCons (nam 3) (aCons (nam 4) aNil))))))))
def f__law_heap : Fn := runD 11 3 lk__law_heap F__law_heap
abbrev s__law_order : Stmt := top 32
abbrev N__law_order : List Str := ["_law_pile_here", "_law_n", "_law_left", "_law_found"]
theorem sc__law_order : FnScope N__law_order ["_law_pile_here", "_law_n"] (defScope s__law_order) := ⟨rfl, rfl, rfl, by decide +kernel, rfl, by decide +kernel, by decide +kernel⟩
def lk__law_order : Nat → Bool := fun i => i == 0
def B__law_order_0 : En → Option Fl :=
  (sExp (xMut 9 (nam 3) (xCons (xMut 0 (nam 2) (xCons (callI [true, false] f__law_take (lifA (aCons (nam 0) (aCons (opr (sop gLen) (aCons (nam 2) aNil)) aNil)))) xNil) mPopAt) xNil) mAppend))
def C__law_order_1 : En → Option (Bool × En) :=
  (lifT (tst (bin (sop (gEq true)) (nam 2) (opr oLst aNil))))
def F__law_order : En → Option Fl :=
  (sSeq (sAsg lk__law_order 2 1 (lif (oListRg (fRg1 (nam 1)))))
    (sSeq (sAsg lk__law_order 3 9 (lif (opr oLst aNil)))
    (sSeq (sWh 1000000 C__law_order_1
    B__law_order_0)
    (sRet lk__law_order (lif (nam 3))))))
def f__law_order : Fn := runD 4 2 lk__law_order F__law_order
abbrev s_Basis_init : Stmt := inClass (top 7) 0
abbrev N_Basis_init : List Str := ["self"]
theorem sc_Basis_init : FnScope N_Basis_init ["self"] (defScope s_Basis_init) := ⟨rfl, rfl, rfl, by decide +kernel, rfl, by decide +kernel, by decide +kernel⟩
def lk_Basis_init : Nat → Bool := fun i => i == 0
def F_Basis_init : En → Option Fl :=
  (sFldS 0 9 "rows" (nam 0) (lif fDNew))
def f_Basis_init : Fn := runD 1 1 lk_Basis_init F_Basis_init
abbrev s_mask_of : Stmt := top 2
abbrev N_mask_of : List Str := ["coins", "coin"]
theorem sc_mask_of : FnScope N_mask_of ["coins"] (defScope s_mask_of) := ⟨rfl, rfl, rfl, by decide +kernel, rfl, by decide +kernel, by decide +kernel⟩
def lk_mask_of : Nat → Bool := fun i => false
def F_mask_of : En → Option Fl :=
  (sRet lk_mask_of (lif (opr (sop gSum) (aCons (lcF [1] (.nm 1) (itP true (nam 0)) cYes (bin (sop iShl) (cst (.int 1)) (nam 1))) aNil))))
def f_mask_of : Fn := runD 2 1 lk_mask_of F_mask_of
abbrev s_names_in : Stmt := top 4
abbrev N_names_in : List Str := ["heap", "g", "name"]
theorem sc_names_in : FnScope N_names_in ["heap", "g"] (defScope s_names_in) := ⟨rfl, rfl, rfl, by decide +kernel, rfl, by decide +kernel, by decide +kernel⟩
def lk_names_in : Nat → Bool := fun i => false
def F_names_in : En → Option Fl :=
  (sRet lk_names_in (lif (lcF [2] (.nm 2) (itR1 (aCons (opr (sop gLen) (aCons (bin oIdx (nam 0) (cst (.int 1))) aNil)) aNil)) (tst (bin (sop (gEq false)) (bin (sop iAnd) (bin (sop iShr) (nam 1) (nam 2)) (cst (.int 1))) (cst (.int 1)))) (nam 2))))
def f_names_in : Fn := runD 3 2 lk_names_in F_names_in
abbrev s_places_of : Stmt := top 5
abbrev N_places_of : List Str := ["heap", "g", "found", "name", "number"]
theorem sc_places_of : FnScope N_places_of ["heap", "g"] (defScope s_places_of) := ⟨rfl, rfl, rfl, by decide +kernel, rfl, by decide +kernel, by decide +kernel⟩
def lk_places_of : Nat → Bool := fun i => false
def B_places_of_0 : En → Option Fl :=
  (sExp (xMutP 0 (nam 2) (aCons (lcF [4] (.nm 4) (itR1 (aCons (opr (sop gLen) (aCons (bin oIdx (bin oIdx (nam 0) (cst (.int 1))) (nam 3)) aNil)) aNil)) cYes (opr oTup (aCons (nam 3) (aCons (nam 4) aNil)))) aNil) mExtend))
def F_places_of : En → Option Fl :=
  (sSeq (sAsg lk_places_of 2 9 (lif (opr oLst aNil)))
    (sSeq (sFor lk_places_of (.nm 3) (itX true (lif (opr (callP [false, false] f_names_in) (aCons (nam 0) (aCons (nam 1) aNil)))))
    B_places_of_0)
    (sRet lk_places_of (lif (nam 2)))))
def f_places_of : Fn := runD 5 2 lk_places_of F_places_of
abbrev s_masks_of : Stmt := top 6
abbrev N_masks_of : List Str := ["heap", "g", "name", "number"]
theorem sc_masks_of : FnScope N_masks_of ["heap", "g"] (defScope s_masks_of) := ⟨rfl, rfl, rfl, by decide +kernel, rfl, by decide +kernel, by decide +kernel⟩
def lk_masks_of : Nat → Bool := fun i => false
def F_masks_of : En → Option Fl :=
  (sRet lk_masks_of (lif (lcF [2, 3] (.tp [(.nm 2), (.nm 3)]) (itP true (opr (callP [false, false] f_places_of) (aCons (nam 0) (aCons (nam 1) aNil)))) cYes (opr (callP [false] f_mask_of) (aCons (bin oIdx (bin oIdx (bin oIdx (nam 0) (cst (.int 1))) (nam 2)) (nam 3)) aNil)))))
def f_masks_of : Fn := runD 4 2 lk_masks_of F_masks_of
abbrev s_coins_of : Stmt := top 3
abbrev N_coins_of : List Str := ["mask", "coin"]
theorem sc_coins_of : FnScope N_coins_of ["mask"] (defScope s_coins_of) := ⟨rfl, rfl, rfl, by decide +kernel, rfl, by decide +kernel, by decide +kernel⟩
def lk_coins_of : Nat → Bool := fun i => false
def F_coins_of : En → Option Fl :=
  (sRet lk_coins_of (lif (lcF [1] (.nm 1) (itR1 (aCons (una (sop iBits) (nam 0)) aNil)) (tst (bin (sop (gEq false)) (bin (sop iAnd) (bin (sop iShr) (nam 0) (nam 1)) (cst (.int 1))) (cst (.int 1)))) (nam 1))))
def f_coins_of : Fn := runD 2 1 lk_coins_of F_coins_of
abbrev s_Basis_left_of : Stmt := inClass (top 7) 1
abbrev N_Basis_left_of : List Str := ["self", "mask", "way", "lead", "row", "came"]
theorem sc_Basis_left_of : FnScope N_Basis_left_of ["self", "mask", "way"] (defScope s_Basis_left_of) := ⟨rfl, rfl, rfl, by decide +kernel, rfl, by decide +kernel, by decide +kernel⟩
def lk_Basis_left_of : Nat → Bool := fun i => i == 0
def B_Basis_left_of_0 : En → Option Fl :=
  (sSeq (sUnp (lkV lk_Basis_left_of [1, 2, 3, 4, 5]) (.tp [(.nm 4), (.nm 5)]) (lif (bin oDG (una (oFld 0 "rows") (nam 0)) (nam 3))))
    (sIf (lifT (tst (bin (sop (gEq false)) (bin (sop iAnd) (bin (sop iShr) (nam 1) (nam 3)) (cst (.int 1))) (cst (.int 1)))))
    (sSeq (sAsg (lkV lk_Basis_left_of [1, 2, 3, 4, 5]) 1 0 (lif (bin (sop iXor) (nam 1) (nam 4))))
    (sAsg (lkV lk_Basis_left_of [1, 2, 3, 4, 5]) 2 0 (lif (bin (sop iXor) (nam 2) (nam 5)))))
    sNil))
def F_Basis_left_of : En → Option Fl :=
  (sSeq (sForK lk_Basis_left_of [1, 2, 3, 4, 5] (.nm 3) (una (oFld 0 "rows") (nam 0))
    B_Basis_left_of_0)
    (sRet lk_Basis_left_of (lif (opr oTup (aCons (nam 1) (aCons (nam 2) aNil))))))
def f_Basis_left_of : Fn := runD 6 3 lk_Basis_left_of F_Basis_left_of
abbrev s_Basis_put : Stmt := inClass (top 7) 2
abbrev N_Basis_put : List Str := ["self", "mask", "way", "left", "left_way", "lead", "other", "row", "came"]
theorem sc_Basis_put : FnScope N_Basis_put ["self", "mask", "way"] (defScope s_Basis_put) := ⟨rfl, rfl, rfl, by decide +kernel, rfl, by decide +kernel, by decide +kernel⟩
def lk_Basis_put : Nat → Bool := fun i => i == 0
def B_Basis_put_0 : En → Option Fl :=
  (sSeq (sUnp lk_Basis_put (.tp [(.nm 7), (.nm 8)]) (lif (bin oDG (una (oFld 0 "rows") (nam 0)) (nam 6))))
    (sIf (lifT (tst (bin (sop (gEq false)) (bin (sop iAnd) (bin (sop iShr) (nam 7) (nam 5)) (cst (.int 1))) (cst (.int 1)))))
    (sDSet (una (oFld 0 "rows") (nam 0)) (nam 6) (lif (opr oTup (aCons (bin (sop iXor) (nam 7) (nam 3)) (aCons (bin (sop iXor) (nam 8) (nam 4)) aNil)))))
    sNil))
def F_Basis_put : En → Option Fl :=
  (sSeq (sUnp lk_Basis_put (.tp [(.nm 3), (.nm 4)]) (callM 0 "left_of" [true, false, false] f_Basis_left_of 0 (lifA (aCons (nam 1) (aCons (nam 2) aNil)))))
    (sSeq (sIf (lifT (tst (bin (sop (gEq true)) (nam 3) (cst (.int 0)))))
    (sSeq (sAsg lk_Basis_put 5 0 (lif (bin (sop iSub) (una (sop iBits) (nam 3)) (cst (.int 1)))))
    (sSeq (sFor lk_Basis_put (.nm 6) (itX true (lif (una oKeys (una (oFld 0 "rows") (nam 0)))))
    B_Basis_put_0)
    (sDSet (una (oFld 0 "rows") (nam 0)) (nam 5) (lif (opr oTup (aCons (nam 3) (aCons (nam 4) aNil)))))))
    sNil)
    (sRet lk_Basis_put (lif (opr oTup (aCons (nam 3) (aCons (nam 4) aNil)))))))
def f_Basis_put : Fn := runD 9 3 lk_Basis_put F_Basis_put
abbrev s_basis_of : Stmt := top 8
abbrev N_basis_of : List Str := ["masks", "basis", "place", "mask"]
theorem sc_basis_of : FnScope N_basis_of ["masks"] (defScope s_basis_of) := ⟨rfl, rfl, rfl, by decide +kernel, rfl, by decide +kernel, by decide +kernel⟩
def lk_basis_of : Nat → Bool := fun i => false
def B_basis_of_0 : En → Option Fl :=
  (sExp (callM 0 "put" [true, false, false] f_Basis_put 1 (lifA (aCons (nam 3) (aCons (bin (sop iShl) (cst (.int 1)) (nam 2)) aNil)))))
def F_basis_of : En → Option Fl :=
  (sSeq (sAsg lk_basis_of 1 9 (lif (opr (oMake 0 [] f_Basis_init) aNil)))
    (sSeq (sFor lk_basis_of (.tp [(.nm 2), (.nm 3)]) (itEnX (lifA (aCons (nam 0) aNil)))
    B_basis_of_0)
    (sRet lk_basis_of (lif (nam 1)))))
def f_basis_of : Fn := runD 4 1 lk_basis_of F_basis_of
abbrev s_rank_of : Stmt := top 9
abbrev N_rank_of : List Str := ["masks"]
theorem sc_rank_of : FnScope N_rank_of ["masks"] (defScope s_rank_of) := ⟨rfl, rfl, rfl, by decide +kernel, rfl, by decide +kernel, by decide +kernel⟩
def lk_rank_of : Nat → Bool := fun i => false
def F_rank_of : En → Option Fl :=
  (sRet lk_rank_of (lif (opr oDLen (aCons (una (oFld 0 "rows") (opr (callP [false] f_basis_of) (aCons (nam 0) aNil))) aNil))))
def f_rank_of : Fn := runD 1 1 lk_rank_of F_rank_of
abbrev s_common_views : Stmt := top 11
abbrev N_common_views : List Str := ["heap", "a", "b", "basis", "mask", "found", "left", "way"]
theorem sc_common_views : FnScope N_common_views ["heap", "a", "b"] (defScope s_common_views) := ⟨rfl, rfl, rfl, by decide +kernel, rfl, by decide +kernel, by decide +kernel⟩
def lk_common_views : Nat → Bool := fun i => false
def B_common_views_0 : En → Option Fl :=
  (sExp (callM 0 "put" [true, false, false] f_Basis_put 3 (lifA (aCons (nam 4) (aCons (nam 4) aNil)))))
def B_common_views_1 : En → Option Fl :=
  (sSeq (sUnp lk_common_views (.tp [(.nm 6), (.nm 7)]) (callM 0 "put" [true, false, false] f_Basis_put 3 (lifA (aCons (nam 4) (aCons (cst (.int 0)) aNil)))))
    (sIf (lifT (dAnd (tst (bin (sop (gEq false)) (nam 6) (cst (.int 0)))) (dAnd (tst (bin (sop (gEq true)) (nam 7) (cst (.int 0)))) (tst (bin (sop iGt) (opr (callP [false] f_rank_of) (aCons (bin oAdd (nam 5) (opr oLst (aCons (nam 7) aNil))) aNil)) (opr (sop gLen) (aCons (nam 5) aNil)))))))
    (sExp (xMutP 0 (nam 5) (aCons (nam 7) aNil) mAppend))
    sNil))
def F_common_views : En → Option Fl :=
  (sSeq (sAsg lk_common_views 3 9 (lif (opr (oMake 0 [] f_Basis_init) aNil)))
    (sSeq (sFor lk_common_views (.nm 4) (itX true (lif (opr (callP [false, false] f_masks_of) (aCons (nam 0) (aCons (nam 1) aNil)))))
    B_common_views_0)
    (sSeq (sAsg lk_common_views 5 1 (lif (opr oLst aNil)))
    (sSeq (sFor lk_common_views (.nm 4) (itX true (lif (opr (callP [false, false] f_masks_of) (aCons (nam 0) (aCons (nam 2) aNil)))))
    B_common_views_1)
    (sRet lk_common_views (lif (lcF [7] (.nm 7) (itP true (nam 5)) cYes (opr (callP [false] f_coins_of) (aCons (nam 7) aNil)))))))))
def f_common_views : Fn := runD 8 3 lk_common_views F_common_views
abbrev s_value : Stmt := top 22
abbrev N_value : List Str := ["row", "table", "one", "other"]
theorem sc_value : FnScope N_value ["row", "table"] (defScope s_value) := ⟨rfl, rfl, rfl, by decide +kernel, rfl, by decide +kernel, by decide +kernel⟩
def lk_value : Nat → Bool := fun i => false
def F_value : En → Option Fl :=
  (sRet lk_value (lif (opr (sop gSum) (aCons (lcF [2, 3] (.tp [(.nm 2), (.nm 3)]) (itZipP (aCons (nam 0) (aCons (nam 1) aNil))) cYes (bin oMul (nam 2) (nam 3))) aNil))))
def f_value : Fn := runD 4 2 lk_value F_value
abbrev s_greatest : Stmt := top 18
abbrev N_greatest : List Str := ["n"]
theorem sc_greatest : FnScope N_greatest ["n"] (defScope s_greatest) := ⟨rfl, rfl, rfl, by decide +kernel, rfl, by decide +kernel, by decide +kernel⟩
def lk_greatest : Nat → Bool := fun i => false
def F_greatest : En → Option Fl :=
  (sSeq (sIf (lifT (dOr (tst (bin (sop iLt) (nam 0) (cst (.int 1)))) (tst (bin (sop iGt) (nam 0) (cst (.int 4))))))
    (fun _ => none)
    sNil)
    (sRet lk_greatest (lif (bin (sop iSub) (bin (sop iShl) (cst (.int 1)) (nam 0)) (cst (.int 1))))))
def f_greatest : Fn := runD 1 1 lk_greatest F_greatest
abbrev s_look_at : Stmt := top 19
abbrev N_look_at : List Str := ["n", "some", "most", "group", "least"]
theorem sc_look_at : FnScope N_look_at ["n", "some"] (defScope s_look_at) := ⟨rfl, rfl, rfl, by decide +kernel, rfl, by decide +kernel, by decide +kernel⟩
def lk_look_at : Nat → Bool := fun i => false
def B_look_at_0 : En → Option Fl :=
  (sIf (lifT (dOr (tst (bin (sop iLt) (nam 3) (nam 4))) (tst (bin (sop iGt) (nam 3) (nam 2)))))
    (fun _ => none)
    sNil)
def F_look_at : En → Option Fl :=
  (sSeq (sAsg lk_look_at 2 0 (lif (opr (callP [false] f_greatest) (aCons (nam 0) aNil))))
    (sFor lk_look_at (.tp [(.nm 3), (.nm 4)]) (itX true (lif (nam 1)))
    B_look_at_0))
def f_look_at : Fn := runD 5 2 lk_look_at F_look_at
abbrev s_row_of : Stmt := top 20
abbrev N_row_of : List Str := ["n", "terms", "row", "group", "number"]
theorem sc_row_of : FnScope N_row_of ["n", "terms"] (defScope s_row_of) := ⟨rfl, rfl, rfl, by decide +kernel, rfl, by decide +kernel, by decide +kernel⟩
def lk_row_of : Nat → Bool := fun i => false
def B_row_of_0 : En → Option Fl :=
  (sIf (lifT (tst (bin (sop iGt) (nam 3) (cst (.int 0)))))
    (sAugI (fun i j => i + j) (nam 2) (bin (sop iSub) (nam 3) (cst (.int 1))) (nam 4))
    sNil)
def F_row_of : En → Option Fl :=
  (sSeq (sAsg lk_row_of 2 9 (lif (lcF [3] (.nm 3) (itR1 (aCons (opr (callP [false] f_greatest) (aCons (nam 0) aNil)) aNil)) cYes (cst (.int 0)))))
    (sSeq (sFor lk_row_of (.tp [(.nm 3), (.nm 4)]) (itX true (lif (nam 1)))
    B_row_of_0)
    (sRet lk_row_of (lif (nam 2)))))
def f_row_of : Fn := runD 5 2 lk_row_of F_row_of
abbrev s_shared : Stmt := top 21
abbrev N_shared : List Str := ["n", "a", "b", "c"]
theorem sc_shared : FnScope N_shared ["n", "a", "b", "c"] (defScope s_shared) := ⟨rfl, rfl, rfl, by decide +kernel, rfl, by decide +kernel, by decide +kernel⟩
def lk_shared : Nat → Bool := fun i => false
def F_shared : En → Option Fl :=
  (sSeq (sExp (lif (opr (callP [false, false] f_look_at) (aCons (nam 0) (aCons (opr oLst (aCons (opr oTup (aCons (nam 1) (aCons (cst (.int 1)) aNil))) (aCons (opr oTup (aCons (nam 2) (aCons (cst (.int 1)) aNil))) (aCons (opr oTup (aCons (nam 3) (aCons (cst (.int 0)) aNil))) aNil)))) aNil)))))
    (sRet lk_shared (lif (opr (callP [false, false] f_row_of) (aCons (nam 0) (aCons (opr oLst (aCons (opr oTup (aCons (bin (sop iOr) (nam 1) (nam 3)) (aCons (cst (.int 1)) aNil))) (aCons (opr oTup (aCons (bin (sop iOr) (nam 2) (nam 3)) (aCons (cst (.int 1)) aNil))) (aCons (opr oTup (aCons (bin (sop iOr) (bin (sop iOr) (nam 1) (nam 2)) (nam 3)) (aCons (una (sop (gU fun i => -i)) (cst (.int 1))) aNil))) (aCons (opr oTup (aCons (nam 3) (aCons (una (sop (gU fun i => -i)) (cst (.int 1))) aNil))) aNil))))) aNil))))))
def f_shared : Fn := runD 4 4 lk_shared F_shared
abbrev s_coin_table : Stmt := top 10
abbrev N_coin_table : List Str := ["heap", "g"]
theorem sc_coin_table : FnScope N_coin_table ["heap"] (defScope s_coin_table) := ⟨rfl, rfl, rfl, by decide +kernel, rfl, by decide +kernel, by decide +kernel⟩
def lk_coin_table : Nat → Bool := fun i => false
def F_coin_table : En → Option Fl :=
  (sRet lk_coin_table (lif (lcF [1] (.nm 1) (itR2 (aCons (cst (.int 1)) (aCons (bin (sop iShl) (cst (.int 1)) (opr (sop gLen) (aCons (bin oIdx (nam 0) (cst (.int 1))) aNil))) aNil))) cYes (opr (callP [false] f_rank_of) (aCons (opr (callP [false, false] f_masks_of) (aCons (nam 0) (aCons (nam 1) aNil))) aNil)))))
def f_coin_table : Fn := runD 2 1 lk_coin_table F_coin_table
abbrev s_greater_by : Stmt := top 25
abbrev N_greater_by : List Str := ["heap", "name", "views", "masks", "view"]
theorem sc_greater_by : FnScope N_greater_by ["heap", "name", "views"] (defScope s_greater_by) := ⟨rfl, rfl, rfl, by decide +kernel, rfl, by decide +kernel, by decide +kernel⟩
def lk_greater_by : Nat → Bool := fun i => false
def F_greater_by : En → Option Fl :=
  (sSeq (sAsg lk_greater_by 3 0 (lif (opr (callP [false, false] f_masks_of) (aCons (nam 0) (aCons (bin (sop iShl) (cst (.int 1)) (nam 1)) aNil)))))
    (sRet lk_greater_by (lif (bin (sop iSub) (opr (callP [false] f_rank_of) (aCons (bin oAdd (nam 3) (lcF [4] (.nm 4) (itP true (nam 2)) cYes (opr (callP [false] f_mask_of) (aCons (nam 4) aNil)))) aNil)) (opr (callP [false] f_rank_of) (aCons (nam 3) aNil))))))
def f_greater_by : Fn := runD 5 3 lk_greater_by F_greater_by
abbrev s_four_shown : Stmt := top 26
abbrev N_four_shown : List Str := ["heap", "i", "j", "k", "l", "views", "both"]
theorem sc_four_shown : FnScope N_four_shown ["heap", "i", "j", "k", "l"] (defScope s_four_shown) := ⟨rfl, rfl, rfl, by decide +kernel, rfl, by decide +kernel, by decide +kernel⟩
def lk_four_shown : Nat → Bool := fun i => false
def F_four_shown : En → Option Fl :=
  (sSeq (sAsg lk_four_shown 5 9 (lif (opr (callP [false, false, false] f_common_views) (aCons (nam 0) (aCons (bin (sop iShl) (cst (.int 1)) (nam 1)) (aCons (bin (sop iShl) (cst (.int 1)) (nam 2)) aNil))))))
    (sSeq (sAsg lk_four_shown 6 0 (lif (opr (callP [false, false] f_value) (aCons (opr (callP [false, false, false, false] f_shared) (aCons (cst (.int 4)) (aCons (bin (sop iShl) (cst (.int 1)) (nam 3)) (aCons (bin (sop iShl) (cst (.int 1)) (nam 4)) (aCons (cst (.int 0)) aNil))))) (aCons (opr (callP [false] f_coin_table) (aCons (nam 0) aNil)) aNil)))))
    (sRetO lk_four_shown (lif (opr oTup (aCons (nam 5) (aCons (opr oTup (aCons (opr (sop gLen) (aCons (nam 5) aNil)) (aCons (opr (callP [false, false, false] f_greater_by) (aCons (nam 0) (aCons (nam 3) (aCons (nam 5) aNil)))) (aCons (opr (callP [false, false, false] f_greater_by) (aCons (nam 0) (aCons (nam 4) (aCons (nam 5) aNil)))) (aCons (nam 6) aNil))))) aNil)))))))
def f_four_shown : Fn := runD 7 5 lk_four_shown F_four_shown
abbrev s__law_masks : Stmt := top 34
abbrev N__law_masks : List Str := ["_law_heap_here", "_law_names", "_law_found", "_law_name", "_law_view", "_law_coin"]
theorem sc__law_masks : FnScope N__law_masks ["_law_heap_here", "_law_names"] (defScope s__law_masks) := ⟨rfl, rfl, rfl, by decide +kernel, rfl, by decide +kernel, by decide +kernel⟩
def lk__law_masks : Nat → Bool := fun i => false
def B__law_masks_0 : En → Option Fl :=
  (sAsg lk__law_masks 2 9 (lif (bin oAdd (nam 2) (lcF [4] (.nm 4) (itP true (bin oIdx (bin oIdx (nam 0) (cst (.int 1))) (nam 3))) cYes (opr (sop gSum) (aCons (lcF [5] (.nm 5) (itP true (nam 4)) cYes (bin (sop iShl) (cst (.int 1)) (nam 5))) aNil))))))
def F__law_masks : En → Option Fl :=
  (sSeq (sAsg lk__law_masks 2 9 (lif (opr oLst aNil)))
    (sSeq (sFor lk__law_masks (.nm 3) (itX true (lif (nam 1)))
    B__law_masks_0)
    (sRet lk__law_masks (lif (nam 2)))))
def f__law_masks : Fn := runD 6 2 lk__law_masks F__law_masks
abbrev s__law_rank : Stmt := top 33
abbrev N__law_rank : List Str := ["_law_masks_here", "_law_rows", "_law_mask", "_law_row"]
theorem sc__law_rank : FnScope N__law_rank ["_law_masks_here"] (defScope s__law_rank) := ⟨rfl, rfl, rfl, by decide +kernel, rfl, by decide +kernel, by decide +kernel⟩
def lk__law_rank : Nat → Bool := fun i => false
def lo__law_rank_0 : Nat → Bool := fun j => lk__law_rank j || j == 1 || j == 3
def B__law_rank_1 : En → Option Fl :=
  (sAsg lo__law_rank_0 2 0 (lif (opr (oMin) (aCons (nam 2) (aCons (bin (sop iXor) (nam 2) (nam 3)) aNil)))))
def B__law_rank_2 : En → Option Fl :=
  (sSeq (sForO lk__law_rank 1 3
    B__law_rank_1)
    (sIf (lifT (tst (bin (sop iGt) (nam 2) (cst (.int 0)))))
    (sExp (xMutP 0 (nam 1) (aCons (nam 2) aNil) mAppend))
    sNil))
def F__law_rank : En → Option Fl :=
  (sSeq (sAsg lk__law_rank 1 1 (lif (opr oLst aNil)))
    (sSeq (sFor lk__law_rank (.nm 2) (itX true (lif (nam 0)))
    B__law_rank_2)
    (sRet lk__law_rank (lif (opr (sop gLen) (aCons (nam 1) aNil))))))
def f__law_rank : Fn := runD 4 1 lk__law_rank F__law_rank
abbrev s__law_views : Stmt := top 35
abbrev N__law_views : List Str := ["_law_found", "_law_heap_here", "_law_order_here", "_law_view", "_law_coin", "_law_masks_here", "_law_ones", "_law_others", "_law_many"]
theorem sc__law_views : FnScope N__law_views ["_law_found", "_law_heap_here", "_law_order_here"] (defScope s__law_views) := ⟨rfl, rfl, rfl, by decide +kernel, rfl, by decide +kernel, by decide +kernel⟩
def lk__law_views : Nat → Bool := fun i => false
def B__law_views_0 : En → Option Fl :=
  (sIf (lifT (dOr (tst (oIsi (kitT "bool") (nam 4))) (dOr (dNot (tst (oIsi (kitT "int") (nam 4)))) (dOr (tst (bin (sop iLt) (nam 4) (cst (.int 0)))) (tst (bin (sop iGe) (nam 4) (bin oIdx (nam 1) (cst (.int 0)))))))))
    (sRet lk__law_views (lif (cst (.bl false))))
    sNil)
def B__law_views_1 : En → Option Fl :=
  (sSeq (sIf (lifT (dOr (dNot (tst (oIsi (kitT "list") (nam 3)))) (tst (bin (sop (gEq true)) (nam 3) (opr oSS (aCons (nam 3) aNil))))))
    (sRet lk__law_views (lif (cst (.bl false))))
    sNil)
    (sFor lk__law_views (.nm 4) (itX true (lif (nam 3)))
    B__law_views_0))
def F__law_views : En → Option Fl :=
  (sSeq (sIf (lifT (dNot (tst (oIsi (kitT "list") (nam 0)))))
    (sRet lk__law_views (lif (cst (.bl false))))
    sNil)
    (sSeq (sFor lk__law_views (.nm 3) (itX true (lif (nam 0)))
    B__law_views_1)
    (sSeq (sAsg lk__law_views 5 0 (lif (lcF [3] (.nm 3) (itP true (nam 0)) cYes (opr (sop gSum) (aCons (lcF [4] (.nm 4) (itP true (nam 3)) cYes (bin (sop iShl) (cst (.int 1)) (nam 4))) aNil)))))
    (sSeq (sAsg lk__law_views 6 0 (lif (opr (callP [false, false] f__law_masks) (aCons (nam 1) (aCons (oSl (nam 2) none (some (cst (.int 1)))) aNil)))))
    (sSeq (sAsg lk__law_views 7 0 (lif (opr (callP [false, false] f__law_masks) (aCons (nam 1) (aCons (oSl (nam 2) (some (cst (.int 1))) (some (cst (.int 2)))) aNil)))))
    (sSeq (sIf (lifT (dOr (tst (bin (sop (gEq true)) (opr (callP [false] f__law_rank) (aCons (bin oAdd (nam 6) (nam 5)) aNil)) (opr (callP [false] f__law_rank) (aCons (nam 6) aNil)))) (tst (bin (sop (gEq true)) (opr (callP [false] f__law_rank) (aCons (bin oAdd (nam 7) (nam 5)) aNil)) (opr (callP [false] f__law_rank) (aCons (nam 7) aNil))))))
    (sRet lk__law_views (lif (cst (.bl false))))
    sNil)
    (sSeq (sAsg lk__law_views 8 0 (lif (bin (sop iSub) (bin oAdd (opr (callP [false] f__law_rank) (aCons (nam 6) aNil)) (opr (callP [false] f__law_rank) (aCons (nam 7) aNil))) (opr (callP [false] f__law_rank) (aCons (bin oAdd (nam 6) (nam 7)) aNil)))))
    (sRet lk__law_views (lif (vAnd (bin (sop (gEq false)) (opr (sop gLen) (aCons (nam 0) aNil)) (nam 8)) (bin (sop (gEq false)) (opr (callP [false] f__law_rank) (aCons (nam 5) aNil)) (nam 8))))))))))))
def f__law_views : Fn := runD 9 3 lk__law_views F__law_views
abbrev s__law_numbers : Stmt := top 36
abbrev N__law_numbers : List Str := ["_law_found", "_law_heap_here", "_law_order_here", "_law_masks_here", "_law_third", "_law_fourth", "_law_due", "_law_view", "_law_coin"]
theorem sc__law_numbers : FnScope N__law_numbers ["_law_found", "_law_heap_here", "_law_order_here"] (defScope s__law_numbers) := ⟨rfl, rfl, rfl, by decide +kernel, rfl, by decide +kernel, by decide +kernel⟩
def lk__law_numbers : Nat → Bool := fun i => false
def F__law_numbers : En → Option Fl :=
  (sSeq (sAsg lk__law_numbers 3 0 (lif (lcF [7] (.nm 7) (itP true (nam 0)) cYes (opr (sop gSum) (aCons (lcF [8] (.nm 8) (itP true (nam 7)) cYes (bin (sop iShl) (cst (.int 1)) (nam 8))) aNil)))))
    (sSeq (sAsg lk__law_numbers 4 0 (lif (opr (callP [false, false] f__law_masks) (aCons (nam 1) (aCons (oSl (nam 2) (some (cst (.int 2))) (some (cst (.int 3)))) aNil)))))
    (sSeq (sAsg lk__law_numbers 5 0 (lif (opr (callP [false, false] f__law_masks) (aCons (nam 1) (aCons (oSl (nam 2) (some (cst (.int 3))) none) aNil)))))
    (sSeq (sAsg lk__law_numbers 6 0 (lif (opr oLst (aCons (opr (sop gLen) (aCons (nam 3) aNil)) (aCons (bin (sop iSub) (opr (callP [false] f__law_rank) (aCons (bin oAdd (nam 4) (nam 3)) aNil)) (opr (callP [false] f__law_rank) (aCons (nam 4) aNil))) (aCons (bin (sop iSub) (opr (callP [false] f__law_rank) (aCons (bin oAdd (nam 5) (nam 3)) aNil)) (opr (callP [false] f__law_rank) (aCons (nam 5) aNil))) aNil))))))
    (sRet lk__law_numbers (lif (opr (oTupOf) (aCons (bin oAdd (nam 6) (opr oLst (aCons (bin (sop iSub) (bin oAdd (opr (callP [false] f__law_rank) (aCons (nam 4) aNil)) (opr (callP [false] f__law_rank) (aCons (nam 5) aNil))) (opr (callP [false] f__law_rank) (aCons (bin oAdd (nam 4) (nam 5)) aNil))) aNil))) aNil))))))))
def f__law_numbers : Fn := runD 9 3 lk__law_numbers F__law_numbers
abbrev s_law : Stmt := top 37
abbrev N_law : List Str := ["_law_script", "_law_turn", "_law_heap_here", "_law_order_here", "_law_handed", "_law_time", "_law_told", "_law_kept", "_law_at", "_law_view", "_law_row", "_law_one"]
theorem sc_law : FnScope N_law ["_law_script"] (defScope s_law) := ⟨rfl, rfl, rfl, by decide +kernel, rfl, by decide +kernel, by decide +kernel⟩
def lk_law : Nat → Bool := fun i => false
def lo_law_0 : Nat → Bool := fun j => lk_law j || j == 6 || j == 9 || j == 8
def B_law_1 : En → Option Fl :=
  (sSeq (sExp (xMutP 0 (nam 9) (aCons (cst (.int 0)) aNil) mAppend))
    sNil)
def C_law_2 : En → Option Bool :=
  (tst (bin (sop (gEq true)) (oSl (bin oIdx (nam 6) (cst (.int 0))) (some (bin oAdd (nam 8) (cst (.int 1)))) none) (oSl (nam 7) (some (bin oAdd (nam 8) (cst (.int 1)))) none)))
def B_law_3 : En → Option Fl :=
  (sSeq (sAsg lk_law 6 9 (lif (opr (callP [false, false, false, false, false] f_four_shown) (aCons (nam 4) (aCons (bin oIdx (nam 3) (cst (.int 0))) (aCons (bin oIdx (nam 3) (cst (.int 1))) (aCons (bin oIdx (nam 3) (cst (.int 2))) (aCons (bin oIdx (nam 3) (cst (.int 3))) aNil))))))))
    (sSeq (sIf (lifT (dOr (dNot (tst (oIsi (kitT "tuple") (nam 6)))) (dOr (tst (bin (sop (gEq true)) (opr (sop gLen) (aCons (nam 6) aNil)) (cst (.int 2)))) (dNot (tst (opr (callP [false, false, false] f__law_views) (aCons (bin oIdx (nam 6) (cst (.int 0))) (aCons (nam 2) (aCons (nam 3) aNil)))))))))
    (sRet lk_law (lif (cst (.bl false))))
    sNil)
    (sSeq (sIf (lifT (frzT (dOr (dNot (tst (oIsi (kitT "tuple") (bin oIdx (nam 6) (cst (.int 1)))))) (dOr (tst (bin (sop (gEq true)) (bin oIdx (nam 6) (cst (.int 1))) (opr (callP [false, false, false] f__law_numbers) (aCons (bin oIdx (nam 6) (cst (.int 0))) (aCons (nam 2) (aCons (nam 3) aNil)))))) (tst (bin (sop (gEq true)) (nam 4) (nam 2)))))))
    (sRet lk_law (lif (cst (.bl false))))
    sNil)
    (sSeq (sIf (lifT (frzT (tst (bin (sop (gEq true)) (lcF [11] (.nm 11) (itP false (bin oIdx (nam 6) (cst (.int 1)))) (dOr (tst (oIsi (kitT "bool") (nam 11))) (dNot (tst (oIsi (kitT "int") (nam 11))))) (nam 11)) (opr oLst aNil)))))
    (sRet lk_law (lif (cst (.bl false))))
    sNil)
    (sSeq (sAsg lk_law 7 0 (lif (frzE (lcF [9] (.nm 9) (itP true (bin oIdx (nam 6) (cst (.int 0)))) cYes (opr (oListOf) (aCons (nam 9) aNil))))))
    (sSeq (sForEP lk_law 6 8 9 (bin oIdx (nam 6) (cst (.int 0)))
    B_law_1 C_law_2)
    (sExp (xMutP 9 (bin oIdx (nam 6) (cst (.int 0))) aNil mClear))))))))
def B_law_4 : En → Option Fl :=
  (sSeq (sAsg lk_law 2 0 (lif (opr (callP [false, false, false] f__law_heap) (aCons (nam 0) (aCons (bin oMul (cst (.int 6)) (nam 1)) (aCons (cst (.int 4)) aNil))))))
    (sSeq (sAsg lk_law 3 0 (lif (opr (callP [true, false] f__law_order) (aCons (opr (callP [false, false] f__law_pile) (aCons (nam 0) (aCons (bin oAdd (bin oMul (cst (.int 6)) (nam 1)) (cst (.int 5))) aNil))) (aCons (cst (.int 4)) aNil)))))
    (sSeq (sAsg lk_law 4 0 (lif (opr oTup (aCons (bin oIdx (nam 2) (cst (.int 0))) (aCons (lcF [10] (.nm 10) (itP true (bin oIdx (nam 2) (cst (.int 1)))) cYes (lcF [9] (.nm 9) (itP true (nam 10)) cYes (opr (oListOf) (aCons (nam 9) aNil)))) aNil)))))
    (sFor lk_law (.nm 5) (lifI (itR1 (aCons (cst (.int 2)) aNil)))
    B_law_3))))
def F_law : En → Option Fl :=
  (sSeq (sFor lk_law (.nm 1) (lifI (itR1 (aCons (cst (.int 8)) aNil)))
    B_law_4)
    (sRet lk_law (lif (cst (.bl true)))))
def f_law : Fn := runD 12 1 lk_law F_law
end G70
end
section
namespace G70
open PySem PySem.Spec PyProof.Rows L2 T2
set_option Elab.async false
set_option linter.all false
set_option maxRecDepth 100000
set_option maxHeartbeats 4000000
variable [ca : ClsA]
structure Txt (K : PySem.W.Frag) (mg : Str → Option Value) : Prop where
  cl_Basis : Cls K (ca.at_ 0)
  g_Basis : mg "Basis" = some (.ref (ca.at_ 0))
  na_Basis_rows : NoAttr K (ca.at_ 0) "rows"
  b_len : mg "len" = none
  b_abs : mg "abs" = none
  b_int : mg "int" = none
  b_range : mg "range" = none
  b_list : mg "list" = none
  b_sum : mg "sum" = none
  b_enumerate : mg "enumerate" = none
  b_zip : mg "zip" = none
  b_min : mg "min" = none
  b_isinstance : mg "isinstance" = none
  b_sorted : mg "sorted" = none
  b_set : mg "set" = none
  b_bool : mg "bool" = none
  b_tuple : mg "tuple" = none
  c_MOST : ∃ t, mg "MOST" = some (.int 4 t)
  c_NAMES : ∃ t, mg "NAMES" = some (.int 4 t)
section
variable {P : Program} {w : World} {K : PySem.W.Frag} {mg : Str → Option Value} {base : Heap}
theorem ok__law_mixed {f : Addr} {fd : FuncData} (T : Txt K mg) (F : Fun K "_law_mixed" "_law_mixed" s__law_mixed f fd) : FnG P w K mg base CX0 1 f fd ["_law_cell", "_law_k"] (SpI K f__law_mixed) := by
  refine def_ok (k := 0) (N := N__law_mixed) (lk := lk__law_mixed) (fS := F__law_mixed) F sc__law_mixed fun cdv A outer s H E hr => ?_
  exact (pds_cons (pds_set (i := 2) sc__law_mixed.nd (px_of (pd_bin op_mod s_mod (pd_bin op_addA s_addA (pd_bin op_addA s_addA (pd_bin op_mulA s_mulA (pd_bin op_mod s_mod (pd_name 0) pd_int) pd_int) (pd_bin op_mulA s_mulA (pd_name 1) pd_int)) pd_int) pd_int)))
      (pds_cons (pds_set (i := 2) sc__law_mixed.nd (px_of (pd_bin op_mod s_mod (pd_bin op_mulA s_mulA (pd_name 2) (pd_name 2)) pd_int)))
      (pds_one (pds_ret (px_of (pd_bin op_mod s_mod (pd_bin op_mulA s_mulA (pd_name 2) (pd_name 2)) pd_int))))))
theorem ok__law_take {f : Addr} {fd : FuncData} (T : Txt K mg) (F : Fun K "_law_take" "_law_take" s__law_take f fd) (D__law_mixed : Df P w K mg base "_law_mixed" 1 ["_law_cell", "_law_k"] f__law_mixed) : FnG P w K mg base CX0 2 f fd ["_law_pile_here", "_law_many"] (SpI K f__law_take) := by
  obtain ⟨a__law_mixed, d__law_mixed, m__law_mixed, k__law_mixed, b__law_mixed, G__law_mixed⟩ := D__law_mixed.ex
  refine def_ok (k := 1) (N := N__law_take) (lk := lk__law_take) (fS := F__law_take) F sc__law_take fun cdv A outer s H E hr => ?_
  exact (pds_cons (pds_if (pxt_of (pdt_cmp (op_inA (hu65 hr)) s_inA (pd_ixr ix_seq s_idx (pd_name 0) pd_int (fun _ _ => rfl)) (pd_lst (pda_cons pd_int (pda_cons (pd_un un_neg sU pd_int) pda_nil))) (by rfl)))
      (pds_cons (pds_setI 0 (px_of (pd_bin op_addA s_addA (pd_ixr ix_seq s_idx (pd_name 0) pd_int (fun _ _ => rfl)) pd_int)) (pd_name 0) pd_int)
      (pds_one (pds_ret (px_of (pd_bin op_mod s_mod (pd_call [false, false] G__law_mixed (hr.mono (by decide)) rfl m__law_mixed k__law_mixed b__law_mixed (pda_cons (pd_ixr ix_seq s_idx (pd_name 0) pd_int (fun _ _ => rfl)) (pda_cons (pd_ixr ix_seq s_idx (pd_name 0) pd_int (fun _ _ => rfl)) pda_nil))) (pd_name 1))))))
      pds_nil)
      (pds_cons (pds_set (i := 2) sc__law_take.nd (px_of (pd_bin op_mod s_mod (pd_ixr ix_seq s_idx (pd_name 0) pd_int (fun _ _ => rfl)) (pd_name 1))))
      (pds_cons (pds_setI 0 (px_of (pd_bin op_fdivW s_div (pd_ixr ix_seq s_idx (pd_name 0) pd_int (fun _ _ => rfl)) (pd_name 1))) (pd_name 0) pd_int)
      (pds_one (pds_ret (px_of (pd_name 2)))))))
theorem ok__law_pile {f : Addr} {fd : FuncData} (T : Txt K mg) (F : Fun K "_law_pile" "_law_pile" s__law_pile f fd) : FnG P w K mg base CX0 1 f fd ["_law_script", "_law_k"] (SpI K f__law_pile) := by
  refine def_ok (k := 0) (N := N__law_pile) (lk := lk__law_pile) (fS := F__law_pile) F sc__law_pile fun cdv A outer s H E hr => ?_
  exact (pds_cons (pds_set (i := 2) sc__law_pile.nd (px_of pd_int))
      (pds_cons (pds_if (pxt_of (pdt_cmp op_lt s_lt (pd_name 1) (pd_callB call_len' s_len rfl T.b_len (by decide +kernel) (pda_cons (pd_name 0) pda_nil)) (nomark _)))
      (pds_one (pds_set (i := 2) sc__law_pile.nd (px_of (pd_ixr ix_seq s_idx (pd_name 0) (pd_name 1) (fun _ _ => rfl)))))
      pds_nil)
      (pds_one (pds_ret (px_of (pd_lst (pda_cons (pd_bin op_mulA s_mulA (pd_name 2) (pd_callT call_int1 s_int rfl T.b_int (by decide +kernel) (pda_cons (pd_cmp op_ge s_ge (pd_callB call_abs s_abs rfl T.b_abs (by decide +kernel) (pda_cons (pd_name 2) pda_nil)) (pd_bin op_pow s_pow pd_int pd_int) (nomark _)) pda_nil))) (pda_cons (pd_name 2) (pda_cons (pd_bin op_mulA s_mulA pd_int (pd_name 1)) pda_nil)))))))))
theorem ok__law_heap {f : Addr} {fd : FuncData} (T : Txt K mg) (F : Fun K "_law_heap" "_law_heap" s__law_heap f fd) (D__law_take : Df P w K mg base "_law_take" 2 ["_law_pile_here", "_law_many"] f__law_take) (D__law_pile : Df P w K mg base "_law_pile" 1 ["_law_script", "_law_k"] f__law_pile) : FnG P w K mg base CX0 3 f fd ["_law_script", "_law_start", "_law_n"] (SpI K f__law_heap) := by
  obtain ⟨a__law_take, d__law_take, m__law_take, k__law_take, b__law_take, G__law_take⟩ := D__law_take.ex
  obtain ⟨a__law_pile, d__law_pile, m__law_pile, k__law_pile, b__law_pile, G__law_pile⟩ := D__law_pile.ex
  refine def_ok (k := 2) (N := N__law_heap) (lk := lk__law_heap) (fS := F__law_heap) F sc__law_heap fun cdv A outer s H E hr => ?_
  exact (pds_cons (pds_set (i := 3) sc__law_heap.nd (px_of (pd_call [true, false] G__law_take (hr.mono (by decide)) rfl m__law_take k__law_take b__law_take (pda_cons (pd_call [false, false] G__law_pile (hr.mono (by decide)) rfl m__law_pile k__law_pile b__law_pile (pda_cons (pd_name 0) (pda_cons (pd_name 1) pda_nil))) (pda_cons pd_int pda_nil)))))
      (pds_cons (pds_set (i := 4) sc__law_heap.nd (px_of (pd_lst pda_nil)))
      (pds_cons (pds_for PassesOwn.never rfl (pdi_of (pdr_range1 rfl T.b_range (pda_cons (pd_name 2) pda_nil))) (pt_nm sc__law_heap.nd)
      (pds_cons (pds_set (i := 6) sc__law_heap.nd (px_of (pd_call [false, false] G__law_pile (hr.mono (by decide)) rfl m__law_pile k__law_pile b__law_pile (pda_cons (pd_name 0) (pda_cons (pd_bin op_addA s_addA (pd_bin op_addA s_addA (pd_name 1) pd_int) (pd_name 5)) pda_nil)))))
      (pds_cons (pds_set (i := 7) sc__law_heap.nd (px_of (pd_lst pda_nil)))
      (pds_cons (pds_for PassesOwn.never rfl (pdi_range1X rfl T.b_range (pxa_cons (px_callI [true, false] G__law_take (hr.mono (by decide)) rfl m__law_take k__law_take b__law_take (pxa_of (pda_cons (pd_name 6) (pda_cons pd_int pda_nil)))) pxa_nil)) (pt_nm sc__law_heap.nd)
      (pds_cons (pds_set (i := 9) sc__law_heap.nd (px_callI [true, false] G__law_take (hr.mono (by decide)) rfl m__law_take k__law_take b__law_take (pxa_of (pda_cons (pd_name 6) (pda_cons (pd_bin op_shl s_shl pd_int (pd_name 3)) pda_nil)))))
      (pds_one (pds_expr (px_mutP 0 PySem.F.slot_list_append PySem.F.type_list_append mt_append m_append (pd_name 7) (pda_cons (pd_lc (own := [("_law_coin", 10)]) rfl sc__law_heap.nd (pdp_of (pdr_range1 rfl T.b_range (pda_cons (pd_name 3) pda_nil))) (blkOk_by (own := [("_law_coin", 10)]) (N := N__law_heap) (sc := defScope s__law_heap) (by decide +kernel)) (fun _ _ _ _ _ => (pt_nm sc__law_heap.nd)) (fun _ _ _ _ _ => pdt_one (pdt_cmp (op_eqD hr.units) s_eq (pd_bin op_and s_and (pd_bin op_shr s_shr (pd_name 9) (pd_name 10)) pd_int) pd_int (nomark _))) (fun _ _ _ _ _ => (pd_name 10))) pda_nil))))))
      (pds_one (pds_expr (px_mutP 0 PySem.F.slot_list_append PySem.F.type_list_append mt_append m_append (pd_name 4) (pda_cons (pd_name 7) pda_nil))))))))
      (pds_one (pds_ret (px_of (pd_tup (pda_cons (pd_name 3) (pda_cons (pd_name 4) pda_nil)))))))))
theorem ok__law_order {f : Addr} {fd : FuncData} (T : Txt K mg) (F : Fun K "_law_order" "_law_order" s__law_order f fd) (D__law_take : Df P w K mg base "_law_take" 2 ["_law_pile_here", "_law_many"] f__law_take) : FnG P w K mg base CX0 3 f fd ["_law_pile_here", "_law_n"] (SpI K f__law_order) := by
  obtain ⟨a__law_take, d__law_take, m__law_take, k__law_take, b__law_take, G__law_take⟩ := D__law_take.ex
  refine def_ok (k := 2) (N := N__law_order) (lk := lk__law_order) (fS := F__law_order) F sc__law_order fun cdv A outer s H E hr => ?_
  exact (pds_cons (pds_set (i := 2) sc__law_order.nd (px_of (pd_listRange rfl rfl T.b_list (prg_d1 rfl T.b_range (pd_name 1)))))
      (pds_cons (pds_set (i := 3) sc__law_order.nd (px_of (pd_lst pda_nil)))
      (pds_cons (pds_while (n := 1000000) PassesOwn.never (pxt_of (pdt_cmp (op_neD hr.units) s_ne (pd_name 2) (pd_lst pda_nil) (nomark _)))
      (pds_one (pds_expr (px_mut 9 PySem.F.slot_list_append PySem.F.type_list_append mt_append m_append (pd_name 3) (pxa_cons (px_mut 0 PySem.F.slot_list_pop PySem.F.type_list_pop mt_popAt m_popAt (pd_name 2) (pxa_cons (px_callI [true, false] G__law_take (hr.mono (by decide)) rfl m__law_take k__law_take b__law_take (pxa_of (pda_cons (pd_name 0) (pda_cons (pd_callB call_len' s_len rfl T.b_len (by decide +kernel) (pda_cons (pd_name 2) pda_nil)) pda_nil)))) pxa_nil)) pxa_nil)))))
      (pds_one (pds_ret (px_of (pd_name 3)))))))
theorem ok_Basis_init {f : Addr} {fd : FuncData} (T : Txt K mg) (F : Fun K "__init__" "Basis.__init__" s_Basis_init f fd) : FnG P w K mg base CX0 1 f fd ["self"] (SpI K f_Basis_init) := by
  refine def_ok (k := 0) (N := N_Basis_init) (lk := lk_Basis_init) (fS := F_Basis_init) F sc_Basis_init fun cdv A outer s H E hr => ?_
  exact (pds_one (pds_fld (n := 0) 9 T.cl_Basis T.na_Basis_rows (px_of pd_dnew) (pd_name 0)))
theorem ok_mask_of {f : Addr} {fd : FuncData} (T : Txt K mg) (F : Fun K "mask_of" "mask_of" s_mask_of f fd) : FnG P w K mg base CX0 1 f fd ["coins"] (SpI K f_mask_of) := by
  refine def_ok (k := 0) (N := N_mask_of) (lk := lk_mask_of) (fS := F_mask_of) F sc_mask_of fun cdv A outer s H E hr => ?_
  exact (pds_one (pds_ret (px_of (pd_callB (cr_sum rfl) s_sum rfl T.b_sum (by decide +kernel) (pda_cons (pd_lc (own := [("coin", 1)]) rfl sc_mask_of.nd (pdp_lst (pd_name 0)) (blkOk_by (own := [("coin", 1)]) (N := N_mask_of) (sc := defScope s_mask_of) (by decide +kernel)) (fun _ _ _ _ _ => (pt_nm sc_mask_of.nd)) (fun _ _ _ _ _ => pdt_yes) (fun _ _ _ _ _ => (pd_bin op_shl s_shl pd_int (pd_name 1)))) pda_nil)))))
theorem ok_names_in {f : Addr} {fd : FuncData} (T : Txt K mg) (F : Fun K "names_in" "names_in" s_names_in f fd) : FnG P w K mg base CX0 1 f fd ["heap", "g"] (SpI K f_names_in) := by
  refine def_ok (k := 0) (N := N_names_in) (lk := lk_names_in) (fS := F_names_in) F sc_names_in fun cdv A outer s H E hr => ?_
  exact (pds_one (pds_ret (px_of (pd_lc (own := [("name", 2)]) rfl sc_names_in.nd (pdp_of (pdr_range1 rfl T.b_range (pda_cons (pd_callB call_len' s_len rfl T.b_len (by decide +kernel) (pda_cons (pd_ixr ix_seq s_idx (pd_name 0) pd_int (fun _ _ => rfl)) pda_nil)) pda_nil))) (blkOk_by (own := [("name", 2)]) (N := N_names_in) (sc := defScope s_names_in) (by decide +kernel)) (fun _ _ _ _ _ => (pt_nm sc_names_in.nd)) (fun _ _ _ _ _ => pdt_one (pdt_cmp (op_eqD hr.units) s_eq (pd_bin op_and s_and (pd_bin op_shr s_shr (pd_name 1) (pd_name 2)) pd_int) pd_int (nomark _))) (fun _ _ _ _ _ => (pd_name 2))))))
theorem ok_places_of {f : Addr} {fd : FuncData} (T : Txt K mg) (F : Fun K "places_of" "places_of" s_places_of f fd) (D_names_in : Df P w K mg base "names_in" 1 ["heap", "g"] f_names_in) : FnG P w K mg base CX0 2 f fd ["heap", "g"] (SpI K f_places_of) := by
  obtain ⟨a_names_in, d_names_in, m_names_in, k_names_in, b_names_in, G_names_in⟩ := D_names_in.ex
  refine def_ok (k := 1) (N := N_places_of) (lk := lk_places_of) (fS := F_places_of) F sc_places_of fun cdv A outer s H E hr => ?_
  exact (pds_cons (pds_set (i := 2) sc_places_of.nd (px_of (pd_lst pda_nil)))
      (pds_cons (pds_for PassesOwn.never rfl (pdi_lst (px_of (pd_call [false, false] G_names_in (hr.mono (by decide)) rfl m_names_in k_names_in b_names_in (pda_cons (pd_name 0) (pda_cons (pd_name 1) pda_nil))))) (pt_nm sc_places_of.nd)
      (pds_one (pds_expr (px_mutP 0 PySem.F.slot_list_extend PySem.F.type_list_extend mt_extend m_extend (pd_name 2) (pda_cons (pd_lc (own := [("number", 4)]) rfl sc_places_of.nd (pdp_of (pdr_range1 rfl T.b_range (pda_cons (pd_callB call_len' s_len rfl T.b_len (by decide +kernel) (pda_cons (pd_ixr ix_seq s_idx (pd_ixr ix_seq s_idx (pd_name 0) pd_int (fun _ _ => rfl)) (pd_name 3) (fun _ _ => rfl)) pda_nil)) pda_nil))) (blkOk_by (own := [("number", 4)]) (N := N_places_of) (sc := defScope s_places_of) (by decide +kernel)) (fun _ _ _ _ _ => (pt_nm sc_places_of.nd)) (fun _ _ _ _ _ => pdt_yes) (fun _ _ _ _ _ => (pd_tup (pda_cons (pd_name 3) (pda_cons (pd_name 4) pda_nil))))) pda_nil)))))
      (pds_one (pds_ret (px_of (pd_name 2))))))
theorem ok_masks_of {f : Addr} {fd : FuncData} (T : Txt K mg) (F : Fun K "masks_of" "masks_of" s_masks_of f fd) (D_places_of : Df P w K mg base "places_of" 2 ["heap", "g"] f_places_of) (D_mask_of : Df P w K mg base "mask_of" 1 ["coins"] f_mask_of) : FnG P w K mg base CX0 3 f fd ["heap", "g"] (SpI K f_masks_of) := by
  obtain ⟨a_places_of, d_places_of, m_places_of, k_places_of, b_places_of, G_places_of⟩ := D_places_of.ex
  obtain ⟨a_mask_of, d_mask_of, m_mask_of, k_mask_of, b_mask_of, G_mask_of⟩ := D_mask_of.ex
  refine def_ok (k := 2) (N := N_masks_of) (lk := lk_masks_of) (fS := F_masks_of) F sc_masks_of fun cdv A outer s H E hr => ?_
  exact (pds_one (pds_ret (px_of (pd_lc (own := [("name", 2), ("number", 3)]) rfl sc_masks_of.nd (pdp_lst (pd_call [false, false] G_places_of (hr.mono (by decide)) rfl m_places_of k_places_of b_places_of (pda_cons (pd_name 0) (pda_cons (pd_name 1) pda_nil)))) (blkOk_by (own := [("name", 2), ("number", 3)]) (N := N_masks_of) (sc := defScope s_masks_of) (by decide +kernel)) (fun _ _ _ _ _ => (pt_tp rfl (pts_cons' (pt_nm sc_masks_of.nd) (pts_cons' (pt_nm sc_masks_of.nd) pts_nil')))) (fun _ _ _ _ _ => pdt_yes) (fun _ _ _ _ _ => (pd_call [false] G_mask_of (hr.mono (by decide)) rfl m_mask_of k_mask_of b_mask_of (pda_cons (pd_ixr ix_seq s_idx (pd_ixr ix_seq s_idx (pd_ixr ix_seq s_idx (pd_name 0) pd_int (fun _ _ => rfl)) (pd_name 2) (fun _ _ => rfl)) (pd_name 3) (fun _ _ => rfl)) pda_nil)))))))
theorem ok_coins_of {f : Addr} {fd : FuncData} (T : Txt K mg) (F : Fun K "coins_of" "coins_of" s_coins_of f fd) : FnG P w K mg base CX0 1 f fd ["mask"] (SpI K f_coins_of) := by
  refine def_ok (k := 0) (N := N_coins_of) (lk := lk_coins_of) (fS := F_coins_of) F sc_coins_of fun cdv A outer s H E hr => ?_
  exact (pds_one (pds_ret (px_of (pd_lc (own := [("coin", 1)]) rfl sc_coins_of.nd (pdp_of (pdr_range1 rfl T.b_range (pda_cons (pd_bits (pd_name 0)) pda_nil))) (blkOk_by (own := [("coin", 1)]) (N := N_coins_of) (sc := defScope s_coins_of) (by decide +kernel)) (fun _ _ _ _ _ => (pt_nm sc_coins_of.nd)) (fun _ _ _ _ _ => pdt_one (pdt_cmp (op_eqD hr.units) s_eq (pd_bin op_and s_and (pd_bin op_shr s_shr (pd_name 0) (pd_name 1)) pd_int) pd_int (nomark _))) (fun _ _ _ _ _ => (pd_name 1))))))
theorem ok_Basis_left_of {f : Addr} {fd : FuncData} (T : Txt K mg) (F : Fun K "left_of" "Basis.left_of" s_Basis_left_of f fd) : FnG P w K mg base CX0 1 f fd ["self", "mask", "way"] (SpI K f_Basis_left_of) := by
  refine def_ok (k := 0) (N := N_Basis_left_of) (lk := lk_Basis_left_of) (fS := F_Basis_left_of) F sc_Basis_left_of fun cdv A outer s H E hr => ?_
  exact (pds_cons (pds_forK [1, 2, 3, 4, 5] PassesOwn.never rfl (pd_fld T.cl_Basis T.na_Basis_rows (pd_name 0)) (pt_nm sc_Basis_left_of.nd)
      (pds_cons (pds_unp (px_of (pd_dget (hu1 hr) (pd_fld T.cl_Basis T.na_Basis_rows (pd_name 0)) (pd_name 3))) (pt_tp rfl (pts_cons' (pt_nm sc_Basis_left_of.nd) (pts_cons' (pt_nm sc_Basis_left_of.nd) pts_nil'))))
      (pds_one (pds_if (pxt_of (pdt_cmp (op_eqD hr.units) s_eq (pd_bin op_and s_and (pd_bin op_shr s_shr (pd_name 1) (pd_name 3)) pd_int) pd_int (nomark _)))
      (pds_cons (pds_set (i := 1) sc_Basis_left_of.nd (px_of (pd_bin op_xor s_xor (pd_name 1) (pd_name 4))))
      (pds_one (pds_set (i := 2) sc_Basis_left_of.nd (px_of (pd_bin op_xor s_xor (pd_name 2) (pd_name 5))))))
      pds_nil))))
      (pds_one (pds_ret (px_of (pd_tup (pda_cons (pd_name 1) (pda_cons (pd_name 2) pda_nil)))))))
theorem ok_Basis_put {f : Addr} {fd : FuncData} (T : Txt K mg) (F : Fun K "put" "Basis.put" s_Basis_put f fd) (D_Basis_left_of : Dm P w K mg base (ca.at_ 0) "left_of" 1 ["self", "mask", "way"] f_Basis_left_of) : FnG P w K mg base CX0 2 f fd ["self", "mask", "way"] (SpI K f_Basis_put) := by
  obtain ⟨a_Basis_left_of, d_Basis_left_of, m_Basis_left_of, b_Basis_left_of, G_Basis_left_of⟩ := D_Basis_left_of.ex
  refine def_ok (k := 1) (N := N_Basis_put) (lk := lk_Basis_put) (fS := F_Basis_put) F sc_Basis_put fun cdv A outer s H E hr => ?_
  exact (pds_cons (pds_unp (px_meth (n := 0) 0 [true, false, false] rfl (by first | exact Or.inl rfl | exact Or.inr (Or.inl rfl) | exact Or.inr (Or.inr rfl)) (by decide) (by decide) T.cl_Basis m_Basis_left_of G_Basis_left_of (hr.mono (by decide)) b_Basis_left_of (pxa_of (pda_cons (pd_name 1) (pda_cons (pd_name 2) pda_nil)))) (pt_tp rfl (pts_cons' (pt_nm sc_Basis_put.nd) (pts_cons' (pt_nm sc_Basis_put.nd) pts_nil'))))
      (pds_cons (pds_if (pxt_of (pdt_cmp (op_neD hr.units) s_ne (pd_name 3) pd_int (nomark _)))
      (pds_cons (pds_set (i := 5) sc_Basis_put.nd (px_of (pd_bin op_sub s_sub (pd_bits (pd_name 3)) pd_int)))
      (pds_cons (pds_for PassesOwn.never rfl (pdi_lst (px_of (pd_listKeys rfl (pd_fld T.cl_Basis T.na_Basis_rows (pd_name 0)) rfl T.b_list (by decide +kernel)))) (pt_nm sc_Basis_put.nd)
      (pds_cons (pds_unp (px_of (pd_dget (hu1 hr) (pd_fld T.cl_Basis T.na_Basis_rows (pd_name 0)) (pd_name 6))) (pt_tp rfl (pts_cons' (pt_nm sc_Basis_put.nd) (pts_cons' (pt_nm sc_Basis_put.nd) pts_nil'))))
      (pds_one (pds_if (pxt_of (pdt_cmp (op_eqD hr.units) s_eq (pd_bin op_and s_and (pd_bin op_shr s_shr (pd_name 7) (pd_name 5)) pd_int) pd_int (nomark _)))
      (pds_one (pds_dset (hu1 hr) (px_of (pd_tup (pda_cons (pd_bin op_xor s_xor (pd_name 7) (pd_name 3)) (pda_cons (pd_bin op_xor s_xor (pd_name 8) (pd_name 4)) pda_nil)))) (pd_fld T.cl_Basis T.na_Basis_rows (pd_name 0)) (pd_name 6)))
      pds_nil))))
      (pds_one (pds_dset (hu1 hr) (px_of (pd_tup (pda_cons (pd_name 3) (pda_cons (pd_name 4) pda_nil)))) (pd_fld T.cl_Basis T.na_Basis_rows (pd_name 0)) (pd_name 5)))))
      pds_nil)
      (pds_one (pds_ret (px_of (pd_tup (pda_cons (pd_name 3) (pda_cons (pd_name 4) pda_nil))))))))
theorem ok_basis_of {f : Addr} {fd : FuncData} (T : Txt K mg) (F : Fun K "basis_of" "basis_of" s_basis_of f fd) (D_Basis_init : Di P w K mg base (ca.at_ 0) 1 ["self"] f_Basis_init) (D_Basis_put : Dm P w K mg base (ca.at_ 0) "put" 2 ["self", "mask", "way"] f_Basis_put) : FnG P w K mg base CX0 3 f fd ["masks"] (SpI K f_basis_of) := by
  obtain ⟨a_Basis_init, d_Basis_init, M_Basis_init, b_Basis_init, G_Basis_init⟩ := D_Basis_init.ex
  obtain ⟨a_Basis_put, d_Basis_put, m_Basis_put, b_Basis_put, G_Basis_put⟩ := D_Basis_put.ex
  refine def_ok (k := 2) (N := N_basis_of) (lk := lk_basis_of) (fS := F_basis_of) F sc_basis_of fun cdv A outer s H E hr => ?_
  exact (pds_cons (pds_set (i := 1) sc_basis_of.nd (px_of (pd_make0 (n := 0) M_Basis_init G_Basis_init (hr.mono (by decide)) rfl T.g_Basis b_Basis_init)))
      (pds_cons (pds_for PassesOwn.never rfl (pdi_enum rfl T.b_enumerate (pxa_of (pda_cons (pd_name 0) pda_nil))) (pt_tp rfl (pts_cons' (pt_nm sc_basis_of.nd) (pts_cons' (pt_nm sc_basis_of.nd) pts_nil')))
      (pds_one (pds_expr (px_meth (n := 0) 1 [true, false, false] rfl (by first | exact Or.inl rfl | exact Or.inr (Or.inl rfl) | exact Or.inr (Or.inr rfl)) (by decide) (by decide) T.cl_Basis m_Basis_put G_Basis_put (hr.mono (by decide)) b_Basis_put (pxa_of (pda_cons (pd_name 3) (pda_cons (pd_bin op_shl s_shl pd_int (pd_name 2)) pda_nil)))))))
      (pds_one (pds_ret (px_of (pd_name 1))))))
theorem ok_rank_of {f : Addr} {fd : FuncData} (T : Txt K mg) (F : Fun K "rank_of" "rank_of" s_rank_of f fd) (D_basis_of : Df P w K mg base "basis_of" 3 ["masks"] f_basis_of) : FnG P w K mg base CX0 4 f fd ["masks"] (SpI K f_rank_of) := by
  obtain ⟨a_basis_of, d_basis_of, m_basis_of, k_basis_of, b_basis_of, G_basis_of⟩ := D_basis_of.ex
  refine def_ok (k := 3) (N := N_rank_of) (lk := lk_rank_of) (fS := F_rank_of) F sc_rank_of fun cdv A outer s H E hr => ?_
  exact (pds_one (pds_ret (px_of (pd_callB call_lenD s_dlen rfl T.b_len (by decide +kernel) (pda_cons (pd_fld T.cl_Basis T.na_Basis_rows (pd_call [false] G_basis_of (hr.mono (by decide)) rfl m_basis_of k_basis_of b_basis_of (pda_cons (pd_name 0) pda_nil))) pda_nil)))))
theorem ok_common_views {f : Addr} {fd : FuncData} (T : Txt K mg) (F : Fun K "common_views" "common_views" s_common_views f fd) (D_Basis_init : Di P w K mg base (ca.at_ 0) 1 ["self"] f_Basis_init) (D_masks_of : Df P w K mg base "masks_of" 3 ["heap", "g"] f_masks_of) (D_Basis_put : Dm P w K mg base (ca.at_ 0) "put" 2 ["self", "mask", "way"] f_Basis_put) (D_rank_of : Df P w K mg base "rank_of" 4 ["masks"] f_rank_of) (D_coins_of : Df P w K mg base "coins_of" 1 ["mask"] f_coins_of) : FnG P w K mg base CX0 5 f fd ["heap", "a", "b"] (SpI K f_common_views) := by
  obtain ⟨a_Basis_init, d_Basis_init, M_Basis_init, b_Basis_init, G_Basis_init⟩ := D_Basis_init.ex
  obtain ⟨a_masks_of, d_masks_of, m_masks_of, k_masks_of, b_masks_of, G_masks_of⟩ := D_masks_of.ex
  obtain ⟨a_Basis_put, d_Basis_put, m_Basis_put, b_Basis_put, G_Basis_put⟩ := D_Basis_put.ex
  obtain ⟨a_rank_of, d_rank_of, m_rank_of, k_rank_of, b_rank_of, G_rank_of⟩ := D_rank_of.ex
  obtain ⟨a_coins_of, d_coins_of, m_coins_of, k_coins_of, b_coins_of, G_coins_of⟩ := D_coins_of.ex
  refine def_ok (k := 4) (N := N_common_views) (lk := lk_common_views) (fS := F_common_views) F sc_common_views fun cdv A outer s H E hr => ?_
  exact (pds_cons (pds_set (i := 3) sc_common_views.nd (px_of (pd_make0 (n := 0) M_Basis_init G_Basis_init (hr.mono (by decide)) rfl T.g_Basis b_Basis_init)))
      (pds_cons (pds_for PassesOwn.never rfl (pdi_lst (px_of (pd_call [false, false] G_masks_of (hr.mono (by decide)) rfl m_masks_of k_masks_of b_masks_of (pda_cons (pd_name 0) (pda_cons (pd_name 1) pda_nil))))) (pt_nm sc_common_views.nd)
      (pds_one (pds_expr (px_meth (n := 0) 3 [true, false, false] rfl (by first | exact Or.inl rfl | exact Or.inr (Or.inl rfl) | exact Or.inr (Or.inr rfl)) (by decide) (by decide) T.cl_Basis m_Basis_put G_Basis_put (hr.mono (by decide)) b_Basis_put (pxa_of (pda_cons (pd_name 4) (pda_cons (pd_name 4) pda_nil)))))))
      (pds_cons (pds_set (i := 5) sc_common_views.nd (px_of (pd_lst pda_nil)))
      (pds_cons (pds_for PassesOwn.never rfl (pdi_lst (px_of (pd_call [false, false] G_masks_of (hr.mono (by decide)) rfl m_masks_of k_masks_of b_masks_of (pda_cons (pd_name 0) (pda_cons (pd_name 2) pda_nil))))) (pt_nm sc_common_views.nd)
      (pds_cons (pds_unp (px_meth (n := 0) 3 [true, false, false] rfl (by first | exact Or.inl rfl | exact Or.inr (Or.inl rfl) | exact Or.inr (Or.inr rfl)) (by decide) (by decide) T.cl_Basis m_Basis_put G_Basis_put (hr.mono (by decide)) b_Basis_put (pxa_of (pda_cons (pd_name 4) (pda_cons pd_int pda_nil)))) (pt_tp rfl (pts_cons' (pt_nm sc_common_views.nd) (pts_cons' (pt_nm sc_common_views.nd) pts_nil'))))
      (pds_one (pds_if (pxt_of (PDW.t (pdw_and (pdt_cmp (op_eqD hr.units) s_eq (pd_name 6) pd_int (nomark _)) (pdw_and (pdt_cmp (op_neD hr.units) s_ne (pd_name 7) pd_int (nomark _)) (pdw_and1 (pdt_cmp op_gt s_gt (pd_call [false] G_rank_of (hr.mono (by decide)) rfl m_rank_of k_rank_of b_rank_of (pda_cons (pd_bin op_addA s_addA (pd_name 5) (pd_lst (pda_cons (pd_name 7) pda_nil))) pda_nil)) (pd_callB call_len' s_len rfl T.b_len (by decide +kernel) (pda_cons (pd_name 5) pda_nil)) (nomark _)))))))
      (pds_one (pds_expr (px_mutP 0 PySem.F.slot_list_append PySem.F.type_list_append mt_append m_append (pd_name 5) (pda_cons (pd_name 7) pda_nil))))
      pds_nil))))
      (pds_one (pds_ret (px_of (pd_lc (own := [("way", 7)]) rfl sc_common_views.nd (pdp_lst (pd_name 5)) (blkOk_by (own := [("way", 7)]) (N := N_common_views) (sc := defScope s_common_views) (by decide +kernel)) (fun _ _ _ _ _ => (pt_nm sc_common_views.nd)) (fun _ _ _ _ _ => pdt_yes) (fun _ _ _ _ _ => (pd_call [false] G_coins_of (hr.mono (by decide)) rfl m_coins_of k_coins_of b_coins_of (pda_cons (pd_name 7) pda_nil)))))))))))
theorem ok_value {f : Addr} {fd : FuncData} (T : Txt K mg) (F : Fun K "value" "value" s_value f fd) : FnG P w K mg base CX0 1 f fd ["row", "table"] (SpI K f_value) := by
  refine def_ok (k := 0) (N := N_value) (lk := lk_value) (fS := F_value) F sc_value fun cdv A outer s H E hr => ?_
  exact (pds_one (pds_ret (px_of (pd_callB (cr_sum rfl) s_sum rfl T.b_sum (by decide +kernel) (pda_cons (pd_lc (own := [("one", 2), ("other", 3)]) rfl sc_value.nd (pdp_zip rfl T.b_zip (pda_cons (pd_name 0) (pda_cons (pd_name 1) pda_nil))) (blkOk_by (own := [("one", 2), ("other", 3)]) (N := N_value) (sc := defScope s_value) (by decide +kernel)) (fun _ _ _ _ _ => (pt_tp rfl (pts_cons' (pt_nm sc_value.nd) (pts_cons' (pt_nm sc_value.nd) pts_nil')))) (fun _ _ _ _ _ => pdt_yes) (fun _ _ _ _ _ => (pd_bin op_mulA s_mulA (pd_name 2) (pd_name 3)))) pda_nil)))))
theorem ok_greatest {f : Addr} {fd : FuncData} (T : Txt K mg) (F : Fun K "greatest" "greatest" s_greatest f fd) : FnG P w K mg base CX0 1 f fd ["n"] (SpI K f_greatest) := by
  refine def_ok (k := 0) (N := N_greatest) (lk := lk_greatest) (fS := F_greatest) F sc_greatest fun cdv A outer s H E hr => ?_
  exact (pds_cons (pds_if (pxt_of (PDW.t (pdw_or (pdt_cmp op_lt s_lt (pd_name 0) pd_int (nomark _)) (pdw_or1 (pdt_cmp op_gt s_gt (pd_name 0) (pd_glob (d := (.int 4)) rfl T.c_MOST.choose_spec ⟨_, rfl⟩ rfl) (nomark _))))))
      (pds_one pds_never)
      pds_nil)
      (pds_one (pds_ret (px_of (pd_bin op_sub s_sub (pd_bin op_shl s_shl pd_int (pd_name 0)) pd_int)))))
theorem ok_look_at {f : Addr} {fd : FuncData} (T : Txt K mg) (F : Fun K "look_at" "look_at" s_look_at f fd) (D_greatest : Df P w K mg base "greatest" 1 ["n"] f_greatest) : FnG P w K mg base CX0 2 f fd ["n", "some"] (SpI K f_look_at) := by
  obtain ⟨a_greatest, d_greatest, m_greatest, k_greatest, b_greatest, G_greatest⟩ := D_greatest.ex
  refine def_ok (k := 1) (N := N_look_at) (lk := lk_look_at) (fS := F_look_at) F sc_look_at fun cdv A outer s H E hr => ?_
  exact (pds_cons (pds_set (i := 2) sc_look_at.nd (px_of (pd_call [false] G_greatest (hr.mono (by decide)) rfl m_greatest k_greatest b_greatest (pda_cons (pd_name 0) pda_nil))))
      (pds_one (pds_for PassesOwn.never rfl (pdi_lst (px_of (pd_name 1))) (pt_tp rfl (pts_cons' (pt_nm sc_look_at.nd) (pts_cons' (pt_nm sc_look_at.nd) pts_nil')))
      (pds_one (pds_if (pxt_of (PDW.t (pdw_or (pdt_cmp op_lt s_lt (pd_name 3) (pd_name 4) (nomark _)) (pdw_or1 (pdt_cmp op_gt s_gt (pd_name 3) (pd_name 2) (nomark _))))))
      (pds_one pds_never)
      pds_nil)))))
theorem ok_row_of {f : Addr} {fd : FuncData} (T : Txt K mg) (F : Fun K "row_of" "row_of" s_row_of f fd) (D_greatest : Df P w K mg base "greatest" 1 ["n"] f_greatest) : FnG P w K mg base CX0 2 f fd ["n", "terms"] (SpI K f_row_of) := by
  obtain ⟨a_greatest, d_greatest, m_greatest, k_greatest, b_greatest, G_greatest⟩ := D_greatest.ex
  refine def_ok (k := 1) (N := N_row_of) (lk := lk_row_of) (fS := F_row_of) F sc_row_of fun cdv A outer s H E hr => ?_
  exact (pds_cons (pds_setLc (i := 2) (own := [("group", 3)]) rfl sc_row_of.nd rfl rfl (sw_true rfl rfl rfl (by decide +kernel)) (pdp_of (pdr_range1 rfl T.b_range (pda_cons (pd_call [false] G_greatest (hr.mono (by decide)) rfl m_greatest k_greatest b_greatest (pda_cons (pd_name 0) pda_nil)) pda_nil))) (blkOk_by (own := [("group", 3)]) (N := N_row_of) (sc := defScope s_row_of) (by decide +kernel)) (fun _ _ _ _ _ => (pt_nm sc_row_of.nd)) (fun _ _ _ _ _ => pdt_yes) (fun _ _ _ _ _ => pd_int))
      (pds_cons (pds_for PassesOwn.never rfl (pdi_lst (px_of (pd_name 1))) (pt_tp rfl (pts_cons' (pt_nm sc_row_of.nd) (pts_cons' (pt_nm sc_row_of.nd) pts_nil')))
      (pds_one (pds_if (pxt_of (pdt_cmp op_gt s_gt (pd_name 3) pd_int (nomark _)))
      (pds_one (pds_augI ip_add (pd_name 2) (pd_bin op_sub s_sub (pd_name 3) pd_int) (pd_name 4)))
      pds_nil)))
      (pds_one (pds_ret (px_of (pd_name 2))))))
theorem ok_shared {f : Addr} {fd : FuncData} (T : Txt K mg) (F : Fun K "shared" "shared" s_shared f fd) (D_look_at : Df P w K mg base "look_at" 2 ["n", "some"] f_look_at) (D_row_of : Df P w K mg base "row_of" 2 ["n", "terms"] f_row_of) : FnG P w K mg base CX0 3 f fd ["n", "a", "b", "c"] (SpI K f_shared) := by
  obtain ⟨a_look_at, d_look_at, m_look_at, k_look_at, b_look_at, G_look_at⟩ := D_look_at.ex
  obtain ⟨a_row_of, d_row_of, m_row_of, k_row_of, b_row_of, G_row_of⟩ := D_row_of.ex
  refine def_ok (k := 2) (N := N_shared) (lk := lk_shared) (fS := F_shared) F sc_shared fun cdv A outer s H E hr => ?_
  exact (pds_cons (pds_expr (px_of (pd_call [false, false] G_look_at (hr.mono (by decide)) rfl m_look_at k_look_at b_look_at (pda_cons (pd_name 0) (pda_cons (pd_lst (pda_cons (pd_tup (pda_cons (pd_name 1) (pda_cons pd_int pda_nil))) (pda_cons (pd_tup (pda_cons (pd_name 2) (pda_cons pd_int pda_nil))) (pda_cons (pd_tup (pda_cons (pd_name 3) (pda_cons pd_int pda_nil))) pda_nil)))) pda_nil)))))
      (pds_one (pds_ret (px_of (pd_call [false, false] G_row_of (hr.mono (by decide)) rfl m_row_of k_row_of b_row_of (pda_cons (pd_name 0) (pda_cons (pd_lst (pda_cons (pd_tup (pda_cons (pd_bin op_or s_or (pd_name 1) (pd_name 3)) (pda_cons pd_int pda_nil))) (pda_cons (pd_tup (pda_cons (pd_bin op_or s_or (pd_name 2) (pd_name 3)) (pda_cons pd_int pda_nil))) (pda_cons (pd_tup (pda_cons (pd_bin op_or s_or (pd_bin op_or s_or (pd_name 1) (pd_name 2)) (pd_name 3)) (pda_cons (pd_un un_neg sU pd_int) pda_nil))) (pda_cons (pd_tup (pda_cons (pd_name 3) (pda_cons (pd_un un_neg sU pd_int) pda_nil))) pda_nil))))) pda_nil)))))))
theorem ok_coin_table {f : Addr} {fd : FuncData} (T : Txt K mg) (F : Fun K "coin_table" "coin_table" s_coin_table f fd) (D_rank_of : Df P w K mg base "rank_of" 4 ["masks"] f_rank_of) (D_masks_of : Df P w K mg base "masks_of" 3 ["heap", "g"] f_masks_of) : FnG P w K mg base CX0 5 f fd ["heap"] (SpI K f_coin_table) := by
  obtain ⟨a_rank_of, d_rank_of, m_rank_of, k_rank_of, b_rank_of, G_rank_of⟩ := D_rank_of.ex
  obtain ⟨a_masks_of, d_masks_of, m_masks_of, k_masks_of, b_masks_of, G_masks_of⟩ := D_masks_of.ex
  refine def_ok (k := 4) (N := N_coin_table) (lk := lk_coin_table) (fS := F_coin_table) F sc_coin_table fun cdv A outer s H E hr => ?_
  exact (pds_one (pds_ret (px_of (pd_lc (own := [("g", 1)]) rfl sc_coin_table.nd (pdp_of (pdr_range2 rfl T.b_range (pda_cons pd_int (pda_cons (pd_bin op_shl s_shl pd_int (pd_callB call_len' s_len rfl T.b_len (by decide +kernel) (pda_cons (pd_ixr ix_seq s_idx (pd_name 0) pd_int (fun _ _ => rfl)) pda_nil))) pda_nil)))) (blkOk_by (own := [("g", 1)]) (N := N_coin_table) (sc := defScope s_coin_table) (by decide +kernel)) (fun _ _ _ _ _ => (pt_nm sc_coin_table.nd)) (fun _ _ _ _ _ => pdt_yes) (fun _ _ _ _ _ => (pd_call [false] G_rank_of (hr.mono (by decide)) rfl m_rank_of k_rank_of b_rank_of (pda_cons (pd_call [false, false] G_masks_of (hr.mono (by decide)) rfl m_masks_of k_masks_of b_masks_of (pda_cons (pd_name 0) (pda_cons (pd_name 1) pda_nil))) pda_nil)))))))
theorem ok_greater_by {f : Addr} {fd : FuncData} (T : Txt K mg) (F : Fun K "greater_by" "greater_by" s_greater_by f fd) (D_masks_of : Df P w K mg base "masks_of" 3 ["heap", "g"] f_masks_of) (D_rank_of : Df P w K mg base "rank_of" 4 ["masks"] f_rank_of) (D_mask_of : Df P w K mg base "mask_of" 1 ["coins"] f_mask_of) : FnG P w K mg base CX0 5 f fd ["heap", "name", "views"] (SpI K f_greater_by) := by
  obtain ⟨a_masks_of, d_masks_of, m_masks_of, k_masks_of, b_masks_of, G_masks_of⟩ := D_masks_of.ex
  obtain ⟨a_rank_of, d_rank_of, m_rank_of, k_rank_of, b_rank_of, G_rank_of⟩ := D_rank_of.ex
  obtain ⟨a_mask_of, d_mask_of, m_mask_of, k_mask_of, b_mask_of, G_mask_of⟩ := D_mask_of.ex
  refine def_ok (k := 4) (N := N_greater_by) (lk := lk_greater_by) (fS := F_greater_by) F sc_greater_by fun cdv A outer s H E hr => ?_
  exact (pds_cons (pds_set (i := 3) sc_greater_by.nd (px_of (pd_call [false, false] G_masks_of (hr.mono (by decide)) rfl m_masks_of k_masks_of b_masks_of (pda_cons (pd_name 0) (pda_cons (pd_bin op_shl s_shl pd_int (pd_name 1)) pda_nil)))))
      (pds_one (pds_ret (px_of (pd_bin op_sub s_sub (pd_call [false] G_rank_of (hr.mono (by decide)) rfl m_rank_of k_rank_of b_rank_of (pda_cons (pd_bin op_addA s_addA (pd_name 3) (pd_lc (own := [("view", 4)]) rfl sc_greater_by.nd (pdp_lst (pd_name 2)) (blkOk_by (own := [("view", 4)]) (N := N_greater_by) (sc := defScope s_greater_by) (by decide +kernel)) (fun _ _ _ _ _ => (pt_nm sc_greater_by.nd)) (fun _ _ _ _ _ => pdt_yes) (fun _ _ _ _ _ => (pd_call [false] G_mask_of (hr.mono (by decide)) rfl m_mask_of k_mask_of b_mask_of (pda_cons (pd_name 4) pda_nil))))) pda_nil)) (pd_call [false] G_rank_of (hr.mono (by decide)) rfl m_rank_of k_rank_of b_rank_of (pda_cons (pd_name 3) pda_nil)))))))
theorem ok_four_shown {f : Addr} {fd : FuncData} (T : Txt K mg) (F : Fun K "four_shown" "four_shown" s_four_shown f fd) (D_common_views : Df P w K mg base "common_views" 5 ["heap", "a", "b"] f_common_views) (D_value : Df P w K mg base "value" 1 ["row", "table"] f_value) (D_coin_table : Df P w K mg base "coin_table" 5 ["heap"] f_coin_table) (D_shared : Df P w K mg base "shared" 3 ["n", "a", "b", "c"] f_shared) (D_greater_by : Df P w K mg base "greater_by" 5 ["heap", "name", "views"] f_greater_by) : FnG P w K mg base CX0 6 f fd ["heap", "i", "j", "k", "l"] (SpI K f_four_shown) := by
  obtain ⟨a_common_views, d_common_views, m_common_views, k_common_views, b_common_views, G_common_views⟩ := D_common_views.ex
  obtain ⟨a_value, d_value, m_value, k_value, b_value, G_value⟩ := D_value.ex
  obtain ⟨a_coin_table, d_coin_table, m_coin_table, k_coin_table, b_coin_table, G_coin_table⟩ := D_coin_table.ex
  obtain ⟨a_shared, d_shared, m_shared, k_shared, b_shared, G_shared⟩ := D_shared.ex
  obtain ⟨a_greater_by, d_greater_by, m_greater_by, k_greater_by, b_greater_by, G_greater_by⟩ := D_greater_by.ex
  refine def_ok (k := 5) (N := N_four_shown) (lk := lk_four_shown) (fS := F_four_shown) F sc_four_shown fun cdv A outer s H E hr => ?_
  exact (pds_cons (pds_set (i := 5) sc_four_shown.nd (px_of (pd_call [false, false, false] G_common_views (hr.mono (by decide)) rfl m_common_views k_common_views b_common_views (pda_cons (pd_name 0) (pda_cons (pd_bin op_shl s_shl pd_int (pd_name 1)) (pda_cons (pd_bin op_shl s_shl pd_int (pd_name 2)) pda_nil))))))
      (pds_cons (pds_set (i := 6) sc_four_shown.nd (px_of (pd_call [false, false] G_value (hr.mono (by decide)) rfl m_value k_value b_value (pda_cons (pd_call [false, false, false, false] G_shared (hr.mono (by decide)) rfl m_shared k_shared b_shared (pda_cons (pd_glob (d := (.int 4)) rfl T.c_NAMES.choose_spec ⟨_, rfl⟩ rfl) (pda_cons (pd_bin op_shl s_shl pd_int (pd_name 3)) (pda_cons (pd_bin op_shl s_shl pd_int (pd_name 4)) (pda_cons pd_int pda_nil))))) (pda_cons (pd_call [false] G_coin_table (hr.mono (by decide)) rfl m_coin_table k_coin_table b_coin_table (pda_cons (pd_name 0) pda_nil)) pda_nil)))))
      (pds_one (pds_retO (px_of (pd_tup (pda_cons (pd_name 5) (pda_cons (pd_tup (pda_cons (pd_callB call_len' s_len rfl T.b_len (by decide +kernel) (pda_cons (pd_name 5) pda_nil)) (pda_cons (pd_call [false, false, false] G_greater_by (hr.mono (by decide)) rfl m_greater_by k_greater_by b_greater_by (pda_cons (pd_name 0) (pda_cons (pd_name 3) (pda_cons (pd_name 5) pda_nil)))) (pda_cons (pd_call [false, false, false] G_greater_by (hr.mono (by decide)) rfl m_greater_by k_greater_by b_greater_by (pda_cons (pd_name 0) (pda_cons (pd_name 4) (pda_cons (pd_name 5) pda_nil)))) (pda_cons (pd_name 6) pda_nil))))) pda_nil))))))))
theorem ok__law_masks {f : Addr} {fd : FuncData} (T : Txt K mg) (F : Fun K "_law_masks" "_law_masks" s__law_masks f fd) : FnG P w K mg base CX0 1 f fd ["_law_heap_here", "_law_names"] (SpI K f__law_masks) := by
  refine def_ok (k := 0) (N := N__law_masks) (lk := lk__law_masks) (fS := F__law_masks) F sc__law_masks fun cdv A outer s H E hr => ?_
  exact (pds_cons (pds_set (i := 2) sc__law_masks.nd (px_of (pd_lst pda_nil)))
      (pds_cons (pds_for PassesOwn.never rfl (pdi_lst (px_of (pd_name 1))) (pt_nm sc__law_masks.nd)
      (pds_one (pds_set (i := 2) sc__law_masks.nd (px_of (pd_bin op_addA s_addA (pd_name 2) (pd_lc (own := [("_law_view", 4)]) rfl sc__law_masks.nd (pdp_lst (pd_ixr ix_seq s_idx (pd_ixr ix_seq s_idx (pd_name 0) pd_int (fun _ _ => rfl)) (pd_name 3) (fun _ _ => rfl))) (blkOk_by (own := [("_law_view", 4)]) (N := N__law_masks) (sc := defScope s__law_masks) (by decide +kernel)) (fun _ _ _ _ _ => (pt_nm sc__law_masks.nd)) (fun _ _ _ _ _ => pdt_yes) (fun _ _ _ _ _ => (pd_callB (cr_sum rfl) s_sum rfl T.b_sum (by decide +kernel) (pda_cons (pd_lc (own := [("_law_coin", 5)]) rfl sc__law_masks.nd (pdp_lst (pd_name 4)) (blkOk_by (own := [("_law_coin", 5)]) (N := N__law_masks) (sc := relS _ (defScope s__law_masks)) (by decide +kernel)) (fun _ _ _ _ _ => (pt_nm sc__law_masks.nd)) (fun _ _ _ _ _ => pdt_yes) (fun _ _ _ _ _ => (pd_bin op_shl s_shl pd_int (pd_name 5)))) pda_nil)))))))))
      (pds_one (pds_ret (px_of (pd_name 2))))))
theorem ok__law_rank {f : Addr} {fd : FuncData} (T : Txt K mg) (F : Fun K "_law_rank" "_law_rank" s__law_rank f fd) : FnG P w K mg base CX0 1 f fd ["_law_masks_here"] (SpI K f__law_rank) := by
  refine def_ok (k := 0) (N := N__law_rank) (lk := lk__law_rank) (fS := F__law_rank) F sc__law_rank fun cdv A outer s H E hr => ?_
  exact (pds_cons (pds_set (i := 1) sc__law_rank.nd (px_of (pd_lst pda_nil)))
      (pds_cons (pds_for PassesOwn.never rfl (pdi_lst (px_of (pd_name 0))) (pt_nm sc__law_rank.nd)
      (pds_cons (pds_forO (lk' := lo__law_rank_0) (i := 1) (x := 3) PassesOwn.never rfl sc__law_rank.nd rfl rfl (by first | exact Or.inl rfl | exact Or.inr (Or.inl rfl) | exact Or.inr (Or.inr rfl)) (by decide) (by decide) (by first | exact .inl rfl | exact .inr rfl) (by first | exact .inl rfl | exact .inr rfl) (fun j h => by simp only [lo__law_rank_0, h, Bool.true_or]) rfl rfl
      (pds_one (pds_set (i := 2) sc__law_rank.nd (px_of (pd_callB (call_minA rfl) s_minA rfl T.b_min (by decide +kernel) (pda_cons (pd_name 2) (pda_cons (pd_bin op_xor s_xor (pd_name 2) (pd_name 3)) pda_nil)))))))
      (pds_one (pds_if (pxt_of (pdt_cmp op_gt s_gt (pd_name 2) pd_int (nomark _)))
      (pds_one (pds_expr (px_mutP 0 PySem.F.slot_list_append PySem.F.type_list_append mt_append m_append (pd_name 1) (pda_cons (pd_name 2) pda_nil))))
      pds_nil))))
      (pds_one (pds_ret (px_of (pd_callB call_len' s_len rfl T.b_len (by decide +kernel) (pda_cons (pd_name 1) pda_nil)))))))
theorem ok__law_views {f : Addr} {fd : FuncData} (T : Txt K mg) (F : Fun K "_law_views" "_law_views" s__law_views f fd) (D__law_masks : Df P w K mg base "_law_masks" 1 ["_law_heap_here", "_law_names"] f__law_masks) (D__law_rank : Df P w K mg base "_law_rank" 1 ["_law_masks_here"] f__law_rank) : FnG P w K mg base CX0 2 f fd ["_law_found", "_law_heap_here", "_law_order_here"] (SpI K f__law_views) := by
  obtain ⟨a__law_masks, d__law_masks, m__law_masks, k__law_masks, b__law_masks, G__law_masks⟩ := D__law_masks.ex
  obtain ⟨a__law_rank, d__law_rank, m__law_rank, k__law_rank, b__law_rank, G__law_rank⟩ := D__law_rank.ex
  refine def_ok (k := 1) (N := N__law_views) (lk := lk__law_views) (fS := F__law_views) F sc__law_views fun cdv A outer s H E hr => ?_
  exact (pds_cons (pds_if (pxt_of (pdt_not (pdt_val (pd_isi (kitT_ok (T := "list") (by decide)) rfl T.b_isinstance rfl T.b_list (by decide +kernel) (pd_name 0) (by decide +kernel)))))
      (pds_one (pds_ret (px_of pd_bl)))
      pds_nil)
      (pds_cons (pds_for PassesOwn.never rfl (pdi_lst (px_of (pd_name 0))) (pt_nm sc__law_views.nd)
      (pds_cons (pds_if (pxt_of (PDW.t (pdw_or (pdt_not (pdt_val (pd_isi (kitT_ok (T := "list") (by decide)) rfl T.b_isinstance rfl T.b_list (by decide +kernel) (pd_name 3) (by decide +kernel)))) (pdw_or1 (pdt_cmp (op_neD hr.units) s_ne (pd_name 3) (pd_SS rfl rfl T.b_sorted (by decide +kernel) rfl T.b_set (by decide +kernel) (pda_cons (pd_name 3) pda_nil)) (nomark _))))))
      (pds_one (pds_ret (px_of pd_bl)))
      pds_nil)
      (pds_one (pds_for PassesOwn.never rfl (pdi_lst (px_of (pd_name 3))) (pt_nm sc__law_views.nd)
      (pds_one (pds_if (pxt_of (PDW.t (pdw_or (pdt_val (pd_isi (kitT_ok (T := "bool") (by decide)) rfl T.b_isinstance rfl T.b_bool (by decide +kernel) (pd_name 4) (by decide +kernel))) (pdw_or (pdt_not (pdt_val (pd_isi (kitT_ok (T := "int") (by decide)) rfl T.b_isinstance rfl T.b_int (by decide +kernel) (pd_name 4) (by decide +kernel)))) (pdw_or (pdt_cmp op_lt s_lt (pd_name 4) pd_int (nomark _)) (pdw_or1 (pdt_cmp op_ge s_ge (pd_name 4) (pd_ixr ix_seq s_idx (pd_name 1) pd_int (fun _ _ => rfl)) (nomark _))))))))
      (pds_one (pds_ret (px_of pd_bl)))
      pds_nil))))))
      (pds_cons (pds_setLc (i := 5) (own := [("_law_view", 3)]) rfl sc__law_views.nd rfl rfl (sw_true rfl rfl rfl (by decide +kernel)) (pdp_lst (pd_name 0)) (blkOk_by (own := [("_law_view", 3)]) (N := N__law_views) (sc := defScope s__law_views) (by decide +kernel)) (fun _ _ _ _ _ => (pt_nm sc__law_views.nd)) (fun _ _ _ _ _ => pdt_yes) (fun _ _ _ _ _ => (pd_callB (cr_sum rfl) s_sum rfl T.b_sum (by decide +kernel) (pda_cons (pd_lc (own := [("_law_coin", 4)]) rfl sc__law_views.nd (pdp_lst (pd_name 3)) (blkOk_by (own := [("_law_coin", 4)]) (N := N__law_views) (sc := relS _ (defScope s__law_views)) (by decide +kernel)) (fun _ _ _ _ _ => (pt_nm sc__law_views.nd)) (fun _ _ _ _ _ => pdt_yes) (fun _ _ _ _ _ => (pd_bin op_shl s_shl pd_int (pd_name 4)))) pda_nil))))
      (pds_cons (pds_set (i := 6) sc__law_views.nd (px_of (pd_call [false, false] G__law_masks (hr.mono (by decide)) rfl m__law_masks k__law_masks b__law_masks (pda_cons (pd_name 1) (pda_cons (pd_slice (pd_name 2) pdo_none (pdo_some pd_int)) pda_nil)))))
      (pds_cons (pds_set (i := 7) sc__law_views.nd (px_of (pd_call [false, false] G__law_masks (hr.mono (by decide)) rfl m__law_masks k__law_masks b__law_masks (pda_cons (pd_name 1) (pda_cons (pd_slice (pd_name 2) (pdo_some pd_int) (pdo_some pd_int)) pda_nil)))))
      (pds_cons (pds_if (pxt_of (PDW.t (pdw_or (pdt_cmp (op_neD hr.units) s_ne (pd_call [false] G__law_rank (hr.mono (by decide)) rfl m__law_rank k__law_rank b__law_rank (pda_cons (pd_bin op_addA s_addA (pd_name 6) (pd_name 5)) pda_nil)) (pd_call [false] G__law_rank (hr.mono (by decide)) rfl m__law_rank k__law_rank b__law_rank (pda_cons (pd_name 6) pda_nil)) (nomark _)) (pdw_or1 (pdt_cmp (op_neD hr.units) s_ne (pd_call [false] G__law_rank (hr.mono (by decide)) rfl m__law_rank k__law_rank b__law_rank (pda_cons (pd_bin op_addA s_addA (pd_name 7) (pd_name 5)) pda_nil)) (pd_call [false] G__law_rank (hr.mono (by decide)) rfl m__law_rank k__law_rank b__law_rank (pda_cons (pd_name 7) pda_nil)) (nomark _))))))
      (pds_one (pds_ret (px_of pd_bl)))
      pds_nil)
      (pds_cons (pds_set (i := 8) sc__law_views.nd (px_of (pd_bin op_sub s_sub (pd_bin op_addA s_addA (pd_call [false] G__law_rank (hr.mono (by decide)) rfl m__law_rank k__law_rank b__law_rank (pda_cons (pd_name 6) pda_nil)) (pd_call [false] G__law_rank (hr.mono (by decide)) rfl m__law_rank k__law_rank b__law_rank (pda_cons (pd_name 7) pda_nil))) (pd_call [false] G__law_rank (hr.mono (by decide)) rfl m__law_rank k__law_rank b__law_rank (pda_cons (pd_bin op_addA s_addA (pd_name 6) (pd_name 7)) pda_nil)))))
      (pds_one (pds_ret (px_of (pd_and (pd_cmp (op_eqD hr.units) s_eq (pd_callB call_len' s_len rfl T.b_len (by decide +kernel) (pda_cons (pd_name 0) pda_nil)) (pd_name 8) (nomark _)) (pd_one (pd_cmp (op_eqD hr.units) s_eq (pd_call [false] G__law_rank (hr.mono (by decide)) rfl m__law_rank k__law_rank b__law_rank (pda_cons (pd_name 5) pda_nil)) (pd_name 8) (nomark _))))))))))))))
theorem ok__law_numbers {f : Addr} {fd : FuncData} (T : Txt K mg) (F : Fun K "_law_numbers" "_law_numbers" s__law_numbers f fd) (D__law_masks : Df P w K mg base "_law_masks" 1 ["_law_heap_here", "_law_names"] f__law_masks) (D__law_rank : Df P w K mg base "_law_rank" 1 ["_law_masks_here"] f__law_rank) : FnG P w K mg base CX0 2 f fd ["_law_found", "_law_heap_here", "_law_order_here"] (SpI K f__law_numbers) := by
  obtain ⟨a__law_masks, d__law_masks, m__law_masks, k__law_masks, b__law_masks, G__law_masks⟩ := D__law_masks.ex
  obtain ⟨a__law_rank, d__law_rank, m__law_rank, k__law_rank, b__law_rank, G__law_rank⟩ := D__law_rank.ex
  refine def_ok (k := 1) (N := N__law_numbers) (lk := lk__law_numbers) (fS := F__law_numbers) F sc__law_numbers fun cdv A outer s H E hr => ?_
  exact (pds_cons (pds_setLc (i := 3) (own := [("_law_view", 7)]) rfl sc__law_numbers.nd rfl rfl (sw_true rfl rfl rfl (by decide +kernel)) (pdp_lst (pd_name 0)) (blkOk_by (own := [("_law_view", 7)]) (N := N__law_numbers) (sc := defScope s__law_numbers) (by decide +kernel)) (fun _ _ _ _ _ => (pt_nm sc__law_numbers.nd)) (fun _ _ _ _ _ => pdt_yes) (fun _ _ _ _ _ => (pd_callB (cr_sum rfl) s_sum rfl T.b_sum (by decide +kernel) (pda_cons (pd_lc (own := [("_law_coin", 8)]) rfl sc__law_numbers.nd (pdp_lst (pd_name 7)) (blkOk_by (own := [("_law_coin", 8)]) (N := N__law_numbers) (sc := relS _ (defScope s__law_numbers)) (by decide +kernel)) (fun _ _ _ _ _ => (pt_nm sc__law_numbers.nd)) (fun _ _ _ _ _ => pdt_yes) (fun _ _ _ _ _ => (pd_bin op_shl s_shl pd_int (pd_name 8)))) pda_nil))))
      (pds_cons (pds_set (i := 4) sc__law_numbers.nd (px_of (pd_call [false, false] G__law_masks (hr.mono (by decide)) rfl m__law_masks k__law_masks b__law_masks (pda_cons (pd_name 1) (pda_cons (pd_slice (pd_name 2) (pdo_some pd_int) (pdo_some pd_int)) pda_nil)))))
      (pds_cons (pds_set (i := 5) sc__law_numbers.nd (px_of (pd_call [false, false] G__law_masks (hr.mono (by decide)) rfl m__law_masks k__law_masks b__law_masks (pda_cons (pd_name 1) (pda_cons (pd_slice (pd_name 2) (pdo_some pd_int) pdo_none) pda_nil)))))
      (pds_cons (pds_set (i := 6) sc__law_numbers.nd (px_of (pd_lst (pda_cons (pd_callB call_len' s_len rfl T.b_len (by decide +kernel) (pda_cons (pd_name 3) pda_nil)) (pda_cons (pd_bin op_sub s_sub (pd_call [false] G__law_rank (hr.mono (by decide)) rfl m__law_rank k__law_rank b__law_rank (pda_cons (pd_bin op_addA s_addA (pd_name 4) (pd_name 3)) pda_nil)) (pd_call [false] G__law_rank (hr.mono (by decide)) rfl m__law_rank k__law_rank b__law_rank (pda_cons (pd_name 4) pda_nil))) (pda_cons (pd_bin op_sub s_sub (pd_call [false] G__law_rank (hr.mono (by decide)) rfl m__law_rank k__law_rank b__law_rank (pda_cons (pd_bin op_addA s_addA (pd_name 5) (pd_name 3)) pda_nil)) (pd_call [false] G__law_rank (hr.mono (by decide)) rfl m__law_rank k__law_rank b__law_rank (pda_cons (pd_name 5) pda_nil))) pda_nil))))))
      (pds_one (pds_ret (px_of (pd_callT call_tuple_of s_tupOf rfl T.b_tuple (by decide +kernel) (pda_cons (pd_bin op_addA s_addA (pd_name 6) (pd_lst (pda_cons (pd_bin op_sub s_sub (pd_bin op_addA s_addA (pd_call [false] G__law_rank (hr.mono (by decide)) rfl m__law_rank k__law_rank b__law_rank (pda_cons (pd_name 4) pda_nil)) (pd_call [false] G__law_rank (hr.mono (by decide)) rfl m__law_rank k__law_rank b__law_rank (pda_cons (pd_name 5) pda_nil))) (pd_call [false] G__law_rank (hr.mono (by decide)) rfl m__law_rank k__law_rank b__law_rank (pda_cons (pd_bin op_addA s_addA (pd_name 4) (pd_name 5)) pda_nil))) pda_nil))) pda_nil)))))))))
theorem ok_law {f : Addr} {fd : FuncData} (T : Txt K mg) (F : Fun K "law" "law" s_law f fd) (D__law_heap : Df P w K mg base "_law_heap" 3 ["_law_script", "_law_start", "_law_n"] f__law_heap) (D__law_order : Df P w K mg base "_law_order" 3 ["_law_pile_here", "_law_n"] f__law_order) (D__law_pile : Df P w K mg base "_law_pile" 1 ["_law_script", "_law_k"] f__law_pile) (D_four_shown : Df P w K mg base "four_shown" 6 ["heap", "i", "j", "k", "l"] f_four_shown) (D__law_views : Df P w K mg base "_law_views" 2 ["_law_found", "_law_heap_here", "_law_order_here"] f__law_views) (D__law_numbers : Df P w K mg base "_law_numbers" 2 ["_law_found", "_law_heap_here", "_law_order_here"] f__law_numbers) : FnG P w K mg base CX0 7 f fd ["_law_script"] (SpI K f_law) := by
  obtain ⟨a__law_heap, d__law_heap, m__law_heap, k__law_heap, b__law_heap, G__law_heap⟩ := D__law_heap.ex
  obtain ⟨a__law_order, d__law_order, m__law_order, k__law_order, b__law_order, G__law_order⟩ := D__law_order.ex
  obtain ⟨a__law_pile, d__law_pile, m__law_pile, k__law_pile, b__law_pile, G__law_pile⟩ := D__law_pile.ex
  obtain ⟨a_four_shown, d_four_shown, m_four_shown, k_four_shown, b_four_shown, G_four_shown⟩ := D_four_shown.ex
  obtain ⟨a__law_views, d__law_views, m__law_views, k__law_views, b__law_views, G__law_views⟩ := D__law_views.ex
  obtain ⟨a__law_numbers, d__law_numbers, m__law_numbers, k__law_numbers, b__law_numbers, G__law_numbers⟩ := D__law_numbers.ex
  refine def_ok (k := 6) (N := N_law) (lk := lk_law) (fS := F_law) F sc_law fun cdv A outer s H E hr => ?_
  exact (pds_cons (pds_for PassesOwn.never rfl (pdi_of (pdr_range1 rfl T.b_range (pda_cons pd_int pda_nil))) (pt_nm sc_law.nd)
      (pds_cons (pds_set (i := 2) sc_law.nd (px_of (pd_call [false, false, false] G__law_heap (hr.mono (by decide)) rfl m__law_heap k__law_heap b__law_heap (pda_cons (pd_name 0) (pda_cons (pd_bin op_mulA s_mulA pd_int (pd_name 1)) (pda_cons pd_int pda_nil))))))
      (pds_cons (pds_set (i := 3) sc_law.nd (px_of (pd_call [true, false] G__law_order (hr.mono (by decide)) rfl m__law_order k__law_order b__law_order (pda_cons (pd_call [false, false] G__law_pile (hr.mono (by decide)) rfl m__law_pile k__law_pile b__law_pile (pda_cons (pd_name 0) (pda_cons (pd_bin op_addA s_addA (pd_bin op_mulA s_mulA pd_int (pd_name 1)) pd_int) pda_nil))) (pda_cons pd_int pda_nil)))))
      (pds_cons (pds_set (i := 4) sc_law.nd (px_of (pd_tup (pda_cons (pd_ixr ix_seq s_idx (pd_name 2) pd_int (fun _ _ => rfl)) (pda_cons (pd_lc (own := [("_law_row", 10)]) rfl sc_law.nd (pdp_lst (pd_ixr ix_seq s_idx (pd_name 2) pd_int (fun _ _ => rfl))) (blkOk_by (own := [("_law_row", 10)]) (N := N_law) (sc := defScope s_law) (by decide +kernel)) (fun _ _ _ _ _ => (pt_nm sc_law.nd)) (fun _ _ _ _ _ => pdt_yes) (fun _ _ _ _ _ => (pd_lc (own := [("_law_view", 9)]) rfl sc_law.nd (pdp_lst (pd_name 10)) (blkOk_by (own := [("_law_view", 9)]) (N := N_law) (sc := relS _ (defScope s_law)) (by decide +kernel)) (fun _ _ _ _ _ => (pt_nm sc_law.nd)) (fun _ _ _ _ _ => pdt_yes) (fun _ _ _ _ _ => (pd_callT call_list_of s_listOf rfl T.b_list (by decide +kernel) (pda_cons (pd_name 9) pda_nil)))))) pda_nil)))))
      (pds_one (pds_for PassesOwn.never rfl (pdi_of (pdr_range1 rfl T.b_range (pda_cons pd_int pda_nil))) (pt_nm sc_law.nd)
      (pds_cons (pds_set (i := 6) sc_law.nd (px_of (pd_call [false, false, false, false, false] G_four_shown (hr.mono (by decide)) rfl m_four_shown k_four_shown b_four_shown (pda_cons (pd_name 4) (pda_cons (pd_ixr ix_seq s_idx (pd_name 3) pd_int (fun _ _ => rfl)) (pda_cons (pd_ixr ix_seq s_idx (pd_name 3) pd_int (fun _ _ => rfl)) (pda_cons (pd_ixr ix_seq s_idx (pd_name 3) pd_int (fun _ _ => rfl)) (pda_cons (pd_ixr ix_seq s_idx (pd_name 3) pd_int (fun _ _ => rfl)) pda_nil))))))))
      (pds_cons (pds_if (pxt_of (PDW.t (pdw_or (pdt_not (pdt_val (pd_isi (kitT_ok (T := "tuple") (by decide)) rfl T.b_isinstance rfl T.b_tuple (by decide +kernel) (pd_name 6) (by decide +kernel)))) (pdw_or (pdt_cmp (op_neD hr.units) s_ne (pd_callB call_len' s_len rfl T.b_len (by decide +kernel) (pda_cons (pd_name 6) pda_nil)) pd_int (nomark _)) (pdw_or1 (pdt_not (pdt_val (pd_call [false, false, false] G__law_views (hr.mono (by decide)) rfl m__law_views k__law_views b__law_views (pda_cons (pd_ixr ix_seq s_idx (pd_name 6) pd_int (fun _ _ => rfl)) (pda_cons (pd_name 2) (pda_cons (pd_name 3) pda_nil)))))))))))
      (pds_one (pds_ret (px_of pd_bl)))
      pds_nil)
      (pds_cons (pds_if (pxt_of (pdt_frz (PDW.t (pdw_or (pdt_not (pdt_val (pd_isi (kitT_ok (T := "tuple") (by decide)) rfl T.b_isinstance rfl T.b_tuple (by decide +kernel) (pd_ixr ix_seq s_idx (pd_name 6) pd_int (fun _ _ => rfl)) (by decide +kernel)))) (pdw_or (pdt_cmp (op_neD hr.units) s_ne (pd_ixr ix_seq s_idx (pd_name 6) pd_int (fun _ _ => rfl)) (pd_call [false, false, false] G__law_numbers (hr.mono (by decide)) rfl m__law_numbers k__law_numbers b__law_numbers (pda_cons (pd_ixr ix_seq s_idx (pd_name 6) pd_int (fun _ _ => rfl)) (pda_cons (pd_name 2) (pda_cons (pd_name 3) pda_nil)))) (nomark _)) (pdw_or1 (pdt_cmp (op_neD hr.units) s_ne (pd_name 4) (pd_name 2) (nomark _))))))))
      (pds_one (pds_ret (px_of pd_bl)))
      pds_nil)
      (pds_cons (pds_if (pxt_of (pdt_frz (pdt_cmp (op_neD hr.units) s_ne (pd_lc (own := [("_law_one", 11)]) rfl sc_law.nd (pdp_tup (pd_ixr ix_seq s_idx (pd_name 6) pd_int (fun _ _ => rfl))) (blkOk_by (own := [("_law_one", 11)]) (N := N_law) (sc := defScope s_law) (by decide +kernel)) (fun _ _ _ _ _ => (pt_nm sc_law.nd)) (fun _ _ _ _ _ => pdt_one (PDW.t (pdw_or (pdt_val (pd_isi (kitT_ok (T := "bool") (by decide)) rfl T.b_isinstance rfl T.b_bool (by decide +kernel) (pd_name 11) (by decide +kernel))) (pdw_or1 (pdt_not (pdt_val (pd_isi (kitT_ok (T := "int") (by decide)) rfl T.b_isinstance rfl T.b_int (by decide +kernel) (pd_name 11) (by decide +kernel)))))))) (fun _ _ _ _ _ => (pd_name 11))) (pd_lst pda_nil) (nomark _))))
      (pds_one (pds_ret (px_of pd_bl)))
      pds_nil)
      (pds_cons (pds_setLcZ (i := 7) (own := [("_law_view", 9)]) rfl sc_law.nd rfl rfl (sw_true rfl rfl rfl (by decide +kernel)) (pdp_lst (pd_ixr ix_seq s_idx (pd_name 6) pd_int (fun _ _ => rfl))) (blkOk_by (own := [("_law_view", 9)]) (N := N_law) (sc := defScope s_law) (by decide +kernel)) (fun _ _ _ _ _ => (pt_nm sc_law.nd)) (fun _ _ _ _ _ => pdt_yes) (fun _ _ _ _ _ => (pd_callT call_list_of s_listOf rfl T.b_list (by decide +kernel) (pda_cons (pd_name 9) pda_nil))))
      (pds_cons (pds_forEP (lk' := lo_law_0) (i := 6) (kx := 8) (x := 9) PassesOwn.never rfl sc_law.nd rfl T.b_enumerate (pd_ixr ix_seq s_idx (pd_name 6) pd_int (fun _ _ => rfl)) rfl (by first | exact .inl rfl | exact .inr rfl) (by first | exact .inl rfl | exact .inr rfl) rfl (by first | exact .inl rfl | exact .inr rfl) (by first | exact .inl rfl | exact .inr rfl) (fun j h => by simp only [lo_law_0, h, Bool.true_or]) rfl rfl rfl
      (peb_cons (pds_expr (px_mutP 0 PySem.F.slot_list_append PySem.F.type_list_append mt_append m_append (pd_name 9) (pda_cons pd_int pda_nil)))
      (peb_if (ta := tS K lo_law_0 (sRet lo_law_0 (lif (cst (.bl false))))) (pdt_cmp (op_neD hr.units) s_ne (pd_slice (pd_ixr ix_seq s_idx (pd_name 6) pd_int (fun _ _ => rfl)) (pdo_some (pd_bin op_addA s_addA (pd_name 8) pd_int)) pdo_none) (pd_slice (pd_name 7) (pdo_some (pd_bin op_addA s_addA (pd_name 8) pd_int)) pdo_none) (nomark _)) (pds_one (pds_ret (px_of pd_bl))))))
      (pds_one (pds_expr (px_mut0 9 PySem.F.slot_list_clear PySem.F.type_list_clear mt_clear m_clear (pd_ixr ix_seq s_idx (pd_name 6) pd_int (fun _ _ => rfl)))))))))))))))))
      (pds_one (pds_ret (px_of pd_bl))))
end
end G70
end
section
set_option Elab.async false
set_option linter.all false
set_option maxRecDepth 100000
set_option maxHeartbeats 4000000
namespace G70
open PySem T2
variable [ca : ClsA]
local macro_rules | `(tactic| wtm_at "fn") => `(tactic| ((with_reducible apply g_eq); (with_reducible assumption)))
local macro_rules | `(tactic| wtm_at "put") => `(tactic| (simp only [put_z, put_s]; try rfl))
local macro_rules | `(tactic| wtm_at "sd") => `(tactic| (decide))
local macro_rules | `(tactic| wtm_at "sd") => `(tactic| (solve_by_elim only [*]))
local macro_rules | `(tactic| wtm_at "sd") => `(tactic| (exact Int.lt_of_lt_of_le (mem_rngI2.mp (by (with_reducible assumption))).2 (by omega)))
local macro_rules | `(tactic| wtm_at "sd") => `(tactic| (exact Int.le_trans (by omega) (mem_rngI2.mp (by (with_reducible assumption))).1))
local macro_rules | `(tactic| wtm_at "sd") => `(tactic| (exact Int.lt_of_lt_of_le (mem_rngI.mp (by (with_reducible assumption))).2 (by omega)))
local macro_rules | `(tactic| wtm_at "sd") => `(tactic| (exact rng_nat2 (by (with_reducible assumption)) (by omega) (by omega)))
local macro_rules | `(tactic| wtm_at "sd") => `(tactic| (exact rng_nat (by (with_reducible assumption)) (by omega)))
local macro_rules | `(tactic| wtm_at "sd") => `(tactic| (exact Int.le_of_lt (Int.lt_of_lt_of_le (mem_rngI2.mp (by (with_reducible assumption))).2 (by omega))))
local macro_rules | `(tactic| wtm_at "sd") => `(tactic| (exact Int.le_of_lt (Int.lt_of_lt_of_le (mem_rngI.mp (by (with_reducible assumption))).2 (by omega))))
local macro_rules | `(tactic| wtm_at "sd") => `(tactic| (exact (mem_rngI.mp (by (with_reducible assumption))).1))
local macro_rules | `(tactic| wtm_at "sd") => `(tactic| ((simp only [List.length_map, List.length_replicate, List.length_range, List.length_append, List.length_cons, List.length_nil, List.length_set, rngI_len, rngI2_len, sizeLine]; omega)))
local macro_rules | `(tactic| wtm_at "sd") => `(tactic| (omega))
local macro_rules | `(tactic| wtm_at "sd") => `(tactic| (((with_reducible apply pow2_log); wtm_at "sd")))
local macro_rules | `(tactic| wtm_at "sd") => `(tactic| ((with_reducible exact pow2_pos)))
local macro_rules | `(tactic| wtm_at "sd") => `(tactic| (((with_reducible apply g_prop); (with_reducible assumption))))
local macro_rules | `(tactic| wtm_at "stow") => `(tactic| (rfl))
local macro_rules | `(tactic| wtm_at "stow") => `(tactic| ((with_reducible exact stow_s _)))
local macro_rules | `(tactic| wtm_at "stow") => `(tactic| ((with_reducible exact stow_z _)))
local macro_rules | `(tactic| wtm_at "stow") => `(tactic| ((with_reducible exact stow_f)))
local macro_rules | `(tactic| wtm_at "dats") => `(tactic| (((with_reducible apply dats_w); (focus wtm_at "datW"); wtm_at "dats")))
local macro_rules | `(tactic| wtm_at "dats") => `(tactic| (((with_reducible apply dats_m); (focus rfl); (focus wtm_at "dat0"); wtm_at "dats")))
local macro_rules | `(tactic| wtm_at "dats") => `(tactic| (((with_reducible apply dats_b); (focus (first | rfl | assumption)); wtm_at "dats")))
local macro_rules | `(tactic| wtm_at "dats") => `(tactic| (((with_reducible apply dats_o); wtm_at "dats")))
local macro_rules | `(tactic| wtm_at "dats") => `(tactic| (((with_reducible apply dats_e); wtm_at "dats")))
local macro_rules | `(tactic| wtm_at "dats") => `(tactic| (((with_reducible apply dats_f); wtm_at "dats")))
local macro_rules | `(tactic| wtm_at "dats") => `(tactic| ((with_reducible exact dats_n)))
local macro_rules | `(tactic| wtm_at "gd") => `(tactic| (((with_reducible apply gd_str); first | rfl | decide)))
local macro_rules | `(tactic| wtm_at "gd") => `(tactic| (((with_reducible apply gdL_map); intros; wtm_at "gd")))
local macro_rules | `(tactic| wtm_at "gd") => `(tactic| (((with_reducible apply gdL_c); (focus wtm_at "gd"); wtm_at "gd")))
local macro_rules | `(tactic| wtm_at "gd") => `(tactic| (((with_reducible apply gd_tup); wtm_at "gd")))
local macro_rules | `(tactic| wtm_at "gd") => `(tactic| (((with_reducible apply gd_lst); wtm_at "gd")))
local macro_rules | `(tactic| wtm_at "gd") => `(tactic| ((with_reducible assumption)))
local macro_rules | `(tactic| wtm_at "gd") => `(tactic| ((with_reducible exact gdL_n)))
local macro_rules | `(tactic| wtm_at "gd") => `(tactic| ((with_reducible exact gdL_ints)))
local macro_rules | `(tactic| wtm_at "gd") => `(tactic| ((with_reducible exact gd_lI)))
local macro_rules | `(tactic| wtm_at "gd") => `(tactic| ((with_reducible exact gd_non)))
local macro_rules | `(tactic| wtm_at "gd") => `(tactic| ((with_reducible exact gd_bl)))
local macro_rules | `(tactic| wtm_at "gd") => `(tactic| ((with_reducible exact gd_int)))
local macro_rules | `(tactic| wtm_at "tru0") => `(tactic| ((simp; omega)))
local macro_rules | `(tactic| wtm_at "tru0") => `(tactic| ((with_reducible exact beq_false_of_ne (by omega))))
local macro_rules | `(tactic| wtm_at "tru0") => `(tactic| ((with_reducible exact decide_eq_true (by omega))))
local macro_rules | `(tactic| wtm_at "tru0") => `(tactic| ((with_reducible exact decide_eq_false (by omega))))
local macro_rules | `(tactic| wtm_at "tru0") => `(tactic| ((with_reducible assumption)))
local macro_rules | `(tactic| wtm_at "tru0") => `(tactic| ((with_reducible rfl)))
local macro_rules | `(tactic| wtm_at "tru") => `(tactic| ((simp; omega)))
local macro_rules | `(tactic| wtm_at "tru") => `(tactic| ((simp; done)))
local macro_rules | `(tactic| wtm_at "tru") => `(tactic| ((with_reducible assumption)))
local macro_rules | `(tactic| wtm_at "tru") => `(tactic| (rfl))
local macro_rules | `(tactic| wtm_at "nlc") => `(tactic| (rfl))
local macro_rules | `(tactic| wtm_at "nlc") => `(tactic| ((with_reducible exact nlc_D)))
local macro_rules | `(tactic| wtm_at "nlc") => `(tactic| ((with_reducible exact nlc_B)))
local macro_rules | `(tactic| wtm_at "nlc") => `(tactic| ((with_reducible exact nlc_I)))
local macro_rules | `(tactic| wtm_at "asTm") => `(tactic| (intros; wtm_at "asT"))
local macro_rules | `(tactic| wtm_at "datW") => `(tactic| (intros; first | (with_reducible exact datW_f) | (with_reducible exact datW_oD _) | ((with_reducible apply datW_m); wtm_at "datW") | ((with_reducible apply datW_t); wtm_at "datW") | ((with_reducible apply datW_l); wtm_at "datW") | (with_reducible exact datWL_n) | ((with_reducible apply datWL_c); (focus wtm_at "datW"); wtm_at "datW")))
local macro_rules | `(tactic| wtm_at "lcL") => `(tactic| (skip))
local macro_rules | `(tactic| wtm_at "lcL") => `(tactic| (((with_reducible apply lcL_t); (focus wtm_at "asT"); (focus wtm_at "sx"); (focus wtm_at "tru"); (focus wtm_at "sx"); (focus wtm_at "sx"); wtm_at "lcL")))
local macro_rules | `(tactic| wtm_at "lcL") => `(tactic| (((with_reducible apply lcL_s); (focus wtm_at "asT"); (focus wtm_at "sx"); (focus wtm_at "tru"); wtm_at "lcL")))
local macro_rules | `(tactic| wtm_at "lcL") => `(tactic| ((with_reducible exact lcL_n)))
local macro_rules | `(tactic| wtm_at "mv") => `(tactic| (((with_reducible apply movL_l); (focus wtm_at "g"); wtm_at "mv")))
local macro_rules | `(tactic| wtm_at "mv") => `(tactic| (((with_reducible apply movL_b); (focus rfl); (focus rfl); (focus wtm_at "kill"); wtm_at "mv")))
local macro_rules | `(tactic| wtm_at "mv") => `(tactic| (((with_reducible apply movL_f); wtm_at "mv")))
local macro_rules | `(tactic| wtm_at "mv") => `(tactic| ((with_reducible exact movL_n)))
local macro_rules | `(tactic| wtm_at "asTs") => `(tactic| (((with_reducible apply asTs_c); (focus (wtm_at "asT")); wtm_at "asTs")))
local macro_rules | `(tactic| wtm_at "asTs") => `(tactic| ((with_reducible exact asTs_n)))
local macro_rules | `(tactic| wtm_at "asT") => `(tactic| (intros; first | ((with_reducible apply asT_tp); (focus rfl); wtm_at "asTs") | ((with_reducible apply asT_tl); (focus rfl); wtm_at "asTs") | ((with_reducible apply asT_nm); (focus rfl); (focus rfl); simp only [En.wipe, En.kill, List.set_cons_zero, List.set_cons_succ, put_z, put_s]; try rfl)))
local macro_rules | `(tactic| wtm_at "dat0") => `(tactic| (((with_reducible apply datL0_c); (focus wtm_at "dat0"); wtm_at "dat0")))
local macro_rules | `(tactic| wtm_at "dat0") => `(tactic| ((with_reducible exact datL0_n)))
local macro_rules | `(tactic| wtm_at "dat0") => `(tactic| (((with_reducible apply dat0_t); wtm_at "dat0")))
local macro_rules | `(tactic| wtm_at "dat0") => `(tactic| (((with_reducible apply dat0_l); wtm_at "dat0")))
local macro_rules | `(tactic| wtm_at "dat0") => `(tactic| (((with_reducible apply dat0_map); intros; wtm_at "dat0")))
local macro_rules | `(tactic| wtm_at "dat0") => `(tactic| ((with_reducible exact dat0_o)))
local macro_rules | `(tactic| wtm_at "dat0") => `(tactic| ((with_reducible exact dat0_f)))
local macro_rules | `(tactic| wtm_at "frz") => `(tactic| (rfl))
local macro_rules | `(tactic| wtm_at "frz") => `(tactic| (((with_reducible apply froz_m); wtm_at "dat0")))
local macro_rules | `(tactic| wtm_at "frz") => `(tactic| ((with_reducible exact froz_o)))
local macro_rules | `(tactic| wtm_at "frz") => `(tactic| ((with_reducible exact froz_f)))
local macro_rules | `(tactic| wtm_at "frz") => `(tactic| ((with_reducible exact froz_n)))
local macro_rules | `(tactic| wtm_at "frz") => `(tactic| (((with_reducible apply frozL_c); (focus wtm_at "frz"); wtm_at "frz")))
local macro_rules | `(tactic| wtm_at "frz") => `(tactic| ((with_reducible exact frozL_n)))
local macro_rules | `(tactic| wtm_at "kill") => `(tactic| (simp only [En.kill, En.wipe, En.back, List.set_cons_zero, List.set_cons_succ, get_z, get_s]; try rfl))
local macro_rules | `(tactic| wtm_at "lpO") => `(tactic| (((with_reducible apply lpO_c); (focus wtm_at "put"); (focus wtm_at "sx"); (focus rfl); (focus wtm_at "kill"); wtm_at "lpO")))
local macro_rules | `(tactic| wtm_at "lpO") => `(tactic| ((with_reducible exact lpO_n)))
local macro_rules | `(tactic| wtm_at "op") => `(tactic| (((with_reducible apply g_idxB); rfl)))
local macro_rules | `(tactic| wtm_at "op") => `(tactic| ((with_reducible exact k_idxL4)))
local macro_rules | `(tactic| wtm_at "op") => `(tactic| ((with_reducible exact k_idxT4)))
local macro_rules | `(tactic| wtm_at "op") => `(tactic| ((with_reducible exact k_idxL3)))
local macro_rules | `(tactic| wtm_at "op") => `(tactic| ((with_reducible exact k_idxT3)))
local macro_rules | `(tactic| wtm_at "op") => `(tactic| ((with_reducible exact k_idxL2)))
local macro_rules | `(tactic| wtm_at "op") => `(tactic| ((with_reducible exact k_idxT2)))
local macro_rules | `(tactic| wtm_at "op") => `(tactic| ((with_reducible exact k_idxL1)))
local macro_rules | `(tactic| wtm_at "op") => `(tactic| ((with_reducible exact k_idxT1)))
local macro_rules | `(tactic| wtm_at "op") => `(tactic| ((with_reducible exact k_idxL0)))
local macro_rules | `(tactic| wtm_at "op") => `(tactic| ((with_reducible exact k_idxT0)))
local macro_rules | `(tactic| wtm_at "op") => `(tactic| (wtm_at "fn"))
local macro_rules | `(tactic| wtm_at "op") => `(tactic| ((with_reducible assumption)))
local macro_rules | `(tactic| wtm_at "op") => `(tactic| ((with_reducible exact k_idxO2)))
local macro_rules | `(tactic| wtm_at "op") => `(tactic| ((with_reducible exact k_idxO1)))
local macro_rules | `(tactic| wtm_at "op") => `(tactic| ((with_reducible exact k_idxO0)))
local macro_rules | `(tactic| wtm_at "op") => `(tactic| (((with_reducible apply callB_x); (focus rfl); (focus wtm_at "dats"); (focus wtm_at "env"); (focus wtm_at "all"); (focus first | rfl | (with_reducible assumption) | (with_reducible exact sLf_oI _)))))
local macro_rules | `(tactic| wtm_at "op") => `(tactic| (((with_reducible apply callP_of); (focus wtm_at "g"); wtm_at "all")))
local macro_rules | `(tactic| wtm_at "op") => `(tactic| (((with_reducible apply k_eqGF); (focus wtm_at "dats"); (all_goals (try wtm_at "gd")))))
local macro_rules | `(tactic| wtm_at "op") => `(tactic| (((with_reducible apply k_eqGT); (focus wtm_at "dats"); (all_goals (try wtm_at "gd")))))
local macro_rules | `(tactic| wtm_at "op") => `(tactic| (((with_reducible apply k_eqSF); (focus wtm_at "dats"); (focus wtm_at "gd"); done)))
local macro_rules | `(tactic| wtm_at "op") => `(tactic| (((with_reducible apply k_eqST); (focus wtm_at "dats"); (focus wtm_at "gd"); done)))
local macro_rules | `(tactic| wtm_at "op") => `(tactic| (((with_reducible apply k_eqLF); (focus wtm_at "dats"); done)))
local macro_rules | `(tactic| wtm_at "op") => `(tactic| (((with_reducible apply k_eqLT); (focus wtm_at "dats"); done)))
local macro_rules | `(tactic| wtm_at "op") => `(tactic| (((with_reducible apply k_ninG); (focus wtm_at "dats"); (all_goals (try wtm_at "gd")))))
local macro_rules | `(tactic| wtm_at "op") => `(tactic| (((with_reducible apply k_inG); (focus wtm_at "dats"); (all_goals (try wtm_at "gd")))))
local macro_rules | `(tactic| wtm_at "op") => `(tactic| (((with_reducible apply k_ninB); (focus wtm_at "dats"); done)))
local macro_rules | `(tactic| wtm_at "op") => `(tactic| (((with_reducible apply k_inB); (focus wtm_at "dats"); done)))
local macro_rules | `(tactic| wtm_at "op") => `(tactic| (((with_reducible apply k_ninI); (focus wtm_at "dats"); done)))
local macro_rules | `(tactic| wtm_at "op") => `(tactic| (((with_reducible apply k_inI); (focus wtm_at "dats"); done)))
local macro_rules | `(tactic| wtm_at "op") => `(tactic| ((with_reducible exact k_inT4)))
local macro_rules | `(tactic| wtm_at "op") => `(tactic| ((with_reducible exact k_inT3)))
local macro_rules | `(tactic| wtm_at "op") => `(tactic| ((with_reducible exact k_inT2)))
local macro_rules | `(tactic| wtm_at "op") => `(tactic| (((with_reducible apply listOf_b); rfl)))
local macro_rules | `(tactic| wtm_at "op") => `(tactic| ((with_reducible exact listOf_s)))
local macro_rules | `(tactic| wtm_at "op") => `(tactic| ((with_reducible exact listOf_o)))
local macro_rules | `(tactic| wtm_at "op") => `(tactic| ((with_reducible exact listOf_f)))
local macro_rules | `(tactic| wtm_at "op") => `(tactic| ((with_reducible exact x_clear)))
local macro_rules | `(tactic| wtm_at "op") => `(tactic| (((with_reducible apply x_catFF); wtm_at "sd")))
local macro_rules | `(tactic| wtm_at "op") => `(tactic| (((with_reducible apply x_catOF); wtm_at "sd")))
local macro_rules | `(tactic| wtm_at "op") => `(tactic| (((with_reducible apply x_catFO); wtm_at "sd")))
local macro_rules | `(tactic| wtm_at "op") => `(tactic| (((with_reducible apply x_catBO); (focus rfl); wtm_at "sd")))
local macro_rules | `(tactic| wtm_at "op") => `(tactic| (((with_reducible apply x_catBB); (focus rfl); (focus rfl); wtm_at "sd")))
local macro_rules | `(tactic| wtm_at "op") => `(tactic| (((with_reducible apply x_cat); (all_goals (try wtm_at "sd")))))
local macro_rules | `(tactic| wtm_at "op") => `(tactic| (((with_reducible apply x_mset); (all_goals (try wtm_at "sd")))))
local macro_rules | `(tactic| wtm_at "op") => `(tactic| (((with_reducible apply x_extend); (all_goals (try wtm_at "sd")))))
local macro_rules | `(tactic| wtm_at "op") => `(tactic| (((with_reducible apply x_extendD); (all_goals (try wtm_at "sd")))))
local macro_rules | `(tactic| wtm_at "op") => `(tactic| (((with_reducible apply x_appD); (all_goals (try wtm_at "sd")))))
local macro_rules | `(tactic| wtm_at "op") => `(tactic| (((with_reducible apply x_append); (all_goals (try wtm_at "sd")))))
local macro_rules | `(tactic| wtm_at "op") => `(tactic| ((with_reducible exact k_tupOl2')))
local macro_rules | `(tactic| wtm_at "op") => `(tactic| ((with_reducible exact k_tupOl2)))
local macro_rules | `(tactic| wtm_at "op") => `(tactic| ((with_reducible exact k_tup4)))
local macro_rules | `(tactic| wtm_at "op") => `(tactic| ((with_reducible exact k_tup3)))
local macro_rules | `(tactic| wtm_at "op") => `(tactic| ((with_reducible exact k_tup2)))
local macro_rules | `(tactic| wtm_at "op") => `(tactic| ((with_reducible exact k_tup1)))
local macro_rules | `(tactic| wtm_at "op") => `(tactic| ((with_reducible exact k_tupBp2)))
local macro_rules | `(tactic| wtm_at "op") => `(tactic| (((with_reducible apply x_idxM); (all_goals (try wtm_at "sd")))))
local macro_rules | `(tactic| wtm_at "op") => `(tactic| (((with_reducible apply x_idxO); (all_goals (try wtm_at "sd")))))
local macro_rules | `(tactic| wtm_at "op") => `(tactic| (((with_reducible apply x_idxB); (focus (first | rfl | (with_reducible assumption))); (all_goals (try wtm_at "sd")))))
local macro_rules | `(tactic| wtm_at "op") => `(tactic| (((with_reducible apply x_idxF); (all_goals (try wtm_at "sd")))))
local macro_rules | `(tactic| wtm_at "op") => `(tactic| (((with_reducible apply k_lst); wtm_at "sd")))
local macro_rules | `(tactic| wtm_at "op") => `(tactic| ((with_reducible exact k_lstI6)))
local macro_rules | `(tactic| wtm_at "op") => `(tactic| ((with_reducible exact k_lstI5)))
local macro_rules | `(tactic| wtm_at "op") => `(tactic| ((with_reducible exact k_lstI4)))
local macro_rules | `(tactic| wtm_at "op") => `(tactic| ((with_reducible exact k_lstI3)))
local macro_rules | `(tactic| wtm_at "op") => `(tactic| ((with_reducible exact k_lstI2)))
local macro_rules | `(tactic| wtm_at "op") => `(tactic| ((with_reducible exact k_lstI1)))
local macro_rules | `(tactic| wtm_at "op") => `(tactic| ((with_reducible exact k_lstI0)))
local macro_rules | `(tactic| wtm_at "op") => `(tactic| (((with_reducible apply k_shr); wtm_at "sd")))
local macro_rules | `(tactic| wtm_at "op") => `(tactic| (((with_reducible apply k_shl); all_goals wtm_at "sd")))
local macro_rules | `(tactic| wtm_at "op") => `(tactic| (((with_reducible apply k_pow); all_goals wtm_at "sd")))
local macro_rules | `(tactic| wtm_at "op") => `(tactic| ((with_reducible exact k_inti)))
local macro_rules | `(tactic| wtm_at "op") => `(tactic| ((with_reducible exact k_intb)))
local macro_rules | `(tactic| wtm_at "op") => `(tactic| ((with_reducible exact k_abs)))
local macro_rules | `(tactic| wtm_at "op") => `(tactic| ((with_reducible exact k_neg)))
local macro_rules | `(tactic| wtm_at "op") => `(tactic| ((with_reducible exact k_ge)))
local macro_rules | `(tactic| wtm_at "op") => `(tactic| ((with_reducible exact k_gt)))
local macro_rules | `(tactic| wtm_at "op") => `(tactic| ((with_reducible exact k_le)))
local macro_rules | `(tactic| wtm_at "op") => `(tactic| ((with_reducible exact k_lt)))
local macro_rules | `(tactic| wtm_at "op") => `(tactic| ((with_reducible exact k_or)))
local macro_rules | `(tactic| wtm_at "op") => `(tactic| ((with_reducible exact k_and)))
local macro_rules | `(tactic| wtm_at "op") => `(tactic| ((with_reducible exact k_max2)))
local macro_rules | `(tactic| wtm_at "op") => `(tactic| ((with_reducible exact k_min2)))
local macro_rules | `(tactic| wtm_at "op") => `(tactic| ((with_reducible exact k_minN)))
local macro_rules | `(tactic| wtm_at "op") => `(tactic| ((with_reducible exact k_xor)))
local macro_rules | `(tactic| wtm_at "op") => `(tactic| ((with_reducible exact k_xorN)))
local macro_rules | `(tactic| wtm_at "op") => `(tactic| ((with_reducible exact k_orN)))
local macro_rules | `(tactic| wtm_at "op") => `(tactic| ((with_reducible exact k_andN)))
local macro_rules | `(tactic| wtm_at "op") => `(tactic| (((with_reducible apply k_mul); try wtm_at "mul")))
local macro_rules | `(tactic| wtm_at "op") => `(tactic| (((with_reducible apply k_div); all_goals wtm_at "sd")))
local macro_rules | `(tactic| wtm_at "op") => `(tactic| (((with_reducible apply k_mod); wtm_at "sd")))
local macro_rules | `(tactic| wtm_at "op") => `(tactic| ((with_reducible exact k_eqT)))
local macro_rules | `(tactic| wtm_at "op") => `(tactic| ((with_reducible exact k_eqF)))
local macro_rules | `(tactic| wtm_at "op") => `(tactic| ((with_reducible exact k_sub)))
local macro_rules | `(tactic| wtm_at "op") => `(tactic| ((with_reducible exact k_add)))
local macro_rules | `(tactic| wtm_at "mul") => `(tactic| (solve_by_elim only [*]))
local macro_rules | `(tactic| wtm_at "mul") => `(tactic| (exact cMul_ok 64 1000 (by omega) (by decide) (by decide)))
local macro_rules | `(tactic| wtm_at "mul") => `(tactic| (exact cMul_ok 1000 1000 (by decide) (by decide) (by decide)))
local macro_rules | `(tactic| wtm_at "mul") => `(tactic| (exact cMul_ok 64 64 (by omega) (by decide) (by decide)))
local macro_rules | `(tactic| wtm_at "mul") => `(tactic| (exact cMul_ok 64 64 (by decide) (by omega) (by decide)))
local macro_rules | `(tactic| wtm_at "mul") => `(tactic| (exact cMul_ok 64 64 (by omega) (by omega) (by decide)))
local macro_rules | `(tactic| wtm_at "mul") => `(tactic| ((with_reducible assumption)))
local macro_rules | `(tactic| wtm_at "all") => `(tactic| (skip))
local macro_rules | `(tactic| wtm_at "all") => `(tactic| ((wtm_at "sx"; wtm_at "all")))
local macro_rules | `(tactic| wtm_at "all") => `(tactic| (done))
local macro_rules | `(tactic| wtm_at "sx") => `(tactic| (focus (wtm_at "s1")))
local macro_rules | `(tactic| wtm_at "s1") => `(tactic| (((with_reducible apply g_leN); wtm_at "sd")))
local macro_rules | `(tactic| wtm_at "s1") => `(tactic| (((with_reducible apply g_ltN); wtm_at "sd")))
local macro_rules | `(tactic| wtm_at "s1") => `(tactic| (((with_reducible apply g_le); wtm_at "sd")))
local macro_rules | `(tactic| wtm_at "s1") => `(tactic| (((with_reducible apply g_lt); wtm_at "sd")))
local macro_rules | `(tactic| wtm_at "s1") => `(tactic| (wtm_at "op"))
local macro_rules | `(tactic| wtm_at "s1") => `(tactic| (wtm_at "g"))
local macro_rules | `(tactic| wtm_at "s1") => `(tactic| (((with_reducible apply g_meq); wtm_at "nrm")))
local macro_rules | `(tactic| wtm_at "s1") => `(tactic| (((with_reducible apply x_xop); wtm_at "all")))
local macro_rules | `(tactic| wtm_at "s1") => `(tactic| (((with_reducible apply xbin_of); wtm_at "all")))
local macro_rules | `(tactic| wtm_at "s1") => `(tactic| (((with_reducible apply xcons_of); wtm_at "all")))
local macro_rules | `(tactic| wtm_at "s1") => `(tactic| (((with_reducible apply g_set); (simp only [List.set_cons_zero, List.set_cons_succ]; try rfl))))
local macro_rules | `(tactic| wtm_at "s1") => `(tactic| (((with_reducible apply setE_p1); (focus rfl); (focus rfl); (focus rfl); wtm_at "all")))
local macro_rules | `(tactic| wtm_at "s1") => `(tactic| (((with_reducible apply setE_put); (focus rfl); (all_goals (try wtm_at "put")))))
local macro_rules | `(tactic| wtm_at "s1") => `(tactic| ((with_reducible exact x_yes)))
local macro_rules | `(tactic| wtm_at "s1") => `(tactic| (((with_reducible apply x_lc); (focus wtm_at "sx"); (focus wtm_at "lcL"); wtm_at "all")))
local macro_rules | `(tactic| wtm_at "s1") => `(tactic| (((with_reducible apply x_lcGf); (focus wtm_at "sx"); (focus wtm_at "asTm"); (focus (intros; wtm_at "sx")); (focus (intros; wtm_at "sx")); (focus (intros; wtm_at "g")); (focus wtm_at "sx"); (focus wtm_at "nlc"); done)))
local macro_rules | `(tactic| wtm_at "s1") => `(tactic| (((with_reducible apply x_lcG); (focus wtm_at "sx"); (focus wtm_at "asTm"); (focus (intros; wtm_at "sx")); (focus (intros; wtm_at "g")); (focus wtm_at "sx"); (focus wtm_at "nlc"); done)))
local macro_rules | `(tactic| wtm_at "s1") => `(tactic| ((with_reducible exact items_o)))
local macro_rules | `(tactic| wtm_at "s1") => `(tactic| (((with_reducible apply items_b); first | rfl | (with_reducible assumption))))
local macro_rules | `(tactic| wtm_at "s1") => `(tactic| ((with_reducible exact items_f)))
local macro_rules | `(tactic| wtm_at "s1") => `(tactic| (((with_reducible apply items_lst); wtm_at "all")))
local macro_rules | `(tactic| wtm_at "s1") => `(tactic| (((with_reducible apply inR_of); (all_goals (try wtm_at "sd")))))
local macro_rules | `(tactic| wtm_at "s1") => `(tactic| (((with_reducible apply x_rI2); wtm_at "all")))
local macro_rules | `(tactic| wtm_at "s1") => `(tactic| (((with_reducible apply x_rI1); wtm_at "all")))
local macro_rules | `(tactic| wtm_at "s1") => `(tactic| (((with_reducible apply lifI_of); wtm_at "all")))
local macro_rules | `(tactic| wtm_at "s1") => `(tactic| (((with_reducible apply itX_of); (focus (wtm_at "sx")); (focus (wtm_at "sx")); (focus rfl); (focus rfl))))
local macro_rules | `(tactic| wtm_at "s1") => `(tactic| (((with_reducible apply x_zipP); (focus (wtm_at "sx")); (focus (wtm_at "sx")); (focus (wtm_at "sx")); done)))
local macro_rules | `(tactic| wtm_at "s1") => `(tactic| (((with_reducible apply x_enP); (focus (wtm_at "sx")); (focus (wtm_at "sx")); done)))
local macro_rules | `(tactic| wtm_at "s1") => `(tactic| (((with_reducible apply x_for); wtm_at "all")))
local macro_rules | `(tactic| wtm_at "s1") => `(tactic| (((with_reducible apply x_wh); wtm_at "all")))
local macro_rules | `(tactic| wtm_at "s1") => `(tactic| (((with_reducible apply x_unp); (focus (wtm_at "sx")); (focus (wtm_at "sx")); wtm_at "asT")))
local macro_rules | `(tactic| wtm_at "s1") => `(tactic| ((with_reducible exact sLf_nil)))
local macro_rules | `(tactic| wtm_at "s1") => `(tactic| ((with_reducible exact sLf_ol)))
local macro_rules | `(tactic| wtm_at "s1") => `(tactic| (((with_reducible apply x_frzE); (focus wtm_at "frz"); wtm_at "all")))
local macro_rules | `(tactic| wtm_at "s1") => `(tactic| (((with_reducible apply x_frzT); (focus wtm_at "frz"); wtm_at "all")))
local macro_rules | `(tactic| wtm_at "s1") => `(tactic| (((with_reducible apply x_lcX); (focus wtm_at "sx"); (focus assumption); wtm_at "all")))
local macro_rules | `(tactic| wtm_at "s1") => `(tactic| (((with_reducible apply x_forO); (focus rfl); (focus rfl); (focus (first | decide | (intro h; cases h))); (focus rfl); (focus wtm_at "kill"); (focus wtm_at "lpO"); wtm_at "put")))
local macro_rules | `(tactic| wtm_at "s1") => `(tactic| (((with_reducible apply x_augI); wtm_at "all")))
local macro_rules | `(tactic| wtm_at "s1") => `(tactic| (((with_reducible apply x_augN); wtm_at "all")))
local macro_rules | `(tactic| wtm_at "s1") => `(tactic| (((with_reducible apply x_set); wtm_at "all")))
local macro_rules | `(tactic| wtm_at "s1") => `(tactic| (((with_reducible apply x_callI); wtm_at "all")))
local macro_rules | `(tactic| wtm_at "s1") => `(tactic| (((with_reducible apply x_mut); wtm_at "all")))
local macro_rules | `(tactic| wtm_at "s1") => `(tactic| (((with_reducible apply x_mutP); wtm_at "all")))
local macro_rules | `(tactic| wtm_at "s1") => `(tactic| (((with_reducible apply x_ifF); (focus (first | rfl | (with_reducible assumption) | (simp; done) | (simp; omega))); wtm_at "all")))
local macro_rules | `(tactic| wtm_at "s1") => `(tactic| (((with_reducible apply x_ifT); (focus (first | rfl | (with_reducible assumption) | (simp; done) | (simp; omega))); wtm_at "all")))
local macro_rules | `(tactic| wtm_at "s1") => `(tactic| (((with_reducible apply x_if); wtm_at "all")))
local macro_rules | `(tactic| wtm_at "s1") => `(tactic| (((with_reducible apply exp_of); wtm_at "all")))
local macro_rules | `(tactic| wtm_at "s1") => `(tactic| (((with_reducible apply x_retO); (focus wtm_at "sx"); wtm_at "mv")))
local macro_rules | `(tactic| wtm_at "s1") => `(tactic| (((with_reducible apply x_ret); wtm_at "all")))
local macro_rules | `(tactic| wtm_at "s1") => `(tactic| (((with_reducible apply x_asg); (focus rfl); wtm_at "all")))
local macro_rules | `(tactic| wtm_at "s1") => `(tactic| (((with_reducible apply x_val); wtm_at "all")))
local macro_rules | `(tactic| wtm_at "s1") => `(tactic| (((with_reducible apply x_dif); wtm_at "all")))
local macro_rules | `(tactic| wtm_at "s1") => `(tactic| (((with_reducible apply x_vor); wtm_at "all")))
local macro_rules | `(tactic| wtm_at "s1") => `(tactic| (((with_reducible apply x_vand); wtm_at "all")))
local macro_rules | `(tactic| wtm_at "s1") => `(tactic| (((with_reducible apply x_and); wtm_at "all")))
local macro_rules | `(tactic| wtm_at "s1") => `(tactic| (((with_reducible apply x_or); wtm_at "all")))
local macro_rules | `(tactic| wtm_at "s1") => `(tactic| (((with_reducible apply x_andF); (focus wtm_at "sx"); (focus wtm_at "tru0"); done)))
local macro_rules | `(tactic| wtm_at "s1") => `(tactic| (((with_reducible apply x_orT); (focus wtm_at "sx"); (focus wtm_at "tru0"); done)))
local macro_rules | `(tactic| wtm_at "s1") => `(tactic| (((with_reducible apply not_of); wtm_at "all")))
local macro_rules | `(tactic| wtm_at "s1") => `(tactic| (((with_reducible apply tst_of); wtm_at "all")))
local macro_rules | `(tactic| wtm_at "s1") => `(tactic| (((with_reducible apply x_lifT); wtm_at "all")))
local macro_rules | `(tactic| wtm_at "s1") => `(tactic| (((with_reducible apply lifA_of); wtm_at "all")))
local macro_rules | `(tactic| wtm_at "s1") => `(tactic| (((with_reducible apply lif_of); wtm_at "all")))
local macro_rules | `(tactic| wtm_at "s1") => `(tactic| (((with_reducible apply opr_of); wtm_at "all")))
local macro_rules | `(tactic| wtm_at "s1") => `(tactic| ((with_reducible exact slM_fD)))
local macro_rules | `(tactic| wtm_at "s1") => `(tactic| ((with_reducible exact slM_f)))
local macro_rules | `(tactic| wtm_at "s1") => `(tactic| ((with_reducible exact slM_s)))
local macro_rules | `(tactic| wtm_at "s1") => `(tactic| (((with_reducible apply slM_b); first | rfl | (with_reducible assumption))))
local macro_rules | `(tactic| wtm_at "s1") => `(tactic| (((with_reducible apply part_s); wtm_at "all")))
local macro_rules | `(tactic| wtm_at "s1") => `(tactic| ((with_reducible exact part_n)))
local macro_rules | `(tactic| wtm_at "s1") => `(tactic| (((with_reducible apply x_sl); wtm_at "all")))
local macro_rules | `(tactic| wtm_at "s1") => `(tactic| (((with_reducible apply acons_of); wtm_at "all")))
local macro_rules | `(tactic| wtm_at "s1") => `(tactic| (((with_reducible apply una_of); wtm_at "all")))
local macro_rules | `(tactic| wtm_at "s1") => `(tactic| (((with_reducible apply bin_of); wtm_at "all")))
local macro_rules | `(tactic| wtm_at "s1") => `(tactic| (((with_reducible apply seq_of); wtm_at "all")))
local macro_rules | `(tactic| wtm_at "s1") => `(tactic| (((with_reducible apply x_sumI); (focus (wtm_at "sx")); (all_goals (try wtm_at "dats")))))
local macro_rules | `(tactic| wtm_at "s1") => `(tactic| (((with_reducible apply x_ch); wtm_at "all")))
local macro_rules | `(tactic| wtm_at "s1") => `(tactic| (((with_reducible apply x_revF); (focus (wtm_at "sx")); done)))
local macro_rules | `(tactic| wtm_at "s1") => `(tactic| (((with_reducible apply x_revB); (focus (wtm_at "sx")); (focus rfl); done)))
local macro_rules | `(tactic| wtm_at "s1") => `(tactic| (((with_reducible apply x_rI3); wtm_at "all")))
local macro_rules | `(tactic| wtm_at "s1") => `(tactic| (((with_reducible apply x_listR3); wtm_at "all")))
local macro_rules | `(tactic| wtm_at "s1") => `(tactic| (((with_reducible apply x_minL); (focus (wtm_at "sx")); (focus wtm_at "dats"); (focus (with_reducible assumption)); done)))
local macro_rules | `(tactic| wtm_at "s1") => `(tactic| (((with_reducible apply x_allB); (focus (wtm_at "sx")); (all_goals (try wtm_at "dats")))))
local macro_rules | `(tactic| wtm_at "s1") => `(tactic| (((with_reducible apply x_anyB); (focus (wtm_at "sx")); (all_goals (try wtm_at "dats")))))
local macro_rules | `(tactic| wtm_at "s1") => `(tactic| (((with_reducible apply x_lenT); (focus (wtm_at "sx")); (focus wtm_at "dats"); done)))
local macro_rules | `(tactic| wtm_at "s1") => `(tactic| (((with_reducible apply x_lenG); (focus (wtm_at "sx")); (focus wtm_at "dats"); done)))
local macro_rules | `(tactic| wtm_at "s1") => `(tactic| (((with_reducible apply x_lenM); (focus (wtm_at "sx")); (focus wtm_at "dats"); done)))
local macro_rules | `(tactic| wtm_at "s1") => `(tactic| (((with_reducible apply x_lenI); (focus (wtm_at "sx")); (focus wtm_at "dats"); done)))
local macro_rules | `(tactic| wtm_at "s1") => `(tactic| (((with_reducible apply x_lenS); (focus (wtm_at "sx")); done)))
local macro_rules | `(tactic| wtm_at "s1") => `(tactic| (((with_reducible apply x_isi); (focus wtm_at "sx"); (focus wtm_at "dats"); (focus rfl); (focus (first | rfl | decide)))))
local macro_rules | `(tactic| wtm_at "s1") => `(tactic| (((with_reducible apply isi_nbool); wtm_at "all")))
local macro_rules | `(tactic| wtm_at "s1") => `(tactic| (((with_reducible apply isi_int); wtm_at "all")))
local macro_rules | `(tactic| wtm_at "s1") => `(tactic| (((with_reducible apply x_nam); (all_goals rfl))))
local macro_rules | `(tactic| wtm_at "s1") => `(tactic| ((with_reducible exact e_nil)))
local macro_rules | `(tactic| wtm_at "s1") => `(tactic| ((with_reducible exact e_xnil)))
local macro_rules | `(tactic| wtm_at "s1") => `(tactic| ((with_reducible exact e_anil)))
local macro_rules | `(tactic| wtm_at "s1") => `(tactic| ((with_reducible exact e_cst)))
local macro_rules | `(tactic| wtm_at "s1") => `(tactic| (((with_reducible apply g_eq); (with_reducible assumption))))
local macro_rules | `(tactic| wtm_at "nrm") => `(tactic| (rfl))
local macro_rules | `(tactic| wtm_at "nrm") => `(tactic| (((with_reducible apply nrm_L); (with_reducible assumption))))
local macro_rules | `(tactic| wtm_at "nrm") => `(tactic| (((with_reducible apply nrm_O); (with_reducible assumption))))
local macro_rules | `(tactic| wtm_at "nrm") => `(tactic| (((with_reducible apply nrm_B); (with_reducible assumption))))
local macro_rules | `(tactic| wtm_at "nrm") => `(tactic| (((with_reducible apply nrm_I); (with_reducible assumption))))
local macro_rules | `(tactic| wtm_at "g") => `(tactic| (((with_reducible apply g_retM); rfl)))
local macro_rules | `(tactic| wtm_at "g") => `(tactic| ((with_reducible exact shutL_f)))
local macro_rules | `(tactic| wtm_at "g") => `(tactic| ((with_reducible exact slotsL_f)))
local macro_rules | `(tactic| wtm_at "g") => `(tactic| (((with_reducible apply retM_ot); (focus wtm_at "g"); wtm_at "g")))
local macro_rules | `(tactic| wtm_at "g") => `(tactic| (((with_reducible apply retM_ol); (focus wtm_at "g"); wtm_at "g")))
local macro_rules | `(tactic| wtm_at "g") => `(tactic| (((with_reducible apply retM_Be); first | (with_reducible assumption) | rfl)))
local macro_rules | `(tactic| wtm_at "g") => `(tactic| (((with_reducible apply retM_Ie); first | (with_reducible assumption) | rfl)))
local macro_rules | `(tactic| wtm_at "g") => `(tactic| (((with_reducible apply retM_oIe); first | (with_reducible assumption) | rfl)))
local macro_rules | `(tactic| wtm_at "g") => `(tactic| (((with_reducible apply retM_bp); (all_goals rfl))))
local macro_rules | `(tactic| wtm_at "g") => `(tactic| ((with_reducible exact retM_oI _)))
local macro_rules | `(tactic| wtm_at "g") => `(tactic| (((with_reducible apply retM_t1); (focus rfl); wtm_at "dat0")))
local macro_rules | `(tactic| wtm_at "g") => `(tactic| ((with_reducible exact retM_fz)))
local macro_rules | `(tactic| wtm_at "g") => `(tactic| (((with_reducible apply g_put); wtm_at "put")))
local macro_rules | `(tactic| wtm_at "g") => `(tactic| (((with_reducible apply g_outs); rfl)))
local macro_rules | `(tactic| wtm_at "g") => `(tactic| (((with_reducible apply g_ble); rfl)))
local macro_rules | `(tactic| wtm_at "g") => `(tactic| (((with_reducible apply g_shut); (simp only [List.tail_cons]); wtm_at "g")))
local macro_rules | `(tactic| wtm_at "g") => `(tactic| (((with_reducible apply shutZ_d); (focus wtm_at "dat0"); wtm_at "g")))
local macro_rules | `(tactic| wtm_at "g") => `(tactic| (((with_reducible apply shutZ_s); wtm_at "g")))
local macro_rules | `(tactic| wtm_at "g") => `(tactic| (((with_reducible apply shutZ_z); wtm_at "g")))
local macro_rules | `(tactic| wtm_at "g") => `(tactic| (((with_reducible apply shutZ_f); wtm_at "g")))
local macro_rules | `(tactic| wtm_at "g") => `(tactic| ((with_reducible exact shutZ_n)))
local macro_rules | `(tactic| wtm_at "g") => `(tactic| (((with_reducible apply g_slots); rfl)))
local macro_rules | `(tactic| wtm_at "g") => `(tactic| (((with_reducible apply slotsL_ct); (focus wtm_at "g"); wtm_at "g")))
local macro_rules | `(tactic| wtm_at "g") => `(tactic| (((with_reducible apply slotsL_cl); (focus wtm_at "g"); wtm_at "g")))
local macro_rules | `(tactic| wtm_at "g") => `(tactic| (((with_reducible apply slotsL_m); (focus (intros; wtm_at "g")); wtm_at "g")))
local macro_rules | `(tactic| wtm_at "g") => `(tactic| (((with_reducible apply slotsL_co); wtm_at "g")))
local macro_rules | `(tactic| wtm_at "g") => `(tactic| (((with_reducible apply slotsL_cf); wtm_at "g")))
local macro_rules | `(tactic| wtm_at "g") => `(tactic| ((with_reducible exact slotsL_n)))
local macro_rules | `(tactic| wtm_at "g") => `(tactic| (((with_reducible apply stowA_2); wtm_at "g")))
local macro_rules | `(tactic| wtm_at "g") => `(tactic| (((with_reducible apply stowA_1); wtm_at "g")))
local macro_rules | `(tactic| wtm_at "g") => `(tactic| ((with_reducible exact stowA_n)))
local macro_rules | `(tactic| wtm_at "g") => `(tactic| (((with_reducible apply g_lw); assumption)))
local macro_rules | `(tactic| wtm_at "g") => `(tactic| (((with_reducible apply g_lp); assumption)))
local macro_rules | `(tactic| wtm_at "g") => `(tactic| (((with_reducible apply shutL_c); (focus wtm_at "g"); wtm_at "g")))
local macro_rules | `(tactic| wtm_at "g") => `(tactic| (((with_reducible apply slotsL_map); intros; wtm_at "g")))
local macro_rules | `(tactic| wtm_at "g") => `(tactic| (((with_reducible apply shutL_map); intros; wtm_at "g")))
local macro_rules | `(tactic| wtm_at "g") => `(tactic| ((with_reducible exact shutL_n)))
local macro_rules | `(tactic| wtm_at "g") => `(tactic| (((with_reducible apply shut_ot); wtm_at "g")))
local macro_rules | `(tactic| wtm_at "g") => `(tactic| (((with_reducible apply shut_ol); wtm_at "g")))
local macro_rules | `(tactic| wtm_at "g") => `(tactic| (((with_reducible apply shut_m); intros; wtm_at "g")))
local macro_rules | `(tactic| wtm_at "g") => `(tactic| ((with_reducible exact shut_s)))
local macro_rules | `(tactic| wtm_at "g") => `(tactic| ((with_reducible exact shut_f)))
local macro_rules | `(tactic| wtm_at "g") => `(tactic| (((with_reducible apply g_stow); rfl)))
local macro_rules | `(tactic| wtm_at "g") => `(tactic| (((with_reducible apply stow_zt); (focus wtm_at "g"); wtm_at "dat0")))
local macro_rules | `(tactic| wtm_at "g") => `(tactic| (((with_reducible apply stow_zl); (focus wtm_at "g"); wtm_at "dat0")))
local macro_rules | `(tactic| wtm_at "g") => `(tactic| (((with_reducible apply stow_ot); (focus wtm_at "g"); wtm_at "g")))
local macro_rules | `(tactic| wtm_at "g") => `(tactic| (((with_reducible apply stow_ol); (focus wtm_at "g"); wtm_at "g")))
local macro_rules | `(tactic| wtm_at "g") => `(tactic| (((with_reducible apply stow_bm); (focus rfl); (focus wtm_at "dat0"); wtm_at "put")))
local macro_rules | `(tactic| wtm_at "g") => `(tactic| (((with_reducible apply stow_b0); (focus rfl); wtm_at "put")))
local macro_rules | `(tactic| wtm_at "g") => `(tactic| ((with_reducible exact stow_s _)))
local macro_rules | `(tactic| wtm_at "g") => `(tactic| ((with_reducible exact stow_z _)))
local macro_rules | `(tactic| wtm_at "g") => `(tactic| ((with_reducible exact stow_f)))
local macro_rules | `(tactic| wtm_at "g") => `(tactic| (((with_reducible apply g_alv2); (focus rfl); (all_goals (try wtm_at "g")))))
local macro_rules | `(tactic| wtm_at "g") => `(tactic| (((with_reducible apply g_alv); rfl)))
local macro_rules | `(tactic| wtm_at "g") => `(tactic| (((with_reducible apply g_isOl); rfl)))
local macro_rules | `(tactic| wtm_at "g") => `(tactic| (((with_reducible apply g_place); rfl)))
local macro_rules | `(tactic| wtm_at "g") => `(tactic| (((with_reducible apply g_get); rfl)))
local macro_rules | `(tactic| wtm_at "env") => `(tactic| (simp only [List.map_cons, List.map_nil, Nat.reduceSub, Nat.sub_self, List.reduceReplicate, List.replicate_zero, List.append_nil, List.cons_append, List.nil_append]; try rfl))
local macro_rules | `(tactic| wtm_at "run") => `(tactic| (((with_reducible apply run_nx); (focus (first | rfl)); (focus (first | rfl)); (focus wtm_at "env"); wtm_at "all")))
local macro_rules | `(tactic| wtm_at "run") => `(tactic| (((with_reducible apply run_rt); (focus (first | rfl)); (focus (first | rfl)); (focus wtm_at "env"); wtm_at "all")))
local macro_rules | `(tactic| wtm_at "runN") => `(tactic| ((with_reducible apply run_nx); (focus (first | rfl)); (focus (first | rfl)); (focus wtm_at "env"); wtm_at "all"))
local macro_rules | `(tactic| wtm_at "op") => `(tactic| ((with_reducible exact k_notB)))
local macro_rules | `(tactic| wtm_at "op") => `(tactic| ((with_reducible exact k_isB)))
local macro_rules | `(tactic| wtm_at "op") => `(tactic| ((with_reducible exact k_dlenO)))
local macro_rules | `(tactic| wtm_at "op") => `(tactic| ((with_reducible exact k_bits)))
local macro_rules | `(tactic| wtm_at "op") => `(tactic| (((with_reducible apply k_keysP); (with_reducible assumption))))
local macro_rules | `(tactic| wtm_at "op") => `(tactic| (((with_reducible apply k_dgP); (focus (with_reducible assumption)); (focus rfl); (with_reducible assumption))))
local macro_rules | `(tactic| wtm_at "op") => `(tactic| (((with_reducible apply k_dgF); (focus rfl); (with_reducible assumption))))
local macro_rules | `(tactic| wtm_at "op") => `(tactic| (((with_reducible apply k_fldO); (with_reducible exact getF_1))))
local macro_rules | `(tactic| wtm_at "op") => `(tactic| (((with_reducible apply k_fldP); (focus rfl); (focus (with_reducible exact getF_1)); (focus rfl))))
local macro_rules | `(tactic| wtm_at "op") => `(tactic| (((with_reducible apply k_fldF); (with_reducible exact lookD_1))))
local macro_rules | `(tactic| wtm_at "s1") => `(tactic| ((with_reducible apply x_dset); (focus wtm_at "sx"); (focus wtm_at "g"); (focus wtm_at "sx"); (focus wtm_at "sx"); (focus (with_reducible assumption)); (focus rfl); (focus wtm_at "sd"); (with_reducible assumption)))
def mixV (b c : Int) : Int := ((b % 2147483647 * 48271 + c * 69621 + 11) % 2147483647 * ((b % 2147483647 * 48271 + c * 69621 + 11) % 2147483647) % 2147483629) * ((b % 2147483647 * 48271 + c * 69621 + 11) % 2147483647 * ((b % 2147483647 * 48271 + c * 69621 + 11) % 2147483647) % 2147483629) % 2147483587
theorem mixed_ok (b c : Int) (hc : c.natAbs < 2 ^ 40) : f__law_mixed [.fz (.int b), .fz (.int c)] = some (.fz (.int (mixV b c)), [.fz (.int b), .fz (.int c)]) := by
  have m1 : cMul (b % 2147483647) 48271 = true := cMul_ok 31 16 (by omega) (by decide) (by decide)
  have m2 : cMul c 69621 = true := cMul_ok 40 17 hc (by decide) (by decide)
  have m3 : ∀ x : Int, cMul (x % 2147483647) (x % 2147483647) = true := fun x => cMul_ok 31 31 (by omega) (by omega) (by decide)
  have m4 : ∀ x : Int, cMul (x % 2147483629) (x % 2147483629) = true := fun x => cMul_ok 31 31 (by omega) (by omega) (by decide)
  have hl : ∀ i, lk__law_mixed i = false := fun _ => rfl
  have key : F__law_mixed [some (.fz (.int b)), some (.fz (.int c)), none] = some (.rt (.fz (.int (mixV b c))) [some (.fz (.int b)), some (.fz (.int c)), some (.fz (.int ((b % 2147483647 * 48271 + c * 69621 + 11) % 2147483647 * ((b % 2147483647 * 48271 + c * 69621 + 11) % 2147483647) % 2147483629)))]) := by
    simp only [F__law_mixed, hl, e_seq, e_asg, e_ret, e_bin, e_nam, e_cst, get_z, get_s, namM_fz, o2_s, k_add, k_mul, k_mod, m1, m2, m3, m4, Int.reduceLT, asgM_fz, put_z, put_s, retM_fz, List.length_cons, List.length_nil, Nat.reduceAdd, Nat.reduceLT, mixV]
  exact run_rt rfl rfl rfl key rfl
theorem take_c (a b c m : Int) (x : Option M) : T2.bin oIn (T2.bin oIdx (nam 0) (cst (.int 0))) (opr oLst (aCons (cst (.int 0)) (aCons (T2.una (sop (gU fun i => -i)) (cst (.int 1))) aNil))) [some (.ol [I a, I b, I c]), some (I m), x] = some (.fz (.bl ((0 == a) || ((-1 == a) || false)))) := by kernel_rfl
theorem ix0 (a b c m : Int) (x : Option M) : T2.bin oIdx (nam 0) (cst (.int 0)) [some (.ol [I a, I b, I c]), some (I m), x] = some (I a) := by kernel_rfl
theorem ix1 (a b c m : Int) (x : Option M) : T2.bin oIdx (nam 0) (cst (.int 1)) [some (.ol [I a, I b, I c]), some (I m), x] = some (I b) := by kernel_rfl
theorem ix2 (a b c m : Int) (x : Option M) : T2.bin oIdx (nam 0) (cst (.int 2)) [some (.ol [I a, I b, I c]), some (I m), x] = some (I c) := by kernel_rfl
theorem set2 (a b c m : Int) (x : Option M) : sSet 0 (nam 0) (cst (.int 2)) (lif (T2.bin oAdd (T2.bin oIdx (nam 0) (cst (.int 2))) (cst (.int 1)))) [some (.ol [I a, I b, I c]), some (I m), x] = some (.nx [some (.ol [I a, I b, I (c + 1)]), some (I m), x]) := by kernel_rfl
theorem set0 (a b c m : Int) (d : Int) (f : En → Option M) (x : Option M) (h : f [some (.ol [I a, I b, I c]), some (I m), x] = some (I d)) : sSet 0 (nam 0) (cst (.int 0)) (lif f) [some (.ol [I a, I b, I c]), some (I m), x] = some (.nx [some (.ol [I d, I b, I c]), some (I m), x]) := by
  unfold sSet lif
  simp only [h]
  kernel_rfl
theorem take_ok (a b c m : Int) (hm : 0 < m) (hm2 : m.natAbs.log2 < 9000) (hc : c.natAbs < 2 ^ 39) : ∃ r a' c' : Int, f__law_take [.ol [I a, I b, I c], I m] = some (I r, [.ol [I a', I b, I c'], I m]) ∧ 0 ≤ r ∧ r < m ∧ c'.natAbs ≤ c.natAbs + 1 := by
  by_cases h : ((0 == a) || ((-1 == a) || false)) = true
  · have key : F__law_take [some (.ol [I a, I b, I c]), some (I m), none] = some (.rt (I (mixV b (c + 1) % m)) [some (.ol [I a, I b, I (c + 1)]), some (I m), none]) :=
      seq_rt (if_t (tst_of (by rw [take_c, h])) (seq_of (set2 a b c m none) (ret_of (bin_of (opr_of (acons_of (ix1 _ _ _ _ _) (acons_of (ix2 _ _ _ _ _) e_anil)) (callP_of rfl rfl (mixed_ok b (c + 1) (by omega)))) (nam_fz rfl) (k_mod hm)))))
    exact ⟨mixV b (c + 1) % m, a, c + 1, run_rt rfl rfl rfl key rfl, Int.emod_nonneg _ (by omega), Int.emod_lt_of_pos _ hm, by omega⟩
  · have h' : ((0 == a) || ((-1 == a) || false)) = false := by simpa using h
    have key : F__law_take [some (.ol [I a, I b, I c]), some (I m), none] = some (.rt (I (a % m)) [some (.ol [I (a / m), I b, I c]), some (I m), some (I (a % m))]) :=
      seq_of (if_f (tst_of (by rw [take_c, h'])) e_nil) (seq_of (asg_of (bin_of (ix0 _ _ _ _ _) (nam_fz rfl) (k_mod hm)) rfl (by simp)) (seq_of (set0 a b c m (a / m) _ _ (bin_of (ix0 _ _ _ _ _) (nam_fz rfl) (k_div hm hm2))) (ret_of (nam_fz rfl))))
    exact ⟨a % m, a / m, c, run_rt rfl rfl rfl key rfl, Int.emod_nonneg _ (by omega), Int.emod_lt_of_pos _ hm, by omega⟩
theorem pile_tail (ns : List Int) (t : Nat) (c : Int) (ht : t < 128) (hc : Builtin.Int.intBits c ≤ 1048576) :
    ∃ a, (sRet lk__law_pile (lif (opr oLst (aCons (T2.bin oMul (nam 2) (opr (sop gInt) (aCons (T2.bin (sop iGe) (opr (sop gAbs) (aCons (nam 2) aNil)) (T2.bin (sop iPow) (cst (.int 10)) (cst (.int 18)))) aNil))) (aCons (nam 2) (aCons (T2.bin oMul (cst (.int 97)) (nam 1)) aNil)))))) [some (.fz (.scr ns)), some (I t), some (I c)]
      = some (.rt (.ol [I a, I c, I (97 * t)]) [some (.fz (.scr ns)), some (I t), some (I c)]) := by
  have m1 : cMul 97 (t : Int) = true := cMul_ok 7 7 (by decide) (by omega) (by decide)
  have m2 : ∀ b : Bool, cMul c (if b then 1 else 0) = true := fun b => by
    cases b
    · exact cMul_le 1048576 1 hc (by decide) (by decide)
    · exact cMul_le 1048576 1 hc (by decide) (by decide)
  have n2 : nam 2 [some (.fz (.scr ns)), some (I t), some (I c)] = some (I c) := nam_fz (by kernel_rfl)
  have n1 : nam 1 [some (.fz (.scr ns)), some (I t), some (I c)] = some (I t) := nam_fz (by kernel_rfl)
  have hp : T2.bin (sop iPow) (cst (.int 10)) (cst (.int 18)) [some (.fz (.scr ns)), some (I t), some (I c)] = some (I (10 ^ 18)) := bin_of e_cst e_cst (k_pow (by decide) (by decide) (by decide))
  have ha : (opr oLst (aCons (T2.bin oMul (nam 2) (opr (sop gInt) (aCons (T2.bin (sop iGe) (opr (sop gAbs) (aCons (nam 2) aNil)) (T2.bin (sop iPow) (cst (.int 10)) (cst (.int 18)))) aNil))) (aCons (nam 2) (aCons (T2.bin oMul (cst (.int 97)) (nam 1)) aNil)))) [some (.fz (.scr ns)), some (I t), some (I c)] = some (.ol [I _, I c, I (97 * t)]) :=
    opr_of (acons_of (bin_of n2 (opr_of (acons_of (bin_of (opr_of (acons_of n2 e_anil) k_abs) hp k_ge) e_anil) k_intb) (k_mul (m2 _))) (acons_of n2 (acons_of (bin_of e_cst n1 (k_mul m1)) e_anil))) (k_lst (by simp [PySem.sizeLine]))
  refine ⟨c * if decide ((10:Int) ^ 18 ≤ if c < 0 then -c else c) = true then 1 else 0, ?_⟩
  rw [e_ret, ha]
  kernel_rfl
theorem pile_ok (ns : List Int) (t : Nat) (ht : t < 128) (hn : ns.length ≤ 63) (hb : ∀ z ∈ ns, Builtin.Int.intBits z ≤ 1048576) :
    ∃ a b : Int, f__law_pile [.fz (.scr ns), I t] = some (.ol [I a, I b, I (97 * t)], [.fz (.scr ns), I t]) := by
  have hl : opr (sop gLen) (aCons (nam 0) aNil) [some (.fz (.scr ns)), some (I t), some (I 0)] = some (I ns.length) := by kernel_rfl
  have n1 : nam 1 [some (.fz (.scr ns)), some (I t), some (I 0)] = some (I t) := nam_fz (by kernel_rfl)
  by_cases h : t < ns.length
  · obtain ⟨a, ha⟩ := pile_tail ns t (ns[t]) ht (hb _ (List.getElem_mem h))
    have hx : L2.atI ns (t : Int) = some ns[t] := by
      simp [L2.atI, L2.ixN, h]
    have key : F__law_pile [some (.fz (.scr ns)), some (I t), none] = some (.rt (.ol [I a, I ns[t], I (97 * t)]) [some (.fz (.scr ns)), some (I t), some (I ns[t])]) :=
      seq_of (asg_of (lk := lk__law_pile) e_cst rfl (by simp)) (seq_of (if_t (tst_of (bin_of n1 hl (k_lt.trans (by rw [decide_eq_true (Int.ofNat_lt.mpr h)])))) (asg_of (lk := lk__law_pile) (i := 2) (bin_of (nam_fz (i := 0) (d := .scr ns) (by kernel_rfl)) n1 (k_scr hx)) rfl (by simp [put_z, put_s]))) ha)
    exact ⟨_, _, run_rt rfl rfl rfl key rfl⟩
  · obtain ⟨a, ha⟩ := pile_tail ns t 0 ht (by decide)
    have key : F__law_pile [some (.fz (.scr ns)), some (I t), none] = some (.rt (.ol [I a, I 0, I (97 * t)]) [some (.fz (.scr ns)), some (I t), some (I 0)]) :=
      seq_of (asg_of (lk := lk__law_pile) e_cst rfl (by simp)) (seq_of (if_f (tst_of (bin_of n1 hl (k_lt.trans (by rw [decide_eq_false (fun q => h (Int.ofNat_lt.mp q))])))) e_nil) ha)
    exact ⟨_, _, run_rt rfl rfl rfl key rfl⟩
abbrev cI (L : List Nat) : List Int := L.map fun m : Nat => (m : Int)
def bitsL (m : Nat) : List Int := ((rngI 41).filter fun x => (m : Int) / (1 * 2 ^ x.toNat) % 2 == 1).map fun x => x
theorem bitsL_eq (m : Nat) : bitsL m = ((List.range 41).filter fun k => m / 2 ^ k % 2 == 1).map fun k : Nat => (k : Int) := by
  unfold bitsL rngI
  rw [List.map_id', List.filter_map]
  congr 1
  refine List.filter_congr fun k hk => ?_
  have h2 : (1 : Int) * 2 ^ ((k : Int)).toNat = ((2 ^ k : Nat) : Int) := by simp
  simp only [Function.comp]
  rw [h2]
  have h3 : (m : Int) / ((2 ^ k : Nat) : Int) % 2 = ((m / 2 ^ k % 2 : Nat) : Int) := by simp
  rw [h3]
  have : ∀ n : Nat, ((n : Int) == 1) = (n == 1) := fun n => by
    rw [Bool.eq_iff_iff]
    simp
    omega
  rw [this]
theorem bits_sum : ∀ (n m : Nat), m < 2 ^ n → (((List.range n).filter fun k => m / 2 ^ k % 2 == 1).map fun k => 2 ^ k).sum = m
  | 0, m, h => by simp at h; simp [h]
  | n + 1, m, h => by
    have ih := bits_sum n (m / 2) (by rw [Nat.pow_succ] at h; omega)
    rw [List.range_succ_eq_map, List.filter_cons, List.filter_map]
    have e : (List.range n).filter ((fun k => m / 2 ^ k % 2 == 1) ∘ Nat.succ) = (List.range n).filter fun k => m / 2 / 2 ^ k % 2 == 1 := List.filter_congr fun k _ => by
      simp only [Function.comp]
      rw [Nat.div_div_eq_div_mul, Nat.pow_succ, Nat.mul_comm 2]
    rw [e]
    have e2 : (((List.range n).filter fun k => m / 2 / 2 ^ k % 2 == 1).map Nat.succ).map (fun k => 2 ^ k) = (((List.range n).filter fun k => m / 2 / 2 ^ k % 2 == 1).map fun k => 2 ^ k).map (2 * ·) := by
      rw [List.map_map, List.map_map]
      refine List.map_congr_left fun k _ => ?_
      simp [Nat.pow_succ, Nat.mul_comm]
    have e3 : ∀ L : List Nat, (L.map (2 * ·)).sum = 2 * L.sum := fun L => by
      induction L with
      | nil => rfl
      | cons x L ih => simp only [List.map_cons, List.sum_cons, ih]; omega
    by_cases h0 : m % 2 = 1
    · simp only [Nat.pow_zero, Nat.div_one, h0, beq_self_eq_true, if_true, List.map_cons, List.sum_cons]
      rw [e2, e3, ih]
      omega
    · have h1 : (m % 2 == 1) = false := by simp [h0]
      simp only [Nat.pow_zero, Nat.div_one, h1, Bool.false_eq_true, if_false]
      rw [e2, e3, ih]
      omega
theorem bitsL_le (m : Nat) : (bitsL m).length ≤ 41 := by
  rw [bitsL_eq, List.length_map]
  exact Nat.le_trans (List.length_filter_le _ _) (by simp)
theorem bitsL_sum (m : Nat) (h : m < 2 ^ 41) : ((bitsL m).map fun x => (1 : Int) * 2 ^ x.toNat).sum = (m : Int) := by
  rw [bitsL_eq, List.map_map]
  have e : ((fun x : Int => (1 : Int) * 2 ^ x.toNat) ∘ fun k : Nat => (k : Int)) = fun k : Nat => ((2 ^ k : Nat) : Int) := by
    funext k
    simp
  rw [e]
  have := bits_sum 41 m h
  have e2 : ∀ L : List Nat, ((L.map fun k : Nat => ((2 ^ k : Nat) : Int))).sum = ((L.map fun k => 2 ^ k).sum : Nat) := fun L => by
    induction L with
    | nil => rfl
    | cons x L ih => simp only [List.map_cons, List.sum_cons, ih]; omega
  rw [e2, this]
theorem bitsL_small (m : Nat) : ∀ x ∈ bitsL m, 0 ≤ x ∧ x ≤ 40 := fun x hx => by
  rw [bitsL_eq] at hx
  obtain ⟨k, hk, rfl⟩ := List.mem_map.mp hx
  have := List.mem_range.mp (List.mem_filter.mp hk).1
  omega
theorem bmem {m : Nat} {x : Int} (h : x ∈ bitsL m) : 0 ≤ x := (bitsL_small m x h).1
theorem bmem2 {m : Nat} {x : Int} (h : x ∈ bitsL m) : x ≤ 1000000 := by have := (bitsL_small m x h).2; omega
abbrev bitD (m : Nat) : D := lI (bitsL m)
abbrev rowD (row : List Nat) : D := .lst (row.map bitD)
abbrev heapD (many : Nat) (rows : List (List Nat)) : D := .tup [.int many, .lst (rows.map rowD)]
def okH (many : Nat) (rows : List (List Nat)) : Prop := many ≤ 40 ∧ ∀ row ∈ rows, row.length ≤ 3 ∧ ∀ m ∈ row, m < 2 ^ many
theorem okH_lt {many : Nat} {rows : List (List Nat)} (h : okH many rows) {row : List Nat} (hr : row ∈ rows) {m : Nat} (hm : m ∈ row) : m < 2 ^ 41 := by
  have h1 := (h.2 row hr).2 m hm
  have h2 : 2 ^ many ≤ 2 ^ 40 := Nat.pow_le_pow_right (by decide) h.1
  omega
theorem row_get {rows : List (List Nat)} {k : Nat} (hk : k < rows.length) : rows.getD k default ∈ rows := by
  simp [List.getD, hk]
def masksK (rows : List (List Nat)) (g k : Nat) : List Nat := (((List.range k).filter fun k => g / 2 ^ k % 2 == 1).map fun k => rows.getD k default).flatten
theorem masksK_s (rows : List (List Nat)) (g k : Nat) : masksK rows g (k + 1) = if g / 2 ^ k % 2 == 1 then masksK rows g k ++ rows.getD k default else masksK rows g k := by
  unfold masksK
  rw [List.range_succ, List.filter_append]
  cases hc : g / 2 ^ k % 2 == 1 with
  | true => simp [List.filter_cons, hc]
  | false => simp [List.filter_cons, hc]
theorem masksK_mem {rows : List (List Nat)} {g : Nat} : ∀ {k m : Nat}, m ∈ masksK rows g k → k ≤ rows.length → ∃ row ∈ rows, m ∈ row
  | 0, m, h, _ => by simp [masksK] at h
  | k + 1, m, h, hk => by
    rw [masksK_s] at h
    split at h
    · rcases List.mem_append.mp h with h | h
      · exact masksK_mem h (by omega)
      · exact ⟨_, row_get (by omega), h⟩
    · exact masksK_mem h (by omega)
theorem masksK_len {many : Nat} {rows : List (List Nat)} (h : okH many rows) {g : Nat} : ∀ {k : Nat}, k ≤ rows.length → (masksK rows g k).length ≤ 3 * k
  | 0, _ => by simp [masksK]
  | k + 1, hk => by
    have ih := masksK_len h (g := g) (k := k) (by omega)
    have hr := (h.2 _ (row_get (rows := rows) (k := k) (by omega))).1
    rw [masksK_s]
    split
    · rw [List.length_append]; omega
    · omega
theorem mask2_ok (m : Nat) (h : m < 2 ^ 41) : f_mask_of [.fz (lI (bitsL m))] = some (I m, [.fz (lI (bitsL m))]) := by
  have hl := bitsL_le m
  have hs := bitsL_sum m h
  have q1 : ∀ x ∈ bitsL m, 0 ≤ x := fun x hx => bmem hx
  have q2 : ∀ x ∈ bitsL m, x ≤ 1000000 := fun x hx => bmem2 hx
  unfold f_mask_of F_mask_of
  (first | wtm_at "run" | fail)
local macro_rules | `(tactic| wtm_at "fn") => `(tactic| ((with_reducible apply mask2_ok); wtm_at "sd"))
theorem shr_eq (g k : Nat) : (Builtin.bitAnd ((g : Int) / 2 ^ ((k : Int)).toNat) 1 == 1) = (g / 2 ^ k % 2 == 1) := by
  have h2 : (2 : Int) ^ ((k : Int)).toNat = ((2 ^ k : Nat) : Int) := by simp
  rw [h2]
  have h3 : (g : Int) / ((2 ^ k : Nat) : Int) = ((g / 2 ^ k : Nat) : Int) := by simp
  rw [h3, show (1 : Int) = ((1 : Nat) : Int) from rfl, bitAndN, Nat.and_one_is_mod]
  have : ∀ n : Nat, ((n : Int) == ((1 : Nat) : Int)) = (n == 1) := fun n => by
    rw [Bool.eq_iff_iff]
    simp
    omega
  exact this _
def namesN (n g : Nat) : List Int := cI ((List.range n).filter fun k => g / 2 ^ k % 2 == 1)
theorem names_eq (n g : Nat) : (((rngI (n : Int)).filter fun x => Builtin.bitAnd ((g : Int) / 2 ^ x.toNat) 1 == 1).map fun x => x) = namesN n g := by
  unfold namesN rngI
  rw [List.map_id', List.filter_map]
  simp only [Int.toNat_natCast]
  congr 1
  exact List.filter_congr fun k _ => shr_eq g k
theorem names_ok (many : Nat) (rows : List (List Nat)) (hr : rows.length ≤ 4) (g : Nat) : f_names_in [.fz (heapD many rows), I g] = some (oI (namesN rows.length g), [.fz (heapD many rows), I g]) := by
  have he := names_eq rows.length g
  unfold f_names_in F_names_in
  (first | wtm_at "run" | fail)
/-- pairs of a name and a number -/
def placesK (rows : List (List Nat)) (L : List Nat) : List (Nat × Nat) := (L.map fun k => (List.range (rows.getD k default).length).map fun j => (k, j)).flatten
abbrev plcD (p : Nat × Nat) : D := .tup [.int p.1, .int p.2]
theorem placesK_app (rows : List (List Nat)) (L : List Nat) (k : Nat) : placesK rows (L ++ [k]) = placesK rows L ++ (List.range (rows.getD k default).length).map fun j => (k, j) := by
  unfold placesK
  simp
theorem places_len {many : Nat} {rows : List (List Nat)} (h : okH many rows) : ∀ (L : List Nat) (hL : ∀ k ∈ L, k < rows.length), (placesK rows L).length ≤ 3 * L.length
  | [], _ => by simp [placesK]
  | k :: L, hL => by
    have ih := places_len h L fun j hj => hL j (List.mem_cons_of_mem _ hj)
    have hr := (h.2 _ (row_get (hL k (List.mem_cons_self ..)))).1
    have e : placesK rows (k :: L) = ((List.range (rows.getD k default).length).map fun j => (k, j)) ++ placesK rows L := by
      unfold placesK
      simp
    rw [e]
    simp only [List.length_append, List.length_map, List.length_range, List.length_cons]
    omega
theorem places_ok (many : Nat) (rows : List (List Nat)) (h : okH many rows) (hr : rows.length ≤ 4) (g : Nat) : f_places_of [.fz (heapD many rows), I g] = some (oD ((placesK rows ((List.range rows.length).filter fun k => g / 2 ^ k % 2 == 1)).map plcD), [.fz (heapD many rows), I g]) := by
  have hn := names_ok many rows hr g
  obtain ⟨Ks, hKs⟩ : ∃ Ks, Ks = (List.range rows.length).filter fun k => g / 2 ^ k % 2 == 1 := ⟨_, rfl⟩
  have hK : ∀ k ∈ Ks, k < rows.length := fun k hk => by
    rw [hKs] at hk
    exact List.mem_range.mp (List.mem_filter.mp hk).1
  have hKl : Ks.length ≤ 4 := by rw [hKs]; exact Nat.le_trans (List.length_filter_le _ _) (by simpa using hr)
  unfold namesN at hn
  rw [← hKs] at hn ⊢
  have hcI : (cI Ks).map D.int = Ks.map fun k : Nat => D.int (k : Int) := by simp [cI]
  obtain ⟨e', lp, x3, he⟩ := lp_map (lk := lk_places_of) (t := .nm 3) (B := B_places_of_0) (F := fun k : Nat => D.int (k : Int)) (fun pre e => ∃ (x3 : Option M), e = [some (.fz (heapD many rows)), some (I g), some (oD ((placesK rows pre).map plcD)), x3, none]) Ks
    (fun pre k post hp e ⟨x3, he⟩ => by
      subst he
      have hk' : k < rows.length := hK k (by rw [← hp]; simp)
      have hpre : (placesK rows pre).length ≤ 12 := by
        have h1 := places_len h pre fun j hj => hK j (by rw [← hp]; simp [hj])
        have h2 : pre.length ≤ 4 := by rw [← hp] at hKl; simp at hKl; omega
        omega
      have hrow := row_get hk'
      have hrl : (rows.getD ((k : Int)).toNat default).length ≤ 3 := (h.2 _ hrow).1
      have hkn : ((k : Int)).toNat = k := by simp
      refine ⟨[some (.fz (heapD many rows)), some (I g), some (oD ((placesK rows pre).map plcD)), some (I k), none], [some (.fz (heapD many rows)), some (I g), some (oD ((placesK rows (pre ++ [k])).map plcD)), some (I k), none], rfl, ?_, some (I k), rfl⟩
      have e : (placesK rows (pre ++ [k])).map plcD = (placesK rows pre).map plcD ++ (rngI ((rows.getD ((k : Int)).toNat default).length : Int)).map fun x => D.tup [.int (k : Int), .int x] := by
        rw [placesK_app, List.map_append, List.map_map, hkn]
        unfold rngI
        simp [Function.comp_def]
      rw [e]
      unfold B_places_of_0
      (first | wtm_at "sx" | fail))
    (e := [some (.fz (heapD many rows)), some (I g), some (oI []), none, none]) ⟨_, rfl⟩
  rw [← hcI] at lp
  subst he
  unfold f_places_of F_places_of
  (first | wtm_at "run" | fail)
theorem masks2_eq (rows : List (List Nat)) : ∀ L : List Nat, (placesK rows L).map (fun p => (rows.getD p.1 default).getD p.2 default) = (L.map fun k => rows.getD k default).flatten
  | [] => rfl
  | k :: L => by
    have ih := masks2_eq rows L
    have e : placesK rows (k :: L) = ((List.range (rows.getD k default).length).map fun j => (k, j)) ++ placesK rows L := by
      unfold placesK
      simp
    rw [e, List.map_append, ih, List.map_map, List.map_cons, List.flatten_cons]
    congr 1
    refine List.ext_getElem (by simp) fun i h1 h2 => ?_
    simp at h1
    simp [List.getD, h1]
theorem places_mem {rows : List (List Nat)} {L : List Nat} (hL : ∀ k ∈ L, k < rows.length) {p : Nat × Nat} (hp : p ∈ placesK rows L) : p.1 < rows.length ∧ p.2 < (rows.getD p.1 default).length := by
  unfold placesK at hp
  obtain ⟨l, hl, hpl⟩ := List.mem_flatten.mp hp
  obtain ⟨k, hk, rfl⟩ := List.mem_map.mp hl
  obtain ⟨j, hj, rfl⟩ := List.mem_map.mp hpl
  exact ⟨hL k hk, List.mem_range.mp hj⟩
theorem masks_ok (many : Nat) (rows : List (List Nat)) (h : okH many rows) (hr : rows.length ≤ 4) (g : Nat) : f_masks_of [.fz (heapD many rows), I g] = some (oI (cI (masksK rows g rows.length)), [.fz (heapD many rows), I g]) := by
  have hpl := places_ok many rows h hr g
  obtain ⟨Ks, hKs⟩ : ∃ Ks, Ks = (List.range rows.length).filter fun k => g / 2 ^ k % 2 == 1 := ⟨_, rfl⟩
  have hK : ∀ k ∈ Ks, k < rows.length := fun k hk => by
    rw [hKs] at hk
    exact List.mem_range.mp (List.mem_filter.mp hk).1
  have hKl : Ks.length ≤ 4 := by rw [hKs]; exact Nat.le_trans (List.length_filter_le _ _) (by simpa using hr)
  have hm : masksK rows g rows.length = (placesK rows Ks).map fun p => (rows.getD p.1 default).getD p.2 default := by
    rw [masks2_eq, hKs]; rfl
  have hlen : (placesK rows Ks).length ≤ 12 := by have := places_len h Ks hK; omega
  rw [← hKs] at hpl
  rw [hm]
  obtain ⟨P, hP⟩ : ∃ P, P = placesK rows Ks := ⟨_, rfl⟩
  rw [← hP] at hpl hlen ⊢
  have q1 : ∀ p ∈ P, (p.1 : Int) < rows.length := fun p hp => by
    rw [hP] at hp
    have := (places_mem hK hp).1
    omega
  have q2 : ∀ p ∈ P, (p.2 : Int) < (rows.getD ((p.1 : Int)).toNat default).length := fun p hp => by
    rw [hP] at hp
    have := (places_mem hK hp).2
    rw [Int.toNat_natCast]
    omega
  have q3 : ∀ p ∈ P, (rows.getD ((p.1 : Int)).toNat default).getD ((p.2 : Int)).toNat default < 2 ^ 41 := fun p hp => by
    rw [hP] at hp
    obtain ⟨h1, h2⟩ := places_mem hK hp
    rw [Int.toNat_natCast, Int.toNat_natCast]
    refine okH_lt h (row_get h1) ?_
    have : (rows.getD p.1 default).getD p.2 default = (rows.getD p.1 default)[p.2] := by
      generalize rows.getD p.1 default = row at h2 ⊢
      simp [List.getD, h2]
    rw [this]
    exact List.getElem_mem _
  have q0 : ∀ p ∈ P, (0 : Int) ≤ (p.1 : Int) := fun p hp => by omega
  have q00 : ∀ p ∈ P, (0 : Int) ≤ (p.2 : Int) := fun p hp => by omega
  have e : cI (P.map fun p => (rows.getD p.1 default).getD p.2 default) = P.map fun p => (((rows.getD ((p.1 : Int)).toNat default).getD ((p.2 : Int)).toNat default : Nat) : Int) := by
    unfold cI
    rw [List.map_map]
    rfl
  rw [e]
  unfold f_masks_of F_masks_of
  (first | wtm_at "run" | fail)
theorem two_le {n : Nat} (h4 : n ≤ 4) : 2 ^ n ≤ 16 := by
  have : n = 0 ∨ n = 1 ∨ n = 2 ∨ n = 3 ∨ n = 4 := by omega
  rcases this with rfl | rfl | rfl | rfl | rfl <;> decide
def inS : List Nat → Nat → Prop
  | [], y => y = 0
  | x :: S, y => inS S y ∨ inS S (x ^^^ y)
theorem inS_zero : ∀ S, inS S 0
  | [] => rfl
  | x :: S => .inl (inS_zero S)
theorem x_cancel (x y : Nat) : x ^^^ (x ^^^ y) = y := by rw [← Nat.xor_assoc, Nat.xor_self, Nat.zero_xor]
theorem inS_xor : ∀ (S : List Nat) (y z : Nat), inS S y → inS S z → inS S (y ^^^ z)
  | [], y, z, h, h' => by
    simp only [inS] at *
    subst h h'
    rfl
  | x :: S, y, z, h, h' => by
    simp only [inS] at *
    rcases h with h | h <;> rcases h' with h' | h'
    · exact .inl (inS_xor S _ _ h h')
    · right
      have := inS_xor S _ _ h h'
      rwa [← Nat.xor_assoc, Nat.xor_comm y x, Nat.xor_assoc] at this
    · right
      have := inS_xor S _ _ h h'
      rwa [Nat.xor_assoc] at this
    · left
      have := inS_xor S _ _ h h'
      have e : x ^^^ y ^^^ (x ^^^ z) = y ^^^ z := by
        rw [Nat.xor_comm x y, Nat.xor_assoc, x_cancel]
      rwa [e] at this
theorem inS_mem : ∀ {S : List Nat} {x : Nat}, x ∈ S → inS S x
  | y :: S, x, h => by
    simp only [inS]
    rcases List.mem_cons.mp h with rfl | h
    · right
      rw [Nat.xor_self]
      exact inS_zero S
    · exact .inl (inS_mem h)
theorem inS_sub {T : List Nat} : ∀ {S : List Nat}, (∀ x ∈ S, inS T x) → ∀ {y : Nat}, inS S y → inS T y
  | [], _, y, h => by
    simp only [inS] at h
    subst h
    exact inS_zero T
  | x :: S, hS, y, h => by
    simp only [inS] at h
    rcases h with h | h
    · exact inS_sub (fun z hz => hS z (List.mem_cons_of_mem _ hz)) h
    · have h1 := inS_sub (fun z hz => hS z (List.mem_cons_of_mem _ hz)) h
      have := inS_xor T _ _ (hS x (List.mem_cons_self ..)) h1
      rwa [x_cancel] at this
theorem inS_app {S T : List Nat} {y : Nat} (h : inS S y) : inS (S ++ T) y := inS_sub (fun x hx => inS_mem (List.mem_append_left _ hx)) h
theorem inS_snoc {S : List Nat} {x y : Nat} : inS (S ++ [x]) y ↔ inS S y ∨ inS S (x ^^^ y) := by
  have e : inS (S ++ [x]) y ↔ inS (x :: S) y := ⟨inS_sub fun z hz => inS_mem (by simp at hz ⊢; exact hz.symm), inS_sub fun z hz => inS_mem (by simp at hz ⊢; exact hz.symm)⟩
  rw [e]
  exact Iff.rfl
theorem tb_lead {r : Nat} (h : r ≠ 0) : r.testBit r.log2 = true := by
  have h1 := Nat.log2_self_le h
  have h2 : r < 2 ^ (r.log2 + 1) := Nat.lt_log2_self
  rw [Nat.testBit_eq_decide_div_mod_eq]
  have : r / 2 ^ r.log2 = 1 := by
    refine Nat.div_eq_of_lt_le (by omega) ?_
    rw [Nat.pow_succ] at h2
    omega
  rw [this]
  rfl
theorem tb_above {r j : Nat} (h : r.log2 < j) : r.testBit j = false := by
  refine Nat.testBit_lt_two_pow ?_
  have h2 : r < 2 ^ (r.log2 + 1) := Nat.lt_log2_self
  exact Nat.lt_of_lt_of_le h2 (Nat.pow_le_pow_right (by decide) h)
theorem log2_of {x k : Nat} (h : x.testBit k = true) (h' : ∀ j, k < j → x.testBit j = false) : x ≠ 0 ∧ x.log2 = k := by
  have h0 : x ≠ 0 := fun e => by
    rw [e] at h
    simp at h
  refine ⟨h0, ?_⟩
  rcases Nat.lt_trichotomy x.log2 k with h1 | h1 | h1
  · rw [tb_above h1] at h
    cases h
  · exact h1
  · have := h' _ h1
    rw [tb_lead h0] at this
    cases this
theorem lt_tb {x y : Nat} (i : Nat) (hx : x.testBit i = false) (hy : y.testBit i = true) (h : ∀ j, i < j → x.testBit j = y.testBit j) : x < y := by
  have e : x / 2 ^ (i + 1) = y / 2 ^ (i + 1) := Nat.eq_of_testBit_eq fun j => by
    rw [Nat.testBit_div_two_pow, Nat.testBit_div_two_pow]
    exact h _ (by omega)
  have hxm : x % 2 ^ (i + 1) < 2 ^ i := Nat.lt_pow_two_of_testBit _ fun j hj => by
    rw [Nat.testBit_mod_two_pow]
    by_cases hji : j = i
    · rw [hji, hx, Bool.and_false]
    · rw [decide_eq_false (by omega), Bool.false_and]
  have hym : y % 2 ^ (i + 1) ≥ 2 ^ i := Nat.ge_two_pow_of_testBit (by
    rw [Nat.testBit_mod_two_pow, hy, decide_eq_true (by omega)]
    rfl)
  have h1 := Nat.div_add_mod x (2 ^ (i + 1))
  have h2 := Nat.div_add_mod y (2 ^ (i + 1))
  rw [e] at h1
  omega
theorem min_bit {m r : Nat} (hr : r ≠ 0) : (min m (m ^^^ r)).testBit r.log2 = false ∧ (min m (m ^^^ r) = m ∨ min m (m ^^^ r) = m ^^^ r) := by
  have ab : ∀ j, r.log2 < j → (m ^^^ r).testBit j = m.testBit j := fun j hj => by rw [Nat.testBit_xor, tb_above hj, Bool.xor_false]
  cases hb : m.testBit r.log2 with
  | false =>
    have h1 : (m ^^^ r).testBit r.log2 = true := by rw [Nat.testBit_xor, hb, tb_lead hr]; rfl
    have hlt : m < m ^^^ r := lt_tb r.log2 hb h1 fun j hj => (ab j hj).symm
    rw [Nat.min_eq_left (Nat.le_of_lt hlt)]
    exact ⟨hb, .inl rfl⟩
  | true =>
    have h1 : (m ^^^ r).testBit r.log2 = false := by rw [Nat.testBit_xor, hb, tb_lead hr]; rfl
    have hlt : m ^^^ r < m := lt_tb r.log2 h1 hb fun j hj => ab j hj
    rw [Nat.min_eq_right (Nat.le_of_lt hlt)]
    exact ⟨h1, .inr rfl⟩
def red (B : List Nat) (m : Nat) : Nat := B.foldl (fun m r => min m (m ^^^ r)) m
/-- each row is none, and its lead is in no later one -/
def good (B : List Nat) : Prop := (∀ r ∈ B, r ≠ 0) ∧ B.Pairwise fun a b => b.testBit a.log2 = false
theorem red_snoc (B : List Nat) (r m : Nat) : red (B ++ [r]) m = min (red B m) (red B m ^^^ r) := by
  unfold red
  rw [List.foldl_append]
  rfl
theorem rev_ind {P : List Nat → Prop} (h0 : P []) (h1 : ∀ B r, P B → P (B ++ [r])) (B : List Nat) : P B := by
  have : ∀ L : List Nat, P L.reverse := fun L => by
    induction L with
    | nil => exact h0
    | cons x L ih =>
      rw [List.reverse_cons]
      exact h1 _ _ ih
  have h := this B.reverse
  rwa [List.reverse_reverse] at h
theorem good_snoc {B : List Nat} {r : Nat} : good (B ++ [r]) ↔ good B ∧ r ≠ 0 ∧ ∀ a ∈ B, r.testBit a.log2 = false := by
  unfold good
  rw [List.pairwise_append]
  constructor
  · rintro ⟨h1, h2, h3, h4⟩
    exact ⟨⟨fun a ha => h1 a (List.mem_append_left _ ha), h2⟩, h1 r (by simp), fun a ha => h4 a ha r (by simp)⟩
  · rintro ⟨⟨h1, h2⟩, h3, h4⟩
    refine ⟨fun a ha => ?_, h2, List.pairwise_singleton _ _, fun a ha b hb => ?_⟩
    · rcases List.mem_append.mp ha with h | h
      · exact h1 a h
      · rw [List.mem_singleton.mp h]; exact h3
    · rw [List.mem_singleton.mp hb]; exact h4 a ha
theorem red_ok : ∀ (B : List Nat), good B → ∀ m, inS B (m ^^^ red B m) ∧ ∀ r ∈ B, (red B m).testBit r.log2 = false := by
  refine rev_ind ?_ ?_
  · intro _ m
    refine ⟨?_, fun r hr => by cases hr⟩
    show m ^^^ m = 0
    exact Nat.xor_self m
  · intro B r ih hg m
    obtain ⟨g1, g2, g3⟩ := good_snoc.mp hg
    obtain ⟨h1, h2⟩ := ih g1 m
    obtain ⟨h3, h4⟩ := min_bit (m := red B m) g2
    rw [red_snoc]
    refine ⟨?_, fun a ha => ?_⟩
    · rw [inS_snoc]
      rcases h4 with h4 | h4
      · rw [h4]; exact .inl h1
      · rw [h4]
        right
        have e : r ^^^ (m ^^^ (red B m ^^^ r)) = m ^^^ red B m := by
          rw [← Nat.xor_assoc m, Nat.xor_comm _ r, x_cancel]
        rw [e]
        exact h1
    · rcases List.mem_append.mp ha with h | h
      · rcases h4 with h4 | h4
        · rw [h4]; exact h2 a h
        · rw [h4, Nat.testBit_xor, h2 a h, g3 a h]; rfl
      · rw [List.mem_singleton.mp h]; exact h3
theorem lead_ok : ∀ (B : List Nat), good B → ∀ y, inS B y → y ≠ 0 → ∃ r ∈ B, r.log2 = y.log2 := by
  refine rev_ind ?_ ?_
  · intro _ y h h0
    exact absurd h h0
  · intro B r ih hg y h h0
    obtain ⟨g1, g2, g3⟩ := good_snoc.mp hg
    rw [inS_snoc] at h
    rcases h with h | h
    · obtain ⟨a, ha, e⟩ := ih g1 y h h0
      exact ⟨a, List.mem_append_left _ ha, e⟩
    · by_cases hz : r ^^^ y = 0
      · have : y = r := by
          have := x_cancel r y
          rw [hz, Nat.xor_zero] at this
          exact this.symm
        rw [this]
        exact ⟨r, by simp, rfl⟩
      · obtain ⟨a, ha, e⟩ := ih g1 _ h hz
        have hy : y = r ^^^ (r ^^^ y) := (x_cancel r y).symm
        obtain ⟨z, hzz⟩ : ∃ z, z = r ^^^ y := ⟨_, rfl⟩
        rw [← hzz] at hz e hy
        have hbit : r.testBit z.log2 = false := by rw [← e]; exact g3 a ha
        rcases Nat.lt_trichotomy r.log2 z.log2 with hl | hl | hl
        · have := log2_of (x := y) (k := z.log2) (by rw [hy, Nat.testBit_xor, hbit, tb_lead hz]; rfl) fun j hj => by rw [hy, Nat.testBit_xor, tb_above hj, tb_above (Nat.lt_trans hl hj)]; rfl
          exact ⟨a, List.mem_append_left _ ha, by rw [this.2, e]⟩
        · rw [← hl, tb_lead g2] at hbit
          cases hbit
        · have := log2_of (x := y) (k := r.log2) (by rw [hy, Nat.testBit_xor, tb_lead g2, tb_above hl]; rfl) fun j hj => by rw [hy, Nat.testBit_xor, tb_above hj, tb_above (Nat.lt_trans hl hj)]; rfl
          exact ⟨r, by simp, this.2.symm⟩
theorem red_zero {B : List Nat} (hg : good B) {m : Nat} : red B m = 0 ↔ inS B m := by
  obtain ⟨h1, h2⟩ := red_ok B hg m
  constructor
  · intro h
    rw [h, Nat.xor_zero] at h1
    exact h1
  · intro h
    have h3 : inS B (red B m) := by
      have := inS_xor B _ _ h h1
      rwa [x_cancel] at this
    by_cases h0 : red B m = 0
    · exact h0
    · obtain ⟨r, hr, e⟩ := lead_ok B hg _ h3 h0
      have := h2 r hr
      rw [e, tb_lead h0] at this
      cases this
def addB (B : List Nat) (m : Nat) : List Nat := if red B m > 0 then B ++ [red B m] else B
def bas (S : List Nat) : List Nat := S.foldl addB []
theorem bas_snoc (S : List Nat) (x : Nat) : bas (S ++ [x]) = addB (bas S) x := by
  unfold bas
  rw [List.foldl_append]
  rfl
theorem bas_ok : ∀ (S : List Nat), good (bas S) ∧ ∀ y, inS (bas S) y ↔ inS S y := by
  refine rev_ind ?_ ?_
  · exact ⟨⟨fun r hr => (by cases hr), List.Pairwise.nil⟩, fun y => Iff.rfl⟩
  · rintro S x ⟨hg, hs⟩
    obtain ⟨h1, h2⟩ := red_ok _ hg x
    rw [bas_snoc]
    unfold addB
    split
    · rename_i h0
      refine ⟨good_snoc.mpr ⟨hg, by omega, h2⟩, fun y => ?_⟩
      rw [inS_snoc, inS_snoc, hs y, ← hs (x ^^^ y)]
      have key : ∀ z, inS (bas S) (red (bas S) x ^^^ z) ↔ inS (bas S) (x ^^^ z) := fun z => by
        have e1 : x ^^^ red (bas S) x ^^^ (red (bas S) x ^^^ z) = x ^^^ z := by rw [Nat.xor_assoc, x_cancel]
        have e2 : x ^^^ red (bas S) x ^^^ (x ^^^ z) = red (bas S) x ^^^ z := by rw [Nat.xor_comm x, Nat.xor_assoc, x_cancel]
        constructor
        · intro h
          have := inS_xor _ _ _ h1 h
          rwa [e1] at this
        · intro h
          have := inS_xor _ _ _ h1 h
          rwa [e2] at this
      rw [key]
    · rename_i h0
      have hz : red (bas S) x = 0 := by omega
      have hx := (red_zero hg).mp hz
      refine ⟨hg, fun y => ?_⟩
      rw [inS_snoc, hs y, ← hs (x ^^^ y)]
      constructor
      · exact .inl
      · rintro (h | h)
        · exact h
        · rw [← hs y]
          have := inS_xor _ _ _ hx h
          rwa [x_cancel] at this
def rk (S : List Nat) : Nat := (bas S).length
theorem leads_nodup {B : List Nat} (hg : good B) : (B.map Nat.log2).Nodup := by
  unfold List.Nodup
  rw [List.pairwise_map]
  refine hg.2.imp_of_mem fun {a b} ha hb h => ?_
  intro e
  rw [e, tb_lead (hg.1 b hb)] at h
  cases h
theorem sub_len : ∀ {L M : List Nat}, L.Nodup → (∀ x ∈ L, x ∈ M) → L.length ≤ M.length
  | [], M, _, _ => Nat.zero_le _
  | a :: L, M, hn, hs => by
    obtain ⟨h1, h2⟩ := List.nodup_cons.mp hn
    have ha := hs a (List.mem_cons_self ..)
    have ih := sub_len (M := M.erase a) h2 fun x hx => by
      have : x ≠ a := fun e => h1 (e ▸ hx)
      exact (List.mem_erase_of_ne this).mpr (hs x (List.mem_cons_of_mem _ hx))
    have := List.length_erase_of_mem ha
    have : 0 < M.length := List.length_pos_of_mem ha
    simp only [List.length_cons]
    omega
theorem rk_mono {S T : List Nat} (h : ∀ x ∈ S, inS T x) : rk S ≤ rk T := by
  obtain ⟨g1, s1⟩ := bas_ok S
  obtain ⟨g2, s2⟩ := bas_ok T
  have := sub_len (leads_nodup g1) (M := (bas T).map Nat.log2) fun l hl => by
    obtain ⟨r, hr, rfl⟩ := List.mem_map.mp hl
    have : inS (bas T) r := (s2 r).mpr (inS_sub h ((s1 r).mp (inS_mem hr)))
    obtain ⟨q, hq, e⟩ := lead_ok _ g2 r this (g1.1 r hr)
    exact List.mem_map.mpr ⟨q, hq, e⟩
  simpa [rk] using this
theorem rk_snoc_in {S : List Nat} {x : Nat} (h : inS S x) : rk (S ++ [x]) = rk S := by
  obtain ⟨g, s⟩ := bas_ok S
  have : red (bas S) x = 0 := (red_zero g).mpr ((s x).mpr h)
  unfold rk
  rw [bas_snoc]
  unfold addB
  rw [this]
  rfl
theorem rk_snoc_out {S : List Nat} {x : Nat} (h : ¬ inS S x) : rk (S ++ [x]) = rk S + 1 := by
  obtain ⟨g, s⟩ := bas_ok S
  have : red (bas S) x ≠ 0 := fun e => h ((s x).mp ((red_zero g).mp e))
  unfold rk
  rw [bas_snoc]
  unfold addB
  rw [if_pos (by omega)]
  simp
theorem rk_le (S : List Nat) : rk S ≤ S.length := by
  have : ∀ S : List Nat, rk S ≤ S.length := rev_ind (by simp [rk, bas]) fun B r ih => by
    by_cases h : inS B r
    · rw [rk_snoc_in h]; simp; omega
    · rw [rk_snoc_out h]; simp; omega
  exact this S
theorem rank_in (ms : Option M) : ∀ (B : List Nat) (m : Nat), lpO 3 B__law_rank_1 (((cI B).map D.int).map .fz) [ms, none, some (I m), none] = some (((cI B).map D.int).map .fz, [ms, none, some (I (red B m)), none])
  | [], m => rfl
  | r :: B, m => by
    have ih := rank_in ms B (min m (m ^^^ r))
    have hb : B__law_rank_1 [ms, none, some (I m), some (I r)] = some (.nx [ms, none, some (I (min m (m ^^^ r) : Nat)), some (I r)]) := by
      unfold B__law_rank_1
      (first | wtm_at "sx" | fail)
    exact lpO_c (m := .fz (.int (r : Int))) (e1 := [ms, none, some (I m), some (I r)]) rfl hb rfl (e3 := [ms, none, some (I (min m (m ^^^ r) : Nat)), none]) rfl ih
theorem bas_len : ∀ S : List Nat, (bas S).length ≤ S.length := rk_le
theorem rank_ok (L : List Nat) (hL : L.length ≤ 1000) : f__law_rank [.fz (lI (cI L))] = some (I (rk L), [.fz (lI (cI L))]) := by
  obtain ⟨e', lp, x2, he⟩ := lp_map (lk := lk__law_rank) (t := .nm 2) (B := B__law_rank_2) (F := fun m : Nat => D.int (m : Int)) (fun pre e => ∃ (x2 : Option M), e = [some (.fz (lI (cI L))), some (oI (cI (bas pre))), x2, none]) L
    (fun pre m post hp e ⟨x2, he⟩ => by
      subst he
      have hlen : (bas pre).length ≤ 999 := by
        have := bas_len pre
        rw [← hp] at hL
        simp at hL
        omega
      have ri := rank_in (some (.fz (lI (cI L)))) (bas pre) m
      have so : sForO lk__law_rank 1 3 B__law_rank_1 [some (.fz (lI (cI L))), some (oI (cI (bas pre))), some (I m), none] = some (.nx [some (.fz (lI (cI L))), some (oI (cI (bas pre))), some (I (red (bas pre) m)), none]) :=
        x_forO rfl rfl (by decide) rfl rfl ri rfl
      have hbs := bas_snoc pre m
      unfold addB at hbs
      refine ⟨[some (.fz (lI (cI L))), some (oI (cI (bas pre))), some (I m), none], ?_⟩
      by_cases hc : red (bas pre) m > 0
      · have hc' : (0 : Int) < (red (bas pre) m : Nat) := by omega
        rw [if_pos hc] at hbs
        refine ⟨[some (.fz (lI (cI L))), some (oI (cI (bas pre) ++ [((red (bas pre) m : Nat) : Int)])), some (I (red (bas pre) m)), none], rfl, ?_, some (I (red (bas pre) m)), by rw [hbs]; simp [cI]⟩
        generalize red (bas pre) m = r at *
        unfold B__law_rank_2
        (first | wtm_at "sx" | fail)
      · have hc' : ¬ (0 : Int) < (red (bas pre) m : Nat) := by omega
        rw [if_neg hc] at hbs
        refine ⟨[some (.fz (lI (cI L))), some (oI (cI (bas pre))), some (I (red (bas pre) m)), none], rfl, ?_, some (I (red (bas pre) m)), by rw [hbs]⟩
        generalize red (bas pre) m = r at *
        unfold B__law_rank_2
        (first | wtm_at "sx" | fail))
    (e := [some (.fz (lI (cI L))), some (oI []), none, none]) ⟨_, rfl⟩
  have hcI : (cI L).map D.int = L.map fun m : Nat => D.int (m : Int) := by simp [cI]
  rw [← hcI] at lp
  subst he
  have hr : ((cI (bas L)).length : Int) = (rk L : Int) := by simp [cI, rk]
  unfold f__law_rank F__law_rank
  (first | wtm_at "run" | fail)
def rkG (rows : List (List Nat)) (g : Nat) : Nat := rk (masksK rows g rows.length)
theorem mem_masks {rows : List (List Nat)} {g : Nat} : ∀ {k m : Nat}, m ∈ masksK rows g k ↔ ∃ j, j < k ∧ g.testBit j = true ∧ m ∈ rows.getD j default
  | 0, m => by simp [masksK]
  | k + 1, m => by
    have hb : (g / 2 ^ k % 2 == 1) = g.testBit k := by
      rw [Nat.testBit_eq_decide_div_mod_eq, Bool.eq_iff_iff]
      simp
    rw [masksK_s, hb]
    cases hc : g.testBit k with
    | true =>
      simp only [if_true, List.mem_append]
      rw [mem_masks]
      constructor
      · rintro (⟨j, h1, h2, h3⟩ | h)
        · exact ⟨j, by omega, h2, h3⟩
        · exact ⟨k, by omega, hc, h⟩
      · rintro ⟨j, h1, h2, h3⟩
        by_cases hjk : j = k
        · subst hjk; exact .inr h3
        · exact .inl ⟨j, by omega, h2, h3⟩
    | false =>
      simp only [Bool.false_eq_true, if_false]
      rw [mem_masks]
      constructor
      · rintro ⟨j, h1, h2, h3⟩
        exact ⟨j, by omega, h2, h3⟩
      · rintro ⟨j, h1, h2, h3⟩
        by_cases hjk : j = k
        · subst hjk; rw [hc] at h2; cases h2
        · exact ⟨j, by omega, h2, h3⟩
def tabR (n : Nat) (rows : List (List Nat)) : List Int := (List.range (2 ^ n - 1)).map fun g => ((rkG rows (g + 1) : Nat) : Int)
theorem rkG_le {many : Nat} {rows : List (List Nat)} (h : okH many rows) (hr : rows.length ≤ 4) (g : Nat) : rkG rows g ≤ 12 := by
  have h1 := rk_le (masksK rows g rows.length)
  have h2 := masksK_len h (g := g) (k := rows.length) (Nat.le_refl _)
  unfold rkG
  omega
abbrev Bs := List (Nat × Nat × Nat)
def rowsB (B : Bs) : List Nat := B.map (·.2.1)
def lfP : Bs → Nat → Nat → Nat × Nat
  | [], m, w => (m, w)
  | b :: B, m, w => if m.testBit b.1 then lfP B (m ^^^ b.2.1) (w ^^^ b.2.2) else lfP B m w
def turnB (l lw : Nat) (b : Nat × Nat × Nat) : Nat × Nat × Nat := if b.2.1.testBit l.log2 then (b.1, b.2.1 ^^^ l, b.2.2 ^^^ lw) else b
def putP (B : Bs) (m w : Nat) : Bs := if (lfP B m w).1 = 0 then B else B.map (turnB (lfP B m w).1 (lfP B m w).2) ++ [((lfP B m w).1.log2, (lfP B m w).1, (lfP B m w).2)]
structure BI (B : Bs) : Prop where
  lead : ∀ b ∈ B, b.2.1 ≠ 0 ∧ b.1 = b.2.1.log2
  apart : ∀ a ∈ B, ∀ b ∈ B, a.1 ≠ b.1 → b.2.1.testBit a.1 = false
  nd : (B.map (·.1)).Nodup
theorem BI.nil : BI [] := ⟨by simp, by simp, by simp⟩
theorem lf_keep {k : Nat} : ∀ {B : Bs} {m w : Nat}, (∀ b ∈ B, b.2.1.testBit k = false) → (lfP B m w).1.testBit k = m.testBit k
  | [], m, w, h => rfl
  | b :: B, m, w, h => by
    unfold lfP
    have h1 : ∀ b ∈ B, b.2.1.testBit k = false := fun c hc => h c (List.mem_cons_of_mem _ hc)
    split
    · rw [lf_keep h1, Nat.testBit_xor, h b List.mem_cons_self, Bool.xor_false]
    · exact lf_keep h1
theorem lf_off : ∀ {B : Bs} {m w : Nat}, (∀ b ∈ B, b.2.1.testBit b.1 = true) → (∀ a ∈ B, ∀ b ∈ B, a.1 ≠ b.1 → b.2.1.testBit a.1 = false) → (B.map (·.1)).Nodup → ∀ b ∈ B, (lfP B m w).1.testBit b.1 = false
  | [], m, w, h0, h, hn, b, hb => by cases hb
  | c :: B, m, w, h0, h, hn, b, hb => by
    rw [List.map_cons, List.nodup_cons] at hn
    have r0 : ∀ b ∈ B, b.2.1.testBit b.1 = true := fun c hc => h0 c (List.mem_cons_of_mem _ hc)
    have r1 : ∀ a ∈ B, ∀ b ∈ B, a.1 ≠ b.1 → b.2.1.testBit a.1 = false := fun a ha b hb => h a (List.mem_cons_of_mem _ ha) b (List.mem_cons_of_mem _ hb)
    have kc : ∀ x ∈ B, x.2.1.testBit c.1 = false := fun x hx => h c List.mem_cons_self x (List.mem_cons_of_mem _ hx) fun e => hn.1 (by rw [e]; exact List.mem_map.mpr ⟨x, hx, rfl⟩)
    unfold lfP
    rcases List.mem_cons.mp hb with e | hb
    · subst e
      by_cases ht : m.testBit b.1 = true
      · rw [if_pos ht, lf_keep kc, Nat.testBit_xor, ht, h0 b List.mem_cons_self]
        rfl
      · rw [if_neg ht, lf_keep kc]
        simpa using ht
    · split
      · exact lf_off r0 r1 hn.2 b hb
      · exact lf_off r0 r1 hn.2 b hb
theorem lf_in : ∀ {B : Bs} {m w : Nat}, inS (rowsB B) (m ^^^ (lfP B m w).1)
  | [], m, w => by
    show m ^^^ m = 0
    exact Nat.xor_self m
  | b :: B, m, w => by
    unfold lfP
    have ih := fun m w => lf_in (B := B) (m := m) (w := w)
    have up : ∀ {y}, inS (rowsB B) y → inS (rowsB (b :: B)) y := fun h => .inl h
    split
    · have h1 := inS_xor (rowsB (b :: B)) _ _ (inS_mem (show b.2.1 ∈ rowsB (b :: B) by simp [rowsB])) (up (ih (m ^^^ b.2.1) (w ^^^ b.2.2)))
      have e : b.2.1 ^^^ (m ^^^ b.2.1 ^^^ (lfP B (m ^^^ b.2.1) (w ^^^ b.2.2)).1) = m ^^^ (lfP B (m ^^^ b.2.1) (w ^^^ b.2.2)).1 := by
        rw [Nat.xor_comm m b.2.1, Nat.xor_assoc, x_cancel]
      rwa [e] at h1
    · exact up (ih m w)
theorem BI.good {B : Bs} (h : BI B) : good (rowsB B) := by
  refine ⟨fun r hr => ?_, ?_⟩
  · obtain ⟨b, hb, rfl⟩ := List.mem_map.mp hr
    exact (h.lead b hb).1
  · unfold rowsB
    rw [List.pairwise_map]
    have := h.nd
    unfold List.Nodup at this
    rw [List.pairwise_map] at this
    refine this.imp_of_mem fun {a b} ha hb hne => ?_
    rw [← (h.lead a ha).2]
    exact h.apart a ha b hb hne
theorem BI.out {B : Bs} (h : BI B) {m w : Nat} (hl : (lfP B m w).1 ≠ 0) : ¬ inS (rowsB B) m := fun hm => by
  have h1 : inS (rowsB B) (lfP B m w).1 := by
    have := inS_xor _ _ _ hm (lf_in (B := B) (m := m) (w := w))
    rwa [x_cancel] at this
  obtain ⟨r, hr, hlog⟩ := lead_ok _ h.good _ h1 hl
  obtain ⟨b, hb, rfl⟩ := List.mem_map.mp hr
  have off := lf_off (m := m) (w := w) (fun b hb => by rw [(h.lead b hb).2]; exact tb_lead (h.lead b hb).1) h.apart h.nd b hb
  rw [(h.lead b hb).2, hlog, tb_lead hl] at off
  cases off
theorem turn_fst {l lw : Nat} {b : Nat × Nat × Nat} : (turnB l lw b).1 = b.1 := by
  unfold turnB
  split <;> rfl
theorem turn_row {l lw : Nat} {b : Nat × Nat × Nat} : (turnB l lw b).2.1 = if b.2.1.testBit l.log2 then b.2.1 ^^^ l else b.2.1 := by
  unfold turnB
  split <;> rfl
theorem log_xor {a b : Nat} (ha : a ≠ 0) (h : b.testBit a.log2 = false) (hb : b.log2 ≤ a.log2) : (a ^^^ b) ≠ 0 ∧ (a ^^^ b).log2 = a.log2 := by
  refine log2_of ?_ fun j hj => ?_
  · rw [Nat.testBit_xor, tb_lead ha, h]
    rfl
  · rw [Nat.testBit_xor, tb_above hj, tb_above (by omega)]
    rfl
theorem BI.put {B : Bs} (h : BI B) (m w : Nat) : BI (putP B m w) := by
  unfold putP
  split
  · exact h
  · rename_i hl
    obtain ⟨l, hle⟩ : ∃ l, (lfP B m w).1 = l := ⟨_, rfl⟩
    obtain ⟨lw, hlw⟩ : ∃ lw, (lfP B m w).2 = lw := ⟨_, rfl⟩
    have off : ∀ b ∈ B, l.testBit b.1 = false := by
      rw [← hle]
      exact lf_off (fun b hb => by rw [(h.lead b hb).2]; exact tb_lead (h.lead b hb).1) h.apart h.nd
    rw [hle] at hl
    simp only [hle, hlw]
    have nl : ∀ b ∈ B, b.1 ≠ l.log2 := fun b hb e => by
      have := off b hb
      rw [e, tb_lead hl] at this
      cases this
    have row : ∀ b ∈ B, (turnB l lw b).2.1 ≠ 0 ∧ b.1 = (turnB l lw b).2.1.log2 := fun b hb => by
      rw [turn_row]
      obtain ⟨h1, h2⟩ := h.lead b hb
      split
      · rename_i ht
        have hle : l.log2 ≤ b.2.1.log2 := by
          refine Nat.le_of_not_lt fun z => ?_
          rw [tb_above z] at ht
          cases ht
        have := log_xor h1 (by rw [← h2]; exact off b hb) hle
        exact ⟨this.1, h2.trans this.2.symm⟩
      · exact ⟨h1, h2⟩
    refine ⟨fun b hb => ?_, fun a ha b hb hne => ?_, ?_⟩
    · rcases List.mem_append.mp hb with z | z
      · obtain ⟨c, hc, rfl⟩ := List.mem_map.mp z
        rw [turn_fst]
        exact row c hc
      · rw [List.mem_singleton.mp z]
        exact ⟨hl, rfl⟩
    · rcases List.mem_append.mp ha with z | z
      · obtain ⟨c, hc, rfl⟩ := List.mem_map.mp z
        rw [turn_fst] at hne ⊢
        rcases List.mem_append.mp hb with y | y
        · obtain ⟨d, hd, rfl⟩ := List.mem_map.mp y
          rw [turn_fst] at hne
          rw [turn_row]
          split
          · rw [Nat.testBit_xor, h.apart c hc d hd hne, off c hc]
            rfl
          · exact h.apart c hc d hd hne
        · rw [List.mem_singleton.mp y]
          exact off c hc
      · rw [List.mem_singleton.mp z] at hne ⊢
        rcases List.mem_append.mp hb with y | y
        · obtain ⟨d, hd, rfl⟩ := List.mem_map.mp y
          rw [turn_row]
          split
          · rename_i ht
            show (d.2.1 ^^^ l).testBit l.log2 = false
            rw [Nat.testBit_xor, ht, tb_lead hl]
            rfl
          · rename_i ht
            simpa using ht
        · rw [List.mem_singleton.mp y] at hne
          exact absurd rfl hne
    · rw [List.map_append, List.map_map]
      have e : (B.map ((·.1) ∘ turnB l lw)) = B.map (·.1) := List.map_congr_left fun b _ => turn_fst
      rw [e]
      refine List.nodup_append.mpr ⟨h.nd, by simp, fun x hx y hy e => ?_⟩
      obtain ⟨b, hb, rfl⟩ := List.mem_map.mp hx
      simp only [List.map_cons, List.map_nil, List.mem_singleton] at hy
      exact nl b hb (e.trans hy)
theorem put_span {B : Bs} (m w y : Nat) : inS (rowsB (putP B m w)) y ↔ inS (rowsB B ++ [m]) y := by
  have hin := lf_in (B := B) (m := m) (w := w)
  unfold putP
  split
  · rename_i hl
    rw [hl, Nat.xor_zero] at hin
    refine ⟨inS_app, inS_sub fun x hx => ?_⟩
    rcases List.mem_append.mp hx with z | z
    · exact inS_mem z
    · rw [List.mem_singleton.mp z]
      exact hin
  · rename_i hl
    obtain ⟨l, hle⟩ : ∃ l, (lfP B m w).1 = l := ⟨_, rfl⟩
    obtain ⟨lw, hlw⟩ : ∃ lw, (lfP B m w).2 = lw := ⟨_, rfl⟩
    rw [hle] at hl hin
    simp only [hle, hlw]
    have e0 : rowsB (B.map (turnB l lw) ++ [(l.log2, l, lw)]) = (B.map fun b => (turnB l lw b).2.1) ++ [l] := by
      unfold rowsB
      rw [List.map_append, List.map_map]
      rfl
    rw [e0]
    have l1 : inS (rowsB B ++ [m]) l := by
      have := inS_xor _ _ _ (inS_mem (show m ∈ rowsB B ++ [m] by simp)) (inS_app (T := [m]) hin)
      rwa [x_cancel] at this
    have l2 : inS ((B.map fun b => (turnB l lw b).2.1) ++ [l]) l := inS_mem (by simp)
    have rows2 : ∀ r ∈ rowsB B, inS ((B.map fun b => (turnB l lw b).2.1) ++ [l]) r := fun r hr => by
      obtain ⟨b, hb, rfl⟩ := List.mem_map.mp hr
      have h1 : inS ((B.map fun b => (turnB l lw b).2.1) ++ [l]) (turnB l lw b).2.1 := inS_mem (List.mem_append_left _ (List.mem_map.mpr ⟨b, hb, rfl⟩))
      rw [turn_row] at h1
      split at h1
      · have := inS_xor _ _ _ l2 h1
        rwa [Nat.xor_comm b.2.1 l, x_cancel] at this
      · exact h1
    constructor
    · refine inS_sub fun x hx => ?_
      rcases List.mem_append.mp hx with z | z
      · obtain ⟨b, hb, rfl⟩ := List.mem_map.mp z
        rw [turn_row]
        have hr : inS (rowsB B ++ [m]) b.2.1 := inS_mem (List.mem_append_left _ (List.mem_map.mpr ⟨b, hb, rfl⟩))
        split
        · exact inS_xor _ _ _ hr l1
        · exact hr
      · rw [List.mem_singleton.mp z]
        exact l1
    · refine inS_sub fun x hx => ?_
      rcases List.mem_append.mp hx with z | z
      · exact rows2 x z
      · rw [List.mem_singleton.mp z]
        have := inS_xor _ _ _ l2 (inS_sub rows2 hin)
        rwa [Nat.xor_comm m l, x_cancel] at this
/-- the basis of masks that are put one by one, with ways 1 << place -/
def basP : Bs → Nat → List Nat → Bs
  | B, _, [] => B
  | B, k, m :: ms => basP (putP B m (2 ^ k)) (k + 1) ms
theorem basP_snoc : ∀ (L : List Nat) (B : Bs) (k x : Nat), basP B k (L ++ [x]) = putP (basP B k L) x (2 ^ (k + L.length))
  | [], B, k, x => rfl
  | m :: L, B, k, x => by
    show basP (putP B m (2 ^ k)) (k + 1) (L ++ [x]) = _
    rw [basP_snoc L]
    have : k + 1 + L.length = k + (m :: L).length := by simp; omega
    rw [this]
    rfl
theorem put_len (B : Bs) (m w : Nat) : (putP B m w).length = if (lfP B m w).1 = 0 then B.length else B.length + 1 := by
  unfold putP
  split <;> simp
theorem basP_ok (L : List Nat) : BI (basP [] 0 L) ∧ (∀ y, inS (rowsB (basP [] 0 L)) y ↔ inS L y) ∧ (basP [] 0 L).length = rk L := by
  refine rev_ind (P := fun L => BI (basP [] 0 L) ∧ (∀ y, inS (rowsB (basP [] 0 L)) y ↔ inS L y) ∧ (basP [] 0 L).length = rk L) ⟨BI.nil, fun y => Iff.rfl, rfl⟩ (fun L x ⟨h1, h2, h3⟩ => ?_) L
  rw [basP_snoc]
  refine ⟨h1.put _ _, fun y => ?_, ?_⟩
  · rw [put_span, inS_snoc, inS_snoc, h2, h2]
  · rw [put_len, h3]
    split
    · rename_i hl
      have := lf_in (B := basP [] 0 L) (m := x) (w := 2 ^ (0 + L.length))
      rw [hl, Nat.xor_zero, h2] at this
      exact (rk_snoc_in this).symm
    · rename_i hl
      exact (rk_snoc_out fun z => h1.out hl ((h2 x).mpr z)).symm
def kvB (B : Bs) : List (L2.Key × D) := B.map fun b => (Sum.inl (b.1 : Int), D.tup [.int b.2.1, .int b.2.2])
abbrev bsM (B : Bs) : M := .oi (ca.at_ 0) [("rows", .od false (kvB B))]
abbrev bsD (B : Bs) : D := .ins (ca.at_ 0) [("rows", .dic ((kvB B).map (·.1)) ((kvB B).map (·.2)))]
theorem zip_fs {α β : Type} : ∀ l : List (α × β), (l.map (·.1)).zip (l.map (·.2)) = l
  | [] => rfl
  | a :: l => by simp [zip_fs l]
theorem getK_kvB : ∀ {B : Bs} {b : Nat × Nat × Nat}, (B.map (·.1)).Nodup → b ∈ B → getK (kvB B) (.inl (b.1 : Int)) = some (.tup [.int b.2.1, .int b.2.2])
  | c :: B, b, hn, hb => by
    rw [List.map_cons, List.nodup_cons] at hn
    unfold getK kvB
    rw [List.map_cons, List.find?_cons]
    by_cases hc : c.1 = b.1
    · have : c = b := by
        rcases List.mem_cons.mp hb with z | z
        · exact z.symm
        · exact absurd (List.mem_map.mpr ⟨b, z, hc.symm⟩) hn.1
      subst this
      simp
    · have hb' : b ∈ B := by
        rcases List.mem_cons.mp hb with z | z
        · exact absurd (by rw [z]) hc
        · exact z
      have h1 : (Sum.inl (c.1 : Int) : L2.Key) ≠ Sum.inl (b.1 : Int) := fun e => hc (by
        have := Sum.inl.inj e
        omega)
      simp only [decide_eq_false h1]
      exact getK_kvB hn.2 hb'
theorem keys_kvB (B : Bs) : ((kvB B).map fun kv => kD kv.1) = B.map fun b => D.int (b.1 : Int) := by
  unfold kvB
  rw [List.map_map]
  rfl
theorem tb_eq (m k : Nat) : (Builtin.bitAnd ((m : Int) / 2 ^ ((k : Int)).toNat) 1 == 1) = m.testBit k := by
  have h1 : ((m : Int) / 2 ^ ((k : Int)).toNat) = ((m / 2 ^ k : Nat) : Int) := by
    rw [Int.toNat_natCast]
    simp
  rw [h1, show (1 : Int) = ((1 : Nat) : Int) from rfl, bitAndN, Nat.and_one_is_mod, Nat.testBit_eq_decide_div_mod_eq]
  have h2 := Nat.mod_two_eq_zero_or_one (m / 2 ^ k)
  rcases h2 with h2 | h2 <;> rw [h2] <;> rfl
theorem lf_snoc : ∀ (B : Bs) (b : Nat × Nat × Nat) (m w : Nat), lfP (B ++ [b]) m w = if (lfP B m w).1.testBit b.1 then ((lfP B m w).1 ^^^ b.2.1, (lfP B m w).2 ^^^ b.2.2) else lfP B m w
  | [], b, m, w => rfl
  | c :: B, b, m, w => by
    rw [List.cons_append]
    unfold lfP
    split
    · rw [lf_snoc B b]
    · rw [lf_snoc B b]
def scO : Option M → Bool
  | none => true
  | some (.fz d) => scal d
  | _ => false
theorem backV_x {v : Nat} {vs : List Nat} {e2 env e : En} {x : Option M} (h : backV vs e2 env = some e) (h' : e2[v]? = some x) (hs : scO x = true) : backV (v :: vs) e2 env = some (e.set v x) := by
  match x, hs with
  | none, _ => exact backV_k h (by unfold En.get; rw [h']) rfl
  | some (.fz d), hs => exact backV_f h (by unfold En.get; rw [h']) hs rfl
theorem left_ok (B : Bs) (hn : (B.map (·.1)).Nodup) (m w : Nat) : f_Basis_left_of [bsM B, I m, I w] = some (.fz (.tup [.int ((lfP B m w).1 : Nat), .int ((lfP B m w).2 : Nat)]), [bsM B, I m, I w]) := by
  obtain ⟨ef, lp, x3, x4, x5, hx3, hx4, hx5, he⟩ := lp_map (lk := lkV lk_Basis_left_of [1, 2, 3, 4, 5]) (t := .nm 3) (B := B_Basis_left_of_0) (F := fun b : Nat × Nat × Nat => D.int (b.1 : Int))
    (fun pre e => ∃ x3 x4 x5 : Option M, scO x3 = true ∧ scO x4 = true ∧ scO x5 = true ∧ e = [some (.fz (bsD B)), some (I ((lfP pre m w).1 : Nat)), some (I ((lfP pre m w).2 : Nat)), x3, x4, x5]) B
    (fun pre b post hp e ⟨x3, x4, x5, h3, h4, h5, he⟩ => by
      subst he
      obtain ⟨l, r, c⟩ := b
      have hb : (l, r, c) ∈ B := by rw [← hp]; simp
      have hg : getK (((kvB B).map (·.1)).zip ((kvB B).map (·.2))) (.inl (l : Int)) = some (.tup [.int r, .int c]) := by
        rw [zip_fs]
        exact getK_kvB hn hb
      obtain ⟨M', hM⟩ : ∃ M', (lfP pre m w).1 = M' := ⟨_, rfl⟩
      obtain ⟨W', hW⟩ : ∃ W', (lfP pre m w).2 = W' := ⟨_, rfl⟩
      have hs := lf_snoc pre (l, r, c) m w
      rw [hM, hW] at hs
      have htb := tb_eq M' l
      rw [hM, hW]
      cases hc : M'.testBit l with
      | true =>
        simp only [hc, if_true] at hs
        rw [hc] at htb
        refine ⟨[some (.fz (bsD B)), some (I M'), some (I W'), some (I l), x4, x5], [some (.fz (bsD B)), some (I ((M' ^^^ r : Nat) : Int)), some (I ((W' ^^^ c : Nat) : Int)), some (I l), some (I r), some (I c)], rfl, ?_, some (I l), some (I r), some (I c), rfl, rfl, rfl, by rw [hs]⟩
        unfold B_Basis_left_of_0
        (first | wtm_at "sx" | fail)
      | false =>
        simp only [hc] at hs
        rw [hc] at htb
        refine ⟨[some (.fz (bsD B)), some (I M'), some (I W'), some (I l), x4, x5], [some (.fz (bsD B)), some (I M'), some (I W'), some (I l), some (I r), some (I c)], rfl, ?_, some (I l), some (I r), some (I c), rfl, rfl, rfl, by simp only [Bool.false_eq_true, if_false] at hs; rw [hs, hM, hW]⟩
        unfold B_Basis_left_of_0
        (first | wtm_at "sx" | fail))
    (e := [some (.fz (bsD B)), some (I m), some (I w), none, none, none]) ⟨_, _, _, rfl, rfl, rfl, rfl⟩
  subst he
  have hf : sForK lk_Basis_left_of [1, 2, 3, 4, 5] (.nm 3) (una (oFld 0 "rows") (nam 0)) B_Basis_left_of_0 [some (bsM B), some (I m), some (I w), none, none, none] = some (.nx [some (bsM B), some (I ((lfP B m w).1 : Nat)), some (I ((lfP B m w).2 : Nat)), x3, x4, x5]) := by
    refine x_forK (i := 0) (p := [.fd "rows"]) (kvs := kvB B) (e1 := [some (.oi (ca.at_ 0) [("rows", .od true (kvB B))]), some (I m), some (I w), none, none, none]) (e2 := [some (.fz (bsD B)), some (I m), some (I w), none, none, none]) (ef := [some (.fz (bsD B)), some (I ((lfP B m w).1 : Nat)), some (I ((lfP B m w).2 : Nat)), x3, x4, x5]) ?_ (place_fd rfl getF_1) (setE_fd rfl getF_1 (by rw [setF_1]; rfl)) ?_ rfl ?_ (by rw [keys_kvB]; exact lp) rfl
      (backV_x (backV_x (backV_x (backV_x (backV_x backV_n rfl hx5) rfl hx4) rfl hx3) rfl rfl) rfl rfl)
    · (first | wtm_at "sx" | fail)
    · (first | wtm_at "sx" | fail)
    · exact frozL_c (froz_m (dat0_i1 dat0_d)) rfl
  unfold f_Basis_left_of F_Basis_left_of
  (first | wtm_at "run" | fail)
theorem putD_at : ∀ {P Q : Bs} {b : Nat × Nat × Nat} {r c : Nat}, ((P ++ b :: Q).map (·.1)).Nodup → putD (kvB (P ++ b :: Q)) (.inl (b.1 : Int)) (.tup [.int r, .int c]) = kvB (P ++ (b.1, r, c) :: Q) := fun {P Q b r c} hn => by
  have hany : ((kvB (P ++ b :: Q)).any fun kv => decide (kv.1 = Sum.inl (b.1 : Int))) = true := by
    unfold kvB
    simp
  unfold putD
  rw [if_pos hany]
  unfold kvB
  rw [List.map_map]
  rw [List.map_append, List.map_append, List.map_cons, List.map_cons]
  rw [List.map_append, List.map_cons] at hn
  have hn' := List.nodup_append.mp hn
  have hq := List.nodup_cons.mp hn'.2.1
  have other : ∀ x : Nat × Nat × Nat, x.1 ≠ b.1 → (if (Sum.inl (x.1 : Int) : L2.Key) = Sum.inl (b.1 : Int) then ((Sum.inl (x.1 : Int) : L2.Key), D.tup [.int r, .int c]) else (Sum.inl (x.1 : Int), D.tup [.int x.2.1, .int x.2.2])) = (Sum.inl (x.1 : Int), D.tup [.int x.2.1, .int x.2.2]) := fun x hx => if_neg fun e => hx (by
    have := Sum.inl.inj e
    omega)
  congr 1
  · refine List.map_congr_left fun x hx => other x fun e => hn'.2.2 x.1 (List.mem_map.mpr ⟨x, hx, rfl⟩) b.1 (by simp) e
  · congr 1
    · simp
    · refine List.map_congr_left fun x hx => other x fun e => hq.1 (by rw [← e]; exact List.mem_map.mpr ⟨x, hx, rfl⟩)
theorem putD_new {P : Bs} {l r c : Nat} (h : ∀ b ∈ P, b.1 ≠ l) : putD (kvB P) (.inl (l : Int)) (.tup [.int r, .int c]) = kvB (P ++ [(l, r, c)]) := by
  have hany : ((kvB P).any fun kv => decide (kv.1 = Sum.inl (l : Int))) = false := by
    refine List.any_eq_false.mpr fun kv hkv => ?_
    obtain ⟨b, hb, rfl⟩ := List.mem_map.mp hkv
    simp only [decide_eq_true_eq]
    intro e
    exact h b hb (by have := Sum.inl.inj e; omega)
  unfold putD
  rw [hany]
  unfold kvB
  rw [List.map_append]
  rfl
theorem bits_eq (l : Nat) (h : l ≠ 0) : ((Builtin.Int.intBits (l : Int) : Nat) : Int) - 1 = (l.log2 : Nat) := by
  unfold Builtin.Int.intBits
  rw [if_neg (by simpa using (show (l : Int) ≠ 0 by omega))]
  simp
theorem turn_fsts (l lw : Nat) (B : Bs) : (B.map (turnB l lw)).map (·.1) = B.map (·.1) := by
  rw [List.map_map]
  exact List.map_congr_left fun b _ => turn_fst
abbrev penv (B : Bs) (m w l lw ld : Nat) (a b c : Option M) : En := [some (bsM B), some (I m), some (I w), some (I l), some (I lw), some (I ld), a, b, c]
theorem put_step (P Q : Bs) (b : Nat × Nat × Nat) (m w l lw : Nat) (x6 x7 x8 : Option M) (hn : ((P ++ b :: Q).map (·.1)).Nodup) (hl : (P ++ b :: Q).length ≤ 1000) :
    B_Basis_put_0 (penv (P ++ b :: Q) m w l lw l.log2 (some (I b.1)) x7 x8) = some (.nx (penv (P ++ turnB l lw b :: Q) m w l lw l.log2 (some (I b.1)) (some (I b.2.1)) (some (I b.2.2)))) := by
  obtain ⟨k, r, c⟩ := b
  have hp1 : En.place (penv (P ++ (k, r, c) :: Q) m w l lw l.log2 (some (I k)) x7 x8) 0 [.fd "rows"] = some (.od false (kvB (P ++ (k, r, c) :: Q))) := place_fd rfl getF_1
  have hg : getK (kvB (P ++ (k, r, c) :: Q)) (.inl (k : Int)) = some (.tup [.int r, .int c]) := getK_kvB hn (b := (k, r, c)) (by simp)
  have htb := tb_eq r l.log2
  have hlen : (kvB (P ++ (k, r, c) :: Q)).length ≤ 1000 := by unfold kvB; rw [List.length_map]; exact hl
  cases hc : r.testBit l.log2 with
  | true =>
    rw [hc] at htb
    have hp2 : En.place (penv (P ++ (k, r, c) :: Q) m w l lw l.log2 (some (I k)) (some (I r)) (some (I c))) 0 [.fd "rows"] = some (.od false (kvB (P ++ (k, r, c) :: Q))) := place_fd rfl getF_1
    have ht : turnB l lw (k, r, c) = (k, r ^^^ l, c ^^^ lw) := by unfold turnB; rw [if_pos hc]
    have hs : setE (penv (P ++ (k, r, c) :: Q) m w l lw l.log2 (some (I k)) (some (I r)) (some (I c))) 0 [.fd "rows"] (.od false (putD (kvB (P ++ (k, r, c) :: Q)) (.inl (k : Int)) (.tup [.int ((r ^^^ l : Nat) : Int), .int ((c ^^^ lw : Nat) : Int)]))) = some (penv (P ++ turnB l lw (k, r, c) :: Q) m w l lw l.log2 (some (I k)) (some (I r)) (some (I c))) := by
      refine setE_fd rfl getF_1 ?_
      rw [setF_1, putD_at hn, ht]
      rfl
    unfold B_Basis_put_0
    (first | wtm_at "sx" | fail)
  | false =>
    rw [hc] at htb
    have ht : turnB l lw (k, r, c) = (k, r, c) := by unfold turnB; rw [if_neg (by rw [hc]; simp)]
    rw [ht]
    unfold B_Basis_put_0
    (first | wtm_at "sx" | fail)
theorem put_len_le (B : Bs) (m w : Nat) : (putP B m w).length ≤ B.length + 1 := by
  rw [put_len]
  split <;> omega
theorem getF_no (m : M) (f g : Str) (h : ¬ f = g) : getF [(f, m)] g = none := if_neg h
theorem put_ok (B : Bs) (h : BI B) (m w : Nat) (hlen : B.length ≤ 900) : f_Basis_put [bsM B, I m, I w] = some (.fz (.tup [.int ((lfP B m w).1 : Nat), .int ((lfP B m w).2 : Nat)]), [bsM (putP B m w), I m, I w]) := by
  have hleft := left_ok B h.nd m w
  have off := lf_off (m := m) (w := w) (fun b hb => by rw [(h.lead b hb).2]; exact tb_lead (h.lead b hb).1) h.apart h.nd
  obtain ⟨l, hle⟩ : ∃ l, (lfP B m w).1 = l := ⟨_, rfl⟩
  obtain ⟨lw, hlw⟩ : ∃ lw, (lfP B m w).2 = lw := ⟨_, rfl⟩
  have hput : putP B m w = if l = 0 then B else B.map (turnB l lw) ++ [(l.log2, l, lw)] := by unfold putP; rw [hle, hlw]
  rw [hput]
  rw [hle] at off
  rw [hle, hlw] at hleft ⊢
  have s1 : sUnp lk_Basis_put (.tp [(.nm 3), (.nm 4)]) (callM 0 "left_of" [true, false, false] f_Basis_left_of 0 (lifA (aCons (nam 1) (aCons (nam 2) aNil)))) [some (bsM B), some (I m), some (I w), none, none, none, none, none, none] = some (.nx [some (bsM B), some (I m), some (I w), some (I l), some (I lw), none, none, none, none]) := by
    refine x_unp (x_callM rfl (getF_no _ _ _ (by decide +kernel)) (x_callI (i := 0) (n := bsM B) (rest := [I m, I w]) (cs := [I m, I w]) (e1 := [some (bsM B), some (I m), some (I w), none, none, none, none, none, none]) ?_ rfl rfl rfl hleft rfl)) rfl (asT_tp rfl ?_)
    · (first | wtm_at "sx" | fail)
    · (first | wtm_at "asTs" | fail)
  by_cases hl : l = 0
  · have hc : tst (T2.bin (sop (gEq true)) (nam 3) (cst (.int 0))) [some (bsM B), some (I m), some (I w), some (I l), some (I lw), none, none, none, none] = some false := by
      have h1 : tst (T2.bin (sop (gEq true)) (nam 3) (cst (.int 0))) [some (bsM B), some (I m), some (I w), some (I l), some (I lw), none, none, none, none] = some (!((l : Int) == 0)) := by (first | wtm_at "sx" | fail)
      rw [h1, hl]
      rfl
    rw [if_pos hl]
    have r : sRet lk_Basis_put (lif (opr oTup (aCons (nam 3) (aCons (nam 4) aNil)))) [some (bsM B), some (I m), some (I w), some (I l), some (I lw), none, none, none, none] = some (.rt (.fz (.tup [.int l, .int lw])) [some (bsM B), some (I m), some (I w), some (I l), some (I lw), none, none, none, none]) := by (first | wtm_at "sx" | fail)
    exact run_rt rfl rfl rfl (seq_of s1 (seq_of (ifX_f (x_lifT hc) e_nil) r)) rfl
  · have hc : tst (T2.bin (sop (gEq true)) (nam 3) (cst (.int 0))) [some (bsM B), some (I m), some (I w), some (I l), some (I lw), none, none, none, none] = some true := by
      have h1 : tst (T2.bin (sop (gEq true)) (nam 3) (cst (.int 0))) [some (bsM B), some (I m), some (I w), some (I l), some (I lw), none, none, none, none] = some (!((l : Int) == 0)) := by (first | wtm_at "sx" | fail)
      rw [h1]
      have : ((l : Int) == 0) = false := beq_false_of_ne (by omega)
      rw [this]
      rfl
    rw [if_neg hl]
    have hbits := bits_eq l hl
    obtain ⟨e', lp, x6, x7, x8, he⟩ := lp_map (lk := lk_Basis_put) (t := .nm 6) (B := B_Basis_put_0) (F := fun b : Nat × Nat × Nat => D.int (b.1 : Int))
      (fun pre e => ∃ x6 x7 x8 : Option M, e = penv (pre.map (turnB l lw) ++ B.drop pre.length) m w l lw l.log2 x6 x7 x8) B
      (fun pre b post hp e ⟨x6, x7, x8, he⟩ => by
        subst he
        have hd : B.drop pre.length = b :: post := by rw [← hp]; simp
        have hd2 : B.drop (pre ++ [b]).length = post := by rw [← hp]; simp
        have hn : ((pre.map (turnB l lw) ++ b :: post).map (·.1)).Nodup := by
          rw [List.map_append, turn_fsts, ← List.map_append, hp]
          exact h.nd
        have hll : (pre.map (turnB l lw) ++ b :: post).length ≤ 1000 := by
          have := congrArg List.length hp
          simp at this ⊢
          omega
        rw [hd]
        refine ⟨penv (pre.map (turnB l lw) ++ b :: post) m w l lw l.log2 (some (I b.1)) x7 x8, penv (pre.map (turnB l lw) ++ turnB l lw b :: post) m w l lw l.log2 (some (I b.1)) (some (I b.2.1)) (some (I b.2.2)), rfl, put_step _ post b m w l lw (some (I b.1)) x7 x8 hn hll, some (I b.1), some (I b.2.1), some (I b.2.2), ?_⟩
        rw [hd2, List.map_append]
        simp)
      (e := penv B m w l lw l.log2 none none none) ⟨none, none, none, rfl⟩
    subst he
    rw [List.drop_length, List.append_nil] at lp
    obtain ⟨B2, hB2⟩ : ∃ B2, B.map (turnB l lw) = B2 := ⟨_, rfl⟩
    rw [hB2] at lp ⊢
    have hl2 : (kvB B2).length ≤ 900 := by rw [← hB2]; unfold kvB; rw [List.length_map, List.length_map]; exact hlen
    have hl1 : (B.map fun b => D.int (b.1 : Int)).length ≤ 900 := by rw [List.length_map]; exact hlen
    have hnew : ∀ b ∈ B2, b.1 ≠ l.log2 := fun b hb e => by
      rw [← hB2] at hb
      obtain ⟨c, hc, rfl⟩ := List.mem_map.mp hb
      rw [turn_fst] at e
      have := off c hc
      rw [e, tb_lead hl] at this
      cases this
    have s2 : sAsg lk_Basis_put 5 0 (lif (T2.bin (sop iSub) (una (sop iBits) (nam 3)) (cst (.int 1)))) [some (bsM B), some (I m), some (I w), some (I l), some (I lw), none, none, none, none] = some (.nx (penv B m w l lw l.log2 none none none)) := by (first | wtm_at "sx" | fail)
    have hpB : En.place (penv B m w l lw l.log2 none none none) 0 [.fd "rows"] = some (.od false (kvB B)) := place_fd rfl getF_1
    have hks : una oKeys (una (oFld 0 "rows") (nam 0)) (penv B m w l lw l.log2 none none none) = some (oD (B.map fun b => D.int (b.1 : Int))) := by
      have h1 : una oKeys (una (oFld 0 "rows") (nam 0)) (penv B m w l lw l.log2 none none none) = some (oD ((kvB B).map fun kv => kD kv.1)) := by (first | wtm_at "sx" | fail)
      rw [h1, keys_kvB]
    have s3 : sFor lk_Basis_put (.nm 6) (itX true (lif (una oKeys (una (oFld 0 "rows") (nam 0))))) B_Basis_put_0 (penv B m w l lw l.log2 none none none) = some (.nx (penv B2 m w l lw l.log2 x6 x7 x8)) := by
      have hi : itX true (lif (una oKeys (una (oFld 0 "rows") (nam 0)))) (penv B m w l lw l.log2 none none none) = some (B.map fun b => D.int (b.1 : Int), penv B m w l lw l.log2 none none none) := by (first | wtm_at "sx" | fail)
      exact x_for hi lp
    have hp2 : En.place (penv B2 m w l lw l.log2 x6 x7 x8) 0 [.fd "rows"] = some (.od false (kvB B2)) := place_fd rfl getF_1
    have hs2 : setE (penv B2 m w l lw l.log2 x6 x7 x8) 0 [.fd "rows"] (.od false (putD (kvB B2) (.inl ((l.log2 : Nat) : Int)) (.tup [.int (l : Nat), .int (lw : Nat)]))) = some (penv (B2 ++ [(l.log2, l, lw)]) m w l lw l.log2 x6 x7 x8) := by
      refine setE_fd rfl getF_1 ?_
      rw [setF_1, putD_new hnew]
      rfl
    have s4 : sDSet (una (oFld 0 "rows") (nam 0)) (nam 5) (lif (opr oTup (aCons (nam 3) (aCons (nam 4) aNil)))) (penv B2 m w l lw l.log2 x6 x7 x8) = some (.nx (penv (B2 ++ [(l.log2, l, lw)]) m w l lw l.log2 x6 x7 x8)) := by (first | wtm_at "sx" | fail)
    have r : sRet lk_Basis_put (lif (opr oTup (aCons (nam 3) (aCons (nam 4) aNil)))) (penv (B2 ++ [(l.log2, l, lw)]) m w l lw l.log2 x6 x7 x8) = some (.rt (.fz (.tup [.int l, .int lw])) (penv (B2 ++ [(l.log2, l, lw)]) m w l lw l.log2 x6 x7 x8)) := by (first | wtm_at "sx" | fail)
    exact run_rt rfl rfl rfl (seq_of s1 (seq_of (ifX_t (x_lifT hc) (seq_of s2 (seq_of s3 s4))) r)) rfl
theorem init_ok : f_Basis_init [.oi (ca.at_ 0) []] = some (.fz .non, [bsM []]) := by
  refine run_nx rfl rfl rfl (x_fldS (m := .od false []) (m' := .od false []) rfl rfl rfl rfl rfl rfl) rfl
theorem basP_len : ∀ (L : List Nat) (B : Bs) (k : Nat), (basP B k L).length ≤ B.length + L.length
  | [], B, k => by simp [basP]
  | m :: L, B, k => by
    have h1 := basP_len L (putP B m (2 ^ k)) (k + 1)
    have h2 := put_len_le B m (2 ^ k)
    simp only [basP, List.length_cons]
    omega
theorem basis_of_ok (L : List Nat) (hL : L.length ≤ 900) : f_basis_of [.fz (lI (cI L))] = some (bsM (basP [] 0 L), [.fz (lI (cI L))]) := by
  have s1 : sAsg lk_basis_of 1 9 (lif (opr (oMake 0 [] f_Basis_init) aNil)) [some (.fz (lI (cI L))), none, none, none] = some (.nx [some (.fz (lI (cI L))), some (bsM []), none, none]) :=
    x_asg rfl (lif_of (opr_of e_anil (k_make0 init_ok))) rfl rfl rfl rfl
  obtain ⟨e', lp, x2, x3, he⟩ := lp_map (lk := lk_basis_of) (t := .tp [.nm 2, .nm 3]) (B := B_basis_of_0) (F := fun p : Nat × Nat => D.tup [.int (p.2 : Nat), .int (p.1 : Nat)])
    (fun pre e => ∃ x2 x3 : Option M, e = [some (.fz (lI (cI L))), some (bsM (basP [] 0 (pre.map (·.1)))), x2, x3]) L.zipIdx
    (fun pre p post hp e ⟨x2, x3, he⟩ => by
      subst he
      obtain ⟨x, k⟩ := p
      have hk : k = pre.length := by
        have h1 : L.zipIdx[pre.length]? = some (x, k) := by rw [← hp]; simp
        rw [List.getElem?_zipIdx] at h1
        obtain ⟨y, hy, e⟩ := Option.map_eq_some_iff.mp h1
        have := congrArg Prod.snd e
        simpa using this.symm
      have hlen : pre.length + 1 ≤ L.length := by
        have := congrArg List.length hp
        simp at this
        omega
      have hb := (basP_ok (pre.map (·.1))).1
      have hbl := basP_len (pre.map (·.1)) [] 0
      simp only [List.length_nil, List.length_map] at hbl
      have hput := put_ok _ hb x (2 ^ k) (by omega)
      have hB : basP [] 0 ((pre ++ [(x, k)]).map (·.1)) = putP (basP [] 0 (pre.map (·.1))) x (2 ^ k) := by
        rw [List.map_append]
        show basP [] 0 (pre.map (·.1) ++ [x]) = _
        rw [basP_snoc, List.length_map, hk]
        simp
      refine ⟨[some (.fz (lI (cI L))), some (bsM (basP [] 0 (pre.map (·.1)))), some (I k), some (I x)], [some (.fz (lI (cI L))), some (bsM (putP (basP [] 0 (pre.map (·.1))) x (2 ^ k))), some (I k), some (I x)], asT_tp rfl (asTs_c (asT_nm rfl rfl rfl) (asTs_c (asT_nm rfl rfl rfl) asTs_n)), ?_, some (I k), some (I x), by rw [hB]⟩
      have hsh : (1 : Int) * 2 ^ (k : Int).toNat = ((2 ^ k : Nat) : Int) := by simp
      have hk9 : k ≤ 900 := by omega
      have ha : lifA (aCons (nam 3) (aCons (T2.bin (sop iShl) (cst (.int 1)) (nam 2)) aNil)) [some (.fz (lI (cI L))), some (bsM (basP [] 0 (pre.map (·.1)))), some (I k), some (I x)] = some ([I x, I ((2 ^ k : Nat) : Int)], [some (.fz (lI (cI L))), some (bsM (basP [] 0 (pre.map (·.1)))), some (I k), some (I x)]) := by
        rw [← hsh]
        (first | wtm_at "sx" | fail)
      have hx : xCons (lif (nam 1)) (lifA (aCons (nam 3) (aCons (T2.bin (sop iShl) (cst (.int 1)) (nam 2)) aNil))) [some (.fz (lI (cI L))), some (bsM (basP [] 0 (pre.map (·.1)))), some (I k), some (I x)] = some ([.bp 1 [], I x, I ((2 ^ k : Nat) : Int)], [some (.fz (lI (cI L))), some (bsM (basP [] 0 (pre.map (·.1)))), some (I k), some (I x)]) := xcons_of (by (first | wtm_at "sx" | fail)) ha rfl
      have hc := x_callI (io := [true, false, false]) (cs := [I x, I ((2 ^ k : Nat) : Int)]) hx rfl rfl rfl hput rfl
      have hm := x_callM (n := 0) (mn := "put") (i := 1) (env := [some (.fz (lI (cI L))), some (bsM (basP [] 0 (pre.map (·.1)))), some (I k), some (I x)]) rfl (getF_no _ _ _ (by decide +kernel)) hc
      exact exp_of hm)
    (e := [some (.fz (lI (cI L))), some (bsM []), none, none]) ⟨none, none, rfl⟩
  subst he
  have hz : L.zipIdx.map (·.1) = L := by simp
  rw [hz] at lp
  have hmap : (cI L).map D.int = L.map fun m : Nat => D.int (m : Int) := by simp [cI]
  have hz2 := zipIdx_en (F := fun m : Nat => D.int (m : Int)) L 0
  have hit : itEnX (lifA (aCons (nam 0) aNil)) [some (.fz (lI (cI L))), some (bsM []), none, none] = some (L.zipIdx.map fun p : Nat × Nat => D.tup [.int (p.2 : Nat), .int (p.1 : Nat)], [some (.fz (lI (cI L))), some (bsM []), none, none]) := by
    rw [← hz2, ← hmap]
    rfl
  exact run_rt rfl rfl rfl (seq_of s1 (seq_of (x_for hit lp) rfl)) rfl
theorem rank_of_ok (L : List Nat) (hL : L.length ≤ 900) : f_rank_of [.fz (lI (cI L))] = some (I (rk L), [.fz (lI (cI L))]) := by
  have hb := basis_of_ok L hL
  have hr := (basP_ok L).2.2
  have hk : (kvB (basP [] 0 L)).length = rk L := by unfold kvB; rw [List.length_map, hr]
  have e : opr oDLen (aCons (una (oFld 0 "rows") (opr (callP [false] f_basis_of) (aCons (nam 0) aNil))) aNil) [some (.fz (lI (cI L)))] = some (I ((kvB (basP [] 0 L)).length : Nat)) := by (first | wtm_at "sx" | fail)
  rw [hk] at e
  exact run_rt rfl rfl rfl (x_ret (lif_of e) rfl rfl) rfl
theorem lf_Q {Q : Nat → Nat → Prop} (hx : ∀ a b c d, Q a b → Q c d → Q (a ^^^ c) (b ^^^ d)) : ∀ {B : Bs} {m w : Nat}, (∀ b ∈ B, Q b.2.1 b.2.2) → Q m w → Q (lfP B m w).1 (lfP B m w).2
  | [], m, w, hB, h => h
  | b :: B, m, w, hB, h => by
    unfold lfP
    have h1 : ∀ b ∈ B, Q b.2.1 b.2.2 := fun c hc => hB c (List.mem_cons_of_mem _ hc)
    split
    · exact lf_Q hx h1 (hx _ _ _ _ h (hB b List.mem_cons_self))
    · exact lf_Q hx h1 h
theorem put_Q {Q : Nat → Nat → Prop} (hx : ∀ a b c d, Q a b → Q c d → Q (a ^^^ c) (b ^^^ d)) {B : Bs} {m w : Nat} (hB : ∀ b ∈ B, Q b.2.1 b.2.2) (h : Q m w) : ∀ b ∈ putP B m w, Q b.2.1 b.2.2 := by
  have hl := lf_Q hx hB h
  unfold putP
  split
  · exact hB
  · intro b hb
    rcases List.mem_append.mp hb with z | z
    · obtain ⟨c, hc, rfl⟩ := List.mem_map.mp z
      unfold turnB
      split
      · exact hx _ _ _ _ (hB c hc) hl
      · exact hB c hc
    · rw [List.mem_singleton.mp z]
      exact hl
theorem inS_lt {k : Nat} : ∀ {S : List Nat}, (∀ x ∈ S, x < 2 ^ k) → ∀ {y : Nat}, inS S y → y < 2 ^ k
  | [], _, y, h => by
    simp only [inS] at h
    subst h
    exact Nat.two_pow_pos k
  | x :: S, hS, y, h => by
    simp only [inS] at h
    have h1 : ∀ x ∈ S, x < 2 ^ k := fun z hz => hS z (List.mem_cons_of_mem _ hz)
    rcases h with h | h
    · exact inS_lt h1 h
    · have := Nat.xor_lt_two_pow (hS x List.mem_cons_self) (inS_lt h1 h)
      rwa [x_cancel] at this
def cvA (A : List Nat) : Bs := A.foldl (fun B m => putP B m m) []
theorem cvA_snoc (A : List Nat) (x : Nat) : cvA (A ++ [x]) = putP (cvA A) x x := by
  unfold cvA
  rw [List.foldl_append]
  rfl
theorem cvA_ok (A : List Nat) : BI (cvA A) ∧ (∀ y, inS (rowsB (cvA A)) y ↔ inS A y) ∧ (∀ b ∈ cvA A, b.2.1 = b.2.2) ∧ (cvA A).length ≤ A.length := by
  refine rev_ind (P := fun A => BI (cvA A) ∧ (∀ y, inS (rowsB (cvA A)) y ↔ inS A y) ∧ (∀ b ∈ cvA A, b.2.1 = b.2.2) ∧ (cvA A).length ≤ A.length) ⟨BI.nil, fun y => Iff.rfl, (fun b hb => (by cases hb)), Nat.le_refl _⟩ (fun L x ⟨h1, h2, h3, h4⟩ => ?_) A
  rw [cvA_snoc]
  refine ⟨h1.put _ _, fun y => ?_, put_Q (Q := fun a b => a = b) (fun a b c d h h' => by rw [h, h']) h3 rfl, ?_⟩
  · rw [put_span, inS_snoc, inS_snoc, h2, h2]
  · rw [put_len]
    split <;> simp <;> omega
theorem cvA_in {A : List Nat} : ∀ b ∈ cvA A, inS A b.2.2 := fun b hb => by
  have h := cvA_ok A
  rw [← h.2.2.1 b hb]
  exact (h.2.1 _).mp (inS_mem (List.mem_map.mpr ⟨b, hb, rfl⟩))
def cvF (B : Bs) (F : List Nat) (m : Nat) : List Nat := if (lfP B m 0).1 = 0 ∧ (lfP B m 0).2 ≠ 0 ∧ F.length < rk (F ++ [(lfP B m 0).2]) then F ++ [(lfP B m 0).2] else F
def cvP (A : List Nat) (P : List Nat) : Bs × List Nat := P.foldl (fun s m => (putP s.1 m 0, cvF s.1 s.2 m)) (cvA A, [])
theorem cvP_snoc (A P : List Nat) (x : Nat) : cvP A (P ++ [x]) = (putP (cvP A P).1 x 0, cvF (cvP A P).1 (cvP A P).2 x) := by
  unfold cvP
  rw [List.foldl_append]
  rfl
structure CV (A P : List Nat) (s : Bs × List Nat) : Prop where
  bi : BI s.1
  span : ∀ y, inS (rowsB s.1) y ↔ inS (A ++ P) y
  q : ∀ b ∈ s.1, inS A b.2.2 ∧ inS P (b.2.1 ^^^ b.2.2)
  inA : ∀ w ∈ s.2, inS A w
  inB : ∀ w ∈ s.2, inS P w
  cov : ∀ y, inS A y → inS P y → inS s.2 y
  ind : rk s.2 = s.2.length
  num : s.2.length + rk (A ++ P) = rk A + rk P
  len : s.1.length ≤ A.length + P.length
theorem xor4 (a b c d : Nat) : a ^^^ c ^^^ (b ^^^ d) = (a ^^^ b) ^^^ (c ^^^ d) := by
  rw [Nat.xor_assoc, Nat.xor_assoc, ← Nat.xor_assoc c b d, Nat.xor_comm c b, Nat.xor_assoc b c d]
theorem CV.q' {A P : List Nat} (a b c d : Nat) (h : inS A b ∧ inS P (a ^^^ b)) (h' : inS A d ∧ inS P (c ^^^ d)) : inS A (b ^^^ d) ∧ inS P (a ^^^ c ^^^ (b ^^^ d)) := by
  refine ⟨inS_xor _ _ _ h.1 h'.1, ?_⟩
  rw [xor4]
  exact inS_xor _ _ _ h.2 h'.2
theorem cv_ok (A : List Nat) : ∀ P : List Nat, CV A P (cvP A P) := by
  refine rev_ind ?_ ?_
  · have h := cvA_ok A
    refine ⟨h.1, fun y => ?_, fun b hb => ⟨cvA_in b hb, ?_⟩, fun w hw => (by cases hw), fun w hw => (by cases hw), fun y _ h => h, rfl, ?_, by show (cvA A).length ≤ A.length + 0; exact h.2.2.2⟩
    · rw [List.append_nil]
      exact h.2.1 y
    · rw [h.2.2.1 b hb, Nat.xor_self]
      rfl
    · show [].length + rk (A ++ []) = rk A + rk []
      rw [List.append_nil]
      show 0 + rk A = rk A + 0
      omega
  · intro P x s
    rw [cvP_snoc]
    generalize cvP A P = S at s
    obtain ⟨B, F⟩ := S
    simp only at s ⊢
    have up : ∀ {y}, inS P y → inS (P ++ [x]) y := inS_app
    have hq : inS A (lfP B x 0).2 ∧ inS (P ++ [x]) ((lfP B x 0).1 ^^^ (lfP B x 0).2) :=
      lf_Q (Q := fun a b => inS A b ∧ inS (P ++ [x]) (a ^^^ b)) CV.q' (fun b hb => ⟨(s.q b hb).1, up (s.q b hb).2⟩) ⟨inS_zero _, by rw [Nat.xor_zero]; exact inS_mem (by simp)⟩
    -- the way without x
    have hq2 : inS P ((x ^^^ (lfP B x 0).1) ^^^ (lfP B x 0).2) := by
      have key : ∀ (B : Bs) (m w : Nat), (∀ b ∈ B, inS P (b.2.1 ^^^ b.2.2)) → inS P ((m ^^^ (lfP B m w).1) ^^^ (w ^^^ (lfP B m w).2)) := by
        intro B
        induction B with
        | nil =>
          intro m w _
          show inS P ((m ^^^ m) ^^^ (w ^^^ w))
          rw [Nat.xor_self, Nat.xor_self]
          exact inS_zero P
        | cons b B ih =>
          intro m w hB
          have h1 : ∀ b ∈ B, inS P (b.2.1 ^^^ b.2.2) := fun c hc => hB c (List.mem_cons_of_mem _ hc)
          unfold lfP
          split
          · have h2 := inS_xor _ _ _ (hB b List.mem_cons_self) (ih (m ^^^ b.2.1) (w ^^^ b.2.2) h1)
            generalize (lfP B (m ^^^ b.2.1) (w ^^^ b.2.2)).1 = u at h2 ⊢
            generalize (lfP B (m ^^^ b.2.1) (w ^^^ b.2.2)).2 = v at h2 ⊢
            have e : b.2.1 ^^^ b.2.2 ^^^ (m ^^^ b.2.1 ^^^ u ^^^ (w ^^^ b.2.2 ^^^ v)) = m ^^^ u ^^^ (w ^^^ v) := by
              refine Nat.eq_of_testBit_eq fun i => ?_
              simp only [Nat.testBit_xor]
              cases b.2.1.testBit i <;> cases b.2.2.testBit i <;> cases m.testBit i <;> cases u.testBit i <;> cases w.testBit i <;> cases v.testBit i <;> rfl
            rwa [e] at h2
          · exact ih m w h1
      have h3 := key B x 0 (fun b hb => (s.q b hb).2)
      rwa [Nat.zero_xor] at h3
    have hin := lf_in (B := B) (m := x) (w := 0)
    have spanx : ∀ y, inS (rowsB (putP B x 0)) y ↔ inS (A ++ (P ++ [x])) y := fun y => by
      rw [put_span, inS_snoc, ← List.append_assoc, inS_snoc, s.span, s.span]
    have qx := put_Q (Q := fun a b => inS A b ∧ inS (P ++ [x]) (a ^^^ b)) CV.q' (B := B) (m := x) (w := 0) (fun b hb => ⟨(s.q b hb).1, up (s.q b hb).2⟩) ⟨inS_zero _, by rw [Nat.xor_zero]; exact inS_mem (by simp)⟩
    have lenx : (putP B x 0).length ≤ A.length + (P ++ [x]).length := by
      have := s.len
      rw [put_len]
      simp at this ⊢
      split <;> omega
    by_cases hl : (lfP B x 0).1 = 0
    · -- x is settled by the others
      obtain ⟨w, hw⟩ : ∃ w, (lfP B x 0).2 = w := ⟨_, rfl⟩
      rw [hl, hw, Nat.xor_zero] at hq2
      rw [hl, hw, Nat.zero_xor] at hq
      rw [hl, Nat.xor_zero, s.span] at hin
      have hr : rk (A ++ (P ++ [x])) = rk (A ++ P) := by rw [← List.append_assoc]; exact rk_snoc_in hin
      have hwx : inS P x ↔ inS P w := by
        constructor
        · intro h
          have := inS_xor _ _ _ h hq2
          rwa [x_cancel] at this
        · intro h
          have := inS_xor _ _ _ h hq2
          rwa [Nat.xor_comm x w, x_cancel] at this
      have hF : inS F w ↔ inS P w := ⟨fun h => inS_sub s.inB h, fun h => s.cov w hq.1 h⟩
      have cov' : ∀ y, inS A y → inS (P ++ [x]) y → inS F y ∨ inS F (w ^^^ y) := fun y hA hP => by
        rcases inS_snoc.mp hP with h | h
        · exact .inl (s.cov y hA h)
        · refine .inr (s.cov _ (inS_xor _ _ _ hq.1 hA) ?_)
          have := inS_xor _ _ _ hq2 h
          have e : x ^^^ w ^^^ (x ^^^ y) = w ^^^ y := by
            rw [Nat.xor_comm x w, Nat.xor_assoc, x_cancel]
          rwa [e] at this
      by_cases hx : inS P x
      · have hwF := hF.mpr (hwx.mp hx)
        have hk : rk (F ++ [w]) = F.length := by rw [rk_snoc_in hwF, s.ind]
        have hc : cvF B F x = F := by
          unfold cvF
          rw [hw, hk]
          exact if_neg fun h => absurd h.2.2 (Nat.lt_irrefl _)
        rw [hc]
        refine ⟨s.bi.put _ _, spanx, qx, s.inA, fun w hw => up (s.inB w hw), fun y hA hP => ?_, s.ind, ?_, lenx⟩
        · rcases cov' y hA hP with h | h
          · exact h
          · have := inS_xor _ _ _ hwF h
            rwa [x_cancel] at this
        · show F.length + rk (A ++ (P ++ [x])) = rk A + rk (P ++ [x])
          rw [hr, rk_snoc_in hx]
          exact s.num
      · have hwF : ¬ inS F w := fun h => hx (hwx.mpr (hF.mp h))
        have hw0 : w ≠ 0 := fun e => hwF (by rw [e]; exact inS_zero F)
        have hk : rk (F ++ [w]) = F.length + 1 := by rw [rk_snoc_out hwF, s.ind]
        have hc : cvF B F x = F ++ [w] := by
          unfold cvF
          rw [hw, hk]
          exact if_pos ⟨hl, hw0, Nat.lt_succ_self _⟩
        rw [hc]
        refine ⟨s.bi.put _ _, spanx, qx, fun v hv => ?_, fun v hv => ?_, fun y hA hP => ?_, ?_, ?_, lenx⟩
        · rcases List.mem_append.mp hv with z | z
          · exact s.inA v z
          · rw [List.mem_singleton.mp z]; exact hq.1
        · rcases List.mem_append.mp hv with z | z
          · exact up (s.inB v z)
          · rw [List.mem_singleton.mp z]; exact hq.2
        · exact inS_snoc.mpr (cov' y hA hP)
        · simp only [List.length_append, List.length_singleton]
          exact hk
        · have := s.num
          simp only [List.length_append, List.length_singleton] at this ⊢
          rw [hr, rk_snoc_out hx]
          omega
    · have hc : cvF B F x = F := by
        unfold cvF
        exact if_neg fun h => hl h.1
      have ho : ¬ inS (A ++ P) x := fun h => s.bi.out hl ((s.span x).mpr h)
      have hx : ¬ inS P x := fun h => ho (inS_sub (fun y hy => inS_mem (List.mem_append_right _ hy)) h)
      rw [hc]
      refine ⟨s.bi.put _ _, spanx, qx, s.inA, fun w hw => up (s.inB w hw), fun y hA hP => ?_, s.ind, ?_, lenx⟩
      · rcases inS_snoc.mp hP with h | h
        · exact s.cov y hA h
        · exfalso
          refine ho ?_
          have h1 : inS (A ++ P) (x ^^^ y) := inS_sub (fun y hy => inS_mem (List.mem_append_right _ hy)) h
          have h2 := inS_xor _ _ _ h1 (inS_app (T := P) hA)
          rwa [Nat.xor_assoc, Nat.xor_self, Nat.xor_zero] at h2
      · have := s.num
        show F.length + rk (A ++ (P ++ [x])) = rk A + rk (P ++ [x])
        rw [← List.append_assoc, rk_snoc_out ho, rk_snoc_out hx]
        simp only at this
        omega
theorem rngI2_shift (n : Nat) : rngI2 1 ((2 ^ n : Nat) : Int) = (List.range (2 ^ n - 1)).map fun k : Nat => ((k + 1 : Nat) : Int) := by
  unfold rngI2
  have : (((2 ^ n : Nat) : Int) - 1).toNat = 2 ^ n - 1 := by omega
  rw [this]
  refine List.map_congr_left fun k _ => ?_
  omega
theorem bitsL_lt (m k : Nat) (hm : m < 2 ^ k) (hk : k ≤ 41) : (((rngI (k : Int)).filter fun x => Builtin.bitAnd ((m : Int) / 2 ^ x.toNat) 1 == 1).map fun x => x) = bitsL m := by
  have h := names_eq k m
  rw [h, bitsL_eq]
  unfold namesN cI
  have e : List.range 41 = List.range k ++ (List.range (41 - k)).map (k + ·) := by
    rw [← List.range_add]
    congr 1
    omega
  rw [e, List.filter_append]
  have : ((List.range (41 - k)).map (k + ·)).filter (fun j => m / 2 ^ j % 2 == 1) = [] := by
    refine List.filter_eq_nil_iff.mpr fun j hj => ?_
    obtain ⟨i, _, rfl⟩ := List.mem_map.mp hj
    have h2 : m / 2 ^ (k + i) = 0 := Nat.div_eq_of_lt (Nat.lt_of_lt_of_le hm (Nat.pow_le_pow_right (by decide) (by omega)))
    rw [h2]
    decide
  rw [this, List.append_nil]
theorem bits_nat (m : Nat) : ∃ k : Nat, Builtin.Int.intBits (m : Int) = k ∧ m < 2 ^ k ∧ (m < 2 ^ 41 → k ≤ 41) := by
  by_cases h : m = 0
  · subst h
    exact ⟨0, rfl, by decide, fun _ => by decide⟩
  · have hb := bits_eq m h
    refine ⟨m.log2 + 1, by omega, Nat.lt_log2_self, fun hm => ?_⟩
    have := (Nat.log2_lt h).mpr hm
    omega
theorem coins_of_ok (m : Nat) (hm : m < 2 ^ 41) : f_coins_of [I m] = some (oI (bitsL m), [I m]) := by
  obtain ⟨k, hk, hmk, hk41⟩ := bits_nat m
  have hk41 := hk41 hm
  have hl := bitsL_lt m k hmk hk41
  have hb : una (sop iBits) (nam 0) [some (I m), none] = some (I k) := by
    have : una (sop iBits) (nam 0) [some (I m), none] = some (I (Builtin.Int.intBits (m : Int) : Nat)) := by (first | wtm_at "sx" | fail)
    rw [this, hk]
  unfold f_coins_of F_coins_of
  (first | wtm_at "run" | fail)
abbrev cvL (rows : List (List Nat)) (a b : Nat) : List Nat := (cvP (masksK rows a rows.length) (masksK rows b rows.length)).2
abbrev commonM (rows : List (List Nat)) (a b : Nat) : M := .ol ((cvL rows a b).map fun w => oI (bitsL w))
theorem cvL_ok (rows : List (List Nat)) (a b : Nat) : CV (masksK rows a rows.length) (masksK rows b rows.length) (cvP (masksK rows a rows.length) (masksK rows b rows.length)) := cv_ok _ _
theorem cvL_lt {many : Nat} {rows : List (List Nat)} (h : okH many rows) (a b : Nat) : ∀ w ∈ cvL rows a b, w < 2 ^ many := fun w hw => inS_lt (fun m hm => by
    obtain ⟨row, h1, h2⟩ := masksK_mem hm (Nat.le_refl _)
    exact (h.2 row h1).2 m h2) ((cvL_ok rows a b).inA w hw)
theorem cvL_len {many : Nat} {rows : List (List Nat)} (h : okH many rows) (hr : rows.length ≤ 4) (a b : Nat) : (cvL rows a b).length ≤ 12 := by
  have h1 := (cvL_ok rows a b).ind
  have h2 : rk (cvL rows a b) ≤ rk (masksK rows a rows.length) := rk_mono fun x hx => (cvL_ok rows a b).inA x hx
  have h3 := rkG_le h hr a
  unfold rkG at h3
  have h1' : rk (cvL rows a b) = (cvL rows a b).length := h1
  omega
theorem cvF_if {B : Bs} {F : List Nat} {m l w : Nat} (hl : (lfP B m 0).1 = l) (hw : (lfP B m 0).2 = w) : cvF B F m = if l = 0 ∧ w ≠ 0 ∧ F.length < rk (F ++ [w]) then F ++ [w] else F := by
  unfold cvF
  rw [hl, hw]
abbrev cenv (H a b B m F l w : Option M) : En := [H, a, b, B, m, F, l, w]
theorem put_call {env : En} {i : Nat} {B : Bs} {m w : Nat} {gs : En → Option (List M)} (hi : env.get i = some (bsM B)) (hb : BI B) (hB : B.length ≤ 900) (hg : gs env = some [I m, I w]) (hn : nam i env = some (.bp i [])) : callM 0 "put" [true, false, false] f_Basis_put i (lifA gs) env = some (.fz (.tup [.int ((lfP B m w).1 : Nat), .int ((lfP B m w).2 : Nat)]), env.put i (bsM (putP B m w))) := by
  refine x_callM hi (getF_no _ _ _ (by decide +kernel)) (x_callI (i := i) (n := bsM B) (rest := [I m, I w]) (cs := [I m, I w]) (e1 := env) ?_ rfl hi rfl (put_ok B hb m w hB) rfl)
  refine xcons_of (lif_of hn) (lifA_of hg) ?_
  unfold alv
  rw [hi]
  rfl
local macro_rules | `(tactic| wtm_at "fn") => `(tactic| (((with_reducible apply masks_ok); (all_goals wtm_at "sd"))))
local macro_rules | `(tactic| wtm_at "fn") => `(tactic| (((with_reducible apply rank_of_ok); wtm_at "sd")))
theorem common_one (H a b : Option M) (A P : List Nat) (x : Nat) (hA : A.length ≤ 12) (hP : P.length ≤ 12) (l0 w0 : Option M) :
    ∃ l' w', B_common_views_1 (cenv H a b (some (bsM (cvP A P).1)) (some (I x)) (some (oI (cI (cvP A P).2))) l0 w0) = some (.nx (cenv H a b (some (bsM (cvP A (P ++ [x])).1)) (some (I x)) (some (oI (cI (cvP A (P ++ [x])).2))) l' w')) := by
  have cv := cv_ok A P
  rw [cvP_snoc]
  generalize cvP A P = S at cv ⊢
  obtain ⟨B, F⟩ := S
  have hBl : B.length ≤ 900 := by
    have := cv.len
    simp only at this
    omega
  have hFl : F.length ≤ 24 := by
    have h1 : rk F = F.length := cv.ind
    have h2 : rk F ≤ rk A := rk_mono fun x hx => cv.inA x hx
    have := rk_le A
    omega
  obtain ⟨l, hl⟩ : ∃ l, (lfP B x 0).1 = l := ⟨_, rfl⟩
  obtain ⟨w, hw⟩ : ∃ w, (lfP B x 0).2 = w := ⟨_, rfl⟩
  have hF := cvF_if (F := F) hl hw
  have hput : callM 0 "put" [true, false, false] f_Basis_put 3 (lifA (aCons (nam 4) (aCons (cst (.int 0)) aNil))) (cenv H a b (some (bsM B)) (some (I x)) (some (oI (cI F))) l0 w0) = some (.fz (.tup [.int l, .int w]), cenv H a b (some (bsM (putP B x 0))) (some (I x)) (some (oI (cI F))) l0 w0) := by
    have := put_call (env := cenv H a b (some (bsM B)) (some (I x)) (some (oI (cI F))) l0 w0) (i := 3) (m := x) (w := 0) (gs := aCons (nam 4) (aCons (cst (.int 0)) aNil)) rfl cv.bi hBl rfl rfl
    rw [hl, hw] at this
    exact this
  have s1 : sUnp lk_common_views (.tp [(.nm 6), (.nm 7)]) (callM 0 "put" [true, false, false] f_Basis_put 3 (lifA (aCons (nam 4) (aCons (cst (.int 0)) aNil)))) (cenv H a b (some (bsM B)) (some (I x)) (some (oI (cI F))) l0 w0) = some (.nx (cenv H a b (some (bsM (putP B x 0))) (some (I x)) (some (oI (cI F))) (some (I l)) (some (I w)))) := by
    refine x_unp hput rfl (asT_tp rfl ?_)
    (first | wtm_at "asTs" | fail)
  have ca1 : cI F ++ [(w : Int)] = cI (F ++ [w]) := by simp [cI]
  have hlc : (cI F).length = F.length := by simp [cI]
  have hl1 : (F ++ [w]).length ≤ 900 := by simp; omega
  have hk : opr (callP [false] f_rank_of) (aCons (T2.bin oAdd (nam 5) (opr oLst (aCons (nam 7) aNil))) aNil) (cenv H a b (some (bsM (putP B x 0))) (some (I x)) (some (oI (cI F))) (some (I l)) (some (I w))) = some (I (rk (F ++ [w]) : Nat)) := by
    have h1 : T2.bin oAdd (nam 5) (opr oLst (aCons (nam 7) aNil)) (cenv H a b (some (bsM (putP B x 0))) (some (I x)) (some (oI (cI F))) (some (I l)) (some (I w))) = some (oI (cI (F ++ [w]))) := by
      rw [← ca1]
      (first | wtm_at "sx" | fail)
    (first | wtm_at "sx" | fail)
  have hln : opr (sop gLen) (aCons (nam 5) aNil) (cenv H a b (some (bsM (putP B x 0))) (some (I x)) (some (oI (cI F))) (some (I l)) (some (I w))) = some (I (F.length : Nat)) := by
    rw [← hlc]
    (first | wtm_at "sx" | fail)
  have hc : dAnd (tst (T2.bin (sop (gEq false)) (nam 6) (cst (.int 0)))) (dAnd (tst (T2.bin (sop (gEq true)) (nam 7) (cst (.int 0)))) (tst (T2.bin (sop iGt) (opr (callP [false] f_rank_of) (aCons (T2.bin oAdd (nam 5) (opr oLst (aCons (nam 7) aNil))) aNil)) (opr (sop gLen) (aCons (nam 5) aNil))))) (cenv H a b (some (bsM (putP B x 0))) (some (I x)) (some (oI (cI F))) (some (I l)) (some (I w))) = some (((l : Int) == 0) && ((!((w : Int) == 0)) && decide ((F.length : Int) < (rk (F ++ [w]) : Nat)))) :=
    x_and (tst_of (bin_of (nam_fz rfl) e_cst k_eqF)) (x_and (tst_of (bin_of (nam_fz rfl) e_cst k_eqT)) (tst_of (bin_of hk hln k_gt)))
  by_cases hq : l = 0 ∧ w ≠ 0 ∧ F.length < rk (F ++ [w])
  · have ht : (((l : Int) == 0) && ((!((w : Int) == 0)) && decide ((F.length : Int) < (rk (F ++ [w]) : Nat)))) = true := by
      obtain ⟨q1, q2, q3⟩ := hq
      have e1 : ((l : Int) == 0) = true := by rw [q1]; rfl
      have e2 : ((w : Int) == 0) = false := beq_false_of_ne (by omega)
      rw [e1, e2, decide_eq_true (by omega)]
      rfl
    rw [ht] at hc
    rw [if_pos hq] at hF
    rw [hF]
    have ha : sExp (xMutP 0 (nam 5) (aCons (nam 7) aNil) mAppend) (cenv H a b (some (bsM (putP B x 0))) (some (I x)) (some (oI (cI F))) (some (I l)) (some (I w))) = some (.nx (cenv H a b (some (bsM (putP B x 0))) (some (I x)) (some (oI (cI (F ++ [w])))) (some (I l)) (some (I w)))) := by
      rw [← ca1]
      (first | wtm_at "sx" | fail)
    exact ⟨_, _, seq_of s1 (ifX_t (x_lifT hc) ha)⟩
  · have ht : (((l : Int) == 0) && ((!((w : Int) == 0)) && decide ((F.length : Int) < (rk (F ++ [w]) : Nat)))) = false := by
      rw [Bool.eq_false_iff]
      intro h
      simp only [Bool.and_eq_true, beq_iff_eq, Bool.not_eq_true', beq_eq_false_iff_ne, decide_eq_true_eq] at h
      exact hq ⟨by omega, by omega, by omega⟩
    rw [ht] at hc
    rw [if_neg hq] at hF
    rw [hF]
    exact ⟨_, _, seq_of s1 (ifX_f (x_lifT hc) e_nil)⟩
local macro_rules | `(tactic| wtm_at "fn") => `(tactic| ((with_reducible apply coins_of_ok); wtm_at "sd"))
theorem common_ok (many : Nat) (rows : List (List Nat)) (h : okH many rows) (hr : rows.length ≤ 4) (a b : Nat) : f_common_views [.fz (heapD many rows), I a, I b] = some (commonM rows a b, [.fz (heapD many rows), I a, I b]) := by
  have hA := masksK_len h (g := a) (k := rows.length) (Nat.le_refl _)
  have hP := masksK_len h (g := b) (k := rows.length) (Nat.le_refl _)
  have mA := masks_ok many rows h hr a
  have mP := masks_ok many rows h hr b
  have hlt := cvL_lt h a b
  have hFl := cvL_len h hr a b
  have h41 : ∀ w ∈ cvL rows a b, w < 2 ^ 41 := fun w hw => Nat.lt_of_lt_of_le (hlt w hw) (Nat.pow_le_pow_right (by decide) (by have := h.1; omega))
  unfold commonM
  unfold cvL at h41 hFl ⊢
  clear hlt
  generalize masksK rows a rows.length = A at *
  generalize masksK rows b rows.length = P at *
  obtain ⟨Hd, hHd⟩ : ∃ Hd, Hd = heapD many rows := ⟨_, rfl⟩
  rw [← hHd] at mA mP ⊢
  have cA : (cI A).map D.int = A.map fun m : Nat => D.int (m : Int) := by simp [cI]
  have cP : (cI P).map D.int = P.map fun m : Nat => D.int (m : Int) := by simp [cI]
  have s1 : sAsg lk_common_views 3 9 (lif (opr (oMake 0 [] f_Basis_init) aNil)) (cenv (some (.fz Hd)) (some (I a)) (some (I b)) none none none none none) = some (.nx (cenv (some (.fz Hd)) (some (I a)) (some (I b)) (some (bsM [])) none none none none)) :=
    x_asg rfl (lif_of (opr_of e_anil (k_make0 init_ok))) rfl rfl rfl rfl
  obtain ⟨e1, lp1, x1, he1⟩ := lp_map (lk := lk_common_views) (t := .nm 4) (B := B_common_views_0) (F := fun m : Nat => D.int (m : Int))
    (fun pre e => ∃ x : Option M, e = cenv (some (.fz Hd)) (some (I a)) (some (I b)) (some (bsM (cvA pre))) x none none none) A
    (fun pre m post hp e ⟨x, he⟩ => by
      subst he
      have hc := cvA_ok pre
      have hl : pre.length ≤ 12 := by
        have := congrArg List.length hp
        simp at this
        omega
      have hput := put_call (env := cenv (some (.fz Hd)) (some (I a)) (some (I b)) (some (bsM (cvA pre))) (some (I m)) none none none) (i := 3) (m := m) (w := m) (gs := aCons (nam 4) (aCons (nam 4) aNil)) rfl hc.1 (by have := hc.2.2.2; omega) rfl rfl
      rw [cvA_snoc]
      exact ⟨cenv (some (.fz Hd)) (some (I a)) (some (I b)) (some (bsM (cvA pre))) (some (I m)) none none none, _, rfl, exp_of hput, _, rfl⟩)
    (e := cenv (some (.fz Hd)) (some (I a)) (some (I b)) (some (bsM [])) none none none none) ⟨none, rfl⟩
  subst he1
  obtain ⟨e2, lp2, x2, l2, w2, he2⟩ := lp_map (lk := lk_common_views) (t := .nm 4) (B := B_common_views_1) (F := fun m : Nat => D.int (m : Int))
    (fun pre e => ∃ x l w : Option M, e = cenv (some (.fz Hd)) (some (I a)) (some (I b)) (some (bsM (cvP A pre).1)) x (some (oI (cI (cvP A pre).2))) l w) P
    (fun pre m post hp e ⟨x, l, w, he⟩ => by
      subst he
      have hl : pre.length ≤ 12 := by
        have := congrArg List.length hp
        simp at this
        omega
      obtain ⟨l', w', q⟩ := common_one (some (.fz Hd)) (some (I a)) (some (I b)) A pre m (by omega) hl l w
      exact ⟨cenv (some (.fz Hd)) (some (I a)) (some (I b)) (some (bsM (cvP A pre).1)) (some (I m)) (some (oI (cI (cvP A pre).2))) l w, _, rfl, q, _, _, _, rfl⟩)
    (e := cenv (some (.fz Hd)) (some (I a)) (some (I b)) (some (bsM (cvA A))) x1 (some (oI [])) none none) ⟨_, _, _, rfl⟩
  subst he2
  rw [← cA] at lp1
  rw [← cP] at lp2
  have l1000 : ((cvP A P).2).length ≤ sizeLine := by simp only [sizeLine]; omega
  have cF : (cI (cvP A P).2).map D.int = (cvP A P).2.map fun m : Nat => D.int (m : Int) := by simp [cI]
  have hlc : lcF [7] (.nm 7) (itP true (nam 5)) cYes (opr (callP [false] f_coins_of) (aCons (nam 7) aNil)) (cenv (some (.fz Hd)) (some (I a)) (some (I b)) (some (bsM (cvP A P).1)) x2 (some (oI (cI (cvP A P).2))) l2 w2) = some (.ol ((cvP A P).2.map fun w => oI (bitsL w))) := by
    have hit : itP true (nam 5) (cenv (some (.fz Hd)) (some (I a)) (some (I b)) (some (bsM (cvP A P).1)) x2 (some (oI (cI (cvP A P).2))) l2 w2) = some ((cvP A P).2.map fun m : Nat => D.int (m : Int)) := by
      rw [← cF]
      (first | wtm_at "sx" | fail)
    exact x_lcMM (w := fun w => oI (bitsL w)) (e1 := fun w => cenv (some (.fz Hd)) (some (I a)) (some (I b)) (some (bsM (cvP A P).1)) x2 (some (oI (cI (cvP A P).2))) l2 (some (I w))) hit (fun w _ => rfl) (fun w hw => opr_of (acons_of (nam_fz rfl) e_anil) (callP_of rfl rfl (coins_of_ok w (h41 w hw)))) (fun w _ => slotsL_co slotsL_n) l1000
  unfold f_common_views F_common_views
  (first | wtm_at "run" | fail)
local macro_rules | `(tactic| wtm_at "fn") => `(tactic| (((with_reducible apply masks_ok); (all_goals wtm_at "sd"))))
local macro_rules | `(tactic| wtm_at "fn") => `(tactic| (((with_reducible apply rank_of_ok); wtm_at "sd")))
theorem coin_table_ok (n : Nat) (many : Nat) (rows : List (List Nat)) (h : okH many rows) (hn : rows.length = n) (h4 : n ≤ 4) : f_coin_table [.fz (heapD many rows)] = some (oI (tabR n rows), [.fz (heapD many rows)]) := by
  have hsh : (1 : Int) * 2 ^ ((rows.length : Int)).toNat = ((2 ^ n : Nat) : Int) := by rw [hn]; simp
  have h16 := two_le h4
  have hp2 := Int.natCast_nonneg (2 ^ n)
  have ml : ∀ g ∈ List.range (2 ^ n - 1), (masksK rows (g + 1) rows.length).length ≤ 900 := fun g _ => by
    have := masksK_len h (g := g + 1) (k := rows.length) (Nat.le_refl _)
    omega
  have rg : itR2 (aCons (cst (.int 1)) (aCons (T2.bin (sop iShl) (cst (.int 1)) (opr (sop gLen) (aCons (T2.bin oIdx (nam 0) (cst (.int 1))) aNil))) aNil)) [some (.fz (heapD many rows)), none] = some ((List.range (2 ^ n - 1)).map fun k : Nat => D.int ((k + 1 : Nat) : Int)) := by
    have h1 : itR2 (aCons (cst (.int 1)) (aCons (T2.bin (sop iShl) (cst (.int 1)) (opr (sop gLen) (aCons (T2.bin oIdx (nam 0) (cst (.int 1))) aNil))) aNil)) [some (.fz (heapD many rows)), none] = some ((rngI2 1 (1 * 2 ^ ((rows.length : Int)).toNat)).map D.int) := by
      have i2 : (-(2 ^ 62) : Int) ≤ 1 * 2 ^ ((rows.length : Int)).toNat := by rw [hsh]; omega
      have i3 : (1 * 2 ^ ((rows.length : Int)).toNat : Int) < 2 ^ 62 := by rw [hsh]; omega
      (first | wtm_at "sx" | fail)
    rw [h1, hsh, rngI2_shift, List.map_map]
    rfl
  have hl : (List.range (2 ^ n - 1)).length ≤ sizeLine := by simp [sizeLine]; omega
  unfold f_coin_table F_coin_table
  (first | wtm_at "run" | fail)
theorem tabR_len (n : Nat) (rows : List (List Nat)) : (tabR n rows).length = 2 ^ n - 1 := by simp [tabR]
theorem tabR_small {many : Nat} {rows : List (List Nat)} (h : okH many rows) (hr : rows.length ≤ 4) (n : Nat) : ∀ t ∈ tabR n rows, t.natAbs < 2 ^ 64 := fun t ht => by
  obtain ⟨g, _, rfl⟩ := List.mem_map.mp ht
  have := rkG_le h hr (g + 1)
  omega
theorem rkG_0 (rows : List (List Nat)) : rkG rows 0 = 0 := by
  have : masksK rows 0 rows.length = [] := by
    refine List.eq_nil_iff_forall_not_mem.mpr fun m hm => ?_
    obtain ⟨j, _, h, _⟩ := mem_masks.mp hm
    simp at h
  unfold rkG
  rw [this]
  rfl
theorem greatest_ok (n : Nat) (h1 : 1 ≤ n) (h4 : n ≤ 4) : f_greatest [I n] = some (I (2 ^ n - 1 : Nat), [I n]) := by
  have : n = 1 ∨ n = 2 ∨ n = 3 ∨ n = 4 := by omega
  rcases this with rfl | rfl | rfl | rfl <;> kernel_rfl
abbrev tupI (p : Int × Int) : D := .tup [.int p.1, .int p.2]
theorem look_loop (n : Int) (A : Option M) (W : Int) : ∀ (ps : List (Int × Int)) (_ : ∀ p ∈ ps, p.2 ≤ p.1 ∧ p.1 ≤ W) (x y : Option M), ∃ x' y', lpF lk_look_at (.tp [(.nm 3), (.nm 4)]) B_look_at_0 (ps.map tupI) [some (I n), A, some (I W), x, y] = some (.nx [some (I n), A, some (I W), x', y'])
  | [], _, x, y => ⟨x, y, lp_nil⟩
  | p :: ps, h, x, y => by
    obtain ⟨h1, h2⟩ := h p (List.mem_cons_self ..)
    obtain ⟨x', y', ih⟩ := look_loop n A W ps (fun q hq => h q (List.mem_cons_of_mem _ hq)) (some (I p.1)) (some (I p.2))
    have e1 : tst (T2.bin (sop iLt) (nam 3) (nam 4)) [some (I n), A, some (I W), some (I p.1), some (I p.2)] = some false :=
      (tst_of (bin_of (nam_fz rfl) (nam_fz rfl) k_lt)).trans (by rw [decide_eq_false (by omega)])
    have e2 : tst (T2.bin (sop iGt) (nam 3) (nam 2)) [some (I n), A, some (I W), some (I p.1), some (I p.2)] = some false :=
      (tst_of (bin_of (nam_fz rfl) (nam_fz rfl) k_gt)).trans (by rw [decide_eq_false (by omega)])
    exact ⟨x', y', lp_cons (e1 := [some (I n), A, some (I W), some (I p.1), some (I p.2)]) rfl (if_f (or_f e1 e2) e_nil) ih⟩
theorem look_ok (n : Nat) (h1 : 1 ≤ n) (h4 : n ≤ 4) (ps : List (Int × Int)) (h : ∀ p ∈ ps, p.2 ≤ p.1 ∧ p.1 ≤ (2 ^ n - 1 : Nat)) : f_look_at [I n, .fz (.lst (ps.map tupI))] = some (.fz .non, [I n, .fz (.lst (ps.map tupI))]) := by
  obtain ⟨x', y', lp⟩ := look_loop n (some (.fz (.lst (ps.map tupI)))) (2 ^ n - 1 : Nat) ps h none none
  have key : F_look_at [some (I n), some (.fz (.lst (ps.map tupI))), none, none, none] = some (.nx [some (I n), some (.fz (.lst (ps.map tupI))), some (I (2 ^ n - 1 : Nat)), x', y']) :=
    seq_of (asg_of (lk := lk_look_at) (i := 2) (opr_of (acons_of (nam_fz (d := .int n) rfl) e_anil) (callP_of rfl rfl (greatest_ok n h1 h4))) rfl (Nat.le_of_ble_eq_true rfl)) (for_of (e1 := [some (I n), some (.fz (.lst (ps.map tupI))), some (I (2 ^ n - 1 : Nat)), none, none]) (itX_of (lif_of (nam_fz (d := .lst (ps.map tupI)) rfl)) rfl rfl rfl) lp)
  exact run_nx rfl rfl rfl key rfl
abbrev tupN (p : Nat × Int) : D := .tup [.int p.1, .int p.2]
def addAt (R : List Int) (p : Nat × Int) : List Int := if p.1 = 0 then R else R.set (p.1 - 1) (R.getD (p.1 - 1) 0 + p.2)
theorem addAt_len (R : List Int) (p : Nat × Int) : (addAt R p).length = R.length := by
  unfold addAt
  split <;> simp
def rowT (W : Nat) (ps : List (Nat × Int)) : List Int := ps.foldl addAt (List.replicate W 0)
theorem row_loop (n : Int) (A : Option M) : ∀ (ps : List (Nat × Int)) (R : List Int) (_ : ∀ p ∈ ps, p.1 ≤ R.length) (x y : Option M), ∃ x' y', lpF lk_row_of (.tp [(.nm 3), (.nm 4)]) B_row_of_0 (ps.map tupN) [some (I n), A, some (oI R), x, y] = some (.nx [some (I n), A, some (oI (ps.foldl addAt R)), x', y'])
  | [], R, _, x, y => ⟨x, y, lp_nil⟩
  | p :: ps, R, h, x, y => by
    have h1 := h p (List.mem_cons_self ..)
    obtain ⟨x', y', ih⟩ := row_loop n A ps (addAt R p) (fun q hq => by rw [addAt_len]; exact h q (List.mem_cons_of_mem _ hq)) (some (I p.1)) (some (I p.2))
    refine ⟨x', y', lp_cons (e1 := [some (I n), A, some (oI R), some (I p.1), some (I p.2)]) rfl ?_ ih⟩
    by_cases h0 : p.1 = 0
    · have e : addAt R p = R := by unfold addAt; rw [if_pos h0]
      rw [e]
      exact if_f ((tst_of (bin_of (nam_fz (d := .int p.1) rfl) e_cst k_gt)).trans (by rw [decide_eq_false (by omega)])) e_nil
    · have hlt : p.1 - 1 < R.length := by omega
      have e : addAt R p = R.set (p.1 - 1) (R[p.1 - 1] + p.2) := by
        unfold addAt
        rw [if_neg h0]
        simp [List.getD, hlt]
      rw [e]
      have ei : T2.bin (sop iSub) (nam 3) (cst (.int 1)) [some (I n), A, some (oI R), some (I p.1), some (I p.2)] = some (I ((p.1 - 1 : Nat) : Int)) :=
        (bin_of (nam_fz (d := .int p.1) rfl) e_cst k_sub).trans (by rw [show (p.1 : Int) - 1 = ((p.1 - 1 : Nat) : Int) by omega])
      exact if_t ((tst_of (bin_of (nam_fz (d := .int p.1) rfl) e_cst k_gt)).trans (by rw [decide_eq_true (by omega)])) (augI_of (nam_oD (ds := R.map .int) rfl) ei (nam_fz rfl) rfl (atI_ints hlt) (mSet_nat hlt))
theorem row_of_ok (n : Nat) (h1 : 1 ≤ n) (h4 : n ≤ 4) (ps : List (Nat × Int)) (h : ∀ p ∈ ps, p.1 ≤ 2 ^ n - 1) : f_row_of [I n, .fz (.lst (ps.map tupN))] = some (oI (rowT (2 ^ n - 1) ps), [I n, .fz (.lst (ps.map tupN))]) := by
  obtain ⟨x', y', lp⟩ := row_loop n (some (.fz (.lst (ps.map tupN)))) ps (List.replicate (2 ^ n - 1) 0) (fun p hp => by simpa using h p hp) none none
  have hz : lcF [3] (.nm 3) (itR1 (aCons (opr (callP [false] f_greatest) (aCons (nam 0) aNil)) aNil)) cYes (cst (.int 0)) [some (I n), some (.fz (.lst (ps.map tupN))), none, none, none] = some (oI (List.replicate (2 ^ n - 1) 0)) := by
    have : n = 1 ∨ n = 2 ∨ n = 3 ∨ n = 4 := by omega
    rcases this with rfl | rfl | rfl | rfl <;> kernel_rfl
  have key : F_row_of [some (I n), some (.fz (.lst (ps.map tupN))), none, none, none] = some (.rt (oI (rowT (2 ^ n - 1) ps)) [some (I n), some (.fz (.lst (ps.map tupN))), none, x', y']) :=
    seq_of (asgX_of (lk := lk_row_of) (i := 2) (lif_of hz) (stow_s (k := 8) _) rfl (Nat.le_of_ble_eq_true rfl)) (seq_of (for_of (e1 := [some (I n), some (.fz (.lst (ps.map tupN))), some (oI (List.replicate (2 ^ n - 1) 0)), none, none]) (itX_of (lif_of (nam_fz (d := .lst (ps.map tupN)) rfl)) rfl rfl rfl) lp) (by
      rw [e_ret, nam_oD (ds := (rowT (2 ^ n - 1) ps).map .int) rfl]
      exact retM_bp rfl rfl))
  exact run_rt rfl rfl rfl key rfl
def at0 (T : List Int) : Nat → Int
  | 0 => 0
  | g + 1 => T.getD g 0
theorem dot_set : ∀ (R T : List Int) (i : Nat) (k : Int), i < R.length → R.length = T.length → dot (R.set i (R.getD i 0 + k)) T = dot R T + k * T.getD i 0
  | [], T, i, k, h, _ => by simp at h
  | x :: R, [], i, k, _, h => by simp at h
  | x :: R, t :: T, 0, k, _, _ => by
    simp only [List.set_cons_zero, List.getD_cons_zero, dot, List.zipWith_cons_cons, List.sum_cons]
    rw [Int.add_mul]
    omega
  | x :: R, t :: T, i + 1, k, h, h' => by
    have ih := dot_set R T i k (by simpa using h) (by simpa using h')
    simp only [List.set_cons_succ, List.getD_cons_succ, dot, List.zipWith_cons_cons, List.sum_cons] at ih ⊢
    rw [ih]
    omega
theorem dot_addAt (R T : List Int) (p : Nat × Int) (h : p.1 ≤ R.length) (hl : R.length = T.length) : dot (addAt R p) T = dot R T + p.2 * at0 T p.1 := by
  unfold addAt
  by_cases h0 : p.1 = 0
  · rw [if_pos h0, h0]
    simp [at0]
  · rw [if_neg h0, dot_set R T (p.1 - 1) p.2 (by omega) hl]
    obtain ⟨g, hg⟩ : ∃ g, p.1 = g + 1 := ⟨p.1 - 1, by omega⟩
    rw [hg]
    rfl
theorem dot_fold (T : List Int) : ∀ (ps : List (Nat × Int)) (R : List Int), (∀ p ∈ ps, p.1 ≤ R.length) → R.length = T.length → dot (ps.foldl addAt R) T = dot R T + (ps.map fun p => p.2 * at0 T p.1).sum
  | [], R, _, _ => by simp
  | p :: ps, R, h, hl => by
    rw [List.foldl_cons, dot_fold T ps (addAt R p) (fun q hq => by rw [addAt_len]; exact h q (List.mem_cons_of_mem _ hq)) (by rw [addAt_len, hl]), dot_addAt R T p (h p (List.mem_cons_self ..)) hl, List.map_cons, List.sum_cons]
    omega
theorem dot_zero : ∀ (W : Nat) (T : List Int), dot (List.replicate W 0) T = 0
  | 0, T => by simp [dot]
  | W + 1, [] => by simp [dot]
  | W + 1, t :: T => by
    have := dot_zero W T
    unfold dot at this ⊢
    simp [List.replicate_succ, this]
theorem dot_rowT (W : Nat) (T : List Int) (ps : List (Nat × Int)) (h : ∀ p ∈ ps, p.1 ≤ W) (hl : T.length = W) : dot (rowT W ps) T = (ps.map fun p => p.2 * at0 T p.1).sum := by
  unfold rowT
  rw [dot_fold T ps _ (fun p hp => by simpa using h p hp) (by simpa using hl.symm), dot_zero]
  omega
theorem addAt_small (R : List Int) (p : Nat × Int) (m : Nat) (h : ∀ x ∈ R, x.natAbs ≤ m) : ∀ x ∈ addAt R p, x.natAbs ≤ m + p.2.natAbs := by
  intro x hx
  unfold addAt at hx
  split at hx
  · exact Nat.le_add_right_of_le (h x hx)
  · rcases List.mem_or_eq_of_mem_set hx with hx | hx
    · exact Nat.le_add_right_of_le (h x hx)
    · subst hx
      have := Int.natAbs_add_le (R.getD (p.1 - 1) 0) p.2
      have h2 : (R.getD (p.1 - 1) 0).natAbs ≤ m := by
        rw [List.getD_eq_getElem?_getD]
        cases hq : R[p.1 - 1]? with
        | none => simp
        | some y => simpa using h y (List.mem_of_getElem? hq)
      omega
theorem fold_small : ∀ (ps : List (Nat × Int)) (R : List Int) (m : Nat), (∀ x ∈ R, x.natAbs ≤ m) → (∀ p ∈ ps, p.2.natAbs ≤ 1) → ∀ x ∈ ps.foldl addAt R, x.natAbs ≤ m + ps.length
  | [], R, m, h, _ => h
  | p :: ps, R, m, h, hk => by
    intro x hx
    have := fold_small ps (addAt R p) (m + 1) (fun y hy => by
      have := addAt_small R p m h y hy
      have := hk p (List.mem_cons_self ..)
      omega) (fun q hq => hk q (List.mem_cons_of_mem _ hq)) x hx
    simp only [List.length_cons]
    omega
theorem rowT_small (W : Nat) (ps : List (Nat × Int)) (hl : ps.length ≤ 4) (hk : ∀ p ∈ ps, p.2.natAbs ≤ 1) : ∀ x ∈ rowT W ps, x.natAbs < 2 ^ 3 := by
  intro x hx
  have := fold_small ps (List.replicate W 0) 0 (fun y hy => by rw [(List.mem_replicate.mp hy).2]; simp) hk x hx
  omega
theorem rowT_len (W : Nat) (ps : List (Nat × Int)) : (rowT W ps).length = W := by
  unfold rowT
  suffices ∀ (ps : List (Nat × Int)) (R : List Int), (ps.foldl addAt R).length = R.length by rw [this]; simp
  intro ps
  induction ps with
  | nil => intro R; rfl
  | cons p ps ih => intro R; rw [List.foldl_cons, ih, addAt_len]
theorem lor_le {n a b : Nat} (ha : a ≤ 2 ^ n - 1) (hb : b ≤ 2 ^ n - 1) : a ||| b ≤ 2 ^ n - 1 := by
  have hp : 0 < 2 ^ n := Nat.pow_pos (by decide)
  have := Nat.or_lt_two_pow (x := a) (y := b) (n := n) (by omega) (by omega)
  omega
theorem shared_ok (n a b c : Nat) (h1 : 1 ≤ n) (h4 : n ≤ 4) (a1 : 1 ≤ a) (a2 : a ≤ 2 ^ n - 1) (b1 : 1 ≤ b) (b2 : b ≤ 2 ^ n - 1) (c2 : c ≤ 2 ^ n - 1) : f_shared [I n, I a, I b, I c] = some (oI (rowT (2 ^ n - 1) [(a ||| c, 1), (b ||| c, 1), (a ||| b ||| c, -1), (c, -1)]), [I n, I a, I b, I c]) := by
  have lk := look_ok n h1 h4 [((a : Int), 1), ((b : Int), 1), ((c : Int), 0)] (by simp; omega)
  have hac := lor_le a2 c2
  have hbc := lor_le b2 c2
  have habc := lor_le (lor_le a2 b2) c2
  have ro := row_of_ok n h1 h4 [(a ||| c, 1), (b ||| c, 1), (a ||| b ||| c, -1), (c, -1)] (by simp; omega)
  have n0 : nam 0 [some (I n), some (I a), some (I b), some (I c)] = some (I n) := nam_fz rfl
  have n1 : nam 1 [some (I n), some (I a), some (I b), some (I c)] = some (I a) := nam_fz rfl
  have n2 : nam 2 [some (I n), some (I a), some (I b), some (I c)] = some (I b) := nam_fz rfl
  have n3 : nam 3 [some (I n), some (I a), some (I b), some (I c)] = some (I c) := nam_fz rfl
  have tu : ∀ (e f : En → Option M) (x y : Int) (env : En), e env = some (I x) → f env = some (I y) → opr oTup (aCons e (aCons f aNil)) env = some (.fz (.tup [.int x, .int y])) := fun e f x y env h h' => opr_of (acons_of h (acons_of h' e_anil)) rfl
  have key : F_shared [some (I n), some (I a), some (I b), some (I c)] = some (.rt (oI (rowT (2 ^ n - 1) [(a ||| c, 1), (b ||| c, 1), (a ||| b ||| c, -1), (c, -1)])) [some (I n), some (I a), some (I b), some (I c)]) :=
    seq_of (exp_of (lif_of (opr_of (acons_of n0 (acons_of (opr_of (acons_of (tu _ _ _ _ _ n1 e_cst) (acons_of (tu _ _ _ _ _ n2 e_cst) (acons_of (tu _ _ _ _ _ n3 e_cst) e_anil))) (k_lst (by simp [sizeLine]))) e_anil)) (callP_of rfl rfl lk)))) (by
      rw [e_ret, opr_of (acons_of n0 (acons_of (opr_of (acons_of (tu _ _ _ _ _ (bin_of n1 n3 k_orN) e_cst) (acons_of (tu _ _ _ _ _ (bin_of n2 n3 k_orN) e_cst) (acons_of (tu _ _ _ _ _ (bin_of (bin_of n1 n2 k_orN) n3 k_orN) (una_of e_cst k_neg)) (acons_of (tu _ _ _ _ _ n3 (una_of e_cst k_neg)) e_anil)))) (k_lst (by simp [sizeLine]))) e_anil)) (callP_of rfl rfl ro)]
      exact retM_oI _)
  exact run_rt rfl rfl rfl key rfl
theorem value_ok (rs ts : List Int) (hc : ∀ p ∈ rs.zip ts, cMul p.1 p.2 = true) (hl : rs.length ≤ sizeLine) : f_value [.fz (lI rs), .fz (lI ts)] = some (I (dot rs ts), [.fz (lI rs), .fz (lI ts)]) := by
  have h := lc_zip (vs := [2, 3]) (t := .tp [(.nm 2), (.nm 3)]) (elt := T2.bin oMul (nam 2) (nam 3)) (env := [some (.fz (lI rs)), some (.fz (lI ts)), none, none]) (fs := aCons (nam 0) (aCons (nam 1) aNil)) (v := (· * ·)) (acons_of (nam_fz (d := lI rs) rfl) (acons_of (nam_fz (d := lI ts) rfl) e_anil)) items_f items_f
    (fun p hp => ⟨[some (.fz (lI rs)), some (.fz (lI ts)), some (I p.1), some (I p.2)], rfl, bin_of (nam_fz rfl) (nam_fz rfl) (k_mul (hc p hp))⟩) hl
  have key : F_value [some (.fz (lI rs)), some (.fz (lI ts)), none, none] = some (.rt (I (dot rs ts)) [some (.fz (lI rs)), some (.fz (lI ts)), none, none]) :=
    ret_of (sum_of h (dats_o dats_n))
  exact run_rt rfl rfl rfl key rfl
theorem rngD_I (n : Nat) : rngD 0 n = (rngI (n : Int)).map .int := by
  rw [rngD0]
  unfold rngI
  rw [List.map_map]
  rfl
theorem x_r1X {gs : En → Option (List M × En)} {env e1 : En} {j : Nat} (h : gs env = some ([.fz (.int (j : Int))], e1)) (h' : j < 1000) : itR1X gs env = some ((rngI (j : Int)).map .int, e1) := by
  have hi : inR (j : Int) = true := inR_of (by omega) (by omega)
  unfold itR1X
  rw [h]
  simp only [hi, if_true]
  rw [Int.toNat_natCast, rngD_I]
theorem take_i {env : En} {i : Nat} {a b c m : Int} {e : En → Option M} (h0 : env.get i = some (.ol [I a, I b, I c])) (he : e env = some (I m)) (hm : 0 < m) (hm2 : m.natAbs.log2 < 9000) (hc : c.natAbs < 2 ^ 39) :
    ∃ r a' c' : Int, callI [true, false] f__law_take (lifA (aCons (nam i) (aCons e aNil))) env = some (I r, env.put i (.ol [I a', I b, I c'])) ∧ 0 ≤ r ∧ r < m ∧ c'.natAbs ≤ c.natAbs + 1 := by
  obtain ⟨r, a', c', h, h1, h2, h3⟩ := take_ok a b c m hm hm2 hc
  exact ⟨r, a', c', callI_of (io := [true, false]) (i := i) (lifA_of (acons_of (by rw [e_nam, h0]; rfl) (acons_of he e_anil))) rfl h0 rfl h, h1, h2, h3⟩
theorem bitsR_lt (m k : Nat) (hm : m < 2 ^ k) (hk : k ≤ 41) : (((rngI (k : Int)).filter fun x => Builtin.bitAnd ((m : Int) / 2 ^ x.toNat) 1 == 1).map fun x => x) = bitsL m := by
  have e0 : (((rngI (k : Int)).filter fun x => Builtin.bitAnd ((m : Int) / 2 ^ x.toNat) 1 == 1).map fun x => x) = cI ((List.range k).filter fun j => m / 2 ^ j % 2 == 1) := by
    unfold rngI cI
    rw [List.map_id', List.filter_map]
    simp only [Int.toNat_natCast]
    congr 1
    exact List.filter_congr fun j _ => by
      have h3 : (m : Int) / (2 : Int) ^ j = ((m / 2 ^ j : Nat) : Int) := by simp
      show (Builtin.bitAnd ((m : Int) / 2 ^ ((j : Int)).toNat) 1 == 1) = _
      rw [Int.toNat_natCast, h3, show (1 : Int) = ((1 : Nat) : Int) from rfl, bitAndN, Nat.and_one_is_mod]
      rw [Bool.eq_iff_iff]
      simp
      omega
  rw [e0, bitsL_eq]
  have e : List.range 41 = List.range k ++ (List.range (41 - k)).map (k + ·) := by
    rw [← List.range_add]
    congr 1
    omega
  unfold cI
  rw [e, List.filter_append]
  have : ((List.range (41 - k)).map (k + ·)).filter (fun j => m / 2 ^ j % 2 == 1) = [] := by
    refine List.filter_eq_nil_iff.mpr fun j hj => ?_
    obtain ⟨i, _, rfl⟩ := List.mem_map.mp hj
    have h2 : m / 2 ^ (k + i) = 0 := Nat.div_eq_of_lt (Nat.lt_of_lt_of_le hm (Nat.pow_le_pow_right (by decide) (by omega)))
    rw [h2]
    decide
  rw [this, List.append_nil]
abbrev henv (s t n m v nm pi ro tu ma co : Option M) : En := [s, t, n, m, v, nm, pi, ro, tu, ma, co]
theorem heap_in (s t n : Option M) (many : Nat) (hm : many ≤ 6) (v nm : Option M) (cnt : Nat) (hcnt : cnt ≤ 3) (a b c : Int) (hc : c.natAbs < 2 ^ 20) (tu ma co : Option M) :
    ∃ (row : List Nat) (a' b' c' : Int) (tu' ma' co' : Option M), lpF lk__law_heap (.nm 8) B__law_heap_0 ((rngI (cnt : Int)).map .int) (henv s t n (some (I many)) v nm (some (.ol [I a, I b, I c])) (some (oI [])) tu ma co) = some (.nx (henv s t n (some (I many)) v nm (some (.ol [I a', I b', I c'])) (some (oD (row.map bitD))) tu' ma' co')) ∧ row.length ≤ 3 ∧ ∀ m ∈ row, m < 2 ^ many := by
  obtain ⟨e', lp, row, a', c', tu', ma', he, hr1, hr2, _⟩ := lp_rng (lk := lk__law_heap) (t := .nm 8) (B := B__law_heap_0) (fun k e => ∃ (row : List Nat) (a c : Int) (tu ma : Option M), e = henv s t n (some (I many)) v nm (some (.ol [I a, I b, I c])) (some (oD (row.map bitD))) tu ma co ∧ row.length = k ∧ (∀ m ∈ row, m < 2 ^ many) ∧ c.natAbs < 2 ^ 20 + k) (cnt : Int)
    (fun k hk e ⟨row, a, c, tu, ma, he, hr1, hr2, hr3⟩ => by
      subst he
      have hp0 : (0 : Int) < 1 * 2 ^ (many : Int).toNat := pow2_pos
      have hsh : (1 : Int) * 2 ^ (many : Int).toNat = ((2 ^ many : Nat) : Int) := by simp
      have h64 : 2 ^ many ≤ 2 ^ 6 := Nat.pow_le_pow_right (by decide) hm
      obtain ⟨r, a', c', ht, t1, t2, t3⟩ := take_i (env := henv s t n (some (I many)) v nm (some (.ol [I a, I b, I c])) (some (oD (row.map bitD))) (some (I k)) ma co) (i := 6) (m := 1 * 2 ^ (many : Int).toNat) (e := T2.bin (sop iShl) (cst (.int 1)) (nam 3)) rfl (by (first | wtm_at "sx" | fail)) hp0 (pow2_log (by omega)) (by omega)
      obtain ⟨m', rfl⟩ : ∃ m' : Nat, r = m' := ⟨r.toNat, by omega⟩
      have hm' : m' < 2 ^ many := by omega
      have hbit := bitsR_lt m' many hm' (by omega)
      refine ⟨henv s t n (some (I many)) v nm (some (.ol [I a, I b, I c])) (some (oD (row.map bitD))) (some (I k)) ma co, henv s t n (some (I many)) v nm (some (.ol [I a', I b, I c'])) (some (oD (row.map bitD ++ [bitD m']))) (some (I k)) (some (I m')) co, rfl, ?_, row ++ [m'], a', c', some (I k), some (I m'), by simp, by simp [hr1], fun x hx => ?_, by omega⟩
      · have s1 : sAsg lk__law_heap 9 0 (callI [true, false] f__law_take (lifA (aCons (nam 6) (aCons (T2.bin (sop iShl) (cst (.int 1)) (nam 3)) aNil)))) (henv s t n (some (I many)) v nm (some (.ol [I a, I b, I c])) (some (oD (row.map bitD))) (some (I k)) ma co) = some (.nx (henv s t n (some (I many)) v nm (some (.ol [I a', I b, I c'])) (some (oD (row.map bitD))) (some (I k)) (some (I m')) co)) := asgX_of ht stow_f rfl (Nat.le_of_ble_eq_true rfl)
        have hrl : row.length ≤ 3 := by omega
        have hlc : lcF [10] (.nm 10) (itR1 (aCons (nam 3) aNil)) (tst (T2.bin (sop (gEq false)) (T2.bin (sop iAnd) (T2.bin (sop iShr) (nam 9) (nam 10)) (cst (.int 1))) (cst (.int 1)))) (nam 10) (henv s t n (some (I many)) v nm (some (.ol [I a', I b, I c'])) (some (oD (row.map bitD))) (some (I k)) (some (I m')) co) = some (oI (bitsL m')) := by
          rw [← hbit]
          (first | wtm_at "sx" | fail)
        unfold B__law_heap_0
        (first | wtm_at "sx" | fail)
      · rcases List.mem_append.mp hx with h | h
        · exact hr2 x h
        · rw [List.mem_singleton.mp h]; exact hm')
    (e := henv s t n (some (I many)) v nm (some (.ol [I a, I b, I c])) (some (oI [])) tu ma co) ⟨[], a, c, tu, ma, rfl, rfl, (fun x hx => by cases hx), by omega⟩
  subst he
  exact ⟨row, a', b, c', _, _, _, lp, by omega, hr2⟩
local macro_rules | `(tactic| wtm_at "fn") => `(tactic| (with_reducible assumption))
theorem heap_ok (ns : List Int) (t n : Nat) (ht : t ≤ 100) (hn4 : n ≤ 4) (hn : ns.length ≤ 63) (hb : ∀ z ∈ ns, Builtin.Int.intBits z ≤ 1048576) :
    ∃ (many : Nat) (rows : List (List Nat)), f__law_heap [.fz (.scr ns), I t, I n] = some (.fz (heapD many rows), [.fz (.scr ns), I t, I n]) ∧ okH many rows ∧ many ≤ 6 ∧ rows.length = n := by
  obtain ⟨a0, b0, hp0⟩ := pile_ok ns t (by omega) hn hb
  obtain ⟨r0, a1, c1, ht0, q1, q2, _⟩ := take_ok a0 b0 (97 * t) 7 (by decide) (by decide) (by omega)
  obtain ⟨many, rfl⟩ : ∃ many : Nat, r0 = many := ⟨r0.toNat, by omega⟩
  obtain ⟨e', lp, rows, x5, x6, x7, x8, x9, x10, he, hr1, hr2⟩ := lp_rng (lk := lk__law_heap) (t := .nm 5) (B := B__law_heap_1) (fun k e => ∃ (rows : List (List Nat)) (x5 x6 x7 x8 x9 x10 : Option M), e = henv (some (.fz (.scr ns))) (some (I t)) (some (I n)) (some (I many)) (some (oD (rows.map rowD))) x5 x6 x7 x8 x9 x10 ∧ rows.length = k ∧ ∀ row ∈ rows, row.length ≤ 3 ∧ ∀ m ∈ row, m < 2 ^ many) (n : Int)
    (fun k hk e ⟨rows, x5, x6, x7, x8, x9, x10, he, hr1, hr2⟩ => by
      subst he
      obtain ⟨a, b, hp⟩ := pile_ok ns (t + 1 + k) (by omega) hn hb
      have hpe : f__law_pile [.fz (.scr ns), I ((t : Int) + 1 + (k : Int))] = some (.ol [I a, I b, I (97 * ((t + 1 + k : Nat) : Int))], [.fz (.scr ns), I ((t : Int) + 1 + (k : Int))]) := hp
      have s1 : sAsg lk__law_heap 6 9 (lif (opr (callP [false, false] f__law_pile) (aCons (nam 0) (aCons (T2.bin oAdd (T2.bin oAdd (nam 1) (cst (.int 1))) (nam 5)) aNil)))) (henv (some (.fz (.scr ns))) (some (I t)) (some (I n)) (some (I many)) (some (oD (rows.map rowD))) (some (I k)) x6 x7 x8 x9 x10) = some (.nx (henv (some (.fz (.scr ns))) (some (I t)) (some (I n)) (some (I many)) (some (oD (rows.map rowD))) (some (I k)) (some (.ol [I a, I b, I (97 * ((t + 1 + k : Nat) : Int))])) x7 x8 x9 x10)) := by
        have h1 : opr (callP [false, false] f__law_pile) (aCons (nam 0) (aCons (T2.bin oAdd (T2.bin oAdd (nam 1) (cst (.int 1))) (nam 5)) aNil)) (henv (some (.fz (.scr ns))) (some (I t)) (some (I n)) (some (I many)) (some (oD (rows.map rowD))) (some (I k)) x6 x7 x8 x9 x10) = some (.ol [I a, I b, I (97 * ((t + 1 + k : Nat) : Int))]) :=
          opr_of (acons_of (nam_fz rfl) (acons_of (bin_of (bin_of (nam_fz rfl) e_cst k_add) (nam_fz rfl) k_add) e_anil)) (callP_of rfl rfl hpe)
        exact x_asg rfl (lif_of h1) rfl rfl rfl rfl
      obtain ⟨r, a', c', htk, t1, t2, t3⟩ := take_i (env := henv (some (.fz (.scr ns))) (some (I t)) (some (I n)) (some (I many)) (some (oD (rows.map rowD))) (some (I k)) (some (.ol [I a, I b, I (97 * ((t + 1 + k : Nat) : Int))])) (some (oI [])) x8 x9 x10) (i := 6) (m := 4) (e := cst (.int 4)) rfl e_cst (by decide) (by decide) (by omega)
      obtain ⟨cnt, rfl⟩ : ∃ cnt : Nat, r = cnt := ⟨r.toNat, by omega⟩
      obtain ⟨row, a2, b2, c2, tu', ma', co', lp, hrow1, hrow2⟩ := heap_in (some (.fz (.scr ns))) (some (I t)) (some (I n)) many (by omega) (some (oD (rows.map rowD))) (some (I k)) cnt (by omega) a' b c' (by omega) x8 x9 x10
      have hit : itR1X (xCons (callI [true, false] f__law_take (lifA (aCons (nam 6) (aCons (cst (.int 4)) aNil)))) xNil) (henv (some (.fz (.scr ns))) (some (I t)) (some (I n)) (some (I many)) (some (oD (rows.map rowD))) (some (I k)) (some (.ol [I a, I b, I (97 * ((t + 1 + k : Nat) : Int))])) (some (oI [])) x8 x9 x10) = some ((rngI (cnt : Int)).map .int, henv (some (.fz (.scr ns))) (some (I t)) (some (I n)) (some (I many)) (some (oD (rows.map rowD))) (some (I k)) (some (.ol [I a', I b, I c'])) (some (oI [])) x8 x9 x10) :=
        x_r1X (xcons_of htk e_xnil rfl) (by omega)
      have s2 : sAsg lk__law_heap 7 1 (lif (opr oLst aNil)) (henv (some (.fz (.scr ns))) (some (I t)) (some (I n)) (some (I many)) (some (oD (rows.map rowD))) (some (I k)) (some (.ol [I a, I b, I (97 * ((t + 1 + k : Nat) : Int))])) x7 x8 x9 x10) = some (.nx (henv (some (.fz (.scr ns))) (some (I t)) (some (I n)) (some (I many)) (some (oD (rows.map rowD))) (some (I k)) (some (.ol [I a, I b, I (97 * ((t + 1 + k : Nat) : Int))])) (some (oI [])) x8 x9 x10)) := x_asg rfl (lif_of (opr_of e_anil k_lstI0)) (stow_s _) rfl rfl rfl
      have s4 : sExp (xMutP 0 (nam 4) (aCons (nam 7) aNil) mAppend) (henv (some (.fz (.scr ns))) (some (I t)) (some (I n)) (some (I many)) (some (oD (rows.map rowD))) (some (I k)) (some (.ol [I a2, I b2, I c2])) (some (oD (row.map bitD))) tu' ma' co') = some (.nx (henv (some (.fz (.scr ns))) (some (I t)) (some (I n)) (some (I many)) (some (oD (rows.map rowD ++ [rowD row]))) (some (I k)) (some (.ol [I a2, I b2, I c2])) (some (.fz (rowD row))) tu' ma' co')) := by
        have hbd : (rows.length : Int) ≤ 4 := by omega
        (first | wtm_at "sx" | fail)
      refine ⟨henv (some (.fz (.scr ns))) (some (I t)) (some (I n)) (some (I many)) (some (oD (rows.map rowD))) (some (I k)) x6 x7 x8 x9 x10, _, rfl, seq_of s1 (seq_of s2 (seq_of (x_for hit lp) s4)), rows ++ [row], some (I k), some (.ol [I a2, I b2, I c2]), some (.fz (rowD row)), tu', ma', co', by simp, by simp [hr1], fun r hr => ?_⟩
      rcases List.mem_append.mp hr with h | h
      · exact hr2 r h
      · rw [List.mem_singleton.mp h]; exact ⟨hrow1, hrow2⟩)
    (e := henv (some (.fz (.scr ns))) (some (I t)) (some (I n)) (some (I many)) (some (oI [])) none none none none none none) ⟨[], _, _, _, _, _, _, rfl, rfl, fun x hx => by cases hx⟩
  subst he
  have s0 : sAsg lk__law_heap 3 0 (lif (opr (callP [true, false] f__law_take) (aCons (opr (callP [false, false] f__law_pile) (aCons (nam 0) (aCons (nam 1) aNil))) (aCons (cst (.int 7)) aNil)))) (henv (some (.fz (.scr ns))) (some (I t)) (some (I n)) none none none none none none none none) = some (.nx (henv (some (.fz (.scr ns))) (some (I t)) (some (I n)) (some (I many)) none none none none none none none)) := by
    have h1 : opr (callP [false, false] f__law_pile) (aCons (nam 0) (aCons (nam 1) aNil)) (henv (some (.fz (.scr ns))) (some (I t)) (some (I n)) none none none none none none none none) = some (.ol [I a0, I b0, I (97 * t)]) := opr_of (acons_of (nam_fz rfl) (acons_of (nam_fz rfl) e_anil)) (callP_of rfl rfl hp0)
    have h2 : opr (callP [true, false] f__law_take) (aCons (opr (callP [false, false] f__law_pile) (aCons (nam 0) (aCons (nam 1) aNil))) (aCons (cst (.int 7)) aNil)) (henv (some (.fz (.scr ns))) (some (I t)) (some (I n)) none none none none none none none none) = some (I many) := opr_of (acons_of h1 (acons_of e_cst e_anil)) (callP_of rfl rfl ht0)
    exact x_asg rfl (lif_of h2) stow_f rfl rfl rfl
  refine ⟨many, rows, ?_, ⟨by omega, hr2⟩, by omega, by omega⟩
  unfold f__law_heap F__law_heap
  (first | wtm_at "run" | fail)
abbrev oenv (a b c : Int) (l f : List M) : En := [some (.ol [I a, I b, I c]), some (I 4), some (.ol l), some (.ol f)]
def bX (X : En → Option (M × En)) : En → Option Fl := sExp (xMut 9 (nam 3) (xCons (xMut 0 (nam 2) (xCons X xNil) mPopAt) xNil) mAppend)
theorem bX_of {X : En → Option (M × En)} {env : En} {v : M × En} (h : X env = some v) (hn : (∃ ms, env.get 3 = some (.ol ms)) ∧ ∃ ms, env.get 2 = some (.ol ms)) : bX X env = bX (fun _ => some v) env := by
  obtain ⟨⟨ms, h3⟩, ms', h2⟩ := hn
  unfold bX sExp
  have e3 : nam 3 env = some (.bp 3 []) := by rw [e_nam, h3]; rfl
  have e2 : nam 2 env = some (.bp 2 []) := by rw [e_nam, h2]; rfl
  have hx : xMut 0 (nam 2) (xCons X xNil) mPopAt env = xMut 0 (nam 2) (xCons (fun _ => some v) xNil) mPopAt env := by
    unfold xMut xCons
    simp only [e2, h]
  unfold xMut xCons at hx ⊢
  simp only [e3]
  rw [hx]
theorem take_at (a b c : Int) (l f : List M) (m : Nat) (hl : l.length = m) (hm : 0 < m) (hm4 : m ≤ 4) (hd : ∃ ds : List D, l = ds.map .fz) (hc : c.natAbs < 2 ^ 39) :
    ∃ r a' c' : Int, callI [true, false] f__law_take (lifA (aCons (nam 0) (aCons (opr (sop gLen) (aCons (nam 2) aNil)) aNil))) (oenv a b c l f) = some (I r, oenv a' b c' l f) ∧ 0 ≤ r ∧ r < m ∧ c'.natAbs ≤ c.natAbs + 1 := by
  obtain ⟨r, a', c', h, h1, h2, h3⟩ := take_ok a b c m (by omega) (by
    have : m = 1 ∨ m = 2 ∨ m = 3 ∨ m = 4 := by omega
    rcases this with h | h | h | h <;> subst h <;> decide) hc
  obtain ⟨ds, rfl⟩ := hd
  refine ⟨r, a', c', ?_, h1, h2, h3⟩
  have hg : opr (sop gLen) (aCons (nam 2) aNil) (oenv a b c (ds.map .fz) f) = some (I m) := by
    subst hl
    match ds, hm, hm4 with
    | [_], _, _ => kernel_rfl
    | [_, _], _, _ => kernel_rfl
    | [_, _, _], _, _ => kernel_rfl
    | [_, _, _, _], _, _ => kernel_rfl
  exact callI_of (io := [true, false]) (i := 0) (lifA_of (acons_of (by kernel_rfl) (acons_of hg e_anil))) (by kernel_rfl) (by kernel_rfl) (by kernel_rfl) h
theorem body_at {a b c r a' c' : Int} {l f l' f' : List M} (h : callI [true, false] f__law_take (lifA (aCons (nam 0) (aCons (opr (sop gLen) (aCons (nam 2) aNil)) aNil))) (oenv a b c l f) = some (I r, oenv a' b c' l f)) (h' : bX (fun _ => some (I r, oenv a' b c' l f)) (oenv a b c l f) = some (.nx (oenv a' b c' l' f'))) : B__law_order_0 (oenv a b c l f) = some (.nx (oenv a' b c' l' f')) :=
  (bX_of h ⟨⟨_, rfl⟩, _, rfl⟩).trans h'
theorem c_t (a b c : Int) (l f : List M) (h : l.length ≤ 4 ∧ 0 < l.length) (hd : ∃ ds : List Int, l = ds.map I) : C__law_order_1 (oenv a b c l f) = some (true, oenv a b c l f) := by
  obtain ⟨ds, rfl⟩ := hd
  match ds, h with
  | [_], _ => kernel_rfl
  | [_, _], _ => kernel_rfl
  | [_, _, _], _ => kernel_rfl
  | [_, _, _, _], _ => kernel_rfl
theorem c_f (a b c : Int) (f : List M) : C__law_order_1 (oenv a b c [] f) = some (false, oenv a b c [] f) := by kernel_rfl
theorem ord1 (n : Nat) (a b c x y z u : Int) (hc : c.natAbs < 2 ^ 39) : ∃ a' c', lpW C__law_order_1 B__law_order_0 (n + 2) (oenv a b c [I u] [I x, I y, I z]) = some (.nx (oenv a' b c' [] [I x, I y, I z, I u])) := by
  obtain ⟨r, a', c', h, h1, h2, h3⟩ := take_at a b c [I u] [I x, I y, I z] 1 rfl (by omega) (by omega) ⟨[.int u], rfl⟩ hc
  refine ⟨a', c', wh_t (e3 := []) (c_t _ _ _ _ _ (by simp) ⟨[u], rfl⟩) (body_at h ?_) (wh_f (c_f _ _ _ _))⟩
  have : r = 0 := by omega
  subst this
  kernel_rfl
theorem ord2 (n : Nat) (a b c x y u v : Int) (hc : c.natAbs < 2 ^ 38) : ∃ a' c' u' v', lpW C__law_order_1 B__law_order_0 (n + 3) (oenv a b c [I u, I v] [I x, I y]) = some (.nx (oenv a' b c' [] [I x, I y, I u', I v'])) ∧ [u', v'] ∈ [[u, v], [v, u]] := by
  obtain ⟨r, a', c', h, h1, h2, h3⟩ := take_at a b c [I u, I v] [I x, I y] 2 rfl (by omega) (by omega) ⟨[.int u, .int v], rfl⟩ (by omega)
  have hr : r = 0 ∨ r = 1 := by omega
  rcases hr with rfl | rfl
  · obtain ⟨a2, c2, q⟩ := ord1 n a' b c' x y u v (by omega)
    exact ⟨a2, c2, u, v, wh_t (e3 := []) (c_t _ _ _ _ _ (by simp) ⟨[u, v], rfl⟩) (body_at h (by kernel_rfl)) q, by simp⟩
  · obtain ⟨a2, c2, q⟩ := ord1 n a' b c' x y v u (by omega)
    exact ⟨a2, c2, v, u, wh_t (e3 := []) (c_t _ _ _ _ _ (by simp) ⟨[u, v], rfl⟩) (body_at h (by kernel_rfl)) q, by simp⟩
theorem ord3 (n : Nat) (a b c x u v w : Int) (hc : c.natAbs < 2 ^ 37) : ∃ a' c' u' v' w', lpW C__law_order_1 B__law_order_0 (n + 4) (oenv a b c [I u, I v, I w] [I x]) = some (.nx (oenv a' b c' [] [I x, I u', I v', I w'])) ∧ [u', v', w'] ∈ [[u, v, w], [u, w, v], [v, u, w], [v, w, u], [w, u, v], [w, v, u]] := by
  obtain ⟨r, a', c', h, h1, h2, h3⟩ := take_at a b c [I u, I v, I w] [I x] 3 rfl (by omega) (by omega) ⟨[.int u, .int v, .int w], rfl⟩ (by omega)
  have hr : r = 0 ∨ r = 1 ∨ r = 2 := by omega
  rcases hr with rfl | rfl | rfl
  · obtain ⟨a2, c2, u', v', q, hq⟩ := ord2 n a' b c' x u v w (by omega)
    refine ⟨a2, c2, u, u', v', wh_t (e3 := []) (c_t _ _ _ _ _ (by simp) ⟨[u, v, w], rfl⟩) (body_at h (by kernel_rfl)) q, ?_⟩
    simp only [List.mem_cons, List.cons.injEq, List.not_mem_nil, or_false, and_true] at hq ⊢
    rcases hq with ⟨rfl, rfl⟩ | ⟨rfl, rfl⟩ <;> simp
  · obtain ⟨a2, c2, u', v', q, hq⟩ := ord2 n a' b c' x v u w (by omega)
    refine ⟨a2, c2, v, u', v', wh_t (e3 := []) (c_t _ _ _ _ _ (by simp) ⟨[u, v, w], rfl⟩) (body_at h (by kernel_rfl)) q, ?_⟩
    simp only [List.mem_cons, List.cons.injEq, List.not_mem_nil, or_false, and_true] at hq ⊢
    rcases hq with ⟨rfl, rfl⟩ | ⟨rfl, rfl⟩ <;> simp
  · obtain ⟨a2, c2, u', v', q, hq⟩ := ord2 n a' b c' x w u v (by omega)
    refine ⟨a2, c2, w, u', v', wh_t (e3 := []) (c_t _ _ _ _ _ (by simp) ⟨[u, v, w], rfl⟩) (body_at h (by kernel_rfl)) q, ?_⟩
    simp only [List.mem_cons, List.cons.injEq, List.not_mem_nil, or_false, and_true] at hq ⊢
    rcases hq with ⟨rfl, rfl⟩ | ⟨rfl, rfl⟩ <;> simp
def three (u v w : Int) : List (List Int) := [[u, v, w], [u, w, v], [v, u, w], [v, w, u], [w, u, v], [w, v, u]]
def perms : List (List Int) := (three 1 2 3).map (0 :: ·) ++ (three 0 2 3).map (1 :: ·) ++ (three 0 1 3).map (2 :: ·) ++ (three 0 1 2).map (3 :: ·)
theorem ord4 (n : Nat) (a b c : Int) (hc : c.natAbs < 2 ^ 36) : ∃ a' c' x u v w, lpW C__law_order_1 B__law_order_0 (n + 5) (oenv a b c [I 0, I 1, I 2, I 3] []) = some (.nx (oenv a' b c' [] [I x, I u, I v, I w])) ∧ [x, u, v, w] ∈ perms := by
  obtain ⟨r, a', c', h, h1, h2, h3⟩ := take_at a b c [I 0, I 1, I 2, I 3] [] 4 rfl (by omega) (by omega) ⟨[.int 0, .int 1, .int 2, .int 3], rfl⟩ (by omega)
  have hr : r = 0 ∨ r = 1 ∨ r = 2 ∨ r = 3 := by omega
  unfold perms
  rcases hr with rfl | rfl | rfl | rfl
  · obtain ⟨a2, c2, u', v', w', q, hq⟩ := ord3 n a' b c' 0 1 2 3 (by omega)
    refine ⟨a2, c2, 0, u', v', w', wh_t (e3 := []) (c_t _ _ _ _ _ (by simp) ⟨[0, 1, 2, 3], rfl⟩) (body_at h (by kernel_rfl)) q, ?_⟩
    simp only [List.mem_append]
    exact .inl (.inl (.inl (List.mem_map_of_mem hq)))
  · obtain ⟨a2, c2, u', v', w', q, hq⟩ := ord3 n a' b c' 1 0 2 3 (by omega)
    refine ⟨a2, c2, 1, u', v', w', wh_t (e3 := []) (c_t _ _ _ _ _ (by simp) ⟨[0, 1, 2, 3], rfl⟩) (body_at h (by kernel_rfl)) q, ?_⟩
    simp only [List.mem_append]
    exact .inl (.inl (.inr (List.mem_map_of_mem hq)))
  · obtain ⟨a2, c2, u', v', w', q, hq⟩ := ord3 n a' b c' 2 0 1 3 (by omega)
    refine ⟨a2, c2, 2, u', v', w', wh_t (e3 := []) (c_t _ _ _ _ _ (by simp) ⟨[0, 1, 2, 3], rfl⟩) (body_at h (by kernel_rfl)) q, ?_⟩
    simp only [List.mem_append]
    exact .inl (.inr (List.mem_map_of_mem hq))
  · obtain ⟨a2, c2, u', v', w', q, hq⟩ := ord3 n a' b c' 3 0 1 2 (by omega)
    refine ⟨a2, c2, 3, u', v', w', wh_t (e3 := []) (c_t _ _ _ _ _ (by simp) ⟨[0, 1, 2, 3], rfl⟩) (body_at h (by kernel_rfl)) q, ?_⟩
    simp only [List.mem_append]
    exact .inr (List.mem_map_of_mem hq)
theorem order_ok (a b c : Int) (hc : c.natAbs < 2 ^ 36) : ∃ a' c' x u v w, f__law_order [.ol [I a, I b, I c], I 4] = some (.ol [I x, I u, I v, I w], [.ol [I a', I b, I c'], I 4]) ∧ [x, u, v, w] ∈ perms := by
  obtain ⟨a', c', x, u, v, w, h, hp⟩ := ord4 999995 a b c hc
  have h' : sWh 1000000 C__law_order_1 B__law_order_0 (oenv a b c [I 0, I 1, I 2, I 3] []) = some (.nx (oenv a' b c' [] [I x, I u, I v, I w])) := h
  have key : F__law_order [some (.ol [I a, I b, I c]), some (I 4), none, none] = some (.rt (.ol [I x, I u, I v, I w]) [some (.ol [I a', I b, I c']), some (I 4), some (.ol []), none]) := by
    refine (seq_of (e1 := [some (.ol [I a, I b, I c]), some (I 4), some (.ol [I 0, I 1, I 2, I 3]), none]) (by kernel_rfl) (seq_of (e1 := oenv a b c [I 0, I 1, I 2, I 3] []) (by kernel_rfl) (seq_of h' ?_)))
    kernel_rfl
  exact ⟨a', c', x, u, v, w, run_rt rfl rfl rfl key rfl, hp⟩
def byG (rows : List (List Nat)) (W : List Nat) (c : Nat) : Nat := rk (masksK rows c rows.length ++ W) - rkG rows c
theorem rk_app_le (S T : List Nat) : rk S ≤ rk (S ++ T) := rk_mono fun x hx => inS_mem (List.mem_append_left _ hx)
theorem at0_tab (rows : List (List Nat)) (g : Nat) (hg : g < 16) : at0 (tabR 4 rows) g = ((rkG rows g : Nat) : Int) := by
  cases g with
  | zero => rw [rkG_0]; rfl
  | succ g =>
    show (tabR 4 rows).getD g 0 = _
    unfold tabR
    simp [List.getD, show g < 15 by omega]
local macro_rules | `(tactic| wtm_at "fn") => `(tactic| (((with_reducible apply mask2_ok); wtm_at "sd")))
local macro_rules | `(tactic| wtm_at "fn") => `(tactic| (((with_reducible apply masks_ok); (all_goals wtm_at "sd"))))
local macro_rules | `(tactic| wtm_at "fn") => `(tactic| (((with_reducible apply rank_of_ok); wtm_at "sd")))
abbrev wD (W : List Nat) : D := .lst (W.map bitD)
theorem greater_ok (many : Nat) (rows : List (List Nat)) (h : okH many rows) (hr : rows.length ≤ 4) (k : Nat) (hk : k ≤ 10) (W : List Nat) (hW : ∀ w ∈ W, w < 2 ^ 41) (hWl : W.length ≤ 12) : f_greater_by [.fz (heapD many rows), I k, .fz (wD W)] = some (I (byG rows W (2 ^ k) : Nat), [.fz (heapD many rows), I k, .fz (wD W)]) := by
  have hsh : (1 : Int) * 2 ^ (k : Int).toNat = ((2 ^ k : Nat) : Int) := by simp
  have mM := masks_ok many rows h hr (2 ^ k)
  have hl := masksK_len h (g := 2 ^ k) (k := rows.length) (Nat.le_refl _)
  have hby : (byG rows W (2 ^ k) : Nat) = rk (masksK rows (2 ^ k) rows.length ++ W) - rk (masksK rows (2 ^ k) rows.length) := rfl
  have hle := rk_app_le (masksK rows (2 ^ k) rows.length) W
  generalize masksK rows (2 ^ k) rows.length = L at *
  obtain ⟨Hd, hHd⟩ : ∃ Hd, Hd = heapD many rows := ⟨_, rfl⟩
  rw [← hHd] at mM ⊢
  obtain ⟨G, hG⟩ : ∃ G : Nat, G = 2 ^ k := ⟨_, rfl⟩
  rw [← hG] at mM hsh hby ⊢
  have s1 : sAsg lk_greater_by 3 0 (lif (opr (callP [false, false] f_masks_of) (aCons (nam 0) (aCons (T2.bin (sop iShl) (cst (.int 1)) (nam 1)) aNil)))) [some (.fz Hd), some (I k), some (.fz (wD W)), none, none] = some (.nx [some (.fz Hd), some (I k), some (.fz (wD W)), some (.fz (lI (cI L))), none]) := by
    have h1 : T2.bin (sop iShl) (cst (.int 1)) (nam 1) [some (.fz Hd), some (I k), some (.fz (wD W)), none, none] = some (I G) := by
      rw [← hsh]
      (first | wtm_at "sx" | fail)
    exact x_asg rfl (lif_of (opr_of (acons_of (nam_fz rfl) (acons_of h1 e_anil)) (callP_of rfl rfl mM))) (stow_z _) rfl rfl rfl
  have ca : cI L ++ W.map (fun w : Nat => (w : Int)) = cI (L ++ W) := by simp [cI]
  have hlc : lcF [4] (.nm 4) (itP true (nam 2)) cYes (opr (callP [false] f_mask_of) (aCons (nam 4) aNil)) [some (.fz Hd), some (I k), some (.fz (wD W)), some (.fz (lI (cI L))), none] = some (oI (W.map fun w : Nat => (w : Int))) := by
    refine x_lcMI (F := bitD) (e1 := fun w => [some (.fz Hd), some (I k), some (.fz (wD W)), some (.fz (lI (cI L))), some (.fz (bitD w))]) (items_lst (nam_fz rfl) items_f) (fun w _ => rfl) (fun w hw => opr_of (acons_of (nam_fz rfl) e_anil) (callP_of rfl rfl (mask2_ok w (hW w hw)))) (by simp only [sizeLine]; omega)
  have l1 : (cI L).length + (W.map fun w : Nat => (w : Int)).length ≤ sizeLine := by simp [cI, sizeLine]; omega
  have hadd : T2.bin oAdd (nam 3) (lcF [4] (.nm 4) (itP true (nam 2)) cYes (opr (callP [false] f_mask_of) (aCons (nam 4) aNil))) [some (.fz Hd), some (I k), some (.fz (wD W)), some (.fz (lI (cI L))), none] = some (oI (cI (L ++ W))) := by
    rw [← ca]
    exact bin_of (nam_fz rfl) hlc (x_catFO l1)
  have l2 : (L ++ W).length ≤ 900 := by rw [List.length_append]; omega
  have r1 : opr (callP [false] f_rank_of) (aCons (T2.bin oAdd (nam 3) (lcF [4] (.nm 4) (itP true (nam 2)) cYes (opr (callP [false] f_mask_of) (aCons (nam 4) aNil)))) aNil) [some (.fz Hd), some (I k), some (.fz (wD W)), some (.fz (lI (cI L))), none] = some (I (rk (L ++ W) : Nat)) := opr_of (acons_of hadd e_anil) (callP_of (slotsL_co slotsL_n) (shutZ_z shutZ_n) (rank_of_ok _ l2))
  have r2 : opr (callP [false] f_rank_of) (aCons (nam 3) aNil) [some (.fz Hd), some (I k), some (.fz (wD W)), some (.fz (lI (cI L))), none] = some (I (rk L : Nat)) := opr_of (acons_of (nam_fz rfl) e_anil) (callP_of rfl rfl (rank_of_ok L (by omega)))
  have hs : ((rk (L ++ W) : Nat) : Int) - (rk L : Nat) = (byG rows W G : Nat) := by
    rw [hby]
    omega
  have fin := bin_of r1 r2 k_sub
  rw [hs] at fin
  exact run_rt rfl rfl rfl (seq_of s1 (x_ret (lif_of fin) rfl rfl)) rfl
theorem val_ok (many : Nat) (rows : List (List Nat)) (h : okH many rows) (hr : rows.length ≤ 4) (R : List Int) (hR : ∀ x ∈ R, x.natAbs < 2 ^ 8) (hl : R.length ≤ 15) : f_value [.fz (lI R), .fz (lI (tabR 4 rows))] = some (I (dot R (tabR 4 rows)), [.fz (lI R), .fz (lI (tabR 4 rows))]) :=
  value_ok R (tabR 4 rows) (cMul_dot 8 64 hR (tabR_small h hr 4) (by decide)) (by simp only [sizeLine]; omega)
abbrev shR (a b c : Nat) : List Int := rowT (2 ^ 4 - 1) [(a ||| c, 1), (b ||| c, 1), (a ||| b ||| c, -1), (c, -1)]
theorem sh_val (rows : List (List Nat)) (a b c : Nat) (ha : a ≤ 15) (hb : b ≤ 15) (hc : c ≤ 15) : dot (shR a b c) (tabR 4 rows) = rkG rows (a ||| c) + rkG rows (b ||| c) - rkG rows (a ||| b ||| c) - rkG rows c := by
  have o1 : a ||| c ≤ 2 ^ 4 - 1 := lor_le ha hc
  have o2 : b ||| c ≤ 2 ^ 4 - 1 := lor_le hb hc
  have o3 : a ||| b ||| c ≤ 2 ^ 4 - 1 := lor_le (lor_le ha hb) hc
  rw [dot_rowT _ _ _ (by
    intro p hp
    simp only [List.mem_cons, List.not_mem_nil, or_false] at hp
    rcases hp with rfl | rfl | rfl | rfl
    · exact o1
    · exact o2
    · exact o3
    · exact hc) (tabR_len 4 rows)]
  simp only [List.map_cons, List.map_nil, List.sum_cons, List.sum_nil]
  rw [at0_tab _ _ (by omega), at0_tab _ _ (by omega), at0_tab _ _ (by omega), at0_tab _ _ (by omega)]
  omega
theorem shR_small (a b c : Nat) : ∀ x ∈ shR a b c, x.natAbs < 2 ^ 8 := fun x hx => Nat.lt_trans (rowT_small _ _ (by simp) (by
  intro p hp
  simp only [List.mem_cons, List.not_mem_nil, or_false] at hp
  rcases hp with rfl | rfl | rfl | rfl <;> simp) x hx) (by decide)
theorem shR_len (a b c : Nat) : (shR a b c).length ≤ 15 := Nat.le_of_eq (rowT_len _ _)
theorem p2_le {k : Nat} (hk : k < 4) : 1 ≤ 2 ^ k ∧ 2 ^ k ≤ 2 ^ 4 - 1 := by
  have : k = 0 ∨ k = 1 ∨ k = 2 ∨ k = 3 := by omega
  rcases this with rfl | rfl | rfl | rfl <;> decide
theorem sh_ok (a b c : Nat) (ha : 1 ≤ a ∧ a ≤ 2 ^ 4 - 1) (hb : 1 ≤ b ∧ b ≤ 2 ^ 4 - 1) (hc : c ≤ 2 ^ 4 - 1) : f_shared [I 4, I a, I b, I c] = some (oI (shR a b c), [I 4, I a, I b, I c]) := shared_ok 4 a b c (by decide) (by decide) ha.1 ha.2 hb.1 hb.2 hc
/-- value(shared(4, x, y, z), table) -/
theorem vsh {env : En} {ex ey ez et : En → Option M} {a b c : Nat} {many : Nat} {rows : List (List Nat)} (h : okH many rows) (hr : rows.length ≤ 4) (ha : 1 ≤ a ∧ a ≤ 2 ^ 4 - 1) (hb : 1 ≤ b ∧ b ≤ 2 ^ 4 - 1) (hc : c ≤ 2 ^ 4 - 1) (h1 : ex env = some (I a)) (h2 : ey env = some (I b)) (h3 : ez env = some (I c)) (h4 : et env = some (.fz (lI (tabR 4 rows))) ∨ et env = some (oI (tabR 4 rows))) :
    opr (callP [false, false] f_value) (aCons (opr (callP [false, false, false, false] f_shared) (aCons (cst (.int 4)) (aCons ex (aCons ey (aCons ez aNil))))) (aCons et aNil)) env = some (I (dot (shR a b c) (tabR 4 rows))) := by
  have q : opr (callP [false, false, false, false] f_shared) (aCons (cst (.int 4)) (aCons ex (aCons ey (aCons ez aNil)))) env = some (oI (shR a b c)) := opr_of (acons_of e_cst (acons_of h1 (acons_of h2 (acons_of h3 e_anil)))) (callP_of rfl rfl (sh_ok a b c ha hb hc))
  have v := val_ok many rows h hr (shR a b c) (shR_small a b c) (shR_len a b c)
  rcases h4 with h4 | h4
  · exact opr_of (acons_of q (acons_of h4 e_anil)) (callP_of (slotsL_co (slotsL_cf slotsL_n)) (shutZ_z (shutZ_f shutZ_n)) v)
  · exact opr_of (acons_of q (acons_of h4 e_anil)) (callP_of (slotsL_co (slotsL_co slotsL_n)) (shutZ_z (shutZ_z shutZ_n)) v)
theorem shl_k {env : En} {f : En → Option M} {k : Nat} (hk : k < 4) (h : f env = some (I k)) : T2.bin (sop iShl) (cst (.int 1)) f env = some (I (2 ^ k : Nat)) := by
  have := bin_of (o := sop iShl) (f := cst (.int 1)) (env := env) e_cst h (k_shl (by omega) (by omega) (by decide))
  rw [this]
  simp
abbrev numD (rows : List (List Nat)) (W : List Nat) (c d : Nat) : D := .tup [.int (W.length : Nat), .int (byG rows W c : Nat), .int (byG rows W d : Nat), .int (dot (shR c d 0) (tabR 4 rows))]
abbrev wM (W : List Nat) : M := .ol (W.map fun w => oI (bitsL w))
theorem wM_dat (W : List Nat) : dat0 (wM W) = some (wD W) := by (first | wtm_at "dat0" | fail)
theorem wM_slots (W : List Nat) : slotsL [wM W] = [] := by (first | wtm_at "g" | fail)
theorem wM_stow (env : En) (W : List Nat) : stow 9 env (wM W) = some (wM W, env) :=
  stow_ol (slotsL_map W fun w _ => slotsL_co slotsL_n) (shutL_map W fun w _ => shut_s)
theorem four_shown_ok (many : Nat) (rows : List (List Nat)) (h : okH many rows) (hr : rows.length = 4) (i j k l : Nat) (hi : i < 4) (hj : j < 4) (hk : k < 4) (hl : l < 4) :
    f_four_shown [.fz (heapD many rows), I i, I j, I k, I l] = some (.ot [wM (cvL rows (2 ^ i) (2 ^ j)), .fz (numD rows (cvL rows (2 ^ i) (2 ^ j)) (2 ^ k) (2 ^ l))], [.fz (heapD many rows), I i, I j, I k, I l]) := by
  have hcm := common_ok many rows h (by omega) (2 ^ i) (2 ^ j)
  have hlt := cvL_lt h (2 ^ i) (2 ^ j)
  have hlen := cvL_len h (by omega) (2 ^ i) (2 ^ j)
  have h41 : ∀ w ∈ cvL rows (2 ^ i) (2 ^ j), w < 2 ^ 41 := fun w hw => Nat.lt_of_lt_of_le (hlt w hw) (Nat.pow_le_pow_right (by decide) (by have := h.1; omega))
  have hct := coin_table_ok 4 many rows h hr (by decide)
  have gk := greater_ok many rows h (by omega) k (by omega) (cvL rows (2 ^ i) (2 ^ j)) h41 hlen
  have gl := greater_ok many rows h (by omega) l (by omega) (cvL rows (2 ^ i) (2 ^ j)) h41 hlen
  obtain ⟨W, hW⟩ : ∃ W, cvL rows (2 ^ i) (2 ^ j) = W := ⟨_, rfl⟩
  rw [show commonM rows (2 ^ i) (2 ^ j) = wM W by rw [← hW]] at hcm
  rw [hW] at hlen h41 gk gl ⊢
  obtain ⟨E, hE⟩ : ∃ E : Option M → Option M → En, E = fun v b => [some (.fz (heapD many rows)), some (I i), some (I j), some (I k), some (I l), v, b] := ⟨_, rfl⟩
  have s1 : sAsg lk_four_shown 5 9 (lif (opr (callP [false, false, false] f_common_views) (aCons (nam 0) (aCons (T2.bin (sop iShl) (cst (.int 1)) (nam 1)) (aCons (T2.bin (sop iShl) (cst (.int 1)) (nam 2)) aNil))))) (E none none) = some (.nx (E (some (wM W)) none)) := by
    rw [hE]
    exact x_asg rfl (lif_of (opr_of (acons_of (nam_fz rfl) (acons_of (shl_k hi (nam_fz rfl)) (acons_of (shl_k hj (nam_fz rfl)) e_anil))) (callP_of rfl rfl hcm))) (wM_stow _ W) rfl rfl rfl
  have tb : opr (callP [false] f_coin_table) (aCons (nam 0) aNil) (E (some (wM W)) none) = some (oI (tabR 4 rows)) := by
    rw [hE]
    exact opr_of (acons_of (nam_fz rfl) e_anil) (callP_of rfl rfl hct)
  have s2 : sAsg lk_four_shown 6 0 (lif (opr (callP [false, false] f_value) (aCons (opr (callP [false, false, false, false] f_shared) (aCons (cst (.int 4)) (aCons (T2.bin (sop iShl) (cst (.int 1)) (nam 3)) (aCons (T2.bin (sop iShl) (cst (.int 1)) (nam 4)) (aCons (cst (.int 0)) aNil))))) (aCons (opr (callP [false] f_coin_table) (aCons (nam 0) aNil)) aNil)))) (E (some (wM W)) none) = some (.nx (E (some (wM W)) (some (I (dot (shR (2 ^ k) (2 ^ l) 0) (tabR 4 rows)))))) := by
    have v := vsh (env := E (some (wM W)) none) (ex := T2.bin (sop iShl) (cst (.int 1)) (nam 3)) (ey := T2.bin (sop iShl) (cst (.int 1)) (nam 4)) (ez := cst (.int 0)) (c := 0) h (by omega) (p2_le hk) (p2_le hl) (by decide) (by rw [hE]; exact shl_k hk (nam_fz rfl)) (by rw [hE]; exact shl_k hl (nam_fz rfl)) e_cst (.inr tb)
    rw [hE] at v ⊢
    exact x_asg rfl (lif_of v) stow_f rfl rfl rfl
  obtain ⟨z, hz⟩ : ∃ z, dot (shR (2 ^ k) (2 ^ l) 0) (tabR 4 rows) = z := ⟨_, rfl⟩
  rw [hz] at s2
  have n5 : nam 5 (E (some (wM W)) (some (I z))) = some (.bp 5 []) := by rw [hE]; rfl
  have d5 : dats (E (some (wM W)) (some (I z))) [.bp 5 []] = some [wD W] := by
    rw [hE]
    exact dats_m rfl (wM_dat W) dats_n
  have gg : ∀ {q x : Nat}, f_greater_by [.fz (heapD many rows), I q, .fz (wD W)] = some (I (x : Nat), [.fz (heapD many rows), I q, .fz (wD W)]) → ∀ {m : Nat}, nam m (E (some (wM W)) (some (I z))) = some (I q) → opr (callP [false, false, false] f_greater_by) (aCons (nam 0) (aCons (nam m) (aCons (nam 5) aNil))) (E (some (wM W)) (some (I z))) = some (I (x : Nat)) := by
    intro q x hg m hm
    have n0 : nam 0 (E (some (wM W)) (some (I z))) = some (.fz (heapD many rows)) := by rw [hE]; exact nam_fz rfl
    refine opr_of (acons_of n0 (acons_of hm (acons_of n5 e_anil))) (callB_of (ds := [heapD many rows, .int _, wD W]) rfl (dats_f (dats_f d5)) hg rfl)
  have g1 := gg gk (m := 3) (by rw [hE]; exact nam_fz rfl)
  have g2 := gg gl (m := 4) (by rw [hE]; exact nam_fz rfl)
  have ln : opr (sop gLen) (aCons (nam 5) aNil) (E (some (wM W)) (some (I z))) = some (I (W.length : Nat)) := by
    have := len_b (f := nam 5) (ds := W.map bitD) n5 d5
    rw [this, List.length_map]
  have n6 : nam 6 (E (some (wM W)) (some (I z))) = some (I z) := by rw [hE]; exact nam_fz rfl
  have ret : opr oTup (aCons (nam 5) (aCons (opr oTup (aCons (opr (sop gLen) (aCons (nam 5) aNil)) (aCons (opr (callP [false, false, false] f_greater_by) (aCons (nam 0) (aCons (nam 3) (aCons (nam 5) aNil)))) (aCons (opr (callP [false, false, false] f_greater_by) (aCons (nam 0) (aCons (nam 4) (aCons (nam 5) aNil)))) (aCons (nam 6) aNil))))) aNil)) (E (some (wM W)) (some (I z))) = some (.ot [.bp 5 [], .fz (.tup [.int (W.length : Nat), .int (byG rows W (2 ^ k) : Nat), .int (byG rows W (2 ^ l) : Nat), .int z])]) :=
    opr_of (acons_of n5 (acons_of (opr_of (acons_of ln (acons_of g1 (acons_of g2 (acons_of n6 e_anil)))) k_tup4) e_anil)) rfl
  subst hz
  refine run_rt rfl rfl (he := (show _ = E none none by rw [hE]; rfl)) (seq_of s1 (seq_of s2 (x_retO (lif_of ret) (movL_b (n := wM W) (by rw [hE]; rfl) rfl rfl (movL_f movL_n))))) ?_
  rw [hE]
  rfl
theorem sum_bits {env : En} {i j m : Nat} {e1 : Int → En} (h : env.get i = some (.fz (bitD m))) (hm : m < 2 ^ 41) (hT : ∀ x ∈ bitsL m, asT (lkOf [j]) (.nm j) (.int x) (env.wipe [j]) = some (e1 x)) (hg : ∀ x ∈ bitsL m, (e1 x).get j = some (I x)) :
    opr (sop gSum) (aCons (lcF [j] (.nm j) (itP true (nam i)) cYes (T2.bin (sop iShl) (cst (.int 1)) (nam j))) aNil) env = some (I (m : Int)) := by
  have hl := bitsL_le m
  have lc : lcF [j] (.nm j) (itP true (nam i)) cYes (T2.bin (sop iShl) (cst (.int 1)) (nam j)) env = some (oI ((bitsL m).map fun x => (1 : Int) * 2 ^ x.toNat)) := by
    refine x_lcG (F := D.int) (xs := bitsL m) (w := fun x => I (1 * 2 ^ x.toNat)) (e1 := e1) (items_lst (nam_fz h) items_f) hT (fun x hx => ?_) (fun _ _ => rfl) (by simp only [sizeLine]; omega) ?_
    · have := bitsL_small m x hx
      exact bin_of e_cst (nam_fz (hg x hx)) (k_shl (by omega) (by omega) (by decide))
    · unfold oI oD
      rw [List.map_map, List.map_map]
      rfl
  exact (x_sumI lc (dats_o dats_n)).trans (by rw [bitsL_sum m hm])
def mks (rows : List (List Nat)) (L : List Nat) : List Nat := (L.map fun k => rows.getD k default).flatten
abbrev nL (L : List Nat) : List Int := L.map fun k : Nat => (k : Int)
abbrev mk6 (h n f a v c : Option M) : En := [h, n, f, a, v, c]
theorem masks_lp {many : Nat} {rows : List (List Nat)} (h : okH many rows) (A : Option M) : ∀ (L : List Nat) (acc : List Nat) (x : Option M), (∀ k ∈ L, k < rows.length) → acc.length + 12 * L.length ≤ 1000 →
    ∃ x', lpF lk__law_masks (.nm 3) B__law_masks_0 (L.map fun k : Nat => D.int k) (mk6 (some (.fz (heapD many rows))) A (some (oI (cI acc))) x none none) = some (.nx (mk6 (some (.fz (heapD many rows))) A (some (oI (cI (acc ++ mks rows L)))) x' none none))
  | [], acc, x, _, _ => ⟨x, by
    rw [show mks rows [] = [] from rfl, List.append_nil]
    exact lp_nil⟩
  | k :: L, acc, x, hk, hl => by
    have hkr := hk k (List.mem_cons_self ..)
    rw [List.length_cons] at hl
    obtain ⟨r, hr⟩ : ∃ r, rows.getD k default = r := ⟨_, rfl⟩
    have hmem : r ∈ rows := by
      rw [← hr, List.getD_eq_getElem?_getD, List.getElem?_eq_getElem hkr]
      exact List.getElem_mem hkr
    have hr12 := (h.2 r hmem).1
    obtain ⟨x', ih⟩ := masks_lp h A L (acc ++ r) (some (I k)) (fun q hq => hk q (List.mem_cons_of_mem _ hq)) (by rw [List.length_append]; omega)
    have hx : T2.bin oIdx (T2.bin oIdx (nam 0) (cst (.int 1))) (nam 3) (mk6 (some (.fz (heapD many rows))) A (some (oI (cI acc))) (some (I k)) none none) = some (.fz (rowD r)) := by
      refine bin_of (bin_of (nam_fz rfl) e_cst k_idxT1) (nam_fz rfl) ?_
      rw [x_idxM (F := rowD) (xs := rows) (by omega) (by omega), Int.toNat_natCast, hr]
    have lc : lcF [4] (.nm 4) (itP true (T2.bin oIdx (T2.bin oIdx (nam 0) (cst (.int 1))) (nam 3))) cYes (opr (sop gSum) (aCons (lcF [5] (.nm 5) (itP true (nam 4)) cYes (T2.bin (sop iShl) (cst (.int 1)) (nam 5))) aNil)) (mk6 (some (.fz (heapD many rows))) A (some (oI (cI acc))) (some (I k)) none none) = some (oI (cI r)) := by
      refine x_lcG (F := bitD) (xs := r) (w := fun m : Nat => I (m : Int)) (e1 := fun m => mk6 (some (.fz (heapD many rows))) A (some (oI (cI acc))) (some (I k)) (some (.fz (bitD m))) none) (items_lst hx items_f) (fun _ _ => rfl) (fun m hm => ?_) (fun _ _ => rfl) (by simp only [sizeLine]; omega) ?_
      · exact sum_bits (e1 := fun c => mk6 (some (.fz (heapD many rows))) A (some (oI (cI acc))) (some (I k)) (some (.fz (bitD m))) (some (I c))) rfl (okH_lt h hmem hm) (fun _ _ => rfl) (fun _ _ => rfl)
      · unfold oI oD
        rw [List.map_map, show cI r = r.map fun m : Nat => (m : Int) from rfl, List.map_map]
        rfl
    have ca : cI acc ++ cI r = cI (acc ++ r) := by simp [cI]
    have b : B__law_masks_0 (mk6 (some (.fz (heapD many rows))) A (some (oI (cI acc))) (some (I k)) none none) = some (.nx (mk6 (some (.fz (heapD many rows))) A (some (oI (cI (acc ++ r)))) (some (I k)) none none)) := by
      rw [← ca]
      exact x_asg rfl (lif_of (bin_of (nam_oD (ds := (cI acc).map .int) rfl) lc (x_catBO rfl (by simp [cI, sizeLine]; omega)))) (stow_s (k := 8) _) rfl rfl rfl
    refine ⟨x', lp_cons rfl b ?_⟩
    rw [show mks rows (k :: L) = r ++ mks rows L by unfold mks; rw [List.map_cons, List.flatten_cons, hr], ← List.append_assoc]
    exact ih
theorem law_masks_ok {many : Nat} {rows : List (List Nat)} (h : okH many rows) {L : List Nat} (hk : ∀ k ∈ L, k < rows.length) (hl : L.length ≤ 10) : f__law_masks [.fz (heapD many rows), .fz (lI (nL L))] = some (oI (cI (mks rows L)), [.fz (heapD many rows), .fz (lI (nL L))]) := by
  obtain ⟨x', lp⟩ := masks_lp h (some (.fz (lI (nL L)))) L [] none hk (by simp; omega)
  rw [List.nil_append] at lp
  have it : itX true (lif (nam 1)) (mk6 (some (.fz (heapD many rows))) (some (.fz (lI (nL L)))) (some (oI (cI []))) none none none) = some (L.map fun k : Nat => D.int k, mk6 (some (.fz (heapD many rows))) (some (.fz (lI (nL L)))) (some (oI (cI []))) none none none) :=
    itX_of (lif_of (nam_fz (d := lI (nL L)) rfl)) rfl rfl (by
      show some ((L.map fun k : Nat => (k : Int)).map D.int) = _
      rw [List.map_map]
      rfl)
  have rt : sRet lk__law_masks (lif (nam 2)) (mk6 (some (.fz (heapD many rows))) (some (.fz (lI (nL L)))) (some (oI (cI (mks rows L)))) x' none none) = some (.rt (oI (cI (mks rows L))) (mk6 (some (.fz (heapD many rows))) (some (.fz (lI (nL L)))) none x' none none)) := by
    rw [e_ret, nam_oD (ds := (cI (mks rows L)).map .int) rfl]
    exact retM_bp rfl rfl
  exact run_rt rfl rfl rfl (seq_of (x_asg rfl (lif_of (opr_of e_anil k_lstI0)) (stow_s (k := 8) []) rfl rfl rfl) (seq_of (for_of it lp) rt)) rfl
theorem rk_same {S T : List Nat} (h1 : ∀ x ∈ S, inS T x) (h2 : ∀ x ∈ T, inS S x) : rk S = rk T := Nat.le_antisymm (rk_mono h1) (rk_mono h2)
theorem rk_absorb {A W : List Nat} (h : ∀ w ∈ W, inS A w) : rk (A ++ W) = rk A := rk_same (fun x hx => by
  rcases List.mem_append.mp hx with hx | hx
  · exact inS_mem hx
  · exact h x hx) fun x hx => inS_mem (List.mem_append_left _ hx)
theorem mks_1 (rows : List (List Nat)) (i : Nat) : mks rows [i] = rows.getD i default := by simp [mks]
theorem mk_one {rows : List (List Nat)} (hr : rows.length = 4) {i : Nat} (hi : i < 4) : masksK rows (2 ^ i) rows.length = rows.getD i default := by
  rw [hr]
  have e : (List.range 4).filter (fun k => 2 ^ i / 2 ^ k % 2 == 1) = [i] := by
    have : i = 0 ∨ i = 1 ∨ i = 2 ∨ i = 3 := by omega
    rcases this with rfl | rfl | rfl | rfl <;> decide
  unfold masksK
  rw [e]
  simp
theorem mk_two {rows : List (List Nat)} (hr : rows.length = 4) {k l : Nat} (hk : k < 4) (hl : l < 4) : rk (masksK rows (2 ^ k ||| 2 ^ l) rows.length) = rk (rows.getD k default ++ rows.getD l default) := by
  refine rk_same (fun x hx => ?_) fun x hx => ?_
  · obtain ⟨j, _, hb, hm⟩ := mem_masks.mp hx
    rw [Nat.testBit_or, Nat.testBit_two_pow, Nat.testBit_two_pow, Bool.or_eq_true, decide_eq_true_eq, decide_eq_true_eq] at hb
    rcases hb with rfl | rfl
    · exact inS_mem (List.mem_append_left _ hm)
    · exact inS_mem (List.mem_append_right _ hm)
  · rcases List.mem_append.mp hx with hm | hm
    · exact inS_mem (mem_masks.mpr ⟨k, by omega, by rw [Nat.testBit_or, Nat.testBit_two_pow]; simp, hm⟩)
    · exact inS_mem (mem_masks.mpr ⟨l, by omega, by rw [Nat.testBit_or, Nat.testBit_two_pow, Nat.testBit_two_pow]; simp, hm⟩)
theorem bits_pw (m : Nat) : (bitsL m).Pairwise (· < ·) := by
  rw [bitsL_eq]
  refine List.Pairwise.map _ (fun a b h => ?_) (List.Pairwise.filter _ List.pairwise_lt_range)
  exact_mod_cast h
theorem bits_lt {m many : Nat} (h : m < 2 ^ many) : ∀ x ∈ bitsL m, x < (many : Int) := fun x hx => by
  rw [bitsL_eq] at hx
  obtain ⟨k, hk, rfl⟩ := List.mem_map.mp hx
  have hb := (List.mem_filter.mp hk).2
  rcases Nat.lt_or_ge k many with h' | h'
  · exact_mod_cast h'
  · have : m < 2 ^ k := Nat.lt_of_lt_of_le h (Nat.pow_le_pow_right (by decide) h')
    rw [Nat.div_eq_of_lt this] at hb
    cases hb
abbrev v9 (a b c d e f g h i : Option M) : En := [a, b, c, d, e, f, g, h, i]
theorem coin_lp {many : Nat} {rows : List (List Nat)} {A O d : Option M} : ∀ (L : List Int) (x : Option M), (∀ c ∈ L, 0 ≤ c ∧ c < (many : Int)) →
    ∃ x', lpF lk__law_views (.nm 4) B__law_views_0 (L.map D.int) (v9 A (some (.fz (heapD many rows))) O d x none none none none) = some (.nx (v9 A (some (.fz (heapD many rows))) O d x' none none none none))
  | [], x, _ => ⟨x, lp_nil⟩
  | c :: L, x, h => by
    obtain ⟨c0, c1⟩ := h c (List.mem_cons_self ..)
    obtain ⟨x', ih⟩ := coin_lp L (some (I c)) fun q hq => h q (List.mem_cons_of_mem _ hq)
    have t : dOr (tst (oIsi (kitT "bool") (nam 4))) (dOr (dNot (tst (oIsi (kitT "int") (nam 4)))) (dOr (tst (T2.bin (sop iLt) (nam 4) (cst (.int 0)))) (tst (T2.bin (sop iGe) (nam 4) (T2.bin oIdx (nam 1) (cst (.int 0))))))) (v9 A (some (.fz (heapD many rows))) O d (some (I c)) none none none none) = some false :=
      x_or (c := false) (c' := false) (tst_of (isi_nbool (nam_fz rfl))) (x_or (c := false) (c' := false) (not_of (b := true) (tst_of (isi_int (nam_fz rfl))))
        (x_or (c := false) (c' := false) ((tst_of (bin_of (nam_fz rfl) e_cst k_lt)).trans (by rw [decide_eq_false (by omega)])) ((tst_of (bin_of (nam_fz rfl) (bin_of (nam_fz rfl) e_cst k_idxT0) k_ge)).trans (by rw [decide_eq_false (by omega)]))))
    exact ⟨x', lp_cons rfl (if_f t e_nil) ih⟩
theorem view_lp {many : Nat} {rows : List (List Nat)} {A O : Option M} : ∀ (W : List Nat) (d x : Option M), (∀ w ∈ W, w < 2 ^ many) →
    ∃ d' x', lpF lk__law_views (.nm 3) B__law_views_1 (W.map bitD) (v9 A (some (.fz (heapD many rows))) O d x none none none none) = some (.nx (v9 A (some (.fz (heapD many rows))) O d' x' none none none none))
  | [], d, x, _ => ⟨d, x, lp_nil⟩
  | w :: W, d, x, h => by
    have hw := h w (List.mem_cons_self ..)
    have hle := bitsL_le w
    obtain ⟨x1, lc⟩ := coin_lp (many := many) (rows := rows) (A := A) (O := O) (d := some (.fz (bitD w))) (bitsL w) x fun c hc => ⟨(bitsL_small w c hc).1, bits_lt hw c hc⟩
    obtain ⟨d', x', ih⟩ := view_lp W (some (.fz (bitD w))) x1 fun q hq => h q (List.mem_cons_of_mem _ hq)
    have s : opr oSS (aCons (nam 3) aNil) (v9 A (some (.fz (heapD many rows))) O (some (.fz (bitD w))) x none none none none) = some (oI (bitsL w)) := opr_of (acons_of (nam_fz rfl) e_anil) (k_SS rfl (by omega) (bits_pw w))
    have t : dOr (dNot (tst (oIsi (kitT "list") (nam 3)))) (tst (T2.bin (sop (gEq true)) (nam 3) (opr oSS (aCons (nam 3) aNil)))) (v9 A (some (.fz (heapD many rows))) O (some (.fz (bitD w))) x none none none none) = some false :=
      x_or (c := false) (c' := false) (not_of (b := true) (tst_of (x_isi (nam_fz rfl) (dats_f dats_n) rfl rfl))) (tst_of (bin_of (nam_fz rfl) s (k_eqST (d := bitD w) (dats_f (dats_o dats_n)) gd_lI)))
    have b : B__law_views_1 (v9 A (some (.fz (heapD many rows))) O (some (.fz (bitD w))) x none none none none) = some (.nx (v9 A (some (.fz (heapD many rows))) O (some (.fz (bitD w))) x1 none none none none)) :=
      seq_of (if_f t e_nil) (for_of (itX_of (lif_of (nam_fz (d := bitD w) rfl)) rfl rfl rfl) lc)
    exact ⟨d', x', lp_cons rfl b ih⟩
abbrev orD (i j k l : Nat) : D := lI (nL [i, j, k, l])
theorem row_mem {rows : List (List Nat)} {i : Nat} (hi : i < rows.length) : rows.getD i default ∈ rows := by
  rw [List.getD_eq_getElem?_getD, List.getElem?_eq_getElem hi]
  exact List.getElem_mem hi
theorem cat_c {env : En} {f g : En → Option M} {A B : List Nat} (hf : f env = some (.fz (lI (cI A)))) (hg : g env = some (.fz (lI (cI B)))) (hl : A.length + B.length ≤ 1000) : T2.bin oAdd f g env = some (oI (cI (A ++ B))) := by
  have e : cI A ++ cI B = cI (A ++ B) := by simp [cI]
  rw [← e]
  exact bin_of hf hg (x_catFF (by simp [cI, sizeLine]; omega))
theorem rk_o {env : En} {f : En → Option M} {A : List Nat} (hf : f env = some (oI (cI A))) (hl : A.length ≤ 1000) : opr (callP [false] f__law_rank) (aCons f aNil) env = some (I (rk A : Nat)) :=
  opr_of (acons_of hf e_anil) (callP_of (slotsL_co slotsL_n) (shutZ_d dat0_o shutZ_n) (rank_ok A hl))
theorem rk_f {env : En} {f : En → Option M} {A : List Nat} (hf : f env = some (.fz (lI (cI A)))) (hl : A.length ≤ 1000) : opr (callP [false] f__law_rank) (aCons f aNil) env = some (I (rk A : Nat)) :=
  opr_of (acons_of hf e_anil) (callP_of rfl rfl (rank_ok A hl))
theorem masks_c {env : En} {f g : En → Option M} {many : Nat} {rows : List (List Nat)} (h : okH many rows) {i : Nat} (hi : i < rows.length) (hf : f env = some (.fz (heapD many rows))) (hg : g env = some (oI (nL [i]))) : opr (callP [false, false] f__law_masks) (aCons f (aCons g aNil)) env = some (oI (cI (rows.getD i default))) := by
  have := law_masks_ok h (L := [i]) (fun q hq => by rw [List.mem_singleton.mp hq]; exact hi) (by simp)
  rw [mks_1] at this
  exact opr_of (acons_of hf (acons_of hg e_anil)) (callP_of (slotsL_cf (slotsL_co slotsL_n)) (shutZ_f (shutZ_d dat0_o shutZ_n)) this)
section
variable {many : Nat} {rows : List (List Nat)} (h : okH many rows) (hr : rows.length = 4) {i j k l : Nat} (hi : i < 4) (hj : j < 4) (hk : k < 4) (hl : l < 4)
include h hr hi hj hk hl
theorem law_views_ok : f__law_views [.fz (wD (cvL rows (2 ^ i) (2 ^ j))), .fz (heapD many rows), .fz (orD i j k l)] = some (.fz (.bl true), [.fz (wD (cvL rows (2 ^ i) (2 ^ j))), .fz (heapD many rows), .fz (orD i j k l)]) := by
  have cv := cvL_ok rows (2 ^ i) (2 ^ j)
  have hlt := cvL_lt h (2 ^ i) (2 ^ j)
  have hlen := cvL_len h (by omega) (2 ^ i) (2 ^ j)
  rw [mk_one hr hi, mk_one hr hj] at cv
  obtain ⟨W, hW⟩ : ∃ W, cvL rows (2 ^ i) (2 ^ j) = W := ⟨_, rfl⟩
  have cA : ∀ w ∈ W, inS (rows.getD i default) w := fun w hw => cv.inA w (by
    have e : (cvP (rows.getD i default) (rows.getD j default)).2 = W := by
      rw [← hW]
      unfold cvL
      rw [mk_one hr hi, mk_one hr hj]
    rw [e]; exact hw)
  have eW : (cvP (rows.getD i default) (rows.getD j default)).2 = W := by
    rw [← hW]
    unfold cvL
    rw [mk_one hr hi, mk_one hr hj]
  have cB : ∀ w ∈ W, inS (rows.getD j default) w := fun w hw => cv.inB w (by rw [eW]; exact hw)
  have cI' := cv.ind
  have cN := cv.num
  rw [eW] at cI' cN
  rw [hW] at hlt hlen ⊢
  have a12 := (h.2 _ (row_mem (i := i) (by omega))).1
  have b12 := (h.2 _ (row_mem (i := j) (by omega))).1
  have mA : ∀ {E : En}, E.get 1 = some (.fz (heapD many rows)) → E.get 2 = some (.fz (orD i j k l)) → opr (callP [false, false] f__law_masks) (aCons (nam 1) (aCons (oSl (nam 2) none (some (cst (.int 1)))) aNil)) E = some (oI (cI (rows.getD i default))) := fun e1 e2 =>
    masks_c h (by omega) (nam_fz e1) ((x_sl (nam_fz e2) part_n (part_s e_cst) slM_f).trans rfl)
  have mB : ∀ {E : En}, E.get 1 = some (.fz (heapD many rows)) → E.get 2 = some (.fz (orD i j k l)) → opr (callP [false, false] f__law_masks) (aCons (nam 1) (aCons (oSl (nam 2) (some (cst (.int 1))) (some (cst (.int 2)))) aNil)) E = some (oI (cI (rows.getD j default))) := fun e1 e2 =>
    masks_c h (by omega) (nam_fz e1) ((x_sl (nam_fz e2) (part_s e_cst) (part_s e_cst) slM_f).trans rfl)
  obtain ⟨A, hA⟩ : ∃ A, rows.getD i default = A := ⟨_, rfl⟩
  obtain ⟨B, hB⟩ : ∃ B, rows.getD j default = B := ⟨_, rfl⟩
  rw [hA] at cA a12 mA cN
  rw [hB] at cB b12 mB cN
  obtain ⟨d', x', lp⟩ := view_lp (many := many) (rows := rows) (A := some (.fz (wD W))) (O := some (.fz (orD i j k l))) W none none hlt
  have t1 : dNot (tst (oIsi (kitT "list") (nam 0))) (v9 (some (.fz (wD W))) (some (.fz (heapD many rows))) (some (.fz (orD i j k l))) none none none none none none) = some false := not_of (b := true) (tst_of (x_isi (nam_fz rfl) (dats_f dats_n) rfl rfl))
  have l5 : lcF [3] (.nm 3) (itP true (nam 0)) cYes (opr (sop gSum) (aCons (lcF [4] (.nm 4) (itP true (nam 3)) cYes (T2.bin (sop iShl) (cst (.int 1)) (nam 4))) aNil)) (v9 (some (.fz (wD W))) (some (.fz (heapD many rows))) (some (.fz (orD i j k l))) d' x' none none none none) = some (oI (cI W)) := by
    refine x_lcG (F := bitD) (xs := W) (w := fun m : Nat => I (m : Int)) (e1 := fun m => v9 (some (.fz (wD W))) (some (.fz (heapD many rows))) (some (.fz (orD i j k l))) (some (.fz (bitD m))) x' none none none none) (items_lst (nam_fz rfl) items_f) (fun _ _ => rfl) (fun m hm => ?_) (fun _ _ => rfl) (by simp only [sizeLine]; omega) ?_
    · exact sum_bits (e1 := fun c => v9 (some (.fz (wD W))) (some (.fz (heapD many rows))) (some (.fz (orD i j k l))) (some (.fz (bitD m))) (some (I c)) none none none none) rfl (Nat.lt_of_lt_of_le (hlt m hm) (Nat.pow_le_pow_right (by decide) (by have := h.1; omega))) (fun _ _ => rfl) (fun _ _ => rfl)
    · unfold oI oD
      rw [List.map_map, show cI W = W.map fun m : Nat => (m : Int) from rfl, List.map_map]
      rfl
  have s5 : sAsg lk__law_views 5 0 (lif (lcF [3] (.nm 3) (itP true (nam 0)) cYes (opr (sop gSum) (aCons (lcF [4] (.nm 4) (itP true (nam 3)) cYes (T2.bin (sop iShl) (cst (.int 1)) (nam 4))) aNil)))) (v9 (some (.fz (wD W))) (some (.fz (heapD many rows))) (some (.fz (orD i j k l))) d' x' none none none none) = some (.nx (v9 (some (.fz (wD W))) (some (.fz (heapD many rows))) (some (.fz (orD i j k l))) d' x' (some (.fz (lI (cI W)))) none none none)) := x_asg rfl (lif_of l5) (stow_z _) rfl rfl rfl
  have s6 : sAsg lk__law_views 6 0 (lif (opr (callP [false, false] f__law_masks) (aCons (nam 1) (aCons (oSl (nam 2) none (some (cst (.int 1)))) aNil)))) (v9 (some (.fz (wD W))) (some (.fz (heapD many rows))) (some (.fz (orD i j k l))) d' x' (some (.fz (lI (cI W)))) none none none) = some (.nx (v9 (some (.fz (wD W))) (some (.fz (heapD many rows))) (some (.fz (orD i j k l))) d' x' (some (.fz (lI (cI W)))) (some (.fz (lI (cI A)))) none none)) := x_asg rfl (lif_of (mA rfl rfl)) (stow_z _) rfl rfl rfl
  have s7 : sAsg lk__law_views 7 0 (lif (opr (callP [false, false] f__law_masks) (aCons (nam 1) (aCons (oSl (nam 2) (some (cst (.int 1))) (some (cst (.int 2)))) aNil)))) (v9 (some (.fz (wD W))) (some (.fz (heapD many rows))) (some (.fz (orD i j k l))) d' x' (some (.fz (lI (cI W)))) (some (.fz (lI (cI A)))) none none) = some (.nx (v9 (some (.fz (wD W))) (some (.fz (heapD many rows))) (some (.fz (orD i j k l))) d' x' (some (.fz (lI (cI W)))) (some (.fz (lI (cI A)))) (some (.fz (lI (cI B)))) none)) := x_asg rfl (lif_of (mB rfl rfl)) (stow_z _) rfl rfl rfl
  obtain ⟨E, hE⟩ : ∃ E : Option M → En, E = fun z => v9 (some (.fz (wD W))) (some (.fz (heapD many rows))) (some (.fz (orD i j k l))) d' x' (some (.fz (lI (cI W)))) (some (.fz (lI (cI A)))) (some (.fz (lI (cI B)))) z := ⟨_, rfl⟩
  have n5 : ∀ z, nam 5 (E z) = some (.fz (lI (cI W))) := fun z => by rw [hE]; exact nam_fz rfl
  have n6 : ∀ z, nam 6 (E z) = some (.fz (lI (cI A))) := fun z => by rw [hE]; exact nam_fz rfl
  have n7 : ∀ z, nam 7 (E z) = some (.fz (lI (cI B))) := fun z => by rw [hE]; exact nam_fz rfl
  have t8 : dOr (tst (T2.bin (sop (gEq true)) (opr (callP [false] f__law_rank) (aCons (T2.bin oAdd (nam 6) (nam 5)) aNil)) (opr (callP [false] f__law_rank) (aCons (nam 6) aNil)))) (tst (T2.bin (sop (gEq true)) (opr (callP [false] f__law_rank) (aCons (T2.bin oAdd (nam 7) (nam 5)) aNil)) (opr (callP [false] f__law_rank) (aCons (nam 7) aNil)))) (E none) = some false := by
    refine x_or (c := false) (c' := false) ((tst_of (bin_of (rk_o (cat_c (n6 _) (n5 _) (by omega)) (by rw [List.length_append]; omega)) (rk_f (n6 _) (by omega)) k_eqT)).trans ?_) ((tst_of (bin_of (rk_o (cat_c (n7 _) (n5 _) (by omega)) (by rw [List.length_append]; omega)) (rk_f (n7 _) (by omega)) k_eqT)).trans ?_)
    · rw [rk_absorb cA]; simp
    · rw [rk_absorb cB]; simp
  have s9 : sAsg lk__law_views 8 0 (lif (T2.bin (sop iSub) (T2.bin oAdd (opr (callP [false] f__law_rank) (aCons (nam 6) aNil)) (opr (callP [false] f__law_rank) (aCons (nam 7) aNil))) (opr (callP [false] f__law_rank) (aCons (T2.bin oAdd (nam 6) (nam 7)) aNil)))) (E none) = some (.nx (E (some (I (W.length : Nat))))) := by
    have q := bin_of (bin_of (rk_f (n6 none) (by omega)) (rk_f (n7 none) (by omega)) k_add) (rk_o (cat_c (n6 none) (n7 none) (by omega)) (by rw [List.length_append]; omega)) k_sub
    rw [show ((rk A : Nat) : Int) + (rk B : Nat) - (rk (A ++ B) : Nat) = ((W.length : Nat) : Int) by omega] at q
    rw [hE] at q ⊢
    exact x_asg rfl (lif_of q) stow_f rfl rfl rfl
  have r10 : vAnd (T2.bin (sop (gEq false)) (opr (sop gLen) (aCons (nam 0) aNil)) (nam 8)) (T2.bin (sop (gEq false)) (opr (callP [false] f__law_rank) (aCons (nam 5) aNil)) (nam 8)) (E (some (I (W.length : Nat)))) = some (.fz (.bl true)) := by
    have n8 : nam 8 (E (some (I (W.length : Nat)))) = some (I (W.length : Nat)) := by rw [hE]; exact nam_fz rfl
    have a1 : opr (sop gLen) (aCons (nam 0) aNil) (E (some (I (W.length : Nat)))) = some (I (W.length : Nat)) := x_lenM (F := bitD) (xs := W) (by rw [hE]; exact nam_fz (d := wD W) rfl) (dats_f dats_n)
    have a2 := rk_f (n5 (some (I (W.length : Nat)))) (by omega)
    rw [cI'] at a2
    exact (x_vand (bin_of a1 n8 k_eqF) (bin_of a2 n8 k_eqF)).trans (by simp)
  have key : F__law_views (v9 (some (.fz (wD W))) (some (.fz (heapD many rows))) (some (.fz (orD i j k l))) none none none none none none) = some (.rt (.fz (.bl true)) (E (some (I (W.length : Nat))))) := by
    refine seq_of (if_f t1 e_nil) (seq_of (for_of (itX_of (lif_of (nam_fz (d := wD W) rfl)) rfl rfl rfl) lp) (seq_of s5 (seq_of s6 (seq_of s7 ?_))))
    rw [show v9 (some (.fz (wD W))) (some (.fz (heapD many rows))) (some (.fz (orD i j k l))) d' x' (some (.fz (lI (cI W)))) (some (.fz (lI (cI A)))) (some (.fz (lI (cI B)))) none = E none by rw [hE]]
    exact seq_of (if_f t8 e_nil) (seq_of s9 (ret_of r10))
  refine run_rt rfl rfl rfl key ?_
  rw [hE]
  rfl
end
section
variable {many : Nat} {rows : List (List Nat)} (h : okH many rows) (hr : rows.length = 4) {i j k l : Nat} (hk : k < 4) (hl : l < 4)
include h hr hk hl
theorem law_numbers_ok {W : List Nat} (hlt : ∀ w ∈ W, w < 2 ^ many) (hlen : W.length ≤ 12) : f__law_numbers [.fz (wD W), .fz (heapD many rows), .fz (orD i j k l)] = some (.fz (numD rows W (2 ^ k) (2 ^ l)), [.fz (wD W), .fz (heapD many rows), .fz (orD i j k l)]) := by
  have g1 : byG rows W (2 ^ k) = rk (rows.getD k default ++ W) - rk (rows.getD k default) := by
    unfold byG rkG
    rw [mk_one hr hk]
  have g2 : byG rows W (2 ^ l) = rk (rows.getD l default ++ W) - rk (rows.getD l default) := by
    unfold byG rkG
    rw [mk_one hr hl]
  have p2 : ∀ {q : Nat}, q < 4 → 2 ^ q ≤ 15 := fun hq => (p2_le hq).2
  have g3 : dot (shR (2 ^ k) (2 ^ l) 0) (tabR 4 rows) = ((rk (rows.getD k default) : Nat) : Int) + (rk (rows.getD l default) : Nat) - (rk (rows.getD k default ++ rows.getD l default) : Nat) := by
    rw [sh_val rows _ _ _ (p2 hk) (p2 hl) (by decide), Nat.or_zero, Nat.or_zero, Nat.or_zero, rkG_0]
    unfold rkG
    rw [mk_two hr hk hl, mk_one hr hk, mk_one hr hl]
    omega
  have a12 := (h.2 _ (row_mem (i := k) (by omega))).1
  have b12 := (h.2 _ (row_mem (i := l) (by omega))).1
  have mA : ∀ {E : En}, E.get 1 = some (.fz (heapD many rows)) → E.get 2 = some (.fz (orD i j k l)) → opr (callP [false, false] f__law_masks) (aCons (nam 1) (aCons (oSl (nam 2) (some (cst (.int 2))) (some (cst (.int 3)))) aNil)) E = some (oI (cI (rows.getD k default))) := fun e1 e2 =>
    masks_c h (by omega) (nam_fz e1) ((x_sl (nam_fz e2) (part_s e_cst) (part_s e_cst) slM_f).trans rfl)
  have mB : ∀ {E : En}, E.get 1 = some (.fz (heapD many rows)) → E.get 2 = some (.fz (orD i j k l)) → opr (callP [false, false] f__law_masks) (aCons (nam 1) (aCons (oSl (nam 2) (some (cst (.int 3))) none) aNil)) E = some (oI (cI (rows.getD l default))) := fun e1 e2 =>
    masks_c h (by omega) (nam_fz e1) ((x_sl (nam_fz e2) (part_s e_cst) part_n slM_f).trans rfl)
  obtain ⟨A, hA⟩ : ∃ A, rows.getD k default = A := ⟨_, rfl⟩
  obtain ⟨B, hB⟩ : ∃ B, rows.getD l default = B := ⟨_, rfl⟩
  rw [hA] at a12 mA g1 g3
  rw [hB] at b12 mB g2 g3
  have l5 : lcF [7] (.nm 7) (itP true (nam 0)) cYes (opr (sop gSum) (aCons (lcF [8] (.nm 8) (itP true (nam 7)) cYes (T2.bin (sop iShl) (cst (.int 1)) (nam 8))) aNil)) (v9 (some (.fz (wD W))) (some (.fz (heapD many rows))) (some (.fz (orD i j k l))) none none none none none none) = some (oI (cI W)) := by
    refine x_lcG (F := bitD) (xs := W) (w := fun m : Nat => I (m : Int)) (e1 := fun m => v9 (some (.fz (wD W))) (some (.fz (heapD many rows))) (some (.fz (orD i j k l))) none none none none (some (.fz (bitD m))) none) (items_lst (nam_fz rfl) items_f) (fun _ _ => rfl) (fun m hm => ?_) (fun _ _ => rfl) (by simp only [sizeLine]; omega) ?_
    · exact sum_bits (e1 := fun c => v9 (some (.fz (wD W))) (some (.fz (heapD many rows))) (some (.fz (orD i j k l))) none none none none (some (.fz (bitD m))) (some (I c))) rfl (Nat.lt_of_lt_of_le (hlt m hm) (Nat.pow_le_pow_right (by decide) (by have := h.1; omega))) (fun _ _ => rfl) (fun _ _ => rfl)
    · unfold oI oD
      rw [List.map_map, show cI W = W.map fun m : Nat => (m : Int) from rfl, List.map_map]
      rfl
  have s3 : sAsg lk__law_numbers 3 0 (lif (lcF [7] (.nm 7) (itP true (nam 0)) cYes (opr (sop gSum) (aCons (lcF [8] (.nm 8) (itP true (nam 7)) cYes (T2.bin (sop iShl) (cst (.int 1)) (nam 8))) aNil)))) (v9 (some (.fz (wD W))) (some (.fz (heapD many rows))) (some (.fz (orD i j k l))) none none none none none none) = some (.nx (v9 (some (.fz (wD W))) (some (.fz (heapD many rows))) (some (.fz (orD i j k l))) (some (.fz (lI (cI W)))) none none none none none)) := x_asg rfl (lif_of l5) (stow_z _) rfl rfl rfl
  have s4 : sAsg lk__law_numbers 4 0 (lif (opr (callP [false, false] f__law_masks) (aCons (nam 1) (aCons (oSl (nam 2) (some (cst (.int 2))) (some (cst (.int 3)))) aNil)))) (v9 (some (.fz (wD W))) (some (.fz (heapD many rows))) (some (.fz (orD i j k l))) (some (.fz (lI (cI W)))) none none none none none) = some (.nx (v9 (some (.fz (wD W))) (some (.fz (heapD many rows))) (some (.fz (orD i j k l))) (some (.fz (lI (cI W)))) (some (.fz (lI (cI A)))) none none none none)) := x_asg rfl (lif_of (mA rfl rfl)) (stow_z _) rfl rfl rfl
  have s5 : sAsg lk__law_numbers 5 0 (lif (opr (callP [false, false] f__law_masks) (aCons (nam 1) (aCons (oSl (nam 2) (some (cst (.int 3))) none) aNil)))) (v9 (some (.fz (wD W))) (some (.fz (heapD many rows))) (some (.fz (orD i j k l))) (some (.fz (lI (cI W)))) (some (.fz (lI (cI A)))) none none none none) = some (.nx (v9 (some (.fz (wD W))) (some (.fz (heapD many rows))) (some (.fz (orD i j k l))) (some (.fz (lI (cI W)))) (some (.fz (lI (cI A)))) (some (.fz (lI (cI B)))) none none none)) := x_asg rfl (lif_of (mB rfl rfl)) (stow_z _) rfl rfl rfl
  obtain ⟨E, hE⟩ : ∃ E : Option M → En, E = fun z => v9 (some (.fz (wD W))) (some (.fz (heapD many rows))) (some (.fz (orD i j k l))) (some (.fz (lI (cI W)))) (some (.fz (lI (cI A)))) (some (.fz (lI (cI B)))) z none none := ⟨_, rfl⟩
  have n3 : ∀ z, nam 3 (E z) = some (.fz (lI (cI W))) := fun z => by rw [hE]; exact nam_fz rfl
  have n4 : ∀ z, nam 4 (E z) = some (.fz (lI (cI A))) := fun z => by rw [hE]; exact nam_fz rfl
  have n5 : ∀ z, nam 5 (E z) = some (.fz (lI (cI B))) := fun z => by rw [hE]; exact nam_fz rfl
  have ln : opr (sop gLen) (aCons (nam 3) aNil) (E none) = some (I (W.length : Nat)) := (x_lenI (L := cI W) (n3 none) (dats_f dats_n)).trans (by simp [cI])
  have df : ∀ {f : En → Option M} {A : List Nat}, f (E none) = some (.fz (lI (cI A))) → A.length ≤ 12 → T2.bin (sop iSub) (opr (callP [false] f__law_rank) (aCons (T2.bin oAdd f (nam 3)) aNil)) (opr (callP [false] f__law_rank) (aCons f aNil)) (E none) = some (I ((rk (A ++ W) - rk A : Nat) : Int)) := by
    intro f A hf hA
    have le := rk_app_le A W
    exact (bin_of (rk_o (cat_c hf (n3 none) (by omega)) (by rw [List.length_append]; omega)) (rk_f hf (by omega)) k_sub).trans (by congr 3; omega)
  have s6 : sAsg lk__law_numbers 6 0 (lif (opr oLst (aCons (opr (sop gLen) (aCons (nam 3) aNil)) (aCons (T2.bin (sop iSub) (opr (callP [false] f__law_rank) (aCons (T2.bin oAdd (nam 4) (nam 3)) aNil)) (opr (callP [false] f__law_rank) (aCons (nam 4) aNil))) (aCons (T2.bin (sop iSub) (opr (callP [false] f__law_rank) (aCons (T2.bin oAdd (nam 5) (nam 3)) aNil)) (opr (callP [false] f__law_rank) (aCons (nam 5) aNil))) aNil))))) (E none) = some (.nx (E (some (.fz (lI [((W.length : Nat) : Int), ((byG rows W (2 ^ k) : Nat) : Int), ((byG rows W (2 ^ l) : Nat) : Int)]))))) := by
    have q := opr_of (acons_of ln (acons_of (df (n4 none) (by omega)) (acons_of (df (n5 none) (by omega)) e_anil))) k_lstI3
    rw [← g1, ← g2] at q
    rw [hE] at q ⊢
    exact x_asg rfl (lif_of q) (stow_z _) rfl rfl rfl
  have r7 : ∀ (L : List Int), E (some (.fz (lI L))) = E (some (.fz (lI L))) → L.length ≤ 10 → opr (oTupOf) (aCons (T2.bin oAdd (nam 6) (opr oLst (aCons (T2.bin (sop iSub) (T2.bin oAdd (opr (callP [false] f__law_rank) (aCons (nam 4) aNil)) (opr (callP [false] f__law_rank) (aCons (nam 5) aNil))) (opr (callP [false] f__law_rank) (aCons (T2.bin oAdd (nam 4) (nam 5)) aNil))) aNil))) aNil) (E (some (.fz (lI L)))) = some (mkT (((L ++ [dot (shR (2 ^ k) (2 ^ l) 0) (tabR 4 rows)]).map D.int).map .fz)) := fun L _ hL => by
    have n6 : nam 6 (E (some (.fz (lI L)))) = some (.fz (lI L)) := by rw [hE]; exact nam_fz (d := lI L) rfl
    have q := bin_of (bin_of (rk_f (n4 (some (.fz (lI L)))) (by omega)) (rk_f (n5 (some (.fz (lI L)))) (by omega)) k_add) (rk_o (cat_c (n4 (some (.fz (lI L)))) (n5 (some (.fz (lI L)))) (by omega)) (by rw [List.length_append]; omega)) k_sub
    rw [← g3] at q
    exact opr_of (acons_of (bin_of n6 (opr_of (acons_of q e_anil) k_lstI1) (x_catFO (by simp [sizeLine]; omega))) e_anil) x_tupOf
  have key : F__law_numbers (v9 (some (.fz (wD W))) (some (.fz (heapD many rows))) (some (.fz (orD i j k l))) none none none none none none) = some (.rt (.fz (numD rows W (2 ^ k) (2 ^ l))) (E (some (.fz (lI [((W.length : Nat) : Int), ((byG rows W (2 ^ k) : Nat) : Int), ((byG rows W (2 ^ l) : Nat) : Int)]))))) := by
    refine seq_of s3 (seq_of s4 (seq_of s5 ?_))
    rw [show v9 (some (.fz (wD W))) (some (.fz (heapD many rows))) (some (.fz (orD i j k l))) (some (.fz (lI (cI W)))) (some (.fz (lI (cI A)))) (some (.fz (lI (cI B)))) none none none = E none by rw [hE]]
    exact seq_of s6 (ret_of (r7 _ rfl (by simp)))
  refine run_rt rfl rfl rfl key ?_
  rw [hE]
  rfl
end
theorem kid_drop {i : Nat} {p : List Pa} : ∀ (ms : List M) (j k : Nat), (kid i p j ms).drop k = kid i p (j + k) (ms.drop k)
  | [], j, k => by simp [kid]
  | m :: ms, j, 0 => rfl
  | m :: ms, j, k + 1 => by
    have ih := kid_drop (i := i) (p := p) ms (j + 1) k
    rw [List.drop_succ_cons, show j + (k + 1) = j + 1 + k by omega, ← ih]
    cases m <;> rfl
theorem place_ix {env : En} {i k : Nat} {p : List Pa} {ms : List M} {m : M} (h0 : env.place i p = some (.ol ms)) (h : ms[k]? = some m) : env.place i (p ++ [.ix k]) = some m := by
  unfold En.place at h0 ⊢
  split at h0
  · exact getP_snoc h (.inl h0)
  · cases h0
theorem kid_dats {env : En} {i : Nat} {p : List Pa} {MS : List M} (h0 : env.place i p = some (.ol MS)) : ∀ (ms : List M) (ds : List D) (k : Nat), (∀ j, ms[j]? = MS[k + j]?) → datL0 ms = some ds → dats env (kid i p k ms) = some ds
  | [], ds, k, _, h => by cases h; rfl
  | m :: ms, ds, k, hm, h => by
    have hk : MS[k]? = some m := (hm 0).symm
    have hr : ∀ j, ms[j]? = MS[k + 1 + j]? := fun j => by
      have := hm (j + 1)
      rw [List.getElem?_cons_succ] at this
      rw [this, show k + (j + 1) = k + 1 + j by omega]
    have h2 : datL0 (m :: ms) = (match dat0 m, datL0 ms with
      | some d, some ds => some (d :: ds)
      | _, _ => none) := rfl
    rw [h2] at h
    cases h3 : dat0 m with
    | none => rw [h3] at h; cases h
    | some d =>
      cases h4 : datL0 ms with
      | none => rw [h3, h4] at h; cases h
      | some es =>
        rw [h3, h4] at h
        cases h
        have ih := kid_dats h0 ms es (k + 1) hr h4
        have pd : plD env i (p ++ [.ix k]) = some d := by
          unfold plD
          rw [place_ix h0 hk]
          exact h3
        cases m with
        | fz d' => cases h3; exact dats_f ih
        | bp _ _ => cases h3
        | _ =>
          show (match plD env i (p ++ [.ix k]), dats env (kid i p (k + 1) ms) with
            | some d, some ds => some (d :: ds)
            | _, _ => none) = some (d :: es)
          rw [pd, ih]
theorem sp_of {env : En} {e : En → Option M} {k : Nat} (he : e env = some (I (k : Int))) : sPart (some e) env = some (some (k : Int)) := by
  show (match e env with
    | some (.fz (.int i)) => some (some i)
    | _ => none) = _
  rw [he]
theorem slice_bp {env : En} {f e : En → Option M} {i k : Nat} {p : List Pa} {ms : List M} {ds : List D} (h : f env = some (.bp i p)) (h0 : env.place i p = some (.ol ms)) (he : e env = some (I (k : Int))) (hd : datL0 (ms.drop k) = some ds) : ∃ m, oSl f (some e) none env = some m ∧ ∀ {zs cs}, dats env zs = some cs → dats env (m :: zs) = some (.lst ds :: cs) := by
  refine ⟨.ol (kid i p k (ms.drop k)), x_sl h (sp_of he) rfl ?_, fun {zs cs} hz => ?_⟩
  · show (match elems env (.bp i p) with
      | some (true, xs) => some (M.ol (cutM xs (some (k : Int)) none))
      | some (false, xs) => if HT.sIx xs.length 0 (some (k : Int)) = 0 ∧ HT.sIx xs.length xs.length none = xs.length then none else some (mkT (cutM xs (some (k : Int)) none))
      | none => none) = _
    have he : elems env (.bp i p) = some (true, kid i p 0 ms) := by
      show (match env.place i p with
        | some (.fz (.lst ds)) => some (true, ds.map M.fz)
        | some (.fz (.tup ds)) => some (false, ds.map M.fz)
        | some (.ol ms) => some (true, kid i p 0 ms)
        | some (.ot ms) => some (false, kid i p 0 ms)
        | _ => none) = _
      rw [h0]
    rw [he]
    show some (M.ol (cutM (kid i p 0 ms) (some (k : Int)) none)) = _
    rw [sub_from, kid_drop, Nat.zero_add]
  · have hk := kid_dats h0 (ms.drop k) ds k (fun j => by rw [List.getElem?_drop]) hd
    show (match (dats env (kid i p k (ms.drop k))).map D.lst, dats env zs with
      | some d, some ds => some (d :: ds)
      | _, _ => none) = _
    rw [hk, hz]
    rfl
theorem rest_eq {env : En} {f g e : En → Option M} {i k : Nat} {p : List Pa} {ms : List M} {es : List D} (h : f env = some (.bp i p)) (h0 : env.place i p = some (.ol ms)) (he : e env = some (I (k : Int))) (hg : g env = some (.fz (.lst es))) (hd : datL0 (ms.drop k) = some (es.drop k)) (hgd : gd 64 (.lst (es.drop k)) = true) :
    tst (T2.bin (sop (gEq true)) (oSl f (some e) none) (oSl g (some e) none)) env = some false := by
  obtain ⟨m, h1, h2⟩ := slice_bp h h0 he hd
  have h3 : oSl g (some e) none env = some (oD (es.drop k)) := x_sl hg (sp_of he) rfl (by
    show some (M.ol (cutM (es.map M.fz) (some (k : Int)) none)) = _
    rw [sub_from]
    exact congrArg (fun x => some (M.ol x)) List.map_drop.symm)
  exact tst_of (bin_of h1 h3 (k_eqST (h2 (dats_o dats_n)) hgd))
theorem drop_pre {α : Type} (pre post : List α) (x : α) : (pre ++ x :: post).drop (pre.length + 1) = post := by
  rw [show pre ++ x :: post = (pre ++ [x]) ++ post by simp, show pre.length + 1 = (pre ++ [x]).length by simp, List.drop_left]
theorem drop_pre' {α : Type} {pre post : List α} {x : α} {n : Nat} (h : pre.length = n) : (pre ++ x :: post).drop (n + 1) = post := by
  subst h
  exact drop_pre pre post x
theorem dats_pm {env : En} {i : Nat} {p : List Pa} {m : M} {d : D} {ms : List M} {cs : List D} (h0 : env.place i p = some m) (hm : dat0 m = some d) (h : dats env ms = some cs) : dats env (.bp i p :: ms) = some (d :: cs) := by
  have hp : plD env i p = some d := by
    unfold plD
    rw [h0]
    exact hm
  show (match datW (plD env) (.bp i p), datWL (plD env) ms with
    | some d, some ds => some (d :: ds)
    | _, _ => none) = _
  rw [show datW (plD env) (.bp i p) = some d from hp, show datWL (plD env) ms = some cs from h]
theorem items_tp {env : En} {f : En → Option M} {m : M} {ds : List D} (h : f env = some m) (h' : items env m = some (.tup ds)) : itP false f env = some ds := by
  unfold itP
  rw [h]
  simp only [h']
  rfl
theorem sLfL_mp {α : Type} {w : α → M} : ∀ (xs : List α), (∀ x ∈ xs, sLf (w x) = true) → sLfL (xs.map w) = true
  | [], _ => by simp only [List.map_nil, sLfL]
  | x :: xs, h => by
    simp only [List.map_cons, sLfL, Bool.and_eq_true]
    exact ⟨h x (List.mem_cons_self ..), sLfL_mp xs fun y hy => h y (List.mem_cons_of_mem _ hy)⟩
theorem wM_lf (W : List Nat) : sLf (wM W) = true := by
  show sLf (.ol (W.map fun w => oI (bitsL w))) = true
  simp only [sLf]
  exact sLfL_mp W fun w _ => sLf_oI _
theorem wM_sl (W : List Nat) : slotsL (W.map fun w => oI (bitsL w)) = [] := slotsL_map W fun w _ => slotsL_co slotsL_n
abbrev L70 (s t h o hd ti to ke at' vi ro on : Option M) : En := [s, t, h, o, hd, ti, to, ke, at', vi, ro, on]
abbrev vW (w : Nat) : M := oI (bitsL w)
def vA (w : Nat) : M := oI (bitsL w ++ [0])
abbrev toldM (W : List Nat) (nD : D) : M := .ot [wM W, .fz nD]
theorem told_lp {W : List Nat} {nD : D} (S t h o hd ti : Option M) : ∀ (post pre : List Nat) (_ : pre ++ post = W) (x8 : Option M), ∃ x8', lpEP 6 8 9 [.ix 0] (toldM W nD) B_law_1 C_law_2 pre.length (pre.map vA) (post.map vW) (L70 S t h o hd ti none (some (.fz (wD W))) x8 none none none) = some (W.map vA, L70 S t h o hd ti none (some (.fz (wD W))) x8' none none none)
  | [], pre, hp, x8 => ⟨x8, by rw [List.append_nil] at hp; subst hp; exact lpEP_n⟩
  | w :: post, pre, hp, x8 => by
    obtain ⟨x8', ih⟩ := told_lp (W := W) (nD := nD) S t h o hd ti post (pre ++ [w]) (by rw [List.append_assoc]; exact hp) (some (I (pre.length : Int)))
    refine ⟨x8', ?_⟩
    have hle := bitsL_le w
    have s1 : sExp (xMutP 0 (nam 9) (aCons (cst (.int 0)) aNil) mAppend) (L70 S t h o hd ti none (some (.fz (wD W))) (some (I (pre.length : Int))) (some (vW w)) none none) = some (.nx (L70 S t h o hd ti none (some (.fz (wD W))) (some (I (pre.length : Int))) (some (vA w)) none none)) :=
      exp_of (x_mutP (i := 9) (p := []) rfl (acons_of (e_cst (d := .int 0)) e_anil) rfl rfl rfl (append_ints (L := bitsL w) (x := 0) (by simp only [sizeLine]; omega)) rfl)
    have ct : C_law_2 (L70 S t h o hd ti (some (.ot [.ol (pre.map vA ++ vA w :: post.map vW), .fz nD])) (some (.fz (wD W))) (some (I (pre.length : Int))) none none none) = some false := by
      have ed : (W.map bitD).drop (pre.length + 1) = post.map bitD := by rw [← hp, List.map_append, List.map_cons, drop_pre' (List.length_map ..)]
      refine rest_eq (i := 6) (p := [.ix 0]) (k := pre.length + 1) (ms := pre.map vA ++ vA w :: post.map vW) (es := W.map bitD) (bin_of rfl e_cst rfl) rfl (bin_of (nam_fz (i := 8) (d := .int (pre.length : Int)) rfl) (e_cst (d := .int 1)) k_add) (nam_fz (i := 7) (d := wD W) rfl) ?_ ?_
      · rw [drop_pre' (List.length_map ..), ed]
        exact datL0_map post fun x _ => dat0_o
      · rw [ed]
        exact gd_lst (gdL_map fun m _ => gd_lI)
    refine lpEP_c (m' := vA w) rfl (seq_of s1 e_nil) rfl rfl rfl ct ?_
    have e1 : pre.length + 1 = (pre ++ [w]).length := by simp
    have e2 : pre.map vA ++ [vA w] = (pre ++ [w]).map vA := by simp
    rw [e1, e2]
    exact ih
theorem gd_hk {k : Nat} (many : Nat) (rows : List (List Nat)) : gd (k + 5) (heapD many rows) = true := gd_tup (gdL_c gd_int (gdL_c (gd_lst (gdL_map fun row _ => gd_lst (gdL_map fun m _ => gd_lI))) gdL_n))
theorem told_dat (W : List Nat) (nD : D) : dat0 (toldM W nD) = some (.tup [wD W, nD]) := dat0_t (datL0_c (wM_dat W) (datL0_c dat0_f datL0_n))
theorem told_stow (env : En) (W : List Nat) (nD : D) : stow 9 env (toldM W nD) = some (toldM W nD, env) :=
  stow_ot (show slotsL [wM W, .fz nD] = [] by
    have := wM_slots W
    show slots (wM W) ++ _ = _
    have e : slotsL [wM W] = slots (wM W) ++ [] := rfl
    rw [e, List.append_nil] at this
    rw [this]
    rfl) (shutL_c (shut_ol (shutL_map W fun w _ => shut_s)) (shutL_c shut_f shutL_n))
section
variable {many : Nat} {rows : List (List Nat)} (h : okH many rows) (hr : rows.length = 4) {i j k l : Nat} (hi : i < 4) (hj : j < 4) (hk : k < 4) (hl : l < 4) (S t ti : Option M)
include h hr hi hj hk hl
theorem time_ok (x6 x7 x8 : Option M) : ∃ y6 y7 y8, B_law_3 (L70 S t (some (.fz (heapD many rows))) (some (.fz (orD i j k l))) (some (.fz (heapD many rows))) ti x6 x7 x8 none none none) = some (.nx (L70 S t (some (.fz (heapD many rows))) (some (.fz (orD i j k l))) (some (.fz (heapD many rows))) ti y6 y7 y8 none none none)) := by
  have fs := four_shown_ok many rows h hr i j k l hi hj hk hl
  have lv := law_views_ok h hr hi hj hk hl
  have hlt := cvL_lt h (2 ^ i) (2 ^ j)
  have hlen := cvL_len h (by omega) (2 ^ i) (2 ^ j)
  have ln := law_numbers_ok h hr (i := i) (j := j) hk hl hlt hlen
  obtain ⟨W, hW⟩ : ∃ W, cvL rows (2 ^ i) (2 ^ j) = W := ⟨_, rfl⟩
  rw [hW] at fs lv hlt hlen ln
  have gN : gd 64 (numD rows W (2 ^ k) (2 ^ l)) = true := gd_tup (gdL_c gd_int (gdL_c gd_int (gdL_c gd_int (gdL_c gd_int gdL_n))))
  obtain ⟨n1, n2, n3, n4, hnD⟩ : ∃ n1 n2 n3 n4 : Int, numD rows W (2 ^ k) (2 ^ l) = .tup [.int n1, .int n2, .int n3, .int n4] := ⟨_, _, _, _, rfl⟩
  obtain ⟨nD, hnn⟩ : ∃ nD, numD rows W (2 ^ k) (2 ^ l) = nD := ⟨_, rfl⟩
  rw [hnn] at fs ln gN hnD
  obtain ⟨HD, hHD⟩ : ∃ HD, heapD many rows = HD := ⟨_, rfl⟩
  have gH : gd 64 HD = true := by rw [← hHD]; exact gd_hk (k := 59) many rows
  rw [hHD] at fs lv ln ⊢
  have s1 : sAsg lk_law 6 9 (lif (opr (callP [false, false, false, false, false] f_four_shown) (aCons (nam 4) (aCons (T2.bin oIdx (nam 3) (cst (.int 0))) (aCons (T2.bin oIdx (nam 3) (cst (.int 1))) (aCons (T2.bin oIdx (nam 3) (cst (.int 2))) (aCons (T2.bin oIdx (nam 3) (cst (.int 3))) aNil))))))) (L70 S t (some (.fz HD)) (some (.fz (orD i j k l))) (some (.fz HD)) ti x6 x7 x8 none none none) = some (.nx (L70 S t (some (.fz HD)) (some (.fz (orD i j k l))) (some (.fz HD)) ti (some (toldM W nD)) x7 x8 none none none)) :=
    x_asg rfl (lif_of (opr_of (acons_of (nam_fz rfl) (acons_of (bin_of (nam_fz rfl) e_cst k_idxL0) (acons_of (bin_of (nam_fz rfl) e_cst k_idxL1) (acons_of (bin_of (nam_fz rfl) e_cst k_idxL2) (acons_of (bin_of (nam_fz rfl) e_cst k_idxL3) e_anil))))) (callP_of rfl rfl fs))) (told_stow _ W nD) rfl rfl rfl
  obtain ⟨E, hE⟩ : ∃ E : Option M → Option M → Option M → En, E = fun a b c => L70 S t (some (.fz HD)) (some (.fz (orD i j k l))) (some (.fz HD)) ti a b c none none none := ⟨_, rfl⟩
  have n6 : nam 6 (E (some (toldM W nD)) x7 x8) = some (.bp 6 []) := by rw [hE]; rfl
  have d6 : dats (E (some (toldM W nD)) x7 x8) [.bp 6 []] = some [.tup [wD W, nD]] := by rw [hE]; exact dats_m rfl (told_dat W nD) dats_n
  have a0 : ∀ x7 x8, T2.bin oIdx (nam 6) (cst (.int 0)) (E (some (toldM W nD)) x7 x8) = some (.bp 6 [.ix 0]) := fun x7 x8 => by rw [hE]; exact bin_of rfl e_cst rfl
  have a1 : T2.bin oIdx (nam 6) (cst (.int 1)) (E (some (toldM W nD)) x7 x8) = some (.fz nD) := by rw [hE]; exact bin_of rfl e_cst rfl
  have n2' : nam 2 (E (some (toldM W nD)) x7 x8) = some (.fz HD) := by rw [hE]; exact nam_fz rfl
  have n3' : nam 3 (E (some (toldM W nD)) x7 x8) = some (.fz (orD i j k l)) := by rw [hE]; exact nam_fz rfl
  have n4' : nam 4 (E (some (toldM W nD)) x7 x8) = some (.fz HD) := by rw [hE]; exact nam_fz rfl
  have dv : dats (E (some (toldM W nD)) x7 x8) [.bp 6 [.ix 0], .fz HD, .fz (orD i j k l)] = some [wD W, HD, orD i j k l] := by
    rw [hE]
    exact dats_pm (m := wM W) rfl (wM_dat W) (dats_f (dats_f dats_n))
  have t2 : dOr (dNot (tst (oIsi (kitT "tuple") (nam 6)))) (dOr (tst (T2.bin (sop (gEq true)) (opr (sop gLen) (aCons (nam 6) aNil)) (cst (.int 2)))) (dNot (tst (opr (callP [false, false, false] f__law_views) (aCons (T2.bin oIdx (nam 6) (cst (.int 0))) (aCons (nam 2) (aCons (nam 3) aNil))))))) (E (some (toldM W nD)) x7 x8) = some false :=
    x_or (c := false) (c' := false) (not_of (b := true) (tst_of (x_isi n6 d6 rfl rfl))) (x_or (c := false) (c' := false) ((tst_of (bin_of (x_lenT n6 d6) e_cst k_eqT)).trans rfl)
      (not_of (b := true) (tst_of (opr_of (acons_of (a0 x7 x8) (acons_of n2' (acons_of n3' e_anil))) (callB_of (ds := [wD W, HD, orD i j k l]) rfl dv lv rfl)))))
  have hfz : frozL (E (some (toldM W nD)) x7 x8) = L70 (froz S) (froz t) (some (.fz HD)) (some (.fz (orD i j k l))) (some (.fz HD)) (froz ti) (some (.fz (.tup [wD W, nD]))) (froz x7) (froz x8) none none none := by
    rw [hE]
    exact frozL_c rfl (frozL_c rfl (frozL_c froz_f (frozL_c froz_f (frozL_c froz_f (frozL_c rfl (frozL_c (show froz (some (toldM W nD)) = some (.fz (.tup [wD W, nD])) by show (dat0 (toldM W nD)).map M.fz = _; rw [told_dat]; rfl) (frozL_c rfl (frozL_c rfl (frozL_c froz_n (frozL_c froz_n (frozL_c froz_n frozL_n)))))))))))
  obtain ⟨FE, hFE⟩ : ∃ FE : Option M → En, FE = fun v => L70 (froz S) (froz t) (some (.fz HD)) (some (.fz (orD i j k l))) (some (.fz HD)) (froz ti) (some (.fz (.tup [wD W, nD]))) (froz x7) (froz x8) v none none := ⟨_, rfl⟩
  have hfz' : frozL (E (some (toldM W nD)) x7 x8) = FE none := by rw [hfz, hFE]
  have z1 : T2.bin oIdx (nam 6) (cst (.int 1)) (FE none) = some (.fz nD) := by rw [hFE]; exact bin_of (nam_fz (d := .tup [wD W, nD]) rfl) e_cst k_idxT1
  have z0 : T2.bin oIdx (nam 6) (cst (.int 0)) (FE none) = some (.fz (wD W)) := by rw [hFE]; exact bin_of (nam_fz (d := .tup [wD W, nD]) rfl) e_cst k_idxT0
  have z2 : nam 2 (FE none) = some (.fz HD) := by rw [hFE]; exact nam_fz rfl
  have z3 : nam 3 (FE none) = some (.fz (orD i j k l)) := by rw [hFE]; exact nam_fz rfl
  have z4 : nam 4 (FE none) = some (.fz HD) := by rw [hFE]; exact nam_fz rfl
  have t3 : frzT (dOr (dNot (tst (oIsi (kitT "tuple") (T2.bin oIdx (nam 6) (cst (.int 1)))))) (dOr (tst (T2.bin (sop (gEq true)) (T2.bin oIdx (nam 6) (cst (.int 1))) (opr (callP [false, false, false] f__law_numbers) (aCons (T2.bin oIdx (nam 6) (cst (.int 0))) (aCons (nam 2) (aCons (nam 3) aNil)))))) (tst (T2.bin (sop (gEq true)) (nam 4) (nam 2))))) (E (some (toldM W nD)) x7 x8) = some false :=
    x_frzT hfz' (x_or (c := false) (c' := false) (not_of (b := true) (tst_of (x_isi z1 (dats_f dats_n) (by rw [hnD]; rfl) rfl))) (x_or (c := false) (c' := false) (tst_of (bin_of z1 (opr_of (acons_of z0 (acons_of z2 (acons_of z3 e_anil))) (callP_of rfl rfl ln)) (k_eqST (d := nD) (dats_f (dats_f dats_n)) gN)))
      (tst_of (bin_of z4 z2 (k_eqST (d := HD) (dats_f (dats_f dats_n)) gH)))))
  have t4 : frzT (tst (T2.bin (sop (gEq true)) (lcF [11] (.nm 11) (itP false (T2.bin oIdx (nam 6) (cst (.int 1)))) (dOr (tst (oIsi (kitT "bool") (nam 11))) (dNot (tst (oIsi (kitT "int") (nam 11))))) (nam 11)) (opr oLst aNil))) (E (some (toldM W nD)) x7 x8) = some false := by
    have it : itP false (T2.bin oIdx (nam 6) (cst (.int 1))) (L70 (froz S) (froz t) (some (.fz HD)) (some (.fz (orD i j k l))) (some (.fz HD)) (froz ti) (some (.fz (.tup [wD W, nD]))) (froz x7) (froz x8) none none none) = some ([n1, n2, n3, n4].map D.int) := by
      refine items_tp (m := .fz nD) (bin_of (nam_fz (d := .tup [wD W, nD]) rfl) e_cst k_idxT1) ?_
      rw [hnD]
      exact items_f
    refine x_frzT hfz (tst_of (bin_of (x_lcGf (F := D.int) (xs := [n1, n2, n3, n4]) (c := fun _ => false) (w := fun x => I x) (e1 := fun x => L70 (froz S) (froz t) (some (.fz HD)) (some (.fz (orD i j k l))) (some (.fz HD)) (froz ti) (some (.fz (.tup [wD W, nD]))) (froz x7) (froz x8) none none (some (I x))) (r := oI []) it (fun _ _ => rfl) (fun x _ => x_or (c := false) (c' := false) (tst_of (isi_nbool (nam_fz rfl))) (not_of (b := true) (tst_of (isi_int (nam_fz rfl))))) (fun _ _ h => by cases h) (fun _ _ => rfl) (by simp [sizeLine]) (by simp [oI, oD])) (opr_of e_anil k_lstI0) (k_eqST (d := lI []) (dats_o (dats_o dats_n)) gd_lI)))
  have s5 : sAsg lk_law 7 0 (lif (frzE (lcF [9] (.nm 9) (itP true (T2.bin oIdx (nam 6) (cst (.int 0)))) cYes (opr (oListOf) (aCons (nam 9) aNil))))) (E (some (toldM W nD)) x7 x8) = some (.nx (E (some (toldM W nD)) (some (.fz (wD W))) x8)) := by
    have it : itP true (T2.bin oIdx (nam 6) (cst (.int 0))) (FE none) = some (W.map bitD) := items_lst z0 items_f
    have lc : lcF [9] (.nm 9) (itP true (T2.bin oIdx (nam 6) (cst (.int 0)))) cYes (opr (oListOf) (aCons (nam 9) aNil)) (FE none) = some (wM W) := by
      rw [hFE] at it ⊢
      exact x_lcG (F := bitD) (xs := W) (w := fun m => oI (bitsL m)) (e1 := fun m => L70 (froz S) (froz t) (some (.fz HD)) (some (.fz (orD i j k l))) (some (.fz HD)) (froz ti) (some (.fz (.tup [wD W, nD]))) (froz x7) (froz x8) (some (.fz (bitD m))) none none) it (fun _ _ => rfl) (fun m _ => opr_of (acons_of (nam_fz (d := bitD m) rfl) e_anil) listOf_f) (fun _ _ => slotsL_co slotsL_n) (by simp only [sizeLine]; omega) rfl
    have q := x_frzE hfz' lc (wM_lf W)
    rw [hE] at q ⊢
    exact x_asg rfl (lif_of q) (stow_zl (ds := W.map bitD) (wM_sl W) (datL0_map W fun _ _ => dat0_o)) rfl rfl rfl
  obtain ⟨y8, lp⟩ := told_lp (W := W) (nD := nD) S t (some (.fz HD)) (some (.fz (orD i j k l))) (some (.fz HD)) ti W [] rfl none
  have s6 : sForEP lk_law 6 8 9 (T2.bin oIdx (nam 6) (cst (.int 0))) B_law_1 C_law_2 (E (some (toldM W nD)) (some (.fz (wD W))) x8) = some (.nx (E (some (.ot [.ol (W.map vA), .fz nD])) (some (.fz (wD W))) y8)) := by
    have b := a0 (some (.fz (wD W))) x8
    rw [hE] at b ⊢
    exact x_forEP (p := [.ix 0]) b rfl rfl rfl rfl (by decide) (by decide) (by decide) rfl rfl rfl lp rfl rfl
  have s7 : sExp (xMutP 9 (T2.bin oIdx (nam 6) (cst (.int 0))) aNil mClear) (E (some (.ot [.ol (W.map vA), .fz nD])) (some (.fz (wD W))) y8) = some (.nx (E (some (.ot [.ol [], .fz nD])) (some (.fz (wD W))) y8)) := by
    rw [hE]
    exact exp_of (x_mutP (p := [.ix 0]) (bin_of rfl e_cst rfl) e_anil rfl stowA_n rfl x_clear rfl)
  refine ⟨some (.ot [.ol [], .fz nD]), some (.fz (wD W)), y8, ?_⟩
  rw [show L70 S t (some (.fz HD)) (some (.fz (orD i j k l))) (some (.fz HD)) ti (some (.ot [.ol [], .fz nD])) (some (.fz (wD W))) y8 none none none = E (some (.ot [.ol [], .fz nD])) (some (.fz (wD W))) y8 by rw [hE]]
  refine seq_of s1 ?_
  rw [show L70 S t (some (.fz HD)) (some (.fz (orD i j k l))) (some (.fz HD)) ti (some (toldM W nD)) x7 x8 none none none = E (some (toldM W nD)) x7 x8 by rw [hE]]
  exact seq_of (if_f t2 e_nil) (seq_of (if_f t3 e_nil) (seq_of (if_f (T := sNil) (S := sRet lk_law (lif (cst (.bl false)))) t4 e_nil) (seq_of s5 (seq_of s6 s7))))
end
theorem step_ok (ns : List Int) (hn : ns.length ≤ 63) (hb : ∀ z ∈ ns, Builtin.Int.intBits z ≤ 1048576) (t : Nat) (ht : t < 8) (x2 x3 x4 x5 x6 x7 x8 : Option M) : ∃ y2 y3 y4 y5 y6 y7 y8, B_law_4 (L70 (some (.fz (.scr ns))) (some (I t)) x2 x3 x4 x5 x6 x7 x8 none none none) = some (.nx (L70 (some (.fz (.scr ns))) (some (I t)) y2 y3 y4 y5 y6 y7 y8 none none none)) := by
  have c6 : cMul 6 (t : Int) = true := cMul_ok 7 7 (by decide) (by omega) (by decide)
  obtain ⟨many, rows, hh, hok, _, hrl⟩ := heap_ok ns (6 * t) 4 (by omega) (by decide) hn hb
  obtain ⟨a, b, hp⟩ := pile_ok ns (6 * t + 5) (by omega) hn hb
  obtain ⟨a', c', x, u, v, w, ho, hperm⟩ := order_ok a b (97 * ((6 * t + 5 : Nat) : Int)) (by omega)
  obtain ⟨i, j, k, l, rfl, rfl, rfl, rfl, hi, hj, hk, hl⟩ : ∃ i j k l : Nat, x = i ∧ u = j ∧ v = k ∧ w = l ∧ i < 4 ∧ j < 4 ∧ k < 4 ∧ l < 4 := by
    have e : ∀ p ∈ perms, ∀ z ∈ p, 0 ≤ z ∧ z < 4 := by decide
    have q := e _ hperm
    have qx := q x (by simp)
    have qu := q u (by simp)
    have qv := q v (by simp)
    have qw := q w (by simp)
    exact ⟨x.toNat, u.toNat, v.toNat, w.toNat, by omega, by omega, by omega, by omega, by omega, by omega, by omega, by omega⟩
  have s2 : sAsg lk_law 2 0 (lif (opr (callP [false, false, false] f__law_heap) (aCons (nam 0) (aCons (T2.bin oMul (cst (.int 6)) (nam 1)) (aCons (cst (.int 4)) aNil))))) (L70 (some (.fz (.scr ns))) (some (I t)) x2 x3 x4 x5 x6 x7 x8 none none none) = some (.nx (L70 (some (.fz (.scr ns))) (some (I t)) (some (.fz (heapD many rows))) x3 x4 x5 x6 x7 x8 none none none)) := by
    have hh' : f__law_heap [.fz (.scr ns), I (6 * (t : Int)), I 4] = some (.fz (heapD many rows), [.fz (.scr ns), I (6 * (t : Int)), I 4]) := hh
    exact x_asg rfl (lif_of (opr_of (acons_of (nam_fz rfl) (acons_of (bin_of e_cst (nam_fz rfl) (k_mul c6)) (acons_of e_cst e_anil))) (callP_of rfl rfl hh'))) stow_f rfl rfl rfl
  have s3 : sAsg lk_law 3 0 (lif (opr (callP [true, false] f__law_order) (aCons (opr (callP [false, false] f__law_pile) (aCons (nam 0) (aCons (T2.bin oAdd (T2.bin oMul (cst (.int 6)) (nam 1)) (cst (.int 5))) aNil))) (aCons (cst (.int 4)) aNil)))) (L70 (some (.fz (.scr ns))) (some (I t)) (some (.fz (heapD many rows))) x3 x4 x5 x6 x7 x8 none none none) = some (.nx (L70 (some (.fz (.scr ns))) (some (I t)) (some (.fz (heapD many rows))) (some (.fz (orD i j k l))) x4 x5 x6 x7 x8 none none none)) := by
    have hp' : f__law_pile [.fz (.scr ns), I (6 * (t : Int) + 5)] = some (.ol [I a, I b, I (97 * ((6 * t + 5 : Nat) : Int))], [.fz (.scr ns), I (6 * (t : Int) + 5)]) := hp
    have h1 : opr (callP [false, false] f__law_pile) (aCons (nam 0) (aCons (T2.bin oAdd (T2.bin oMul (cst (.int 6)) (nam 1)) (cst (.int 5))) aNil)) (L70 (some (.fz (.scr ns))) (some (I t)) (some (.fz (heapD many rows))) x3 x4 x5 x6 x7 x8 none none none) = some (.ol [I a, I b, I (97 * ((6 * t + 5 : Nat) : Int))]) :=
      opr_of (acons_of (nam_fz rfl) (acons_of (bin_of (bin_of e_cst (nam_fz rfl) (k_mul c6)) e_cst k_add) e_anil)) (callP_of rfl rfl hp')
    have h2 := opr_of (op := callP [true, false] f__law_order) (acons_of h1 (acons_of e_cst e_anil)) (callP_of rfl rfl ho)
    exact x_asg rfl (lif_of h2) (stow_z [.int i, .int j, .int k, .int l]) rfl rfl rfl
  obtain ⟨HD, hHD⟩ : ∃ HD, heapD many rows = HD := ⟨_, rfl⟩
  have s4 : sAsg lk_law 4 0 (lif (opr oTup (aCons (T2.bin oIdx (nam 2) (cst (.int 0))) (aCons (lcF [10] (.nm 10) (itP true (T2.bin oIdx (nam 2) (cst (.int 1)))) cYes (lcF [9] (.nm 9) (itP true (nam 10)) cYes (opr (oListOf) (aCons (nam 9) aNil)))) aNil)))) (L70 (some (.fz (.scr ns))) (some (I t)) (some (.fz (heapD many rows))) (some (.fz (orD i j k l))) x4 x5 x6 x7 x8 none none none) = some (.nx (L70 (some (.fz (.scr ns))) (some (I t)) (some (.fz (heapD many rows))) (some (.fz (orD i j k l))) (some (.fz (heapD many rows))) x5 x6 x7 x8 none none none)) := by
    have li : ∀ r ∈ rows, lcF [9] (.nm 9) (itP true (nam 10)) cYes (opr (oListOf) (aCons (nam 9) aNil)) (L70 (some (.fz (.scr ns))) (some (I t)) (some (.fz (heapD many rows))) (some (.fz (orD i j k l))) x4 x5 x6 x7 x8 none (some (.fz (rowD r))) none) = some (wM r) := fun r hr =>
      x_lcG (F := bitD) (xs := r) (w := fun m => oI (bitsL m)) (e1 := fun m => L70 (some (.fz (.scr ns))) (some (I t)) (some (.fz (heapD many rows))) (some (.fz (orD i j k l))) x4 x5 x6 x7 x8 (some (.fz (bitD m))) (some (.fz (rowD r))) none) (items_lst (nam_fz rfl) items_f) (fun _ _ => rfl) (fun m _ => opr_of (acons_of (nam_fz (d := bitD m) rfl) e_anil) listOf_f) (fun _ _ => slotsL_co slotsL_n) (by have := (hok.2 r hr).1; simp only [sizeLine]; omega) rfl
    have lo := x_lcG (vs := [10]) (t := .nm 10) (it := itP true (T2.bin oIdx (nam 2) (cst (.int 1)))) (elt := lcF [9] (.nm 9) (itP true (nam 10)) cYes (opr (oListOf) (aCons (nam 9) aNil))) (F := rowD) (xs := rows) (w := fun r => wM r) (env := L70 (some (.fz (.scr ns))) (some (I t)) (some (.fz (heapD many rows))) (some (.fz (orD i j k l))) x4 x5 x6 x7 x8 none none none) (e1 := fun r => L70 (some (.fz (.scr ns))) (some (I t)) (some (.fz (heapD many rows))) (some (.fz (orD i j k l))) x4 x5 x6 x7 x8 none (some (.fz (rowD r))) none) (items_lst (bin_of (nam_fz rfl) e_cst k_idxT1) items_f) (fun _ _ => rfl) li (fun r _ => wM_slots r) (by simp only [sizeLine]; omega) rfl
    refine x_asg rfl (lif_of (opr_of (acons_of (bin_of (nam_fz rfl) e_cst k_idxT0) (acons_of lo e_anil)) (by rfl : oTup _ [I many, .ol (rows.map fun r => wM r)] = some (.ot [I many, .ol (rows.map fun r => wM r)])))) (stow_zt (ds := [.int many, .lst (rows.map rowD)]) ?_ (datL0_c dat0_f (datL0_c (dat0_l (datL0_map rows fun r _ => wM_dat r)) datL0_n))) rfl rfl rfl
    show slotsL (rows.map fun r => wM r) ++ [] = []
    rw [slotsL_map rows fun r _ => wM_slots r]
    rfl
  obtain ⟨y6, y7, y8, b1⟩ := time_ok hok hrl hi hj hk hl (some (.fz (.scr ns))) (some (I t)) (some (I 0)) x6 x7 x8
  obtain ⟨z6, z7, z8, b2⟩ := time_ok hok hrl hi hj hk hl (some (.fz (.scr ns))) (some (I t)) (some (I 1)) y6 y7 y8
  exact ⟨_, _, _, _, _, _, _, seq_of s2 (seq_of s3 (seq_of s4 (for_of (ds := [.int 0, .int 1]) (lifI_of (by kernel_rfl)) (lp_cons rfl b1 (lp_cons rfl b2 lp_nil)))))⟩
theorem law_true : ∀ ns : List Int, ns.length ≤ 63 → (∀ z ∈ ns, Builtin.Int.intBits z ≤ 1048576) → ∃ ms, f_law [.fz (.scr ns)] = some (.fz (.bl true), ms) := by
  intro ns hn hb
  obtain ⟨e', lp, t, y2, y3, y4, y5, y6, y7, y8, he⟩ := lp_rng (lk := lk_law) (t := .nm 1) (B := B_law_4) (fun _ e => ∃ t x2 x3 x4 x5 x6 x7 x8, e = L70 (some (.fz (.scr ns))) t x2 x3 x4 x5 x6 x7 x8 none none none) (8 : Int)
    (fun k hk e ⟨t, x2, x3, x4, x5, x6, x7, x8, he⟩ => by
      subst he
      obtain ⟨y2, y3, y4, y5, y6, y7, y8, q⟩ := step_ok ns hn hb k (by omega) x2 x3 x4 x5 x6 x7 x8
      exact ⟨_, _, rfl, q, _, _, _, _, _, _, _, _, rfl⟩) (e := L70 (some (.fz (.scr ns))) none none none none none none none none none none none) ⟨_, _, _, _, _, _, _, _, rfl⟩
  subst he
  exact ⟨_, run_rt rfl rfl rfl (seq_of (for_of (ds := (rngI 8).map D.int) (lifI_of (by kernel_rfl)) lp) (ret_of e_cst)) rfl⟩
end G70
end
section
namespace G70
open PySem PySem.Spec PyProof.Rows L2 T2
set_option Elab.async false
set_option linter.all false
set_option maxRecDepth 100000
set_option maxHeartbeats 4000000
theorem ex_fun {K : PySem.W.Frag} {n m : Str} {s : Stmt} {fa : Addr} {fd : FuncData} {P Q : FuncData → Prop} (_ : L2.Fun K n m s fa fd) (h1 : P fd) (h2 : Q fd) : ∃ fd, P fd ∧ Q fd := ⟨fd, h1, h2⟩
def spL (K : PySem.W.Frag) : Sp := fun vs H Q E => ∀ ca : ClsA, SpI K (f_law (ca := ca)) vs H Q E
theorem all_mk {l : PySem.W.OpenLaw} {w : World} {K : PySem.W.Frag} {h : Heap} {mg : Str → Option Value} {fa : Addr} (X : K.In h) (G : h.Ns mainGlobals mg) (hfa : mg "law" = some (.ref fa))
    {C_Basis : Addr}
    {f__law_mixed_a : Addr} {od__law_mixed an__law_mixed : Option Addr} {sl__law_mixed : Array (Option Value)} {oc__law_mixed kV__law_mixed dc__law_mixed pm__law_mixed cd__law_mixed ct__law_mixed : Value}
    {f__law_take_a : Addr} {od__law_take an__law_take : Option Addr} {sl__law_take : Array (Option Value)} {oc__law_take kV__law_take dc__law_take pm__law_take cd__law_take ct__law_take : Value}
    {f__law_pile_a : Addr} {od__law_pile an__law_pile : Option Addr} {sl__law_pile : Array (Option Value)} {oc__law_pile kV__law_pile dc__law_pile pm__law_pile cd__law_pile ct__law_pile : Value}
    {f__law_heap_a : Addr} {od__law_heap an__law_heap : Option Addr} {sl__law_heap : Array (Option Value)} {oc__law_heap kV__law_heap dc__law_heap pm__law_heap cd__law_heap ct__law_heap : Value}
    {f__law_order_a : Addr} {od__law_order an__law_order : Option Addr} {sl__law_order : Array (Option Value)} {oc__law_order kV__law_order dc__law_order pm__law_order cd__law_order ct__law_order : Value}
    {f_Basis_init_a : Addr} {od_Basis_init an_Basis_init : Option Addr} {sl_Basis_init : Array (Option Value)} {oc_Basis_init kV_Basis_init dc_Basis_init pm_Basis_init cd_Basis_init ct_Basis_init : Value}
    {f_mask_of_a : Addr} {od_mask_of an_mask_of : Option Addr} {sl_mask_of : Array (Option Value)} {oc_mask_of kV_mask_of dc_mask_of pm_mask_of cd_mask_of ct_mask_of : Value}
    {f_names_in_a : Addr} {od_names_in an_names_in : Option Addr} {sl_names_in : Array (Option Value)} {oc_names_in kV_names_in dc_names_in pm_names_in cd_names_in ct_names_in : Value}
    {f_places_of_a : Addr} {od_places_of an_places_of : Option Addr} {sl_places_of : Array (Option Value)} {oc_places_of kV_places_of dc_places_of pm_places_of cd_places_of ct_places_of : Value}
    {f_masks_of_a : Addr} {od_masks_of an_masks_of : Option Addr} {sl_masks_of : Array (Option Value)} {oc_masks_of kV_masks_of dc_masks_of pm_masks_of cd_masks_of ct_masks_of : Value}
    {f_coins_of_a : Addr} {od_coins_of an_coins_of : Option Addr} {sl_coins_of : Array (Option Value)} {oc_coins_of kV_coins_of dc_coins_of pm_coins_of cd_coins_of ct_coins_of : Value}
    {f_Basis_left_of_a : Addr} {od_Basis_left_of an_Basis_left_of : Option Addr} {sl_Basis_left_of : Array (Option Value)} {oc_Basis_left_of kV_Basis_left_of dc_Basis_left_of pm_Basis_left_of cd_Basis_left_of ct_Basis_left_of : Value}
    {f_Basis_put_a : Addr} {od_Basis_put an_Basis_put : Option Addr} {sl_Basis_put : Array (Option Value)} {oc_Basis_put kV_Basis_put dc_Basis_put pm_Basis_put cd_Basis_put ct_Basis_put : Value}
    {f_basis_of_a : Addr} {od_basis_of an_basis_of : Option Addr} {sl_basis_of : Array (Option Value)} {oc_basis_of kV_basis_of dc_basis_of pm_basis_of cd_basis_of ct_basis_of : Value}
    {f_rank_of_a : Addr} {od_rank_of an_rank_of : Option Addr} {sl_rank_of : Array (Option Value)} {oc_rank_of kV_rank_of dc_rank_of pm_rank_of cd_rank_of ct_rank_of : Value}
    {f_common_views_a : Addr} {od_common_views an_common_views : Option Addr} {sl_common_views : Array (Option Value)} {oc_common_views kV_common_views dc_common_views pm_common_views cd_common_views ct_common_views : Value}
    {f_value_a : Addr} {od_value an_value : Option Addr} {sl_value : Array (Option Value)} {oc_value kV_value dc_value pm_value cd_value ct_value : Value}
    {f_greatest_a : Addr} {od_greatest an_greatest : Option Addr} {sl_greatest : Array (Option Value)} {oc_greatest kV_greatest dc_greatest pm_greatest cd_greatest ct_greatest : Value}
    {f_look_at_a : Addr} {od_look_at an_look_at : Option Addr} {sl_look_at : Array (Option Value)} {oc_look_at kV_look_at dc_look_at pm_look_at cd_look_at ct_look_at : Value}
    {f_row_of_a : Addr} {od_row_of an_row_of : Option Addr} {sl_row_of : Array (Option Value)} {oc_row_of kV_row_of dc_row_of pm_row_of cd_row_of ct_row_of : Value}
    {f_shared_a : Addr} {od_shared an_shared : Option Addr} {sl_shared : Array (Option Value)} {oc_shared kV_shared dc_shared pm_shared cd_shared ct_shared : Value}
    {f_coin_table_a : Addr} {od_coin_table an_coin_table : Option Addr} {sl_coin_table : Array (Option Value)} {oc_coin_table kV_coin_table dc_coin_table pm_coin_table cd_coin_table ct_coin_table : Value}
    {f_greater_by_a : Addr} {od_greater_by an_greater_by : Option Addr} {sl_greater_by : Array (Option Value)} {oc_greater_by kV_greater_by dc_greater_by pm_greater_by cd_greater_by ct_greater_by : Value}
    {f_four_shown_a : Addr} {od_four_shown an_four_shown : Option Addr} {sl_four_shown : Array (Option Value)} {oc_four_shown kV_four_shown dc_four_shown pm_four_shown cd_four_shown ct_four_shown : Value}
    {f__law_masks_a : Addr} {od__law_masks an__law_masks : Option Addr} {sl__law_masks : Array (Option Value)} {oc__law_masks kV__law_masks dc__law_masks pm__law_masks cd__law_masks ct__law_masks : Value}
    {f__law_rank_a : Addr} {od__law_rank an__law_rank : Option Addr} {sl__law_rank : Array (Option Value)} {oc__law_rank kV__law_rank dc__law_rank pm__law_rank cd__law_rank ct__law_rank : Value}
    {f__law_views_a : Addr} {od__law_views an__law_views : Option Addr} {sl__law_views : Array (Option Value)} {oc__law_views kV__law_views dc__law_views pm__law_views cd__law_views ct__law_views : Value}
    {f__law_numbers_a : Addr} {od__law_numbers an__law_numbers : Option Addr} {sl__law_numbers : Array (Option Value)} {oc__law_numbers kV__law_numbers dc__law_numbers pm__law_numbers cd__law_numbers ct__law_numbers : Value}
    {f_law_a : Addr} {od_law an_law : Option Addr} {sl_law : Array (Option Value)} {oc_law kV_law dc_law pm_law cd_law ct_law : Value}
    (x1_Basis : PySem.W.nsIn K mainGlobals "Basis" = some (some (.ref C_Basis)))
    (x2_Basis : PySem.W.plainGet K C_Basis Str.empty = true)
    (x3_Basis : PySem.W.hasDictIn K C_Basis = true)
    (x4_Basis : PySem.W.plainOver K C_Basis = true)
    (x5_Basis : PySem.W.findIn K (.ref C_Basis) "__setattr__" = some (some (.builtin "object.__setattr__")))
    (x6_Basis : PySem.W.makesIn K C_Basis = true)
    (x7_Basis : PySem.W.keepIn K (.ref C_Basis) = true)
    (na_Basis_rows : PySem.W.findIn K (.ref C_Basis) "rows" = some none)
    (a__law_mixed : PySem.W.nsIn K mainGlobals "_law_mixed" = some (some (.ref f__law_mixed_a)))
    (l__law_mixed : K.lookup f__law_mixed_a = some ⟨oc__law_mixed, od__law_mixed, .func (PySem.W.fnOf "_law_mixed" "_law_mixed" (defArgs s__law_mixed) (defBody s__law_mixed) (defScope s__law_mixed) .none kV__law_mixed dc__law_mixed pm__law_mixed an__law_mixed cd__law_mixed ct__law_mixed), sl__law_mixed⟩)
    (c__law_mixed : PySem.W.codeIn K cd__law_mixed "_law_mixed" = true) (k__law_mixed : PySem.W.keepIn K (.ref f__law_mixed_a) = true)
    (a__law_take : PySem.W.nsIn K mainGlobals "_law_take" = some (some (.ref f__law_take_a)))
    (l__law_take : K.lookup f__law_take_a = some ⟨oc__law_take, od__law_take, .func (PySem.W.fnOf "_law_take" "_law_take" (defArgs s__law_take) (defBody s__law_take) (defScope s__law_take) .none kV__law_take dc__law_take pm__law_take an__law_take cd__law_take ct__law_take), sl__law_take⟩)
    (c__law_take : PySem.W.codeIn K cd__law_take "_law_take" = true) (k__law_take : PySem.W.keepIn K (.ref f__law_take_a) = true)
    (a__law_pile : PySem.W.nsIn K mainGlobals "_law_pile" = some (some (.ref f__law_pile_a)))
    (l__law_pile : K.lookup f__law_pile_a = some ⟨oc__law_pile, od__law_pile, .func (PySem.W.fnOf "_law_pile" "_law_pile" (defArgs s__law_pile) (defBody s__law_pile) (defScope s__law_pile) .none kV__law_pile dc__law_pile pm__law_pile an__law_pile cd__law_pile ct__law_pile), sl__law_pile⟩)
    (c__law_pile : PySem.W.codeIn K cd__law_pile "_law_pile" = true) (k__law_pile : PySem.W.keepIn K (.ref f__law_pile_a) = true)
    (a__law_heap : PySem.W.nsIn K mainGlobals "_law_heap" = some (some (.ref f__law_heap_a)))
    (l__law_heap : K.lookup f__law_heap_a = some ⟨oc__law_heap, od__law_heap, .func (PySem.W.fnOf "_law_heap" "_law_heap" (defArgs s__law_heap) (defBody s__law_heap) (defScope s__law_heap) .none kV__law_heap dc__law_heap pm__law_heap an__law_heap cd__law_heap ct__law_heap), sl__law_heap⟩)
    (c__law_heap : PySem.W.codeIn K cd__law_heap "_law_heap" = true) (k__law_heap : PySem.W.keepIn K (.ref f__law_heap_a) = true)
    (a__law_order : PySem.W.nsIn K mainGlobals "_law_order" = some (some (.ref f__law_order_a)))
    (l__law_order : K.lookup f__law_order_a = some ⟨oc__law_order, od__law_order, .func (PySem.W.fnOf "_law_order" "_law_order" (defArgs s__law_order) (defBody s__law_order) (defScope s__law_order) .none kV__law_order dc__law_order pm__law_order an__law_order cd__law_order ct__law_order), sl__law_order⟩)
    (c__law_order : PySem.W.codeIn K cd__law_order "_law_order" = true) (k__law_order : PySem.W.keepIn K (.ref f__law_order_a) = true)
    (a_Basis_init : PySem.W.findIn K (.ref C_Basis) "__init__" = some (some (.ref f_Basis_init_a))) (i_Basis_init : PySem.W.isFn K (.ref f_Basis_init_a) = true)
    (l_Basis_init : K.lookup f_Basis_init_a = some ⟨oc_Basis_init, od_Basis_init, .func (PySem.W.fnOf "__init__" "Basis.__init__" (defArgs s_Basis_init) (defBody s_Basis_init) (defScope s_Basis_init) .none kV_Basis_init dc_Basis_init pm_Basis_init an_Basis_init cd_Basis_init ct_Basis_init), sl_Basis_init⟩)
    (c_Basis_init : PySem.W.codeIn K cd_Basis_init "Basis.__init__" = true) (k_Basis_init : PySem.W.keepIn K (.ref f_Basis_init_a) = true)
    (a_mask_of : PySem.W.nsIn K mainGlobals "mask_of" = some (some (.ref f_mask_of_a)))
    (l_mask_of : K.lookup f_mask_of_a = some ⟨oc_mask_of, od_mask_of, .func (PySem.W.fnOf "mask_of" "mask_of" (defArgs s_mask_of) (defBody s_mask_of) (defScope s_mask_of) .none kV_mask_of dc_mask_of pm_mask_of an_mask_of cd_mask_of ct_mask_of), sl_mask_of⟩)
    (c_mask_of : PySem.W.codeIn K cd_mask_of "mask_of" = true) (k_mask_of : PySem.W.keepIn K (.ref f_mask_of_a) = true)
    (a_names_in : PySem.W.nsIn K mainGlobals "names_in" = some (some (.ref f_names_in_a)))
    (l_names_in : K.lookup f_names_in_a = some ⟨oc_names_in, od_names_in, .func (PySem.W.fnOf "names_in" "names_in" (defArgs s_names_in) (defBody s_names_in) (defScope s_names_in) .none kV_names_in dc_names_in pm_names_in an_names_in cd_names_in ct_names_in), sl_names_in⟩)
    (c_names_in : PySem.W.codeIn K cd_names_in "names_in" = true) (k_names_in : PySem.W.keepIn K (.ref f_names_in_a) = true)
    (a_places_of : PySem.W.nsIn K mainGlobals "places_of" = some (some (.ref f_places_of_a)))
    (l_places_of : K.lookup f_places_of_a = some ⟨oc_places_of, od_places_of, .func (PySem.W.fnOf "places_of" "places_of" (defArgs s_places_of) (defBody s_places_of) (defScope s_places_of) .none kV_places_of dc_places_of pm_places_of an_places_of cd_places_of ct_places_of), sl_places_of⟩)
    (c_places_of : PySem.W.codeIn K cd_places_of "places_of" = true) (k_places_of : PySem.W.keepIn K (.ref f_places_of_a) = true)
    (a_masks_of : PySem.W.nsIn K mainGlobals "masks_of" = some (some (.ref f_masks_of_a)))
    (l_masks_of : K.lookup f_masks_of_a = some ⟨oc_masks_of, od_masks_of, .func (PySem.W.fnOf "masks_of" "masks_of" (defArgs s_masks_of) (defBody s_masks_of) (defScope s_masks_of) .none kV_masks_of dc_masks_of pm_masks_of an_masks_of cd_masks_of ct_masks_of), sl_masks_of⟩)
    (c_masks_of : PySem.W.codeIn K cd_masks_of "masks_of" = true) (k_masks_of : PySem.W.keepIn K (.ref f_masks_of_a) = true)
    (a_coins_of : PySem.W.nsIn K mainGlobals "coins_of" = some (some (.ref f_coins_of_a)))
    (l_coins_of : K.lookup f_coins_of_a = some ⟨oc_coins_of, od_coins_of, .func (PySem.W.fnOf "coins_of" "coins_of" (defArgs s_coins_of) (defBody s_coins_of) (defScope s_coins_of) .none kV_coins_of dc_coins_of pm_coins_of an_coins_of cd_coins_of ct_coins_of), sl_coins_of⟩)
    (c_coins_of : PySem.W.codeIn K cd_coins_of "coins_of" = true) (k_coins_of : PySem.W.keepIn K (.ref f_coins_of_a) = true)
    (a_Basis_left_of : PySem.W.findIn K (.ref C_Basis) "left_of" = some (some (.ref f_Basis_left_of_a))) (i_Basis_left_of : PySem.W.isFn K (.ref f_Basis_left_of_a) = true)
    (l_Basis_left_of : K.lookup f_Basis_left_of_a = some ⟨oc_Basis_left_of, od_Basis_left_of, .func (PySem.W.fnOf "left_of" "Basis.left_of" (defArgs s_Basis_left_of) (defBody s_Basis_left_of) (defScope s_Basis_left_of) .none kV_Basis_left_of dc_Basis_left_of pm_Basis_left_of an_Basis_left_of cd_Basis_left_of ct_Basis_left_of), sl_Basis_left_of⟩)
    (c_Basis_left_of : PySem.W.codeIn K cd_Basis_left_of "Basis.left_of" = true) (k_Basis_left_of : PySem.W.keepIn K (.ref f_Basis_left_of_a) = true)
    (a_Basis_put : PySem.W.findIn K (.ref C_Basis) "put" = some (some (.ref f_Basis_put_a))) (i_Basis_put : PySem.W.isFn K (.ref f_Basis_put_a) = true)
    (l_Basis_put : K.lookup f_Basis_put_a = some ⟨oc_Basis_put, od_Basis_put, .func (PySem.W.fnOf "put" "Basis.put" (defArgs s_Basis_put) (defBody s_Basis_put) (defScope s_Basis_put) .none kV_Basis_put dc_Basis_put pm_Basis_put an_Basis_put cd_Basis_put ct_Basis_put), sl_Basis_put⟩)
    (c_Basis_put : PySem.W.codeIn K cd_Basis_put "Basis.put" = true) (k_Basis_put : PySem.W.keepIn K (.ref f_Basis_put_a) = true)
    (a_basis_of : PySem.W.nsIn K mainGlobals "basis_of" = some (some (.ref f_basis_of_a)))
    (l_basis_of : K.lookup f_basis_of_a = some ⟨oc_basis_of, od_basis_of, .func (PySem.W.fnOf "basis_of" "basis_of" (defArgs s_basis_of) (defBody s_basis_of) (defScope s_basis_of) .none kV_basis_of dc_basis_of pm_basis_of an_basis_of cd_basis_of ct_basis_of), sl_basis_of⟩)
    (c_basis_of : PySem.W.codeIn K cd_basis_of "basis_of" = true) (k_basis_of : PySem.W.keepIn K (.ref f_basis_of_a) = true)
    (a_rank_of : PySem.W.nsIn K mainGlobals "rank_of" = some (some (.ref f_rank_of_a)))
    (l_rank_of : K.lookup f_rank_of_a = some ⟨oc_rank_of, od_rank_of, .func (PySem.W.fnOf "rank_of" "rank_of" (defArgs s_rank_of) (defBody s_rank_of) (defScope s_rank_of) .none kV_rank_of dc_rank_of pm_rank_of an_rank_of cd_rank_of ct_rank_of), sl_rank_of⟩)
    (c_rank_of : PySem.W.codeIn K cd_rank_of "rank_of" = true) (k_rank_of : PySem.W.keepIn K (.ref f_rank_of_a) = true)
    (a_common_views : PySem.W.nsIn K mainGlobals "common_views" = some (some (.ref f_common_views_a)))
    (l_common_views : K.lookup f_common_views_a = some ⟨oc_common_views, od_common_views, .func (PySem.W.fnOf "common_views" "common_views" (defArgs s_common_views) (defBody s_common_views) (defScope s_common_views) .none kV_common_views dc_common_views pm_common_views an_common_views cd_common_views ct_common_views), sl_common_views⟩)
    (c_common_views : PySem.W.codeIn K cd_common_views "common_views" = true) (k_common_views : PySem.W.keepIn K (.ref f_common_views_a) = true)
    (a_value : PySem.W.nsIn K mainGlobals "value" = some (some (.ref f_value_a)))
    (l_value : K.lookup f_value_a = some ⟨oc_value, od_value, .func (PySem.W.fnOf "value" "value" (defArgs s_value) (defBody s_value) (defScope s_value) .none kV_value dc_value pm_value an_value cd_value ct_value), sl_value⟩)
    (c_value : PySem.W.codeIn K cd_value "value" = true) (k_value : PySem.W.keepIn K (.ref f_value_a) = true)
    (a_greatest : PySem.W.nsIn K mainGlobals "greatest" = some (some (.ref f_greatest_a)))
    (l_greatest : K.lookup f_greatest_a = some ⟨oc_greatest, od_greatest, .func (PySem.W.fnOf "greatest" "greatest" (defArgs s_greatest) (defBody s_greatest) (defScope s_greatest) .none kV_greatest dc_greatest pm_greatest an_greatest cd_greatest ct_greatest), sl_greatest⟩)
    (c_greatest : PySem.W.codeIn K cd_greatest "greatest" = true) (k_greatest : PySem.W.keepIn K (.ref f_greatest_a) = true)
    (a_look_at : PySem.W.nsIn K mainGlobals "look_at" = some (some (.ref f_look_at_a)))
    (l_look_at : K.lookup f_look_at_a = some ⟨oc_look_at, od_look_at, .func (PySem.W.fnOf "look_at" "look_at" (defArgs s_look_at) (defBody s_look_at) (defScope s_look_at) .none kV_look_at dc_look_at pm_look_at an_look_at cd_look_at ct_look_at), sl_look_at⟩)
    (c_look_at : PySem.W.codeIn K cd_look_at "look_at" = true) (k_look_at : PySem.W.keepIn K (.ref f_look_at_a) = true)
    (a_row_of : PySem.W.nsIn K mainGlobals "row_of" = some (some (.ref f_row_of_a)))
    (l_row_of : K.lookup f_row_of_a = some ⟨oc_row_of, od_row_of, .func (PySem.W.fnOf "row_of" "row_of" (defArgs s_row_of) (defBody s_row_of) (defScope s_row_of) .none kV_row_of dc_row_of pm_row_of an_row_of cd_row_of ct_row_of), sl_row_of⟩)
    (c_row_of : PySem.W.codeIn K cd_row_of "row_of" = true) (k_row_of : PySem.W.keepIn K (.ref f_row_of_a) = true)
    (a_shared : PySem.W.nsIn K mainGlobals "shared" = some (some (.ref f_shared_a)))
    (l_shared : K.lookup f_shared_a = some ⟨oc_shared, od_shared, .func (PySem.W.fnOf "shared" "shared" (defArgs s_shared) (defBody s_shared) (defScope s_shared) .none kV_shared dc_shared pm_shared an_shared cd_shared ct_shared), sl_shared⟩)
    (c_shared : PySem.W.codeIn K cd_shared "shared" = true) (k_shared : PySem.W.keepIn K (.ref f_shared_a) = true)
    (a_coin_table : PySem.W.nsIn K mainGlobals "coin_table" = some (some (.ref f_coin_table_a)))
    (l_coin_table : K.lookup f_coin_table_a = some ⟨oc_coin_table, od_coin_table, .func (PySem.W.fnOf "coin_table" "coin_table" (defArgs s_coin_table) (defBody s_coin_table) (defScope s_coin_table) .none kV_coin_table dc_coin_table pm_coin_table an_coin_table cd_coin_table ct_coin_table), sl_coin_table⟩)
    (c_coin_table : PySem.W.codeIn K cd_coin_table "coin_table" = true) (k_coin_table : PySem.W.keepIn K (.ref f_coin_table_a) = true)
    (a_greater_by : PySem.W.nsIn K mainGlobals "greater_by" = some (some (.ref f_greater_by_a)))
    (l_greater_by : K.lookup f_greater_by_a = some ⟨oc_greater_by, od_greater_by, .func (PySem.W.fnOf "greater_by" "greater_by" (defArgs s_greater_by) (defBody s_greater_by) (defScope s_greater_by) .none kV_greater_by dc_greater_by pm_greater_by an_greater_by cd_greater_by ct_greater_by), sl_greater_by⟩)
    (c_greater_by : PySem.W.codeIn K cd_greater_by "greater_by" = true) (k_greater_by : PySem.W.keepIn K (.ref f_greater_by_a) = true)
    (a_four_shown : PySem.W.nsIn K mainGlobals "four_shown" = some (some (.ref f_four_shown_a)))
    (l_four_shown : K.lookup f_four_shown_a = some ⟨oc_four_shown, od_four_shown, .func (PySem.W.fnOf "four_shown" "four_shown" (defArgs s_four_shown) (defBody s_four_shown) (defScope s_four_shown) .none kV_four_shown dc_four_shown pm_four_shown an_four_shown cd_four_shown ct_four_shown), sl_four_shown⟩)
    (c_four_shown : PySem.W.codeIn K cd_four_shown "four_shown" = true) (k_four_shown : PySem.W.keepIn K (.ref f_four_shown_a) = true)
    (a__law_masks : PySem.W.nsIn K mainGlobals "_law_masks" = some (some (.ref f__law_masks_a)))
    (l__law_masks : K.lookup f__law_masks_a = some ⟨oc__law_masks, od__law_masks, .func (PySem.W.fnOf "_law_masks" "_law_masks" (defArgs s__law_masks) (defBody s__law_masks) (defScope s__law_masks) .none kV__law_masks dc__law_masks pm__law_masks an__law_masks cd__law_masks ct__law_masks), sl__law_masks⟩)
    (c__law_masks : PySem.W.codeIn K cd__law_masks "_law_masks" = true) (k__law_masks : PySem.W.keepIn K (.ref f__law_masks_a) = true)
    (a__law_rank : PySem.W.nsIn K mainGlobals "_law_rank" = some (some (.ref f__law_rank_a)))
    (l__law_rank : K.lookup f__law_rank_a = some ⟨oc__law_rank, od__law_rank, .func (PySem.W.fnOf "_law_rank" "_law_rank" (defArgs s__law_rank) (defBody s__law_rank) (defScope s__law_rank) .none kV__law_rank dc__law_rank pm__law_rank an__law_rank cd__law_rank ct__law_rank), sl__law_rank⟩)
    (c__law_rank : PySem.W.codeIn K cd__law_rank "_law_rank" = true) (k__law_rank : PySem.W.keepIn K (.ref f__law_rank_a) = true)
    (a__law_views : PySem.W.nsIn K mainGlobals "_law_views" = some (some (.ref f__law_views_a)))
    (l__law_views : K.lookup f__law_views_a = some ⟨oc__law_views, od__law_views, .func (PySem.W.fnOf "_law_views" "_law_views" (defArgs s__law_views) (defBody s__law_views) (defScope s__law_views) .none kV__law_views dc__law_views pm__law_views an__law_views cd__law_views ct__law_views), sl__law_views⟩)
    (c__law_views : PySem.W.codeIn K cd__law_views "_law_views" = true) (k__law_views : PySem.W.keepIn K (.ref f__law_views_a) = true)
    (a__law_numbers : PySem.W.nsIn K mainGlobals "_law_numbers" = some (some (.ref f__law_numbers_a)))
    (l__law_numbers : K.lookup f__law_numbers_a = some ⟨oc__law_numbers, od__law_numbers, .func (PySem.W.fnOf "_law_numbers" "_law_numbers" (defArgs s__law_numbers) (defBody s__law_numbers) (defScope s__law_numbers) .none kV__law_numbers dc__law_numbers pm__law_numbers an__law_numbers cd__law_numbers ct__law_numbers), sl__law_numbers⟩)
    (c__law_numbers : PySem.W.codeIn K cd__law_numbers "_law_numbers" = true) (k__law_numbers : PySem.W.keepIn K (.ref f__law_numbers_a) = true)
    (a_law : PySem.W.nsIn K mainGlobals "law" = some (some (.ref f_law_a)))
    (l_law : K.lookup f_law_a = some ⟨oc_law, od_law, .func (PySem.W.fnOf "law" "law" (defArgs s_law) (defBody s_law) (defScope s_law) .none kV_law dc_law pm_law an_law cd_law ct_law), sl_law⟩)
    (c_law : PySem.W.codeIn K cd_law "law" = true) (k_law : PySem.W.keepIn K (.ref f_law_a) = true)
    (z_len : PySem.W.nsIn K mainGlobals "len" = some none)
    (z_abs : PySem.W.nsIn K mainGlobals "abs" = some none)
    (z_int : PySem.W.nsIn K mainGlobals "int" = some none)
    (z_range : PySem.W.nsIn K mainGlobals "range" = some none)
    (z_list : PySem.W.nsIn K mainGlobals "list" = some none)
    (z_sum : PySem.W.nsIn K mainGlobals "sum" = some none)
    (z_enumerate : PySem.W.nsIn K mainGlobals "enumerate" = some none)
    (z_zip : PySem.W.nsIn K mainGlobals "zip" = some none)
    (z_min : PySem.W.nsIn K mainGlobals "min" = some none)
    (z_isinstance : PySem.W.nsIn K mainGlobals "isinstance" = some none)
    (z_sorted : PySem.W.nsIn K mainGlobals "sorted" = some none)
    (z_set : PySem.W.nsIn K mainGlobals "set" = some none)
    (z_bool : PySem.W.nsIn K mainGlobals "bool" = some none)
    (z_tuple : PySem.W.nsIn K mainGlobals "tuple" = some none)
    {t_MOST : Tok} (v_MOST : PySem.W.nsIn K mainGlobals "MOST" = some (some (.int 4 t_MOST)))
    {t_NAMES : Tok} (v_NAMES : PySem.W.nsIn K mainGlobals "NAMES" = some (some (.int 4 t_NAMES)))
    : ∃ fd : FuncData, (∀ (s : Shared) (v : Value), BindsTo s fd ⟨[v], []⟩ [("_law_script", v)]) ∧ ∀ base : Heap, K.In base → base.Ns mainGlobals mg → FnG l.prog w K mg base CX0 7 fa fd ["_law_script"] (spL K) := by
  let ca : ClsA := ⟨fun n => [C_Basis].getD n 0⟩
  have e := hfa.symm.trans (PySem.W.mg_of X G a_law)
  cases e
  have T : Txt K mg := ⟨⟨x2_Basis, x3_Basis, x4_Basis, x5_Basis⟩, PySem.W.mg_of X G x1_Basis, na_Basis_rows, PySem.W.mg_none_of X G z_len, PySem.W.mg_none_of X G z_abs, PySem.W.mg_none_of X G z_int, PySem.W.mg_none_of X G z_range, PySem.W.mg_none_of X G z_list, PySem.W.mg_none_of X G z_sum, PySem.W.mg_none_of X G z_enumerate, PySem.W.mg_none_of X G z_zip, PySem.W.mg_none_of X G z_min, PySem.W.mg_none_of X G z_isinstance, PySem.W.mg_none_of X G z_sorted, PySem.W.mg_none_of X G z_set, PySem.W.mg_none_of X G z_bool, PySem.W.mg_none_of X G z_tuple, ⟨_, PySem.W.mg_of X G v_MOST⟩, ⟨_, PySem.W.mg_of X G v_NAMES⟩⟩
  have F__law_mixed := fun_mk (st := s__law_mixed) l__law_mixed c__law_mixed k__law_mixed
  have b__law_mixed := F__law_mixed.binds (ps := ["_law_cell", "_law_k"]) fun _ _ _ _ _ _ us hl => match us, hl with | [_, _], _ => rfl
  have F__law_take := fun_mk (st := s__law_take) l__law_take c__law_take k__law_take
  have b__law_take := F__law_take.binds (ps := ["_law_pile_here", "_law_many"]) fun _ _ _ _ _ _ us hl => match us, hl with | [_, _], _ => rfl
  have F__law_pile := fun_mk (st := s__law_pile) l__law_pile c__law_pile k__law_pile
  have b__law_pile := F__law_pile.binds (ps := ["_law_script", "_law_k"]) fun _ _ _ _ _ _ us hl => match us, hl with | [_, _], _ => rfl
  have F__law_heap := fun_mk (st := s__law_heap) l__law_heap c__law_heap k__law_heap
  have b__law_heap := F__law_heap.binds (ps := ["_law_script", "_law_start", "_law_n"]) fun _ _ _ _ _ _ us hl => match us, hl with | [_, _, _], _ => rfl
  have F__law_order := fun_mk (st := s__law_order) l__law_order c__law_order k__law_order
  have b__law_order := F__law_order.binds (ps := ["_law_pile_here", "_law_n"]) fun _ _ _ _ _ _ us hl => match us, hl with | [_, _], _ => rfl
  have F_Basis_init := fun_mk (st := s_Basis_init) l_Basis_init c_Basis_init k_Basis_init
  have b_Basis_init := F_Basis_init.binds (ps := ["self"]) fun _ _ _ _ _ _ us hl => match us, hl with | [_], _ => rfl
  have F_mask_of := fun_mk (st := s_mask_of) l_mask_of c_mask_of k_mask_of
  have b_mask_of := F_mask_of.binds (ps := ["coins"]) fun _ _ _ _ _ _ us hl => match us, hl with | [_], _ => rfl
  have F_names_in := fun_mk (st := s_names_in) l_names_in c_names_in k_names_in
  have b_names_in := F_names_in.binds (ps := ["heap", "g"]) fun _ _ _ _ _ _ us hl => match us, hl with | [_, _], _ => rfl
  have F_places_of := fun_mk (st := s_places_of) l_places_of c_places_of k_places_of
  have b_places_of := F_places_of.binds (ps := ["heap", "g"]) fun _ _ _ _ _ _ us hl => match us, hl with | [_, _], _ => rfl
  have F_masks_of := fun_mk (st := s_masks_of) l_masks_of c_masks_of k_masks_of
  have b_masks_of := F_masks_of.binds (ps := ["heap", "g"]) fun _ _ _ _ _ _ us hl => match us, hl with | [_, _], _ => rfl
  have F_coins_of := fun_mk (st := s_coins_of) l_coins_of c_coins_of k_coins_of
  have b_coins_of := F_coins_of.binds (ps := ["mask"]) fun _ _ _ _ _ _ us hl => match us, hl with | [_], _ => rfl
  have F_Basis_left_of := fun_mk (st := s_Basis_left_of) l_Basis_left_of c_Basis_left_of k_Basis_left_of
  have b_Basis_left_of := F_Basis_left_of.binds (ps := ["self", "mask", "way"]) fun _ _ _ _ _ _ us hl => match us, hl with | [_, _, _], _ => rfl
  have F_Basis_put := fun_mk (st := s_Basis_put) l_Basis_put c_Basis_put k_Basis_put
  have b_Basis_put := F_Basis_put.binds (ps := ["self", "mask", "way"]) fun _ _ _ _ _ _ us hl => match us, hl with | [_, _, _], _ => rfl
  have F_basis_of := fun_mk (st := s_basis_of) l_basis_of c_basis_of k_basis_of
  have b_basis_of := F_basis_of.binds (ps := ["masks"]) fun _ _ _ _ _ _ us hl => match us, hl with | [_], _ => rfl
  have F_rank_of := fun_mk (st := s_rank_of) l_rank_of c_rank_of k_rank_of
  have b_rank_of := F_rank_of.binds (ps := ["masks"]) fun _ _ _ _ _ _ us hl => match us, hl with | [_], _ => rfl
  have F_common_views := fun_mk (st := s_common_views) l_common_views c_common_views k_common_views
  have b_common_views := F_common_views.binds (ps := ["heap", "a", "b"]) fun _ _ _ _ _ _ us hl => match us, hl with | [_, _, _], _ => rfl
  have F_value := fun_mk (st := s_value) l_value c_value k_value
  have b_value := F_value.binds (ps := ["row", "table"]) fun _ _ _ _ _ _ us hl => match us, hl with | [_, _], _ => rfl
  have F_greatest := fun_mk (st := s_greatest) l_greatest c_greatest k_greatest
  have b_greatest := F_greatest.binds (ps := ["n"]) fun _ _ _ _ _ _ us hl => match us, hl with | [_], _ => rfl
  have F_look_at := fun_mk (st := s_look_at) l_look_at c_look_at k_look_at
  have b_look_at := F_look_at.binds (ps := ["n", "some"]) fun _ _ _ _ _ _ us hl => match us, hl with | [_, _], _ => rfl
  have F_row_of := fun_mk (st := s_row_of) l_row_of c_row_of k_row_of
  have b_row_of := F_row_of.binds (ps := ["n", "terms"]) fun _ _ _ _ _ _ us hl => match us, hl with | [_, _], _ => rfl
  have F_shared := fun_mk (st := s_shared) l_shared c_shared k_shared
  have b_shared := F_shared.binds (ps := ["n", "a", "b", "c"]) fun _ _ _ _ _ _ us hl => match us, hl with | [_, _, _, _], _ => rfl
  have F_coin_table := fun_mk (st := s_coin_table) l_coin_table c_coin_table k_coin_table
  have b_coin_table := F_coin_table.binds (ps := ["heap"]) fun _ _ _ _ _ _ us hl => match us, hl with | [_], _ => rfl
  have F_greater_by := fun_mk (st := s_greater_by) l_greater_by c_greater_by k_greater_by
  have b_greater_by := F_greater_by.binds (ps := ["heap", "name", "views"]) fun _ _ _ _ _ _ us hl => match us, hl with | [_, _, _], _ => rfl
  have F_four_shown := fun_mk (st := s_four_shown) l_four_shown c_four_shown k_four_shown
  have b_four_shown := F_four_shown.binds (ps := ["heap", "i", "j", "k", "l"]) fun _ _ _ _ _ _ us hl => match us, hl with | [_, _, _, _, _], _ => rfl
  have F__law_masks := fun_mk (st := s__law_masks) l__law_masks c__law_masks k__law_masks
  have b__law_masks := F__law_masks.binds (ps := ["_law_heap_here", "_law_names"]) fun _ _ _ _ _ _ us hl => match us, hl with | [_, _], _ => rfl
  have F__law_rank := fun_mk (st := s__law_rank) l__law_rank c__law_rank k__law_rank
  have b__law_rank := F__law_rank.binds (ps := ["_law_masks_here"]) fun _ _ _ _ _ _ us hl => match us, hl with | [_], _ => rfl
  have F__law_views := fun_mk (st := s__law_views) l__law_views c__law_views k__law_views
  have b__law_views := F__law_views.binds (ps := ["_law_found", "_law_heap_here", "_law_order_here"]) fun _ _ _ _ _ _ us hl => match us, hl with | [_, _, _], _ => rfl
  have F__law_numbers := fun_mk (st := s__law_numbers) l__law_numbers c__law_numbers k__law_numbers
  have b__law_numbers := F__law_numbers.binds (ps := ["_law_found", "_law_heap_here", "_law_order_here"]) fun _ _ _ _ _ _ us hl => match us, hl with | [_, _, _], _ => rfl
  have F_law := fun_mk (st := s_law) l_law c_law k_law
  refine ex_fun F_law (fun s v => BindsTo.of_eq rfl) fun base _ _ => ?_
  have D__law_mixed : Df l.prog w K mg base "_law_mixed" 1 ["_law_cell", "_law_k"] f__law_mixed := ⟨_, _, PySem.W.mg_of X G a__law_mixed, k__law_mixed, b__law_mixed, ok__law_mixed T F__law_mixed⟩
  have D__law_take : Df l.prog w K mg base "_law_take" 2 ["_law_pile_here", "_law_many"] f__law_take := ⟨_, _, PySem.W.mg_of X G a__law_take, k__law_take, b__law_take, ok__law_take T F__law_take D__law_mixed⟩
  have D__law_pile : Df l.prog w K mg base "_law_pile" 1 ["_law_script", "_law_k"] f__law_pile := ⟨_, _, PySem.W.mg_of X G a__law_pile, k__law_pile, b__law_pile, ok__law_pile T F__law_pile⟩
  have D__law_heap : Df l.prog w K mg base "_law_heap" 3 ["_law_script", "_law_start", "_law_n"] f__law_heap := ⟨_, _, PySem.W.mg_of X G a__law_heap, k__law_heap, b__law_heap, ok__law_heap T F__law_heap D__law_take D__law_pile⟩
  have D__law_order : Df l.prog w K mg base "_law_order" 3 ["_law_pile_here", "_law_n"] f__law_order := ⟨_, _, PySem.W.mg_of X G a__law_order, k__law_order, b__law_order, ok__law_order T F__law_order D__law_take⟩
  have D_Basis_init : Di l.prog w K mg base (ca.at_ 0) 1 ["self"] f_Basis_init := ⟨_, _, ⟨x6_Basis, a_Basis_init, i_Basis_init, x7_Basis⟩, b_Basis_init, ok_Basis_init T F_Basis_init⟩
  have D_mask_of : Df l.prog w K mg base "mask_of" 1 ["coins"] f_mask_of := ⟨_, _, PySem.W.mg_of X G a_mask_of, k_mask_of, b_mask_of, ok_mask_of T F_mask_of⟩
  have D_names_in : Df l.prog w K mg base "names_in" 1 ["heap", "g"] f_names_in := ⟨_, _, PySem.W.mg_of X G a_names_in, k_names_in, b_names_in, ok_names_in T F_names_in⟩
  have D_places_of : Df l.prog w K mg base "places_of" 2 ["heap", "g"] f_places_of := ⟨_, _, PySem.W.mg_of X G a_places_of, k_places_of, b_places_of, ok_places_of T F_places_of D_names_in⟩
  have D_masks_of : Df l.prog w K mg base "masks_of" 3 ["heap", "g"] f_masks_of := ⟨_, _, PySem.W.mg_of X G a_masks_of, k_masks_of, b_masks_of, ok_masks_of T F_masks_of D_places_of D_mask_of⟩
  have D_coins_of : Df l.prog w K mg base "coins_of" 1 ["mask"] f_coins_of := ⟨_, _, PySem.W.mg_of X G a_coins_of, k_coins_of, b_coins_of, ok_coins_of T F_coins_of⟩
  have D_Basis_left_of : Dm l.prog w K mg base (ca.at_ 0) "left_of" 1 ["self", "mask", "way"] f_Basis_left_of := ⟨_, _, ⟨a_Basis_left_of, i_Basis_left_of, k_Basis_left_of⟩, b_Basis_left_of, ok_Basis_left_of T F_Basis_left_of⟩
  have D_Basis_put : Dm l.prog w K mg base (ca.at_ 0) "put" 2 ["self", "mask", "way"] f_Basis_put := ⟨_, _, ⟨a_Basis_put, i_Basis_put, k_Basis_put⟩, b_Basis_put, ok_Basis_put T F_Basis_put D_Basis_left_of⟩
  have D_basis_of : Df l.prog w K mg base "basis_of" 3 ["masks"] f_basis_of := ⟨_, _, PySem.W.mg_of X G a_basis_of, k_basis_of, b_basis_of, ok_basis_of T F_basis_of D_Basis_init D_Basis_put⟩
  have D_rank_of : Df l.prog w K mg base "rank_of" 4 ["masks"] f_rank_of := ⟨_, _, PySem.W.mg_of X G a_rank_of, k_rank_of, b_rank_of, ok_rank_of T F_rank_of D_basis_of⟩
  have D_common_views : Df l.prog w K mg base "common_views" 5 ["heap", "a", "b"] f_common_views := ⟨_, _, PySem.W.mg_of X G a_common_views, k_common_views, b_common_views, ok_common_views T F_common_views D_Basis_init D_masks_of D_Basis_put D_rank_of D_coins_of⟩
  have D_value : Df l.prog w K mg base "value" 1 ["row", "table"] f_value := ⟨_, _, PySem.W.mg_of X G a_value, k_value, b_value, ok_value T F_value⟩
  have D_greatest : Df l.prog w K mg base "greatest" 1 ["n"] f_greatest := ⟨_, _, PySem.W.mg_of X G a_greatest, k_greatest, b_greatest, ok_greatest T F_greatest⟩
  have D_look_at : Df l.prog w K mg base "look_at" 2 ["n", "some"] f_look_at := ⟨_, _, PySem.W.mg_of X G a_look_at, k_look_at, b_look_at, ok_look_at T F_look_at D_greatest⟩
  have D_row_of : Df l.prog w K mg base "row_of" 2 ["n", "terms"] f_row_of := ⟨_, _, PySem.W.mg_of X G a_row_of, k_row_of, b_row_of, ok_row_of T F_row_of D_greatest⟩
  have D_shared : Df l.prog w K mg base "shared" 3 ["n", "a", "b", "c"] f_shared := ⟨_, _, PySem.W.mg_of X G a_shared, k_shared, b_shared, ok_shared T F_shared D_look_at D_row_of⟩
  have D_coin_table : Df l.prog w K mg base "coin_table" 5 ["heap"] f_coin_table := ⟨_, _, PySem.W.mg_of X G a_coin_table, k_coin_table, b_coin_table, ok_coin_table T F_coin_table D_rank_of D_masks_of⟩
  have D_greater_by : Df l.prog w K mg base "greater_by" 5 ["heap", "name", "views"] f_greater_by := ⟨_, _, PySem.W.mg_of X G a_greater_by, k_greater_by, b_greater_by, ok_greater_by T F_greater_by D_masks_of D_rank_of D_mask_of⟩
  have D_four_shown : Df l.prog w K mg base "four_shown" 6 ["heap", "i", "j", "k", "l"] f_four_shown := ⟨_, _, PySem.W.mg_of X G a_four_shown, k_four_shown, b_four_shown, ok_four_shown T F_four_shown D_common_views D_value D_coin_table D_shared D_greater_by⟩
  have D__law_masks : Df l.prog w K mg base "_law_masks" 1 ["_law_heap_here", "_law_names"] f__law_masks := ⟨_, _, PySem.W.mg_of X G a__law_masks, k__law_masks, b__law_masks, ok__law_masks T F__law_masks⟩
  have D__law_rank : Df l.prog w K mg base "_law_rank" 1 ["_law_masks_here"] f__law_rank := ⟨_, _, PySem.W.mg_of X G a__law_rank, k__law_rank, b__law_rank, ok__law_rank T F__law_rank⟩
  have D__law_views : Df l.prog w K mg base "_law_views" 2 ["_law_found", "_law_heap_here", "_law_order_here"] f__law_views := ⟨_, _, PySem.W.mg_of X G a__law_views, k__law_views, b__law_views, ok__law_views T F__law_views D__law_masks D__law_rank⟩
  have D__law_numbers : Df l.prog w K mg base "_law_numbers" 2 ["_law_found", "_law_heap_here", "_law_order_here"] f__law_numbers := ⟨_, _, PySem.W.mg_of X G a__law_numbers, k__law_numbers, b__law_numbers, ok__law_numbers T F__law_numbers D__law_masks D__law_rank⟩
  exact fnOk_imp (ok_law T F_law D__law_heap D__law_order D__law_pile D_four_shown D__law_views D__law_numbers) fun vs H Q E h => h ca
end G70
open PySem PySem.W PyProof.Rows in
set_option maxRecDepth 100000 in
set_option maxHeartbeats 0 in
theorem PySem.Challenge.cw_telltight_k70_why_a_heap_keeps_it_holds : PySem.Challenge.rw_telltight_k70_why_a_heap_keeps_it.Holds := by
  w_on; o_law; k_head; (case hw => w_witness2)
  k_fill
  refine T2.walk_g (l := PySem.Challenge.rw_telltight_k70_why_a_heap_keeps_it) (n := 63) (k := 7) (x := "_law_script") (sp := fun w => G70.spL _) rfl (by decide) rfl ⟨rfl, by decide, by decide⟩ (fun w h Y => PySem.W.kIn_of Y) ?F (fun _ _ a ns hl hb hS => fun ca => T2.law_sp (G70.law_true (ca := ca)) hl hb hS)
  case F =>
    intro w mg fa h KX G hmg
    refine' G70.all_mk KX G hmg ?x1_Basis ?x2_Basis ?x3_Basis ?x4_Basis ?x5_Basis ?x6_Basis ?x7_Basis ?na_Basis_rows ?a__law_mixed ?l__law_mixed ?c__law_mixed ?k__law_mixed ?a__law_take ?l__law_take ?c__law_take ?k__law_take ?a__law_pile ?l__law_pile ?c__law_pile ?k__law_pile ?a__law_heap ?l__law_heap ?c__law_heap ?k__law_heap ?a__law_order ?l__law_order ?c__law_order ?k__law_order ?a_Basis_init ?i_Basis_init ?l_Basis_init ?c_Basis_init ?k_Basis_init ?a_mask_of ?l_mask_of ?c_mask_of ?k_mask_of ?a_names_in ?l_names_in ?c_names_in ?k_names_in ?a_places_of ?l_places_of ?c_places_of ?k_places_of ?a_masks_of ?l_masks_of ?c_masks_of ?k_masks_of ?a_coins_of ?l_coins_of ?c_coins_of ?k_coins_of ?a_Basis_left_of ?i_Basis_left_of ?l_Basis_left_of ?c_Basis_left_of ?k_Basis_left_of ?a_Basis_put ?i_Basis_put ?l_Basis_put ?c_Basis_put ?k_Basis_put ?a_basis_of ?l_basis_of ?c_basis_of ?k_basis_of ?a_rank_of ?l_rank_of ?c_rank_of ?k_rank_of ?a_common_views ?l_common_views ?c_common_views ?k_common_views ?a_value ?l_value ?c_value ?k_value ?a_greatest ?l_greatest ?c_greatest ?k_greatest ?a_look_at ?l_look_at ?c_look_at ?k_look_at ?a_row_of ?l_row_of ?c_row_of ?k_row_of ?a_shared ?l_shared ?c_shared ?k_shared ?a_coin_table ?l_coin_table ?c_coin_table ?k_coin_table ?a_greater_by ?l_greater_by ?c_greater_by ?k_greater_by ?a_four_shown ?l_four_shown ?c_four_shown ?k_four_shown ?a__law_masks ?l__law_masks ?c__law_masks ?k__law_masks ?a__law_rank ?l__law_rank ?c__law_rank ?k__law_rank ?a__law_views ?l__law_views ?c__law_views ?k__law_views ?a__law_numbers ?l__law_numbers ?c__law_numbers ?k__law_numbers ?a_law ?l_law ?c_law ?k_law ?z_len ?z_abs ?z_int ?z_range ?z_list ?z_sum ?z_enumerate ?z_zip ?z_min ?z_isinstance ?z_sorted ?z_set ?z_bool ?z_tuple ?v_MOST ?v_NAMES
    (case x1_Basis => k_is)
    (case x2_Basis => k_is)
    (case x3_Basis => k_is)
    (case x4_Basis => k_is)
    (case x5_Basis => k_is)
    (case x6_Basis => k_is)
    (case x7_Basis => k_is)
    (case na_Basis_rows => k_is)
    (case a__law_mixed => k_is)
    (case l__law_mixed => k_is)
    (case c__law_mixed => k_is)
    (case k__law_mixed => k_is)
    (case a__law_take => k_is)
    (case l__law_take => k_is)
    (case c__law_take => k_is)
    (case k__law_take => k_is)
    (case a__law_pile => k_is)
    (case l__law_pile => k_is)
    (case c__law_pile => k_is)
    (case k__law_pile => k_is)
    (case a__law_heap => k_is)
    (case l__law_heap => k_is)
    (case c__law_heap => k_is)
    (case k__law_heap => k_is)
    (case a__law_order => k_is)
    (case l__law_order => k_is)
    (case c__law_order => k_is)
    (case k__law_order => k_is)
    (case a_Basis_init => k_is)
    (case i_Basis_init => k_is)
    (case l_Basis_init => k_is)
    (case c_Basis_init => k_is)
    (case k_Basis_init => k_is)
    (case a_mask_of => k_is)
    (case l_mask_of => k_is)
    (case c_mask_of => k_is)
    (case k_mask_of => k_is)
    (case a_names_in => k_is)
    (case l_names_in => k_is)
    (case c_names_in => k_is)
    (case k_names_in => k_is)
    (case a_places_of => k_is)
    (case l_places_of => k_is)
    (case c_places_of => k_is)
    (case k_places_of => k_is)
    (case a_masks_of => k_is)
    (case l_masks_of => k_is)
    (case c_masks_of => k_is)
    (case k_masks_of => k_is)
    (case a_coins_of => k_is)
    (case l_coins_of => k_is)
    (case c_coins_of => k_is)
    (case k_coins_of => k_is)
    (case a_Basis_left_of => k_is)
    (case i_Basis_left_of => k_is)
    (case l_Basis_left_of => k_is)
    (case c_Basis_left_of => k_is)
    (case k_Basis_left_of => k_is)
    (case a_Basis_put => k_is)
    (case i_Basis_put => k_is)
    (case l_Basis_put => k_is)
    (case c_Basis_put => k_is)
    (case k_Basis_put => k_is)
    (case a_basis_of => k_is)
    (case l_basis_of => k_is)
    (case c_basis_of => k_is)
    (case k_basis_of => k_is)
    (case a_rank_of => k_is)
    (case l_rank_of => k_is)
    (case c_rank_of => k_is)
    (case k_rank_of => k_is)
    (case a_common_views => k_is)
    (case l_common_views => k_is)
    (case c_common_views => k_is)
    (case k_common_views => k_is)
    (case a_value => k_is)
    (case l_value => k_is)
    (case c_value => k_is)
    (case k_value => k_is)
    (case a_greatest => k_is)
    (case l_greatest => k_is)
    (case c_greatest => k_is)
    (case k_greatest => k_is)
    (case a_look_at => k_is)
    (case l_look_at => k_is)
    (case c_look_at => k_is)
    (case k_look_at => k_is)
    (case a_row_of => k_is)
    (case l_row_of => k_is)
    (case c_row_of => k_is)
    (case k_row_of => k_is)
    (case a_shared => k_is)
    (case l_shared => k_is)
    (case c_shared => k_is)
    (case k_shared => k_is)
    (case a_coin_table => k_is)
    (case l_coin_table => k_is)
    (case c_coin_table => k_is)
    (case k_coin_table => k_is)
    (case a_greater_by => k_is)
    (case l_greater_by => k_is)
    (case c_greater_by => k_is)
    (case k_greater_by => k_is)
    (case a_four_shown => k_is)
    (case l_four_shown => k_is)
    (case c_four_shown => k_is)
    (case k_four_shown => k_is)
    (case a__law_masks => k_is)
    (case l__law_masks => k_is)
    (case c__law_masks => k_is)
    (case k__law_masks => k_is)
    (case a__law_rank => k_is)
    (case l__law_rank => k_is)
    (case c__law_rank => k_is)
    (case k__law_rank => k_is)
    (case a__law_views => k_is)
    (case l__law_views => k_is)
    (case c__law_views => k_is)
    (case k__law_views => k_is)
    (case a__law_numbers => k_is)
    (case l__law_numbers => k_is)
    (case c__law_numbers => k_is)
    (case k__law_numbers => k_is)
    (case a_law => k_is)
    (case l_law => k_is)
    (case c_law => k_is)
    (case k_law => k_is)
    (case z_len => k_is)
    (case z_abs => k_is)
    (case z_int => k_is)
    (case z_range => k_is)
    (case z_list => k_is)
    (case z_sum => k_is)
    (case z_enumerate => k_is)
    (case z_zip => k_is)
    (case z_min => k_is)
    (case z_isinstance => k_is)
    (case z_sorted => k_is)
    (case z_set => k_is)
    (case z_bool => k_is)
    (case z_tuple => k_is)
    (case v_MOST => k_is)
    (case v_NAMES => k_is)
end
