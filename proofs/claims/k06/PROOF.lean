import PyProof.Rows.All
import Wide.All
import OpenK.AllK
import Wide.FinOn
import HandS.ForMost
import HandS.WideBits
import HandS.Deep
import HandS.IsInst
import HandS.Conv
import HandS.NoneIn
import HandS.Style
import HandS.RevRange
import KE.SortData
import HandS.TupLen
import HandS.TupSets
import HandS.DictTup
import KE.KDictList
import HandS.Zip
import HandS.EndBits
import PyProof.ReprRoads
import PyProof.ReprLen
import PyProof.Rows.RegStrFacts
import HandS.RaiseMore
import HandS.Text
import HandS.Replace
import PyProof.EnumMake
import PyProof.Draws
import KE.KxIndex
import HandS.Exc
import HandS.ExcInit
import HandS.ExcOwn
import HandS.ExcIs
import HandS.Small
import HandS.TryOnly
import KE.KExcIs
import HandS.ClsMeth
import HandS.ExcField
import HandS.Words
import PySem.Challenge.RW_telltight_k06_numbers_refused
section
set_option Elab.async false
set_option linter.all false
set_option maxRecDepth 100000
namespace T2
open PySem PySem.Spec PyProof.Rows L2
/-- data that nobody changes any more -/
inductive D where
  | non | bl (b : Bool) | int (i : Int) | str (x : Str)
  | lst (xs : List D) | tup (xs : List D) | ins (C : Addr) (fs : List (Str × D)) | scr (ns : List Int) | dic (ks : List Key) (ds : List D) | any | exc (n : Nat) (C : Addr) (fs : List (Str × D))
/-- a step of a path down an owned tree -/
inductive Pa where
  | ix (k : Nat) | fd (f : Str)
  deriving DecidableEq
/-- a tree whose nodes are owned: frozen leaves; what a slot's tree has at a path; a list, a tuple, an instance -/
inductive M where
  | fz (d : D) | bp (i : Nat) (p : List Pa)
  | ol (xs : List M) | ot (xs : List M) | oi (C : Addr) (fs : List (Str × M)) | od (lk : Bool) (kvs : List (Key × D)) | odt (ks : List (List Int))
/-- a caught exception at a: its class, its own dict -/
def excV (a C : Addr) (d : Option Addr) : HO := .ext fun h => ∃ o vs, h.get? a = some o ∧ o.cls = .ref C ∧ o.dict = d ∧ o.data = .fields vs
def toV : D → V
  | .non => .non | .bl b => .bl b | .int i => .int i | .str x => .str x | _ => .non
def scal : D → Bool
  | .non => true | .bl _ => true | .int _ => true | .str _ => true | _ => false
/-- a dict's keys with values -/
def zipK (kvs : List (Key × D)) (vs : List V) : List (Key × V) := (kvs.map (·.1)).zip vs
/-- a key of a dict of tuples: a tuple of numbers -/
def tupI (k : List Int) : D := .tup (k.map D.int)
def entI (x : List Int × Addr) : DictEntry := ⟨reduceHash (Builtin.Tuple.tupleHashOf (x.1.map hashInt)), .ref x.2, .bool true⟩
/-- the dict at p has the keys ks, which stand at vs, each with the value True -/
def dTI (p : Addr) (ks : List (List Int)) (vs : List V) : Heap → Prop := fun h => ks.length ≤ sizeLine ∧ (p == sysModules) = false ∧ ks.Nodup ∧ ∃ bs : List Addr, vs = bs.map V.ref ∧ bs.length = ks.length ∧
  ∃ o es ep, h.get? p = some o ∧ o.ExactDict ∧ o.data = .dict es ep ∧ es.toList = (ks.zip bs).map entI
/-- what stands at p is o, locked or not -/
def lkd (lk : Bool) (H : Hp) (p : Addr) (o : HO) : Prop := (lk = false ∧ H p = some o) ∨ (lk = true ∧ ∃ od, H p = some (.frz od o))
theorem lkd.mono {lk : Bool} {H H' : Hp} {p : Addr} {o : HO} (h : lkd lk H p o) (s : ∀ o, H p = some o → H' p = some o) : lkd lk H' p o := by
  rcases h with ⟨h1, h2⟩ | ⟨h1, od, h2⟩
  · exact .inl ⟨h1, s _ h2⟩
  · exact .inr ⟨h1, od, s _ h2⟩
theorem lkd.there {lk : Bool} {H : Hp} {p : Addr} {o : HO} (h : lkd lk H p o) : ∃ u, H p = some u := by
  rcases h with ⟨h1, h2⟩ | ⟨h1, od, h2⟩
  · exact ⟨_, h2⟩
  · exact ⟨_, h2⟩
section
variable (K : PySem.W.Frag)
mutual
/-- v is the data d in the heap F -/
def Rep (F : Hp) : D → V → Prop
  | .non, v => v = .non
  | .bl b, v => v = .bl b
  | .int i, v => v = .int i
  | .str x, v => v = .str x
  | .lst xs, v => ∃ a vs, v = .ref a ∧ F a = some (.lst vs) ∧ RepL F xs vs
  | .tup xs, v => ∃ a vs, v = .ref a ∧ F a = some (.tup vs) ∧ RepL F xs vs
  | .ins C fs, v => ∃ a dx gs, v = .ref a ∧ F a = some (.ins C dx gs) ∧ F dx = some (.own a) ∧ RepF F fs gs
  | .scr ns, v => ∃ a, v = .ref a ∧ SqL K F a (ns.map V.int)
  | .dic ks ds, v => ∃ a vs, v = .ref a ∧ ks.length = ds.length ∧ Rd F a (.dK (ks.zip vs)) ∧ RepL F ds vs
  | .any, v => ∃ a, v = .ref a
  | .exc _ C fs, v => ∃ a d gs, v = .ref a ∧ F a = some (excV a C d) ∧ (d = none ∨ ∃ dx, d = some dx ∧ F dx = some (.xd gs)) ∧ (d = none → gs = []) ∧ RepF F fs gs
def RepL (F : Hp) : List D → List V → Prop
  | [], vs => vs = []
  | d :: ds, vs => ∃ v r, vs = v :: r ∧ Rep F d v ∧ RepL F ds r
def RepF (F : Hp) : List (Str × D) → List (Str × V) → Prop
  | [], vs => vs = []
  | d :: ds, vs => ∃ v r, vs = (d.1, v) :: r ∧ Rep F d.2 v ∧ RepF F ds r
end
mutual
/-- v is the tree m: its frozen leaves in F, its own nodes at A, in H; br: what the places of slots are -/
def Own (br : Nat → List Pa → V → Prop) (F H : Hp) : M → V → List Addr → Prop
  | .fz d, v, A => A = [] ∧ Rep K F d v
  | .bp i p, v, A => A = [] ∧ br i p v
  | .ol ms, v, A => ∃ p vs B, v = .ref p ∧ A = p :: B ∧ F p = none ∧ H p = some (.lst vs) ∧ OwnL br F H ms vs B
  | .ot ms, v, A => ∃ p vs B, v = .ref p ∧ A = p :: B ∧ F p = none ∧ H p = some (.tup vs) ∧ OwnL br F H ms vs B
  | .oi C fs, v, A => ∃ p dx gs B, v = .ref p ∧ A = p :: dx :: B ∧ F p = none ∧ F dx = none ∧ H p = some (.ins C dx gs) ∧ H dx = some (.own p) ∧ OwnF br F H fs gs B
  | .od lk kvs, v, A => ∃ p vs, v = .ref p ∧ A = [p] ∧ F p = none ∧ lkd lk H p (.dK (zipK kvs vs)) ∧ RepL K F (kvs.map (·.2)) vs
  | .odt ks, v, A => ∃ p vs, v = .ref p ∧ A = [p] ∧ F p = none ∧ H p = some (.ext (dTI p ks vs)) ∧ RepL K F (ks.map tupI) vs
def OwnL (br : Nat → List Pa → V → Prop) (F H : Hp) : List M → List V → List Addr → Prop
  | [], vs, A => vs = [] ∧ A = []
  | m :: ms, vs, A => ∃ v r B C, vs = v :: r ∧ A = B ++ C ∧ Own br F H m v B ∧ OwnL br F H ms r C
def OwnF (br : Nat → List Pa → V → Prop) (F H : Hp) : List (Str × M) → List (Str × V) → List Addr → Prop
  | [], vs, A => vs = [] ∧ A = []
  | m :: ms, vs, A => ∃ v r B C, vs = (m.1, v) :: r ∧ A = B ++ C ∧ Own br F H m.2 v B ∧ OwnF br F H ms r C
end
end
/-- no places of slots -/
def noBr : Nat → List Pa → V → Prop := fun _ _ _ => False
def frz (F H : Hp) (A : List Addr) : Hp := fun a => if a ∈ A then H a else F a
theorem rep_sc {K : PySem.W.Frag} {F : Hp} : ∀ {d : D} {v : V}, scal d = true → (Rep K F d v ↔ v = toV d)
  | .non, v, h => by simp only [Rep, toV]
  | .bl b, v, h => by simp only [Rep, toV]
  | .int b, v, h => by simp only [Rep, toV]
  | .str b, v, h => by simp only [Rep, toV]
  | .lst xs, v, h => by cases h
  | .tup xs, v, h => by cases h
  | .ins C xs, v, h => by cases h
  | .scr xs, v, h => by cases h
  | .dic _ _, v, h => by cases h
  | .any, v, h => by cases h
  | .exc _ _ _, v, h => by cases h
section
variable {K : PySem.W.Frag}
mutual
theorem Rep.mono {F F' : Hp} (s : Same F F') : ∀ (d : D) (v : V), Rep K F d v → Rep K F' d v
  | .non, v, h => by simpa only [Rep] using h
  | .bl b, v, h => by simpa only [Rep] using h
  | .int i, v, h => by simpa only [Rep] using h
  | .str x, v, h => by simpa only [Rep] using h
  | .lst xs, v, h => by
    simp only [Rep] at h ⊢
    obtain ⟨a, vs, e, q, r⟩ := h
    exact ⟨a, vs, e, s _ _ q, RepL.mono s xs vs r⟩
  | .tup xs, v, h => by
    simp only [Rep] at h ⊢
    obtain ⟨a, vs, e, q, r⟩ := h
    exact ⟨a, vs, e, s _ _ q, RepL.mono s xs vs r⟩
  | .ins C fs, v, h => by
    simp only [Rep] at h ⊢
    obtain ⟨a, dx, gs, e, q, q2, r⟩ := h
    exact ⟨a, dx, gs, e, s _ _ q, s _ _ q2, RepF.mono s fs gs r⟩
  | .scr ns, v, h => by
    simp only [Rep] at h ⊢
    obtain ⟨a, e, q⟩ := h
    exact ⟨a, e, s.seq q⟩
  | .dic ks ds, v, h => by
    simp only [Rep] at h ⊢
    obtain ⟨a, vs, e, l, q, r⟩ := h
    exact ⟨a, vs, e, l, q.imp (s _ _) (fun ⟨o, z⟩ => ⟨o, s _ _ z⟩), RepL.mono s ds vs r⟩
  | .any, v, h => by simpa only [Rep] using h
  | .exc _ C fs, v, h => by
    simp only [Rep] at h ⊢
    obtain ⟨a, d, gs, e, q, q2, q3, r⟩ := h
    exact ⟨a, d, gs, e, s _ _ q, q2.imp id (fun ⟨dx, z1, z2⟩ => ⟨dx, z1, s _ _ z2⟩), q3, RepF.mono s fs gs r⟩
theorem RepL.mono {F F' : Hp} (s : Same F F') : ∀ (ds : List D) (vs : List V), RepL K F ds vs → RepL K F' ds vs
  | [], vs, h => by simpa only [RepL] using h
  | d :: ds, vs, h => by
    simp only [RepL] at h ⊢
    obtain ⟨v, r, e, q, q2⟩ := h
    exact ⟨v, r, e, Rep.mono s d v q, RepL.mono s ds r q2⟩
theorem RepF.mono {F F' : Hp} (s : Same F F') : ∀ (ds : List (Str × D)) (vs : List (Str × V)), RepF K F ds vs → RepF K F' ds vs
  | [], vs, h => by simpa only [RepF] using h
  | d :: ds, vs, h => by
    simp only [RepF] at h ⊢
    obtain ⟨v, r, e, q, q2⟩ := h
    exact ⟨v, r, e, Rep.mono s d.2 v q, RepF.mono s ds r q2⟩
end
mutual
/-- a tree stays: F grows away from its nodes, H keeps its nodes, places stay -/
theorem Own.mono {br br' : Nat → List Pa → V → Prop} {F H F' H' : Hp} (s : Same F F') (hb : ∀ i p v, br i p v → br' i p v) : ∀ (m : M) (v : V) (A : List Addr), Own K br F H m v A → (∀ a ∈ A, F' a = none ∧ ∀ o, H a = some o → H' a = some o) → Own K br' F' H' m v A
  | .fz d, v, A, h, k => by
    simp only [Own] at h ⊢
    exact ⟨h.1, Rep.mono s d v h.2⟩
  | .bp i p, v, A, h, k => by
    simp only [Own] at h ⊢
    exact ⟨h.1, hb _ _ _ h.2⟩
  | .ol ms, v, A, h, k => by
    simp only [Own] at h ⊢
    obtain ⟨p, vs, B, e, rfl, f, q, r⟩ := h
    exact ⟨p, vs, B, e, rfl, (k p List.mem_cons_self).1, (k p List.mem_cons_self).2 _ q, OwnL.mono s hb ms vs B r fun a ha => k a (List.mem_cons_of_mem _ ha)⟩
  | .ot ms, v, A, h, k => by
    simp only [Own] at h ⊢
    obtain ⟨p, vs, B, e, rfl, f, q, r⟩ := h
    exact ⟨p, vs, B, e, rfl, (k p List.mem_cons_self).1, (k p List.mem_cons_self).2 _ q, OwnL.mono s hb ms vs B r fun a ha => k a (List.mem_cons_of_mem _ ha)⟩
  | .oi C fs, v, A, h, k => by
    simp only [Own] at h ⊢
    obtain ⟨p, dx, gs, B, e, rfl, f, f2, q, q2, r⟩ := h
    have kp := k p List.mem_cons_self
    have kd := k dx (List.mem_cons_of_mem _ List.mem_cons_self)
    exact ⟨p, dx, gs, B, e, rfl, kp.1, kd.1, kp.2 _ q, kd.2 _ q2, OwnF.mono s hb fs gs B r fun a ha => k a (List.mem_cons_of_mem _ (List.mem_cons_of_mem _ ha))⟩
  | .od lk kvs, v, A, h, k => by
    simp only [Own] at h ⊢
    obtain ⟨p, vs, e, rfl, f, q, r⟩ := h
    have kp := k p List.mem_cons_self
    exact ⟨p, vs, e, rfl, kp.1, q.mono kp.2, RepL.mono s _ _ r⟩
  | .odt kvs, v, A, h, k => by
    simp only [Own] at h ⊢
    obtain ⟨p, vs, e, rfl, f, q, r⟩ := h
    have kp := k p List.mem_cons_self
    exact ⟨p, vs, e, rfl, kp.1, kp.2 _ q, RepL.mono s _ _ r⟩
theorem OwnL.mono {br br' : Nat → List Pa → V → Prop} {F H F' H' : Hp} (s : Same F F') (hb : ∀ i p v, br i p v → br' i p v) : ∀ (ms : List M) (vs : List V) (A : List Addr), OwnL K br F H ms vs A → (∀ a ∈ A, F' a = none ∧ ∀ o, H a = some o → H' a = some o) → OwnL K br' F' H' ms vs A
  | [], vs, A, h, k => by simpa only [OwnL] using h
  | m :: ms, vs, A, h, k => by
    simp only [OwnL] at h ⊢
    obtain ⟨v, r, B, C, e, rfl, q, q2⟩ := h
    exact ⟨v, r, B, C, e, rfl, Own.mono s hb m v B q fun a ha => k a (List.mem_append_left _ ha), OwnL.mono s hb ms r C q2 fun a ha => k a (List.mem_append_right _ ha)⟩
theorem OwnF.mono {br br' : Nat → List Pa → V → Prop} {F H F' H' : Hp} (s : Same F F') (hb : ∀ i p v, br i p v → br' i p v) : ∀ (ms : List (Str × M)) (vs : List (Str × V)) (A : List Addr), OwnF K br F H ms vs A → (∀ a ∈ A, F' a = none ∧ ∀ o, H a = some o → H' a = some o) → OwnF K br' F' H' ms vs A
  | [], vs, A, h, k => by simpa only [OwnF] using h
  | m :: ms, vs, A, h, k => by
    simp only [OwnF] at h ⊢
    obtain ⟨v, r, B, C, e, rfl, q, q2⟩ := h
    exact ⟨v, r, B, C, e, rfl, Own.mono s hb m.2 v B q fun a ha => k a (List.mem_append_left _ ha), OwnF.mono s hb ms r C q2 fun a ha => k a (List.mem_append_right _ ha)⟩
end
mutual
/-- the nodes stand in H and not in F -/
theorem Own.at {br : Nat → List Pa → V → Prop} {F H : Hp} : ∀ (m : M) (v : V) (A : List Addr), Own K br F H m v A → ∀ a ∈ A, F a = none ∧ ∃ o, H a = some o
  | .fz d, v, A, h => by
    simp only [Own] at h
    rw [h.1]
    intro a ha
    cases ha
  | .bp i p, v, A, h => by
    simp only [Own] at h
    rw [h.1]
    intro a ha
    cases ha
  | .ol ms, v, A, h => by
    simp only [Own] at h
    obtain ⟨p, vs, B, e, rfl, f, q, r⟩ := h
    intro a ha
    rcases List.mem_cons.mp ha with rfl | ha
    · exact ⟨f, _, q⟩
    · exact OwnL.at ms vs B r a ha
  | .ot ms, v, A, h => by
    simp only [Own] at h
    obtain ⟨p, vs, B, e, rfl, f, q, r⟩ := h
    intro a ha
    rcases List.mem_cons.mp ha with rfl | ha
    · exact ⟨f, _, q⟩
    · exact OwnL.at ms vs B r a ha
  | .oi C fs, v, A, h => by
    simp only [Own] at h
    obtain ⟨p, dx, gs, B, e, rfl, f, f2, q, q2, r⟩ := h
    intro a ha
    rcases List.mem_cons.mp ha with rfl | ha
    · exact ⟨f, _, q⟩
    rcases List.mem_cons.mp ha with rfl | ha
    · exact ⟨f2, _, q2⟩
    · exact OwnF.at fs gs B r a ha
  | .od lk kvs, v, A, h => by
    simp only [Own] at h
    obtain ⟨p, vs, e, rfl, f, q, r⟩ := h
    intro a ha
    rw [List.mem_singleton.mp ha]
    exact ⟨f, q.there⟩
  | .odt kvs, v, A, h => by
    simp only [Own] at h
    obtain ⟨p, vs, e, rfl, f, q, r⟩ := h
    intro a ha
    rw [List.mem_singleton.mp ha]
    exact ⟨f, _, q⟩
theorem OwnL.at {br : Nat → List Pa → V → Prop} {F H : Hp} : ∀ (ms : List M) (vs : List V) (A : List Addr), OwnL K br F H ms vs A → ∀ a ∈ A, F a = none ∧ ∃ o, H a = some o
  | [], vs, A, h => by
    simp only [OwnL] at h
    rw [h.2]
    intro a ha
    cases ha
  | m :: ms, vs, A, h => by
    simp only [OwnL] at h
    obtain ⟨v, r, B, C, e, rfl, q, q2⟩ := h
    intro a ha
    rcases List.mem_append.mp ha with ha | ha
    · exact Own.at m v B q a ha
    · exact OwnL.at ms r C q2 a ha
theorem OwnF.at {br : Nat → List Pa → V → Prop} {F H : Hp} : ∀ (ms : List (Str × M)) (vs : List (Str × V)) (A : List Addr), OwnF K br F H ms vs A → ∀ a ∈ A, F a = none ∧ ∃ o, H a = some o
  | [], vs, A, h => by
    simp only [OwnF] at h
    rw [h.2]
    intro a ha
    cases ha
  | m :: ms, vs, A, h => by
    simp only [OwnF] at h
    obtain ⟨v, r, B, C, e, rfl, q, q2⟩ := h
    intro a ha
    rcases List.mem_append.mp ha with ha | ha
    · exact Own.at m.2 v B q a ha
    · exact OwnF.at ms r C q2 a ha
end
theorem same_frz {F H : Hp} {A : List Addr} (s : Same F H) : Same F (frz F H A) := fun b o e => by
  unfold frz
  split
  · exact s _ _ e
  · exact e
theorem frz_same {F H : Hp} {A : List Addr} (s : Same F H) : Same (frz F H A) H := fun b o e => by
  unfold frz at e
  split at e
  · exact e
  · exact s _ _ e
end
mutual
/-- the data of a tree, bp: those of the places -/
def datW (bp : Nat → List Pa → Option D) : M → Option D
  | .fz d => some d
  | .bp i p => bp i p
  | .ol ms => (datWL bp ms).map D.lst
  | .ot ms => (datWL bp ms).map D.tup
  | .oi C fs => (datWF bp fs).map (D.ins C)
  | .od _ kvs => some (.dic (kvs.map (·.1)) (kvs.map (·.2)))
  | .odt _ => none
def datWL (bp : Nat → List Pa → Option D) : List M → Option (List D)
  | [] => some []
  | m :: ms => match datW bp m, datWL bp ms with
    | some d, some ds => some (d :: ds)
    | _, _ => none
def datWF (bp : Nat → List Pa → Option D) : List (Str × M) → Option (List (Str × D))
  | [] => some []
  | m :: ms => match datW bp m.2, datWF bp ms with
    | some d, some ds => some ((m.1, d) :: ds)
    | _, _ => none
end
/-- a clean tree's data -/
def dat0 : M → Option D := datW fun _ _ => none
def getF : List (Str × M) → Str → Option M
  | [], _ => none
  | p :: r, f => if p.1 = f then some p.2 else getF r f
def setF : List (Str × M) → Str → M → List (Str × M)
  | [], f, m => [(f, m)]
  | p :: r, f, m => if p.1 = f then (f, m) :: r else p :: setF r f m
def getP : M → List Pa → Option M
  | m, [] => some m
  | .ol ms, .ix k :: r => match ms[k]? with
    | some m => getP m r
    | none => none
  | .ot ms, .ix k :: r => match ms[k]? with
    | some m => getP m r
    | none => none
  | .oi _ fs, .fd f :: r => match getF fs f with
    | some m => getP m r
    | none => none
  | _, _ => none
def setP : M → List Pa → M → Option M
  | _, [], n => some n
  | .ol ms, .ix k :: r, n => match ms[k]? with
    | some m => (setP m r n).map fun m' => .ol (ms.set k m')
    | none => none
  | .ot ms, .ix k :: r, n => match ms[k]? with
    | some m => (setP m r n).map fun m' => .ot (ms.set k m')
    | none => none
  | .oi C fs, .fd f :: r, n => match getF fs f with
    | some m => (setP m r n).map fun m' => .oi C (setF fs f m')
    | none => none
  | _, _, _ => none
/-- the slots: a tree each, or nothing known -/
abbrev En := List (Option M)
def En.get (env : En) (i : Nat) : Option M := match env[i]? with
  | some (some m) => some m
  | _ => none
def En.place (env : En) (i : Nat) (p : List Pa) : Option M := match env.get i with
  | some m => getP m p
  | none => none
/-- the data of a result -/
def dat (env : En) : M → Option D := datW fun i p => match env.place i p with
  | some m => dat0 m
  | none => none
section
variable {K : PySem.W.Frag}
mutual
theorem datW_ok {br : Nat → List Pa → V → Prop} {bp : Nat → List Pa → Option D} {F H G : Hp} (s : Same F G) (hb : ∀ i p v d, br i p v → bp i p = some d → Rep K G d v) : ∀ (m : M) (v : V) (A : List Addr) (d : D), Own K br F H m v A → datW bp m = some d → (∀ a ∈ A, ∀ o, H a = some o → G a = some o) → Rep K G d v
  | .fz d, v, A, d', h, e, hA => by
    simp only [Own, datW, Option.some.injEq] at h e
    subst e
    exact Rep.mono s _ _ h.2
  | .bp i p, v, A, d', h, e, hA => by
    simp only [Own, datW] at h e
    exact hb i p v d' h.2 e
  | .ol ms, v, A, d', h, e, hA => by
    simp only [Own, datW, Option.map_eq_some_iff] at h e
    obtain ⟨p, vs, B, rfl, rfl, f, q, r⟩ := h
    obtain ⟨ds, e, rfl⟩ := e
    simp only [Rep]
    exact ⟨p, vs, rfl, hA p List.mem_cons_self _ q, datWL_ok s hb ms vs B ds r e fun a ha => hA a (List.mem_cons_of_mem _ ha)⟩
  | .ot ms, v, A, d', h, e, hA => by
    simp only [Own, datW, Option.map_eq_some_iff] at h e
    obtain ⟨p, vs, B, rfl, rfl, f, q, r⟩ := h
    obtain ⟨ds, e, rfl⟩ := e
    simp only [Rep]
    exact ⟨p, vs, rfl, hA p List.mem_cons_self _ q, datWL_ok s hb ms vs B ds r e fun a ha => hA a (List.mem_cons_of_mem _ ha)⟩
  | .oi C fs, v, A, d', h, e, hA => by
    simp only [Own, datW, Option.map_eq_some_iff] at h e
    obtain ⟨p, dx, gs, B, rfl, rfl, f, f2, q, q2, r⟩ := h
    obtain ⟨ds, e, rfl⟩ := e
    simp only [Rep]
    exact ⟨p, dx, gs, rfl, hA p List.mem_cons_self _ q, hA dx (List.mem_cons_of_mem _ List.mem_cons_self) _ q2, datWF_ok s hb fs gs B ds r e fun a ha => hA a (List.mem_cons_of_mem _ (List.mem_cons_of_mem _ ha))⟩
  | .od lk kvs, v, A, d', h, e, hA => by
    simp only [Own, datW, Option.some.injEq] at h e
    subst e
    obtain ⟨p, vs, rfl, rfl, f, q, r⟩ := h
    simp only [Rep]
    refine ⟨p, vs, rfl, by simp, ?_, RepL.mono s _ _ r⟩
    rcases q with ⟨_, q⟩ | ⟨_, od, q⟩
    · exact .inl (hA p List.mem_cons_self _ q)
    · exact .inr ⟨od, hA p List.mem_cons_self _ q⟩
  | .odt kvs, v, A, d', h, e, hA => by
    simp only [datW] at e
    cases e
theorem datWL_ok {br : Nat → List Pa → V → Prop} {bp : Nat → List Pa → Option D} {F H G : Hp} (s : Same F G) (hb : ∀ i p v d, br i p v → bp i p = some d → Rep K G d v) : ∀ (ms : List M) (vs : List V) (A : List Addr) (ds : List D), OwnL K br F H ms vs A → datWL bp ms = some ds → (∀ a ∈ A, ∀ o, H a = some o → G a = some o) → RepL K G ds vs
  | [], vs, A, ds, h, e, hA => by
    simp only [OwnL, datWL, Option.some.injEq] at h e
    subst e
    simp only [RepL]
    exact h.1
  | m :: ms, vs, A, ds, h, e, hA => by
    simp only [OwnL] at h
    obtain ⟨v, r, B, C, rfl, rfl, q, q2⟩ := h
    simp only [datWL] at e
    split at e
    · rename_i d ds' e1 e2
      cases e
      simp only [RepL]
      exact ⟨v, r, rfl, datW_ok s hb m v B d q e1 (fun a ha => hA a (List.mem_append_left _ ha)), datWL_ok s hb ms r C ds' q2 e2 fun a ha => hA a (List.mem_append_right _ ha)⟩
    · cases e
theorem datWF_ok {br : Nat → List Pa → V → Prop} {bp : Nat → List Pa → Option D} {F H G : Hp} (s : Same F G) (hb : ∀ i p v d, br i p v → bp i p = some d → Rep K G d v) : ∀ (ms : List (Str × M)) (vs : List (Str × V)) (A : List Addr) (ds : List (Str × D)), OwnF K br F H ms vs A → datWF bp ms = some ds → (∀ a ∈ A, ∀ o, H a = some o → G a = some o) → RepF K G ds vs
  | [], vs, A, ds, h, e, hA => by
    simp only [OwnF, datWF, Option.some.injEq] at h e
    subst e
    simp only [RepF]
    exact h.1
  | m :: ms, vs, A, ds, h, e, hA => by
    simp only [OwnF] at h
    obtain ⟨v, r, B, C, rfl, rfl, q, q2⟩ := h
    simp only [datWF] at e
    split at e
    · rename_i d ds' e1 e2
      cases e
      simp only [RepF]
      exact ⟨v, r, rfl, datW_ok s hb m.2 v B d q e1 (fun a ha => hA a (List.mem_append_left _ ha)), datWF_ok s hb ms r C ds' q2 e2 fun a ha => hA a (List.mem_append_right _ ha)⟩
    · cases e
end
end
end T2
end
section
set_option Elab.async false
set_option linter.all false
set_option maxRecDepth 100000
namespace T2
open PySem PySem.Spec PyProof.Rows L2
def ValP (H : Hp) : V → List Pa → V → Prop
  | w, [], v => v = w
  | w, .ix k :: r, v => ∃ a vs u, w = .ref a ∧ (H a = some (.lst vs) ∨ H a = some (.tup vs)) ∧ vs[k]? = some u ∧ ValP H u r v
  | w, .fd f :: r, v => ∃ a C dx gs u, w = .ref a ∧ H a = some (.ins C dx gs) ∧ gs.lookup f = some u ∧ ValP H u r v
theorem ValP.mono {H H' : Hp} (s : Same H H') : ∀ {p : List Pa} {w v : V}, ValP H w p v → ValP H' w p v
  | [], w, v, h => h
  | .ix k :: r, w, v, h => by
    obtain ⟨a, vs, u, e, q, g, h⟩ := h
    exact ⟨a, vs, u, e, q.imp (s _ _) (s _ _), g, ValP.mono s h⟩
  | .fd f :: r, w, v, h => by
    obtain ⟨a, C, dx, gs, u, e, q, g, h⟩ := h
    exact ⟨a, C, dx, gs, u, e, s _ _ q, g, ValP.mono s h⟩
theorem OwnL.get {K : PySem.W.Frag} {br : Nat → List Pa → V → Prop} {F H : Hp} : ∀ {ms : List M} {vs : List V} {A : List Addr} {k : Nat} {m : M}, OwnL K br F H ms vs A → ms[k]? = some m → ∃ v B, vs[k]? = some v ∧ Own K br F H m v B ∧ B.Sublist A
  | [], vs, A, k, m, h, e => by cases e
  | n :: ms, vs, A, 0, m, h, e => by
    simp only [OwnL] at h
    obtain ⟨v, r, B, C, rfl, rfl, q, q2⟩ := h
    cases e
    exact ⟨v, B, rfl, q, List.sublist_append_left B C⟩
  | n :: ms, vs, A, k + 1, m, h, e => by
    simp only [OwnL] at h
    obtain ⟨v, r, B, C, rfl, rfl, q, q2⟩ := h
    obtain ⟨w, D, e1, e2, e3⟩ := OwnL.get (k := k) q2 (by simpa using e)
    exact ⟨w, D, by simpa using e1, e2, e3.trans (List.sublist_append_right B C)⟩
theorem OwnL.len {K : PySem.W.Frag} {br : Nat → List Pa → V → Prop} {F H : Hp} : ∀ {ms : List M} {vs : List V} {A : List Addr}, OwnL K br F H ms vs A → ms.length = vs.length
  | [], vs, A, h => by
    simp only [OwnL] at h
    rw [h.1]
    rfl
  | n :: ms, vs, A, h => by
    simp only [OwnL] at h
    obtain ⟨v, r, B, C, rfl, rfl, q, q2⟩ := h
    simp only [List.length_cons, OwnL.len q2]
theorem OwnF.get {K : PySem.W.Frag} {br : Nat → List Pa → V → Prop} {F H : Hp} : ∀ {ms : List (Str × M)} {vs : List (Str × V)} {A : List Addr} {f : Str} {m : M}, OwnF K br F H ms vs A → getF ms f = some m → ∃ v B, vs.lookup f = some v ∧ Own K br F H m v B ∧ B.Sublist A
  | [], vs, A, k, m, h, e => by cases e
  | n :: ms, vs, A, f, m, h, e => by
    simp only [OwnF] at h
    obtain ⟨v, r, B, C, rfl, rfl, q, q2⟩ := h
    unfold getF at e
    split at e
    · rename_i hf
      cases e
      exact ⟨v, B, by rw [List.lookup_cons, hf]; simp, q, List.sublist_append_left B C⟩
    · rename_i hf
      obtain ⟨w, D, e1, e2, e3⟩ := OwnF.get q2 e
      refine ⟨w, D, ?_, e2, e3.trans (List.sublist_append_right B C)⟩
      rw [List.lookup_cons]
      have : (f == n.1) = false := by simpa using fun z => hf z.symm
      simp only [this, e1]
/-- the subtree at a path stands at the value that is read there -/
theorem Own.path {K : PySem.W.Frag} {F H : Hp} : ∀ {p : List Pa} {m : M} {w : V} {A : List Addr} {n : M} {v : V}, Own K noBr F H m w A → getP m p = some n → ValP H w p v → ∃ B, Own K noBr F H n v B ∧ B.Sublist A
  | [], m, w, A, n, v, h, e, q => by
    have e' : m = n := by
      unfold getP at e
      cases m <;> exact Option.some.inj e
    have q' : v = w := q
    subst e' q'
    exact ⟨A, h, List.Sublist.refl _⟩
  | .ix k :: r, m, w, A, n, v, h, e, q => by
    obtain ⟨a, vs, u, rfl, q, g, q2⟩ := q
    cases m with
    | ol ms =>
      simp only [Own] at h
      obtain ⟨p, vs', B, e1, rfl, f, q3, h⟩ := h
      cases e1
      have : vs = vs' := by rcases q with q | q <;> rw [q3] at q <;> cases q <;> rfl
      subst this
      simp only [getP] at e
      split at e
      · rename_i m' hm
        obtain ⟨u', B', e1, e2, e3⟩ := OwnL.get h hm
        rw [g] at e1
        cases e1
        obtain ⟨C, c1, c2⟩ := Own.path e2 e q2
        exact ⟨C, c1, c2.trans (e3.trans (List.sublist_cons_self _ _))⟩
      · cases e
    | ot ms =>
      simp only [Own] at h
      obtain ⟨p, vs', B, e1, rfl, f, q3, h⟩ := h
      cases e1
      have : vs = vs' := by rcases q with q | q <;> rw [q3] at q <;> cases q <;> rfl
      subst this
      simp only [getP] at e
      split at e
      · rename_i m' hm
        obtain ⟨u', B', e1, e2, e3⟩ := OwnL.get h hm
        rw [g] at e1
        cases e1
        obtain ⟨C, c1, c2⟩ := Own.path e2 e q2
        exact ⟨C, c1, c2.trans (e3.trans (List.sublist_cons_self _ _))⟩
      · cases e
    | fz d => cases e
    | bp i p => cases e
    | oi C fs => cases e
    | od lk kvs => cases e
    | odt _ => cases e
  | .fd f :: r, m, w, A, n, v, h, e, q => by
    obtain ⟨a, C, dx, gs, u, rfl, q, g, q2⟩ := q
    cases m with
    | oi C fs =>
      simp only [Own] at h
      obtain ⟨p, dx', gs', B, e1, rfl, f1, f2, q3, q4, h⟩ := h
      cases e1
      rw [q3] at q
      cases q
      simp only [getP] at e
      split at e
      · rename_i m' hm
        obtain ⟨u', B', e1, e2, e3⟩ := OwnF.get h hm
        rw [g] at e1
        cases e1
        obtain ⟨C, c1, c2⟩ := Own.path e2 e q2
        exact ⟨C, c1, c2.trans (e3.trans ((List.sublist_cons_self _ _).trans (List.sublist_cons_self _ _)))⟩
      · cases e
    | fz d => cases e
    | bp i p => cases e
    | ol ms => cases e
    | ot ms => cases e
    | od lk kvs => cases e
    | odt _ => cases e
/-- what holds of the slots -/
structure EnvOk (K : PySem.W.Frag) (F H : Hp) (σ : L2.St) (env : En) (fp : Nat → List Addr) : Prop where
  len : env.length = σ.length
  sub : Same F H
  slot : ∀ i m, env.get i = some m → ∃ v, σ[i]? = some (some v) ∧ Own K noBr F H m v (fp i)
  nd : ∀ i m, env.get i = some m → (fp i).Nodup
  dj : ∀ i j m n a, env.get i = some m → env.get j = some n → a ∈ fp i → a ∈ fp j → i = j
/-- a step that changes nothing that stands; A: temporary nodes that may freeze -/
structure Step (A : List Addr) (F H F' H' : Hp) : Prop where
  fr : Same F F'
  hpA : ∀ b o, H b = some o → b ∉ A → H' b = some o
  stay : ∀ a, H' a = none → H a = none
  sub : Same F' H'
  nw : ∀ a, F' a ≠ none → F a ≠ none ∨ H a = none ∨ a ∈ A
  lok : ∀ a od u, H a = some (.frz od u) → H' a = some (.frz od u)
theorem Step.mk' {A : List Addr} {F H F' H' : Hp} (fr : Same F F') (hp : Same H H') (sub : Same F' H') (nw : ∀ a, F' a ≠ none → F a ≠ none ∨ H a = none ∨ a ∈ A) : Step A F H F' H' := ⟨fr, fun b o e _ => hp b o e, fun a e => hp.free e, sub, nw, fun a od u e => hp _ _ e⟩
theorem Step.hp {F H F' H' : Hp} (s : Step [] F H F' H') : Same H H' := fun b o e => s.hpA b o e (by simp)
theorem Step.refl {F H : Hp} (s : Same F H) : Step [] F H F H := .mk' (Same.refl _) (Same.refl _) s fun a h => .inl h
theorem Step.trans {A : List Addr} {F H F1 H1 F2 H2 : Hp} (s : Step [] F H F1 H1) (t : Step A F1 H1 F2 H2) (hA : ∀ a ∈ A, H a = none) : Step [] F H F2 H2 :=
  ⟨s.fr.trans t.fr, fun b o e _ => t.hpA b o (s.hp b o e) (fun z => by
    rw [hA b z] at e
    cases e), fun a e => s.stay a (t.stay a e), t.sub, fun a h => by
    rcases t.nw a h with h | h | h
    · rcases s.nw a h with h | h | h
      · exact .inl h
      · exact .inr (.inl h)
      · cases h
    · exact .inr (.inl (s.hp.free h))
    · exact .inr (.inl (hA a h)), fun a od u e => t.lok a od u (s.lok a od u e)⟩
/-- the places of slots -/
def plc (H : Hp) (σ : L2.St) (env : En) : Nat → List Pa → V → Prop := fun i p v => ∃ w, σ[i]? = some (some w) ∧ ValP H w p v ∧ ∃ m, env.place i p = some m
theorem plc.mono {H H' : Hp} {σ : L2.St} {env : En} (s : Same H H') : ∀ i p v, plc H σ env i p v → plc H' σ env i p v := fun i p v ⟨w, e, h, m⟩ => ⟨w, e, h.mono s, m⟩
section
variable {K : PySem.W.Frag} {F H F' H' : Hp} {σ : L2.St} {env : En} {fp : Nat → List Addr} {A B : List Addr}
theorem EnvOk.step (ok : EnvOk K F H σ env fp) (s : Step A F H F' H') (hA : ∀ a ∈ A, ∀ i m, env.get i = some m → a ∉ fp i) : EnvOk K F' H' σ env fp := by
  refine ⟨ok.len, s.sub, fun i m e => ?_, ok.nd, ok.dj⟩
  obtain ⟨v, e1, e2⟩ := ok.slot i m e
  refine ⟨v, e1, e2.mono s.fr (fun _ _ _ h => h) _ _ _ fun a ha => ⟨?_, fun o q => s.hpA a o q fun z => hA a z i m e ha⟩⟩
  obtain ⟨h1, o, h2⟩ := e2.at _ _ _ a ha
  cases q : F' a with
  | none => rfl
  | some u =>
    rcases s.nw a (by rw [q]; simp) with z | z | z
    · exact absurd h1 z
    · rw [h2] at z
      cases z
    · exact absurd ha (hA a z i m e)
theorem Own.step {m : M} {v : V} (h : Own K (plc H σ env) F H m v B) (s : Step [] F H F' H') : Own K (plc H' σ env) F' H' m v B := by
  refine h.mono s.fr (plc.mono s.hp) _ _ _ fun a ha => ⟨?_, s.hp a⟩
  obtain ⟨h1, o, h2⟩ := h.at _ _ _ a ha
  cases q : F' a with
  | none => rfl
  | some u =>
    rcases s.nw a (by rw [q]; simp) with z | z | z
    · exact absurd h1 z
    · rw [h2] at z
      cases z
    · cases z
theorem OwnL.step {ms : List M} {vs : List V} (h : OwnL K (plc H σ env) F H ms vs B) (s : Step [] F H F' H') : OwnL K (plc H' σ env) F' H' ms vs B := by
  refine h.mono s.fr (plc.mono s.hp) _ _ _ fun a ha => ⟨?_, s.hp a⟩
  obtain ⟨h1, o, h2⟩ := h.at _ _ _ a ha
  cases q : F' a with
  | none => rfl
  | some u =>
    rcases s.nw a (by rw [q]; simp) with z | z | z
    · exact absurd h1 z
    · rw [h2] at z
      cases z
    · cases z
theorem EnvOk.data (ok : EnvOk K F H σ env fp) {m : M} {v : V} {d : D} (h : Own K (plc H σ env) F H m v B) (e : dat env m = some d) : Rep K H d v := by
  refine datW_ok ok.sub (fun i p v d hp hd => ?_) m v B d h e fun a _ o q => q
  obtain ⟨w, e1, e2, n, e3⟩ := hp
  rw [e3] at hd
  unfold En.place at e3
  split at e3
  · rename_i m' hm
    obtain ⟨w', g1, g2⟩ := ok.slot i m' hm
    rw [e1] at g1
    cases g1
    obtain ⟨C, c1, _⟩ := g2.path e3 e2
    exact datW_ok ok.sub (fun _ _ _ _ z => z.elim) n v C d c1 hd fun a _ o q => q
  · cases e3
theorem EnvOk.dataL (ok : EnvOk K F H σ env fp) {ms : List M} {vs : List V} {ds : List D} (h : OwnL K (plc H σ env) F H ms vs B) (e : datWL (fun i p => match env.place i p with
  | some m => dat0 m
  | none => none) ms = some ds) : RepL K H ds vs := by
  refine datWL_ok ok.sub (fun i p v d hp hd => ?_) ms vs B ds h e fun a _ o q => q
  obtain ⟨w, e1, e2, n, e3⟩ := hp
  rw [e3] at hd
  unfold En.place at e3
  split at e3
  · rename_i m' hm
    obtain ⟨w', g1, g2⟩ := ok.slot i m' hm
    rw [e1] at g1
    cases g1
    obtain ⟨C, c1, _⟩ := g2.path e3 e2
    exact datW_ok ok.sub (fun _ _ _ _ z => z.elim) n v C d c1 hd fun a _ o q => q
  · cases e3
end
theorem own_fz {K : PySem.W.Frag} {br : Nat → List Pa → V → Prop} {F H : Hp} {d : D} {v : V} (h : Rep K F d v) : Own K br F H (.fz d) v [] := by
  simp only [Own]
  exact ⟨trivial, h⟩
theorem own_bp {K : PySem.W.Frag} {br : Nat → List Pa → V → Prop} {F H : Hp} {i : Nat} {p : List Pa} {v : V} (h : br i p v) : Own K br F H (.bp i p) v [] := by
  simp only [Own]
  exact ⟨trivial, h⟩
theorem ownL_nil {K : PySem.W.Frag} {br : Nat → List Pa → V → Prop} {F H : Hp} : OwnL K br F H [] [] [] := by
  simp only [OwnL]
  exact ⟨trivial, trivial⟩
section
variable (K : PySem.W.Frag)
/-- an expression: its result from the slots -/
def tD (f : En → Option M) : TE := fun σ H Q => ∃ env m F fp, f env = some m ∧ EnvOk K F H σ env fp ∧
  ∀ v F' H' A, Step [] F H F' H' → Own K (plc H' σ env) F' H' m v A → A.Nodup → (∀ a ∈ A, H a = none) → Q v H'
def tDA (f : En → Option (List M)) : TA := fun σ H Q => ∃ env ms F fp, f env = some ms ∧ EnvOk K F H σ env fp ∧
  ∀ vs F' H' A, Step [] F H F' H' → OwnL K (plc H' σ env) F' H' ms vs A → A.Nodup → (∀ a ∈ A, H a = none) → Q vs H'
def tDT (f : En → Option Bool) : TT := fun σ H Q => ∃ env b F fp, f env = some b ∧ EnvOk K F H σ env fp ∧ ∀ F' H', Step [] F H F' H' → Q b H'
end
def PD (X : Cx) (e : Expr) (f : En → Option M) : Prop := PE X e (tD X.K f)
def PDA (X : Cx) (es : List Expr) (f : En → Option (List M)) : Prop := PA X es (tDA X.K f)
def PDT (X : Cx) (e : Expr) (f : En → Option Bool) : Prop := PT X e (tDT X.K f)
theorem PE.imp {X : Cx} {e : Expr} {t u : TE} (h : PE X e t) (i : ∀ σ H Q, u σ H Q → t σ H Q) : PE X e u := ⟨fun pins s σ H Q I q => h.run pins s σ H Q I (i _ _ _ q)⟩
theorem PT.imp {X : Cx} {e : Expr} {t u : TT} (h : PT X e t) (i : ∀ σ H Q, u σ H Q → t σ H Q) : PT X e u := ⟨fun pins s σ H Q I q => h.run pins s σ H Q I (i _ _ _ q)⟩
theorem PA.imp {X : Cx} {e : List Expr} {t u : TA} (h : PA X e t) (i : ∀ σ H Q, u σ H Q → t σ H Q) : PA X e u := ⟨fun pos pins s σ H Q I q => h.run pos pins s σ H Q I (i _ _ _ q)⟩
/-- an operation on results, by the layer's rule r on values -/
def OpS (K : PySem.W.Frag) (op : En → List M → Option M) (r : List V → Hp → VK → Prop) : Prop :=
  ∀ (σ : L2.St) (env : En) (F H : Hp) (fp : Nat → List Addr) (ms : List M) (vs : List V) (A : List Addr) (m : M) (Q : VK), EnvOk K F H σ env fp → OwnL K (plc H σ env) F H ms vs A → A.Nodup →
    (∀ a ∈ A, ∀ i n, env.get i = some n → a ∉ fp i) → op env ms = some m →
    (∀ v F' H' B, Step A F H F' H' → Own K (plc H' σ env) F' H' m v B → B.Nodup → (∀ a ∈ B, H a = none ∨ a ∈ A) → Q v H') → r vs H Q
/-- an operation behind an argument list -/
def opr (op : En → List M → Option M) (fs : En → Option (List M)) : En → Option M := fun env => match fs env with
  | some ms => op env ms
  | none => none
section
variable {K : PySem.W.Frag} {F H F' H' : Hp} {σ : L2.St} {env : En} {fp : Nat → List Addr} {A B : List Addr}
/-- behind the arguments: the operation -/
theorem tDA.op {f : En → Option (List M)} {op : En → List M → Option M} {r : List V → Hp → VK → Prop} (ho : OpS K op r) {Q : VK} (h : tD K (opr op f) σ H Q) : tDA K f σ H fun vs H1 => r vs H1 Q := by
  obtain ⟨env, m, F, fp, e, ok, q⟩ := h
  unfold opr at e
  split at e
  · rename_i ms hms
    refine ⟨env, ms, F, fp, hms, ok, fun vs F' H' A s hO hn hA => ?_⟩
    have dj : ∀ a ∈ A, ∀ i n, env.get i = some n → a ∉ fp i := fun a ha i n hi hin => by
      obtain ⟨v, e1, e2⟩ := ok.slot i n hi
      obtain ⟨_, o, z⟩ := e2.at _ _ _ a hin
      rw [hA a ha] at z
      cases z
    refine ho σ env F' H' fp ms vs A m Q (ok.step s fun a ha => by cases ha) hO hn dj e fun v F2 H2 B s2 hB hnB hAB => ?_
    refine q v F2 H2 B (s.trans s2 hA) hB hnB fun a ha => ?_
    rcases hAB a ha with z | z
    · exact s.hp.free z
    · exact hA a z
  · cases e
end
section
variable {X : Cx} {e : Expr} {es : List Expr} {f : En → Option M} {fs : En → Option (List M)} {pos : Pos}
/-- the slots' own names -/
def nam (i : Nat) : En → Option M := fun env => match env.get i with
  | some (.fz d) => some (.fz d)
  | some _ => some (.bp i [])
  | none => none
theorem pd_name (i : Nat) {x : Str} (hN : X.N[i]? = some x := by rfl) (hv : Vis X.env.scope x := by first | exact Or.inl rfl | exact Or.inr (Or.inl rfl) | exact Or.inr (Or.inr rfl)) (hd : (x == ("__debug__" : Str)) = false := by decide)
    (hcd : (x == ("__classdict__" : Str)) = false := by decide) : PD X (.Name x pos) (nam i) := by
  refine PE.imp (pe_var hN hv hd hcd) fun σ H Q h => ?_
  obtain ⟨env, m, F, fp, e, ok, q⟩ := h
  unfold nam at e
  split at e
  · rename_i d hm
    cases e
    obtain ⟨v, e1, e2⟩ := ok.slot i _ hm
    simp only [Own] at e2
    exact ⟨v, e1, q v F H [] (.refl ok.sub) (own_fz e2.2) .nil fun a z => by cases z⟩
  · rename_i m' hne hm
    cases e
    obtain ⟨v, e1, e2⟩ := ok.slot i _ hm
    refine ⟨v, e1, q v F H [] (.refl ok.sub) (own_bp ?_) .nil fun a z => by cases z⟩
    refine ⟨v, e1, rfl, m', ?_⟩
    unfold En.place
    rw [hm]
    unfold getP
    cases m' <;> rfl
  · cases e
def cst (d : D) : En → Option M := fun _ => some (.fz d)
theorem pd_cst {e : Expr} {d : D} (h : PE X e (tC (toV d))) (hs : scal d = true) : PD X e (cst d) := by
  refine PE.imp h fun σ H Q h => ?_
  obtain ⟨env, m, F, fp, e, ok, q⟩ := h
  cases e
  exact q _ F H [] (.refl ok.sub) (own_fz ((rep_sc hs).mpr rfl)) .nil fun a z => by cases z
theorem pd_int {i : Int} {j} : PD X (.Constant (.int i) j pos) (cst (.int i)) := pd_cst (d := .int i) pe_int rfl
theorem pd_bl {b j} : PD X (.Constant (.bool b) j pos) (cst (.bl b)) := pd_cst (d := .bl b) pe_bl rfl
theorem pd_non {j} : PD X (.Constant .none j pos) (cst .non) := pd_cst (d := .non) pe_non rfl
theorem pd_str {x j} : PD X (.Constant (.str x) j pos) (cst (.str x)) := pd_cst (d := .str x) pe_str rfl
/-- a module's constant -/
theorem pd_glob {x : Str} {d : D} {u : Value} (hg : Gl X x) (hm : X.mg x = some u) (r : RelV (toV d) u) (hs : scal d = true) (hd : (x == ("__debug__" : Str)) = false := by decide) : PD X (.Name x pos) (cst d) := pd_cst (pe_glob hg hm r hd) hs
def aNil : En → Option (List M) := fun _ => some []
def aCons (f : En → Option M) (fs : En → Option (List M)) : En → Option (List M) := fun env => match f env, fs env with
  | some m, some ms => some (m :: ms)
  | _, _ => none
theorem pda_nil : PDA X [] aNil := by
  refine PA.imp pa_nil fun σ H Q h => ?_
  obtain ⟨env, m, F, fp, e, ok, q⟩ := h
  cases e
  exact q [] F H [] (.refl ok.sub) ownL_nil .nil fun a z => by cases z
theorem pda_cons (ha : PD X e f) (hr : PDA X es fs) (hs : starEach (e :: es) X.env = (false, eval e X.env) :: starEach es X.env := by rfl) : PDA X (e :: es) (aCons f fs) := by
  refine PA.imp (pa_cons ha hr hs) fun σ H Q h => ?_
  obtain ⟨env, m, F, fp, e, ok, q⟩ := h
  unfold aCons at e
  split at e
  · rename_i m1 ms e1 e2
    cases e
    refine ⟨env, m1, F, fp, e1, ok, fun v F1 H1 A s1 o1 n1 a1 => ?_⟩
    refine ⟨env, ms, F1, fp, e2, ok.step s1 (fun a z => by cases z), fun vs F2 H2 B s2 o2 n2 a2 => ?_⟩
    have no : ∀ a ∈ A, a ∉ B := fun a ha hb => by
      obtain ⟨_, o, z⟩ := o1.at _ _ _ a ha
      rw [a2 a hb] at z
      cases z
    refine q (v :: vs) F2 H2 (A ++ B) (s1.trans s2 fun a z => by cases z) ?_ ?_ fun a ha => ?_
    · simp only [OwnL]
      exact ⟨v, vs, A, B, rfl, rfl, o1.step s2, o2⟩
    · exact List.nodup_append.mpr ⟨n1, n2, fun a ha b hb e => no a ha (e ▸ hb)⟩
    · rcases List.mem_append.mp ha with z | z
      · exact a1 a z
      · exact s1.hp.free (a2 a z)
  · cases e
end
end T2
end
section
set_option Elab.async false
set_option linter.all false
set_option maxRecDepth 100000
namespace T2
open PySem PySem.Spec PyProof.Rows L2
def plD (env : En) : Nat → List Pa → Option D := fun i p => match env.place i p with
  | some m => dat0 m
  | none => none
def dats (env : En) (ms : List M) : Option (List D) := datWL (plD env) ms
/-- an operation on data that gives a plain value -/
def sop (g : List D → Option D) : En → List M → Option M := fun env ms => match dats env ms with
  | some ds => match g ds with
    | some d => if scal d then some (.fz d) else none
    | none => none
  | none => none
def r2L (r : R2) : List V → Hp → VK → Prop := fun vs H Q => ∃ x y, vs = [x, y] ∧ r x y H Q
def r1L (r : V → Hp → VK → Prop) : List V → Hp → VK → Prop := fun vs H Q => ∃ x, vs = [x] ∧ r x H Q
section
variable {K : PySem.W.Frag}
theorem scalS {g : List D → Option D} {r : List V → Hp → VK → Prop} (hr : ∀ (H : Hp) (ds : List D) (vs : List V) (d : D) (Q : VK), RepL K H ds vs → g ds = some d → scal d = true → Q (toV d) H → r vs H Q) : OpS K (sop g) r := by
  intro σ env F H fp ms vs A m Q ok hO hn dj e q
  unfold sop at e
  split at e
  · rename_i ds hd
    split at e
    · rename_i d hg
      split at e
      · rename_i hs
        cases e
        exact hr H ds vs d Q (ok.dataL hO hd) hg hs (q _ F H [] (.mk' (.refl _) (.refl _) ok.sub fun a h => .inl h) (own_fz ((rep_sc hs).mpr rfl)) .nil fun a z => by cases z)
      · cases e
    · cases e
  · cases e
def oOr (f g : En → List M → Option M) : En → List M → Option M := fun env ms => match f env ms with
  | some m => some m
  | none => g env ms
theorem OpS.or {f g : En → List M → Option M} {r r' : List V → Hp → VK → Prop} (hf : OpS K f r) (hg : OpS K g r') : OpS K (oOr f g) (fun vs H Q => r vs H Q ∨ r' vs H Q) := by
  intro σ env F H fp ms vs A m Q ok hO hn dj e q
  unfold oOr at e
  split at e
  · rename_i m' hm
    cases e
    exact .inl (hf σ env F H fp ms vs A m Q ok hO hn dj hm q)
  · exact .inr (hg σ env F H fp ms vs A m Q ok hO hn dj e q)
theorem OpS.imp {f : En → List M → Option M} {r r' : List V → Hp → VK → Prop} (hf : OpS K f r) (h : ∀ vs H Q, r vs H Q → r' vs H Q) : OpS K f r' := fun σ env F H fp ms vs A m Q ok hO hn dj e q => h _ _ _ (hf σ env F H fp ms vs A m Q ok hO hn dj e q)
theorem OpS.or2 {f g : En → List M → Option M} {r r' : R2} (hf : OpS K f (r2L r)) (hg : OpS K g (r2L r')) : OpS K (oOr f g) (r2L fun x y H Q => r x y H Q ∨ r' x y H Q) :=
  (hf.or hg).imp fun vs H Q h => by
    rcases h with ⟨x, y, e, h⟩ | ⟨x, y, e, h⟩
    · exact ⟨x, y, e, .inl h⟩
    · exact ⟨x, y, e, .inr h⟩
theorem repL1 {H : Hp} {d : D} {vs : List V} (h : RepL K H [d] vs) : ∃ v, vs = [v] ∧ Rep K H d v := by
  simp only [RepL] at h
  obtain ⟨v, r, rfl, q, rfl⟩ := h
  exact ⟨v, rfl, q⟩
theorem repL2 {H : Hp} {d e : D} {vs : List V} (h : RepL K H [d, e] vs) : ∃ v w, vs = [v, w] ∧ Rep K H d v ∧ Rep K H e w := by
  simp only [RepL] at h
  obtain ⟨v, r, rfl, q, w, r', rfl, q', rfl⟩ := h
  exact ⟨v, w, rfl, q, q'⟩
def gII (c : Int → Int → Bool) (f : Int → Int → Int) : List D → Option D
  | [.int i, .int j] => if c i j then some (.int (f i j)) else none
  | _ => none
def gIB (f : Int → Int → Bool) : List D → Option D
  | [.int i, .int j] => some (.bl (f i j))
  | _ => none
theorem sII {c : Int → Int → Bool} {f : Int → Int → Int} {C : Int → Int → Prop} {g : Int → Int → V} (hc : ∀ i j, c i j = true → C i j) (hg : ∀ i j, C i j → g i j = .int (f i j)) : OpS K (sop (gII c f)) (r2L (rI C g)) :=
  scalS fun H ds vs d Q h e hs q => by
    unfold gII at e
    split at e
    · rename_i i j
      split at e
      · rename_i hh
        cases e
        obtain ⟨v, w, rfl, q1, q2⟩ := repL2 h
        simp only [Rep] at q1 q2
        exact ⟨v, w, rfl, i, j, q1, q2, hc i j hh, by rw [hg i j (hc i j hh)]; exact q⟩
      · cases e
    · cases e
theorem sII0 {f : Int → Int → Int} : OpS K (sop (gII (fun _ _ => true) f)) (r2L (rI0 fun i j => .int (f i j))) :=
  scalS fun H ds vs d Q h e hs q => by
    unfold gII at e
    split at e
    · rename_i i j
      cases e
      obtain ⟨v, w, rfl, q1, q2⟩ := repL2 h
      simp only [Rep] at q1 q2
      exact ⟨v, w, rfl, i, j, q1, q2, q⟩
    · cases e
theorem sIB {f : Int → Int → Bool} : OpS K (sop (gIB f)) (r2L (rI0 fun i j => .bl (f i j))) :=
  scalS fun H ds vs d Q h e hs q => by
    unfold gIB at e
    split at e
    · rename_i i j
      cases e
      obtain ⟨v, w, rfl, q1, q2⟩ := repL2 h
      simp only [Rep] at q1 q2
      exact ⟨v, w, rfl, i, j, q1, q2, q⟩
    · cases e
def cMul (i j : Int) : Bool := decide ((Builtin.Int.intBits i : Int) + (Builtin.Int.intBits j : Int) ≤ 134217728)
def cDiv (i j : Int) : Bool := decide (0 < j ∧ j.natAbs.log2 < 9000)
def cMod (i j : Int) : Bool := decide (0 < j)
def cPow (i j : Int) : Bool := decide (0 ≤ j ∧ j ≤ 1000000 ∧ i.natAbs < 2 ^ 64)
def cShr (i j : Int) : Bool := decide (0 ≤ j)
def iAdd := gII (fun _ _ => true) fun i j => i + j
def iSub := gII (fun _ _ => true) fun i j => i - j
def iMul := gII cMul fun i j => i * j
def iDiv := gII cDiv fun i j => i / j
def iMod := gII cMod fun i j => i % j
def iPow := gII cPow fun i j => i ^ j.toNat
def iShl := gII cPow fun i j => i * 2 ^ j.toNat
def iShr := gII cShr fun i j => i / 2 ^ j.toNat
def iAnd := gII (fun _ _ => true) fun i j => Builtin.bitAnd i j
def iOr := gII (fun _ _ => true) fun i j => Builtin.bitOr i j
def iXor := gII (fun _ _ => true) fun i j => Builtin.bitXor i j
theorem s_add : OpS K (sop iAdd) (r2L (rI0 fun i j => .int (i + j))) := sII0
theorem s_sub : OpS K (sop iSub) (r2L (rI0 fun i j => .int (i - j))) := sII0
theorem s_mul : OpS K (sop iMul) (r2L (rI CMulX fun i j => .int (i * j))) := sII (fun i j h => by unfold cMul at h; have h := of_decide_eq_true h; exact h) fun _ _ _ => rfl
theorem s_div : OpS K (sop iDiv) (r2L (rI CDivW fun i j => .int (i / j))) := sII (fun i j h => by unfold cDiv at h; have h := of_decide_eq_true h; exact h) fun _ _ _ => rfl
theorem s_mod : OpS K (sop iMod) (r2L (rI (fun _ j => 0 < j) fun i j => .int (i % j))) := sII (fun i j h => by unfold cMod at h; have h := of_decide_eq_true h; exact h) fun _ _ _ => rfl
theorem s_pow : OpS K (sop iPow) (r2L (rI CPow fun i j => .int (i ^ j.toNat))) := sII (fun i j h => by unfold cPow at h; have h := of_decide_eq_true h; exact h) fun _ _ _ => rfl
theorem s_shl : OpS K (sop iShl) (r2L (rI CPow fun i j => .int (i * 2 ^ j.toNat))) := sII (fun i j h => by unfold cPow at h; have h := of_decide_eq_true h; exact h) fun _ _ _ => rfl
theorem s_shr : OpS K (sop iShr) (r2L (rI (fun _ j => 0 ≤ j) fun i j => .int (i / 2 ^ j.toNat))) := sII (fun i j h => by unfold cShr at h; have h := of_decide_eq_true h; exact h) fun _ _ _ => rfl
theorem s_and : OpS K (sop iAnd) (r2L (rI0 fun i j => .int (Builtin.bitAnd i j))) := sII0
theorem s_or : OpS K (sop iOr) (r2L (rI0 fun i j => .int (Builtin.bitOr i j))) := sII0
def iLt := gIB fun i j => decide (i < j)
def iLe := gIB fun i j => decide (i ≤ j)
def iGt := gIB fun i j => decide (j < i)
def iGe := gIB fun i j => decide (j ≤ i)
theorem s_lt : OpS K (sop iLt) (r2L (rI0 fun i j => .bl (decide (i < j)))) := sIB
theorem s_gt : OpS K (sop iGt) (r2L (rI0 fun i j => .bl (decide (j < i)))) := sIB
theorem s_ge : OpS K (sop iGe) (r2L (rI0 fun i j => .bl (decide (j ≤ i)))) := sIB
/-- texts joined -/
def gStr : List D → Option D
  | [.str x, .str y] => if decide (x.length + y.length ≤ sizeLine) then some (.str (x ++ y)) else none
  | _ => none
theorem s_addS : OpS K (sop gStr) (r2L fun x y H Q => ∃ i j, x = .str i ∧ y = .str j ∧ i.length + j.length ≤ sizeLine ∧ Q (.str (i ++ j)) H) :=
  scalS fun H ds vs d Q h e hs q => by
    unfold gStr at e
    split at e
    · rename_i i j
      split at e
      · rename_i hh
        cases e
        obtain ⟨v, w, rfl, q1, q2⟩ := repL2 h
        simp only [Rep] at q1 q2
        exact ⟨v, w, rfl, i, j, q1, q2, of_decide_eq_true hh, q⟩
      · cases e
    · cases e
/-- one int -/
def gU (f : Int → Int) : List D → Option D
  | [.int i] => some (.int (f i))
  | _ => none
theorem sU {f : Int → Int} : OpS K (sop (gU f)) (r1L (rU fun i => .int (f i))) :=
  scalS fun H ds vs d Q h e hs q => by
    unfold gU at e
    split at e
    · rename_i i
      cases e
      obtain ⟨v, rfl, q1⟩ := repL1 h
      simp only [Rep] at q1
      exact ⟨v, rfl, i, q1, q⟩
    · cases e
mutual
def pyD : D → Option PyData
  | .non => some .none
  | .bl b => some (.bool b)
  | .int i => some (.int i)
  | .str x => some (.str x)
  | .lst ds => (pyDL ds).map .list
  | .tup ds => (pyDL ds).map .tuple
  | .ins _ _ => none
  | .dic _ _ => none
  | .any => none
  | .exc _ _ _ => none
  | .scr ns => some (.list (ns.map .int))
def pyDL : List D → Option (List PyData)
  | [] => some []
  | d :: ds => match pyD d, pyDL ds with
    | some x, some xs => some (x :: xs)
    | _, _ => none
end
theorem dpAll_ints {H : Hp} : ∀ ns : List Int, DpAll K H (ns.map V.int) (ns.map .int)
  | [] => .nil
  | n :: ns => .cons (.int n) (dpAll_ints ns)
mutual
theorem pyD_ok {H : Hp} : ∀ (d : D) (v : V) (x : PyData), Rep K H d v → pyD d = some x → Dp K H v x
  | .non, v, x, h, e => by
    simp only [Rep, pyD, Option.some.injEq] at h e
    subst h e
    exact .non
  | .bl b, v, x, h, e => by
    simp only [Rep, pyD, Option.some.injEq] at h e
    subst h e
    exact .bl b
  | .int b, v, x, h, e => by
    simp only [Rep, pyD, Option.some.injEq] at h e
    subst h e
    exact .int b
  | .str b, v, x, h, e => by
    simp only [Rep, pyD, Option.some.injEq] at h e
    subst h e
    exact .str b
  | .lst ds, v, x, h, e => by
    simp only [Rep, pyD, Option.map_eq_some_iff] at h e
    obtain ⟨a, vs, rfl, q, r⟩ := h
    obtain ⟨xs, e, rfl⟩ := e
    exact .lst (.of q) (pyDL_ok ds vs xs r e)
  | .tup ds, v, x, h, e => by
    simp only [Rep, pyD, Option.map_eq_some_iff] at h e
    obtain ⟨a, vs, rfl, q, r⟩ := h
    obtain ⟨xs, e, rfl⟩ := e
    exact .tup (.of q) (pyDL_ok ds vs xs r e)
  | .ins C fs, v, x, h, e => by cases e
  | .dic _ _, v, x, h, e => by cases e
  | .any, v, x, h, e => by cases e
  | .exc _ _ _, v, x, h, e => by cases e
  | .scr ns, v, x, h, e => by
    simp only [Rep, pyD, Option.some.injEq] at h e
    obtain ⟨a, rfl, q⟩ := h
    subst e
    exact .lst q (dpAll_ints ns)
theorem pyDL_ok {H : Hp} : ∀ (ds : List D) (vs : List V) (xs : List PyData), RepL K H ds vs → pyDL ds = some xs → DpAll K H vs xs
  | [], vs, xs, h, e => by
    simp only [RepL, pyDL, Option.some.injEq] at h e
    subst h e
    exact .nil
  | d :: ds, vs, xs, h, e => by
    simp only [RepL] at h
    obtain ⟨v, r, rfl, q, q2⟩ := h
    simp only [pyDL] at e
    split at e
    · rename_i x xs' e1 e2
      cases e
      exact .cons (pyD_ok d v x q e1) (pyDL_ok ds r xs' q2 e2)
    · cases e
end
/-- equal, as Python has it -/
def gEq (neg : Bool) : List D → Option D
  | [a, b] => match pyD a, pyD b with
    | some x, some y => if SeqAt.shaped x && SeqAt.shaped y then some (.bl (if neg then !PyData.eqv x y else PyData.eqv x y)) else none
    | _, _ => none
  | _ => none
theorem s_eq : OpS K (sop (gEq false)) (r2L (rEqD K)) := scalS fun H ds vs d Q h e hs q => by
  unfold gEq at e
  split at e
  · rename_i a b
    split at e
    · rename_i x y e1 e2
      split at e
      · rename_i hh
        cases e
        obtain ⟨v, w, rfl, q1, q2⟩ := repL2 h
        have hh := Bool.and_eq_true_iff.mp hh
        exact ⟨v, w, rfl, x, y, pyD_ok a v x q1 e1, pyD_ok b w y q2 e2, hh.1, hh.2, q⟩
      · cases e
    · cases e
  · cases e
theorem s_ne : OpS K (sop (gEq true)) (r2L (rNeD K)) := scalS fun H ds vs d Q h e hs q => by
  unfold gEq at e
  split at e
  · rename_i a b
    split at e
    · rename_i x y e1 e2
      split at e
      · rename_i hh
        cases e
        obtain ⟨v, w, rfl, q1, q2⟩ := repL2 h
        have hh := Bool.and_eq_true_iff.mp hh
        exact ⟨v, w, rfl, x, y, pyD_ok a v x q1 e1, pyD_ok b w y q2 e2, hh.1, hh.2, q⟩
      · cases e
    · cases e
  · cases e
/-- is None -/
def gIsN (neg : Bool) : List D → Option D
  | [a, .non] => some (.bl (if neg then !(match a with | .non => true | _ => false) else (match a with | .non => true | _ => false)))
  | _ => none
theorem rep_non {H : Hp} {v : V} : ∀ {a : D}, Rep K H a v → decide (v = V.non) = (match a with | .non => true | _ => false)
  | .non, h => by simp only [Rep] at h; subst h; rfl
  | .bl _, h => by simp only [Rep] at h; subst h; rfl
  | .int _, h => by simp only [Rep] at h; subst h; rfl
  | .str _, h => by simp only [Rep] at h; subst h; rfl
  | .lst _, h => by simp only [Rep] at h; obtain ⟨a, vs, rfl, _⟩ := h; rfl
  | .tup _, h => by simp only [Rep] at h; obtain ⟨a, vs, rfl, _⟩ := h; rfl
  | .ins _ _, h => by simp only [Rep] at h; obtain ⟨a, vs, dx, rfl, _⟩ := h; rfl
  | .dic _ _, h => by simp only [Rep] at h; obtain ⟨a, vs, rfl, _⟩ := h; rfl
  | .any, h => by simp only [Rep] at h; obtain ⟨a, rfl⟩ := h; rfl
  | .exc _ _ _, h => by simp only [Rep] at h; obtain ⟨a, d, gs, rfl, _⟩ := h; rfl
  | .scr _, h => by simp only [Rep] at h; obtain ⟨a, rfl, _⟩ := h; rfl
theorem s_isN : OpS K (sop (gIsN false)) (r2L fun x y H Q => y = .non ∧ Q (.bl (decide (x = .non))) H) := scalS fun H ds vs d Q h e hs q => by
  unfold gIsN at e
  split at e
  · rename_i a
    obtain ⟨v, w, rfl, q1, q2⟩ := repL2 h
    refine ⟨v, w, rfl, by simpa only [Rep] using q2, ?_⟩
    rw [rep_non q1]
    cases e
    exact q
  · cases e
theorem s_notN : OpS K (sop (gIsN true)) (r2L fun x y H Q => y = .non ∧ Q (.bl (!decide (x = .non))) H) := scalS fun H ds vs d Q h e hs q => by
  unfold gIsN at e
  split at e
  · rename_i a
    obtain ⟨v, w, rfl, q1, q2⟩ := repL2 h
    refine ⟨v, w, rfl, by simpa only [Rep] using q2, ?_⟩
    rw [rep_non q1]
    cases e
    exact q
  · cases e
end
section
variable {K : PySem.W.Frag}
theorem tDA.cons {f : En → Option M} {fs : En → Option (List M)} {σ : L2.St} {H : Hp} {R : List V → Hp → Prop} (h : tDA K (aCons f fs) σ H R) : tD K f σ H fun v H1 => tDA K fs σ H1 fun vs H2 => R (v :: vs) H2 := by
  obtain ⟨env, m, F, fp, e, ok, q⟩ := h
  unfold aCons at e
  split at e
  · rename_i m1 ms e1 e2
    cases e
    refine ⟨env, m1, F, fp, e1, ok, fun v F1 H1 A s1 o1 n1 a1 => ?_⟩
    refine ⟨env, ms, F1, fp, e2, ok.step s1 (fun a z => by cases z), fun vs F2 H2 B s2 o2 n2 a2 => ?_⟩
    have no : ∀ a ∈ A, a ∉ B := fun a ha hb => by
      obtain ⟨_, o, z⟩ := o1.at _ _ _ a ha
      rw [a2 a hb] at z
      cases z
    refine q (v :: vs) F2 H2 (A ++ B) (s1.trans s2 fun a z => by cases z) ?_ ?_ fun a ha => ?_
    · simp only [OwnL]
      exact ⟨v, vs, A, B, rfl, rfl, o1.step s2, o2⟩
    · exact List.nodup_append.mpr ⟨n1, n2, fun a ha b hb e => no a ha (e ▸ hb)⟩
    · rcases List.mem_append.mp ha with z | z
      · exact a1 a z
      · exact s1.hp.free (a2 a z)
  · cases e
theorem tDA.nil {σ : L2.St} {H : Hp} {R : List V → Hp → Prop} (h : tDA K aNil σ H R) : R [] H := by
  obtain ⟨env, m, F, fp, e, ok, q⟩ := h
  cases e
  exact q [] F H [] (.refl ok.sub) ownL_nil .nil fun a z => by cases z
theorem tD.mono {f : En → Option M} {σ : L2.St} {H : Hp} {Q R : VK} (h : tD K f σ H Q) (i : ∀ v H', Q v H' → R v H') : tD K f σ H R := by
  obtain ⟨env, m, F, fp, e, ok, q⟩ := h
  exact ⟨env, m, F, fp, e, ok, fun v F' H' A a b c d => i _ _ (q v F' H' A a b c d)⟩
theorem tDA.two {f g : En → Option M} {σ : L2.St} {H : Hp} {R : List V → Hp → Prop} (h : tDA K (aCons f (aCons g aNil)) σ H R) : tD K f σ H fun v H1 => tD K g σ H1 fun w H2 => R [v, w] H2 :=
  h.cons.mono fun v H1 h1 => (tDA.cons h1).mono fun w H2 h2 => tDA.nil h2
theorem tDA.one {f : En → Option M} {σ : L2.St} {H : Hp} {R : List V → Hp → Prop} (h : tDA K (aCons f aNil) σ H R) : tD K f σ H fun v H1 => R [v] H1 :=
  h.cons.mono fun v H1 h1 => tDA.nil h1
end
section
variable {X : Cx} {a b : Expr} {fa fb : En → Option M} {pos : Pos} {o : En → List M → Option M}
abbrev bin (o : En → List M → Option M) (f g : En → Option M) : En → Option M := opr o (aCons f (aCons g aNil))
abbrev una (o : En → List M → Option M) (f : En → Option M) : En → Option M := opr o (aCons f aNil)
theorem pd_op2 {e : Expr} {r : R2} {o : En → List M → Option M} (h : PE X e (tOp r (tD X.K fa) (tD X.K fb))) (ho : OpS X.K o (r2L r)) : PD X e (bin o fa fb) := by
  refine PE.imp h fun σ H Q q => ?_
  refine (tDA.op ho q).two.mono fun v H1 h1 => h1.mono fun w H2 h2 => ?_
  obtain ⟨x, y, e, h2⟩ := h2
  cases e
  exact h2
theorem pd_bin {op : Operator} {r : R2} (hr : OpR X (binaryOp op) r) (ho : OpS X.K o (r2L r)) (ha : PD X a fa) (hb : PD X b fb) : PD X (.BinOp a op b pos) (bin o fa fb) := pd_op2 (pe_op hr ha hb) ho
theorem pd_cmp {op : CmpOp} {r : R2} (hr : OpR X (compareOp op) r) (ho : OpS X.K o (r2L r)) (ha : PD X a fa) (hb : PD X b fb) (hm : behindInMarks op b = false) : PD X (.Compare a [op] [b] pos) (bin o fa fb) := pd_op2 (pe_cmpR hr ha hb hm) ho
theorem pd_ixr {r : R2} (hr : IxR X r) (ho : OpS X.K o (r2L r)) (ha : PD X a fa) (hb : PD X b fb) (hs : PlainIx b) : PD X (.Subscript a b pos) (bin o fa fb) := pd_op2 (pe_ix hr ha hb hs) ho
theorem pd_un {op : UnaryOp} {r : V → Hp → VK → Prop} (hr : UnR X (unaryOp op) r) (ho : OpS X.K o (r1L r)) (ha : PD X a fa) : PD X (.UnaryOp op a pos) (una o fa) := by
  refine PE.imp (pe_un hr ha) fun σ H Q q => ?_
  refine (tDA.op ho q).one.mono fun v H1 h1 => ?_
  obtain ⟨x, e, h1⟩ := h1
  cases e
  exact h1
theorem pd_callB {x : Str} {p : Pos} {e : Expr} {es : List Expr} {id : String} {r : List V → Hp → VK → Prop} {fs : En → Option (List M)} (hc : CallR X (.builtin id) r) (ho : OpS X.K o r) (hg : Gl X x) (hm : X.mg x = none) (hv : bootBuiltins x = some (.builtin id)) (ha : PDA X (e :: es) fs)
    (hn : x ≠ "__name__" := by decide) (hdb : (x == ("__debug__" : Str)) = false := by decide)
    (he : starEach (e :: es) X.env = (false, eval e X.env) :: starEach es X.env := by rfl) (hpl : (backTo pos (starEach es X.env)).any (·.1) = false := by rfl) : PD X (.Call (.Name x p) (e :: es) [] pos) (opr o fs) :=
  PE.imp (pe_callB hc hg hm hv ha hn hdb he hpl) fun σ H Q q => tDA.op ho q
end
end T2
end
section
set_option Elab.async false
set_option linter.all false
set_option maxRecDepth 100000
namespace T2
open PySem PySem.Spec PyProof.Rows L2
def allFz : List M → Option (List D)
  | [] => some []
  | .fz d :: ms => match allFz ms with
    | some ds => some (d :: ds)
    | none => none
  | _ :: _ => none
/-- a tuple of results: frozen where all are -/
def mkT (ms : List M) : M := match allFz ms with
  | some ds => .fz (.tup ds)
  | none => .ot ms
/-- a child of a place -/
def kid (i : Nat) (p : List Pa) : Nat → List M → List M
  | _, [] => []
  | k, .fz d :: r => .fz d :: kid i p (k + 1) r
  | k, _ :: r => .bp i (p ++ [.ix k]) :: kid i p (k + 1) r
/-- the items of a list (true) or a tuple (false) -/
def elems (env : En) : M → Option (Bool × List M)
  | .fz (.lst ds) => some (true, ds.map .fz)
  | .fz (.tup ds) => some (false, ds.map .fz)
  | .ol ms => some (true, ms)
  | .ot ms => some (false, ms)
  | .bp i p => match env.place i p with
    | some (.fz (.lst ds)) => some (true, ds.map .fz)
    | some (.fz (.tup ds)) => some (false, ds.map .fz)
    | some (.ol ms) => some (true, kid i p 0 ms)
    | some (.ot ms) => some (false, kid i p 0 ms)
    | _ => none
  | _ => none
section
variable {K : PySem.W.Frag} {F H F' H' : Hp} {σ : L2.St} {env : En} {fp : Nat → List Addr} {A B : List Addr} {br : Nat → List Pa → V → Prop}
theorem ownL_fz : ∀ {ds : List D} {vs : List V}, RepL K F ds vs → OwnL K br F H (ds.map .fz) vs []
  | [], vs, h => by
    simp only [RepL] at h
    subst h
    exact ownL_nil
  | d :: ds, vs, h => by
    simp only [RepL] at h
    obtain ⟨v, r, rfl, q, q2⟩ := h
    simp only [List.map_cons, OwnL]
    exact ⟨v, r, [], [], rfl, rfl, own_fz q, ownL_fz q2⟩
theorem allFz_ok : ∀ {ms : List M} {vs : List V} {A : List Addr} {ds : List D}, OwnL K br F H ms vs A → allFz ms = some ds → RepL K F ds vs ∧ A = []
  | [], vs, A, ds, h, e => by
    cases e
    simp only [OwnL] at h
    simp only [RepL]
    exact h
  | m :: ms, vs, A, ds, h, e => by
    cases m with
    | fz d =>
      simp only [allFz] at e
      split at e
      · rename_i ds' e'
        cases e
        simp only [OwnL, Own] at h
        obtain ⟨v, r, B, C, rfl, rfl, ⟨rfl, q⟩, q2⟩ := h
        obtain ⟨h1, rfl⟩ := allFz_ok q2 e'
        simp only [RepL]
        exact ⟨⟨v, r, rfl, q, h1⟩, rfl⟩
      · cases e
    | bp i p => cases e
    | ol _ => cases e
    | ot _ => cases e
    | oi _ _ => cases e
    | od _ _ => cases e
    | odt _ => cases e
theorem ValP.snoc {H : Hp} {a : Addr} {vs : List V} {k : Nat} {u : V} (q : H a = some (.lst vs) ∨ H a = some (.tup vs)) (g : vs[k]? = some u) : ∀ {p : List Pa} {w : V}, ValP H w p (.ref a) → ValP H w (p ++ [.ix k]) u
  | [], w, h => by
    have h : V.ref a = w := h
    subst h
    exact ⟨a, vs, u, rfl, q, g, rfl⟩
  | .ix j :: r, w, h => by
    obtain ⟨b, vs', u', e, q', g', h⟩ := h
    exact ⟨b, vs', u', e, q', g', ValP.snoc q g h⟩
  | .fd f :: r, w, h => by
    obtain ⟨b, C, dx, gs, u', e, q', g', h⟩ := h
    exact ⟨b, C, dx, gs, u', e, q', g', ValP.snoc q g h⟩
theorem getP_snoc {ms : List M} {k : Nat} {n : M} (hn : ms[k]? = some n) : ∀ {p : List Pa} {m : M}, getP m p = some (.ol ms) ∨ getP m p = some (.ot ms) → getP m (p ++ [.ix k]) = some n
  | [], m, h => by
    have h : m = .ol ms ∨ m = .ot ms := by
      rcases h with h | h
      · exact .inl (by unfold getP at h; cases m <;> exact Option.some.inj h)
      · exact .inr (by unfold getP at h; cases m <;> exact Option.some.inj h)
    rcases h with rfl | rfl
    · show getP (.ol ms) [.ix k] = some n
      simp only [getP, hn]
    · show getP (.ot ms) [.ix k] = some n
      simp only [getP, hn]
  | .ix j :: r, m, h => by
    cases m with
    | ol xs =>
      simp only [List.cons_append, getP] at h ⊢
      cases e : xs[j]? with
      | none => rw [e] at h; simp at h
      | some x => rw [e] at h; exact getP_snoc hn h
    | ot xs =>
      simp only [List.cons_append, getP] at h ⊢
      cases e : xs[j]? with
      | none => rw [e] at h; simp at h
      | some x => rw [e] at h; exact getP_snoc hn h
    | fz d => rcases h with h | h <;> cases h
    | bp i p => rcases h with h | h <;> cases h
    | oi C fs => rcases h with h | h <;> cases h
    | od _ _ => rcases h with h | h <;> cases h
    | odt _ => rcases h with h | h <;> cases h
  | .fd f :: r, m, h => by
    cases m with
    | oi C xs =>
      simp only [List.cons_append, getP] at h ⊢
      cases e : getF xs f with
      | none => rw [e] at h; simp at h
      | some x => rw [e] at h; exact getP_snoc hn h
    | fz d => rcases h with h | h <;> cases h
    | bp i p => rcases h with h | h <;> cases h
    | ol xs => rcases h with h | h <;> cases h
    | ot xs => rcases h with h | h <;> cases h
    | od _ _ => rcases h with h | h <;> cases h
    | odt _ => rcases h with h | h <;> cases h
theorem kid_ok {i : Nat} {p : List Pa} {w : V} {a : Addr} {vs : List V} (hw : σ[i]? = some (some w)) (hv : ValP H w p (.ref a)) (q : H a = some (.lst vs) ∨ H a = some (.tup vs)) :
    ∀ {r : List M} {us : List V} {C : List Addr} (k : Nat), (∀ (j : Nat) (n : M), r[j]? = some n → (env.place i (p ++ [.ix (k + j)])) = some n) → (∀ j, us[j]? = vs[k + j]?) → OwnL K noBr F H r us C → OwnL K (plc H σ env) F H (kid i p k r) us []
  | [], us, C, k, hp, hu, h => by
    simp only [OwnL] at h
    rw [h.1]
    exact ownL_nil
  | n :: r, us, C, k, hp, hu, h => by
    simp only [OwnL] at h
    obtain ⟨v, us', B, C, rfl, rfl, h1, h2⟩ := h
    have ih := kid_ok hw hv q (k + 1) (fun j n' e => by rw [Nat.add_assoc, Nat.add_comm 1 j]; exact hp (j + 1) n' (by simpa using e)) (fun j => by
      have := hu (j + 1)
      rw [Nat.add_assoc, Nat.add_comm 1 j]
      simpa using this) h2
    have hk : vs[k]? = some v := by
      have := hu 0
      simpa using this.symm
    have bpk : Own K (plc H σ env) F H (.bp i (p ++ [.ix k])) v [] := own_bp ⟨w, hw, hv.snoc q hk, n, by
      have := hp 0 n rfl
      simpa using this⟩
    cases n with
    | fz d =>
      simp only [Own] at h1
      simp only [kid, OwnL]
      exact ⟨v, us', [], [], rfl, rfl, own_fz h1.2, ih⟩
    | bp j p' => simp only [Own, noBr] at h1; exact h1.2.elim
    | ol _ => simp only [kid, OwnL]; exact ⟨v, us', [], [], rfl, rfl, bpk, ih⟩
    | ot _ => simp only [kid, OwnL]; exact ⟨v, us', [], [], rfl, rfl, bpk, ih⟩
    | oi _ _ => simp only [kid, OwnL]; exact ⟨v, us', [], [], rfl, rfl, bpk, ih⟩
    | od _ _ => simp only [kid, OwnL]; exact ⟨v, us', [], [], rfl, rfl, bpk, ih⟩
    | odt _ => simp only [kid, OwnL]; exact ⟨v, us', [], [], rfl, rfl, bpk, ih⟩
theorem elems_ok (ok : EnvOk K F H σ env fp) {m : M} {v : V} {b : Bool} {ms : List M} (h : Own K (plc H σ env) F H m v A) (e : elems env m = some (b, ms)) :
    ∃ a vs B, v = .ref a ∧ (b = true → H a = some (.lst vs)) ∧ (b = false → H a = some (.tup vs)) ∧ OwnL K (plc H σ env) F H ms vs B ∧ B.Sublist A := by
  cases m with
  | fz d =>
    cases d with
    | lst ds =>
      cases e
      simp only [Own, Rep] at h
      obtain ⟨rfl, a, vs, rfl, q, r⟩ := h
      exact ⟨a, vs, [], rfl, fun _ => ok.sub _ _ q, (fun z => nomatch z), ownL_fz r, List.Sublist.refl _⟩
    | tup ds =>
      cases e
      simp only [Own, Rep] at h
      obtain ⟨rfl, a, vs, rfl, q, r⟩ := h
      exact ⟨a, vs, [], rfl, (fun z => nomatch z), fun _ => ok.sub _ _ q, ownL_fz r, List.Sublist.refl _⟩
    | non => cases e
    | bl _ => cases e
    | int _ => cases e
    | str _ => cases e
    | ins _ _ => cases e
    | dic _ _ => cases e
    | any => cases e
    | exc _ _ _ => cases e
    | scr _ => cases e
  | ol xs =>
    cases e
    simp only [Own] at h
    obtain ⟨p, vs, B, rfl, rfl, f, q, r⟩ := h
    exact ⟨p, vs, B, rfl, fun _ => q, (fun z => nomatch z), r, List.sublist_cons_self _ _⟩
  | ot xs =>
    cases e
    simp only [Own] at h
    obtain ⟨p, vs, B, rfl, rfl, f, q, r⟩ := h
    exact ⟨p, vs, B, rfl, (fun z => nomatch z), fun _ => q, r, List.sublist_cons_self _ _⟩
  | oi C fs => cases e
  | od _ _ => cases e
  | odt _ => cases e
  | bp i p =>
    simp only [Own] at h
    obtain ⟨rfl, w, hw, hv, n, hn⟩ := h
    simp only [elems, hn] at e
    have hn' := hn
    unfold En.place at hn
    split at hn
    · rename_i m' hm
      obtain ⟨w', g1, g2⟩ := ok.slot i m' hm
      rw [hw] at g1
      cases g1
      obtain ⟨C, c1, _⟩ := g2.path hn hv
      have pl : ∀ (k : Nat) (ms : List M) (x : M), (getP m' p = some (.ol ms) ∨ getP m' p = some (.ot ms)) → ms[k]? = some x → env.place i (p ++ [.ix k]) = some x := fun k ms x z1 z2 => by
        unfold En.place
        rw [hm]
        exact getP_snoc z2 z1
      cases n with
      | fz d =>
        cases d with
        | lst ds =>
          cases e
          simp only [Own, Rep] at c1
          obtain ⟨rfl, a, vs, rfl, q, r⟩ := c1
          exact ⟨a, vs, [], rfl, fun _ => ok.sub _ _ q, (fun z => nomatch z), ownL_fz r, List.Sublist.refl _⟩
        | tup ds =>
          cases e
          simp only [Own, Rep] at c1
          obtain ⟨rfl, a, vs, rfl, q, r⟩ := c1
          exact ⟨a, vs, [], rfl, (fun z => nomatch z), fun _ => ok.sub _ _ q, ownL_fz r, List.Sublist.refl _⟩
        | non => cases e
        | bl _ => cases e
        | int _ => cases e
        | str _ => cases e
        | ins _ _ => cases e
        | dic _ _ => cases e
        | any => cases e
        | exc _ _ _ => cases e
        | scr _ => cases e
      | ol xs =>
        cases e
        simp only [Own] at c1
        obtain ⟨a, vs, B, rfl, rfl, f, q, r⟩ := c1
        exact ⟨a, vs, [], rfl, fun _ => q, (fun z => nomatch z), kid_ok hw hv (.inl q) 0 (fun j x z => by rw [Nat.zero_add]; exact pl j xs x (.inl hn) z) (fun j => by rw [Nat.zero_add]) r, List.Sublist.refl _⟩
      | ot xs =>
        cases e
        simp only [Own] at c1
        obtain ⟨a, vs, B, rfl, rfl, f, q, r⟩ := c1
        exact ⟨a, vs, [], rfl, (fun z => nomatch z), fun _ => q, kid_ok hw hv (.inr q) 0 (fun j x z => by rw [Nat.zero_add]; exact pl j xs x (.inr hn) z) (fun j => by rw [Nat.zero_add]) r, List.Sublist.refl _⟩
      | bp _ _ => cases e
      | oi _ _ => cases e
      | od _ _ => cases e
      | odt _ => cases e
    · cases hn
/-- a new list -/
theorem newL (ok : EnvOk K F H σ env fp) {ms : List M} {vs : List V} {p : Addr} (h : OwnL K (plc H σ env) F H ms vs B) (hB : B.Sublist A) (hn : A.Nodup) (hp : H p = none) {Q : VK}
    (q : ∀ v F' H' B, Step A F H F' H' → Own K (plc H' σ env) F' H' (.ol ms) v B → B.Nodup → (∀ a ∈ B, H a = none ∨ a ∈ A) → Q v H') : Q (.ref p) (upd H p (.lst vs)) := by
  have s : Same H (upd H p (.lst vs)) := fun b o e => by rw [upd_ne (ne_of_none e hp)]; exact e
  have np : p ∉ B := fun z => by
    obtain ⟨_, o, e⟩ := h.at _ _ _ p z
    rw [hp] at e
    cases e
  have fp0 : F p = none := ok.sub.free hp
  refine q (.ref p) F _ (p :: B) (.mk' (.refl _) s (ok.sub.trans s) fun a h => .inl h) ?_ (List.nodup_cons.mpr ⟨np, hn.sublist hB⟩) fun a ha => ?_
  · simp only [Own]
    exact ⟨p, vs, B, rfl, rfl, fp0, upd_same, h.mono (.refl _) (plc.mono s) _ _ _ fun a ha => ⟨(h.at _ _ _ a ha).1, s a⟩⟩
  · rcases List.mem_cons.mp ha with rfl | ha
    · exact .inl hp
    · exact .inr (hB.subset ha)
/-- a new tuple -/
theorem newT (ok : EnvOk K F H σ env fp) {ms : List M} {vs : List V} {p : Addr} (h : OwnL K (plc H σ env) F H ms vs B) (hB : B.Sublist A) (hn : A.Nodup) (hp : H p = none) {Q : VK}
    (q : ∀ v F' H' B, Step A F H F' H' → Own K (plc H' σ env) F' H' (mkT ms) v B → B.Nodup → (∀ a ∈ B, H a = none ∨ a ∈ A) → Q v H') : Q (.ref p) (upd H p (.tup vs)) := by
  have s : Same H (upd H p (.tup vs)) := fun b o e => by rw [upd_ne (ne_of_none e hp)]; exact e
  have fp0 : F p = none := ok.sub.free hp
  unfold mkT at q
  split at q
  · rename_i ds hd
    obtain ⟨r, _⟩ := allFz_ok h hd
    have sF : Same F (upd F p (.tup vs)) := fun b o e => by rw [upd_ne (ne_of_none e fp0)]; exact e
    refine q (.ref p) (upd F p (.tup vs)) _ [] (.mk' sF s (fun b o e => ?_) fun a z => ?_) (own_fz ?_) .nil fun a z => by cases z
    · by_cases hb : b = p
      · subst hb
        rw [upd_same] at e ⊢
        exact e
      · rw [upd_ne hb] at e ⊢
        exact ok.sub _ _ e
    · by_cases hb : a = p
      · subst hb
        exact .inr (.inl hp)
      · rw [upd_ne hb] at z
        exact .inl z
    · simp only [Rep]
      exact ⟨p, vs, rfl, upd_same, RepL.mono sF _ _ r⟩
  · have np : p ∉ B := fun z => by
      obtain ⟨_, o, e⟩ := h.at _ _ _ p z
      rw [hp] at e
      cases e
    refine q (.ref p) F _ (p :: B) (.mk' (.refl _) s (ok.sub.trans s) fun a h => .inl h) ?_ (List.nodup_cons.mpr ⟨np, hn.sublist hB⟩) fun a ha => ?_
    · simp only [Own]
      exact ⟨p, vs, B, rfl, rfl, fp0, upd_same, h.mono (.refl _) (plc.mono s) _ _ _ fun a ha => ⟨(h.at _ _ _ a ha).1, s a⟩⟩
    · rcases List.mem_cons.mp ha with rfl | ha
      · exact .inl hp
      · exact .inr (hB.subset ha)
/-- a part of what was there -/
theorem keepS (ok : EnvOk K F H σ env fp) {m : M} {v : V} (h : Own K (plc H σ env) F H m v B) (hB : B.Sublist A) (hn : A.Nodup) {Q : VK}
    (q : ∀ v F' H' B, Step A F H F' H' → Own K (plc H' σ env) F' H' m v B → B.Nodup → (∀ a ∈ B, H a = none ∨ a ∈ A) → Q v H') : Q v H :=
  q v F H B (.mk' (.refl _) (.refl _) ok.sub fun a h => .inl h) h (hn.sublist hB) fun a ha => .inr (hB.subset ha)
theorem ownL1 {m : M} {vs : List V} (h : OwnL K br F H [m] vs A) : ∃ v, vs = [v] ∧ Own K br F H m v A := by
  simp only [OwnL] at h
  obtain ⟨v, r, B, C, rfl, rfl, q, rfl, rfl⟩ := h
  rw [List.append_nil]
  exact ⟨v, rfl, q⟩
theorem ownL2 {m n : M} {vs : List V} (h : OwnL K br F H [m, n] vs A) : ∃ v w B C, vs = [v, w] ∧ A = B ++ C ∧ Own K br F H m v B ∧ Own K br F H n w C := by
  simp only [OwnL] at h
  obtain ⟨v, r, B, C, rfl, rfl, q, w, r', D, E, rfl, rfl, q2, rfl, rfl⟩ := h
  rw [List.append_nil]
  exact ⟨v, w, B, D, rfl, rfl, q, q2⟩
theorem OwnL.append : ∀ {ms ns : List M} {vs ws : List V} {A B : List Addr}, OwnL K br F H ms vs A → OwnL K br F H ns ws B → OwnL K br F H (ms ++ ns) (vs ++ ws) (A ++ B)
  | [], ns, vs, ws, A, B, h, h' => by
    simp only [OwnL] at h
    obtain ⟨rfl, rfl⟩ := h
    exact h'
  | m :: ms, ns, vs, ws, A, B, h, h' => by
    simp only [OwnL] at h
    obtain ⟨v, r, C, D, rfl, rfl, q, q2⟩ := h
    simp only [List.cons_append, OwnL]
    exact ⟨v, r ++ ws, C, D ++ B, rfl, by rw [List.append_assoc], q, q2.append h'⟩
theorem OwnL.take : ∀ {ms : List M} {vs : List V} {A : List Addr} (n : Nat), OwnL K br F H ms vs A → ∃ B, OwnL K br F H (ms.take n) (vs.take n) B ∧ B.Sublist A
  | _, vs, A, 0, h => ⟨[], by rw [List.take_zero, List.take_zero]; exact ownL_nil, List.nil_sublist _⟩
  | [], vs, A, n + 1, h => by
    simp only [OwnL] at h
    obtain ⟨rfl, rfl⟩ := h
    exact ⟨[], ownL_nil, List.nil_sublist _⟩
  | m :: ms, vs, A, n + 1, h => by
    simp only [OwnL] at h
    obtain ⟨v, r, C, D, rfl, rfl, q, q2⟩ := h
    obtain ⟨B, h1, h2⟩ := q2.take n
    refine ⟨C ++ B, ?_, List.Sublist.append (List.Sublist.refl _) h2⟩
    simp only [List.take_succ_cons, OwnL]
    exact ⟨v, r.take n, C, B, rfl, rfl, q, h1⟩
theorem OwnL.drop : ∀ {ms : List M} {vs : List V} {A : List Addr} (n : Nat), OwnL K br F H ms vs A → ∃ B, OwnL K br F H (ms.drop n) (vs.drop n) B ∧ B.Sublist A
  | ms, vs, A, 0, h => ⟨A, by rw [List.drop_zero, List.drop_zero]; exact h, List.Sublist.refl _⟩
  | [], vs, A, n + 1, h => by
    simp only [OwnL] at h
    obtain ⟨rfl, rfl⟩ := h
    exact ⟨[], ownL_nil, List.nil_sublist _⟩
  | m :: ms, vs, A, n + 1, h => by
    simp only [OwnL] at h
    obtain ⟨v, r, C, D, rfl, rfl, q, q2⟩ := h
    obtain ⟨B, h1, h2⟩ := q2.drop n
    exact ⟨B, h1, h2.trans (List.sublist_append_right _ _)⟩
end
def oLst : En → List M → Option M := fun _ ms => if ms.length ≤ sizeLine then some (.ol ms) else none
def oTup : En → List M → Option M := fun _ ms => if ms.length ≤ sizeLine then some (mkT ms) else none
section
variable {K : PySem.W.Frag}
theorem s_lst : OpS K oLst (fun xs H Q => xs.length ≤ sizeLine ∧ ∀ p, H p = none → Q (.ref p) (upd H p (.lst xs))) := by
  intro σ env F H fp ms vs A m Q ok hO hn dj e q
  unfold oLst at e
  split at e
  · rename_i hl
    cases e
    exact ⟨by rw [← hO.len]; exact hl, fun p hp => newL ok hO (List.Sublist.refl _) hn hp q⟩
  · cases e
theorem s_tup : OpS K oTup (fun xs H Q => xs.length ≤ sizeLine ∧ ∀ p, H p = none → Q (.ref p) (upd H p (.tup xs))) := by
  intro σ env F H fp ms vs A m Q ok hO hn dj e q
  unfold oTup at e
  split at e
  · rename_i hl
    cases e
    exact ⟨by rw [← hO.len]; exact hl, fun p hp => newT ok hO (List.Sublist.refl _) hn hp q⟩
  · cases e
/-- l[i], t[i] -/
def oIx (b : Bool) : En → List M → Option M := fun env ms => match ms with
  | [m, .fz (.int i)] => match elems env m with
    | some (c, xs) => if c = b then atI xs i else none
    | none => none
  | _ => none
theorem atI_own {br : Nat → List Pa → V → Prop} {F H : Hp} {ms : List M} {vs : List V} {A : List Addr} {i : Int} {m : M} (h : OwnL K br F H ms vs A) (e : atI ms i = some m) : ∃ v B, atI vs i = some v ∧ Own K br F H m v B ∧ B.Sublist A := by
  unfold atI at e ⊢
  rw [h.len] at e
  cases hj : ixN vs.length i with
  | none => rw [hj] at e; cases e
  | some j =>
    rw [hj] at e
    exact h.get e
theorem s_ixL : OpS K (oIx true) (r2L (rIxL K)) := by
  intro σ env F H fp ms vs A m Q ok hO hn dj e q
  unfold oIx at e
  split at e
  · rename_i x i
    split at e
    · rename_i c xs hx
      split at e
      · rename_i hc
        subst hc
        obtain ⟨v, w, B, C, rfl, rfl, h1, h2⟩ := ownL2 hO
        simp only [Own, Rep] at h2
        obtain ⟨rfl, rfl⟩ := h2
        obtain ⟨a, us, D, rfl, hl, _, h3, hs⟩ := elems_ok ok h1 hx
        obtain ⟨u, E, e1, e2, e3⟩ := atI_own h3 e
        exact ⟨_, _, rfl, a, us, i, u, rfl, rfl, SqL.of (hl rfl), e1, keepS ok e2 (e3.trans (hs.trans (List.sublist_append_left _ _))) hn q⟩
      · cases e
    · cases e
  · cases e
theorem s_ixT : OpS K (oIx false) (r2L (rIxT K)) := by
  intro σ env F H fp ms vs A m Q ok hO hn dj e q
  unfold oIx at e
  split at e
  · rename_i x i
    split at e
    · rename_i c xs hx
      split at e
      · rename_i hc
        subst hc
        obtain ⟨v, w, B, C, rfl, rfl, h1, h2⟩ := ownL2 hO
        simp only [Own, Rep] at h2
        obtain ⟨rfl, rfl⟩ := h2
        obtain ⟨a, us, D, rfl, _, hl, h3, hs⟩ := elems_ok ok h1 hx
        obtain ⟨u, E, e1, e2, e3⟩ := atI_own h3 e
        exact ⟨_, _, rfl, a, us, i, u, rfl, rfl, SqT.of (hl rfl), e1, keepS ok e2 (e3.trans (hs.trans (List.sublist_append_left _ _))) hn q⟩
      · cases e
    · cases e
  · cases e
/-- the script at a place; a text at a place -/
def gIxR : List D → Option D
  | [.scr ns, .int i] => match atI ns i with
    | some n => some (.int n)
    | none => none
  | _ => none
def gIxS : List D → Option D
  | [.str z, .int i] => if decide (z.length ≤ sizeLine) then (match atI z.cps.toList i with
    | some c => some (.str ⟨#[c]⟩)
    | none => none) else none
  | _ => none
theorem atI_map {α β : Type} {f : α → β} {xs : List α} {i : Int} {x : α} (h : atI xs i = some x) : atI (xs.map f) i = some (f x) := by
  unfold atI at h ⊢
  rw [List.length_map]
  cases hj : ixN xs.length i with
  | none => rw [hj] at h; cases h
  | some j =>
    rw [hj] at h
    show (xs.map f)[j]? = _
    rw [List.getElem?_map, show xs[j]? = some x from h]
    rfl
theorem s_ixR : OpS K (sop gIxR) (r2L (rIxL K)) := scalS fun H ds vs d Q h e hs q => by
  unfold gIxR at e
  split at e
  · rename_i ns i
    split at e
    · rename_i n hn
      cases e
      obtain ⟨v, w, rfl, q1, q2⟩ := repL2 h
      simp only [Rep] at q1 q2
      obtain ⟨a, rfl, q1⟩ := q1
      exact ⟨_, _, rfl, a, _, i, .int n, rfl, q2, q1, atI_map hn, q⟩
    · cases e
  · cases e
theorem s_ixS : OpS K (sop gIxS) (r2L rIxS) := scalS fun H ds vs d Q h e hs q => by
  unfold gIxS at e
  split at e
  · rename_i z i
    split at e
    · rename_i hl
      split at e
      · rename_i c hc
        cases e
        obtain ⟨v, w, rfl, q1, q2⟩ := repL2 h
        simp only [Rep] at q1 q2
        exact ⟨_, _, rfl, z, i, c, q1, q2, of_decide_eq_true hl, hc, q⟩
      · cases e
    · cases e
  · cases e
/-- o[i] of any of these -/
def oIdx : En → List M → Option M := oOr (oIx true) (oOr (oIx false) (oOr (sop gIxS) (sop gIxR)))
theorem s_idx : OpS K oIdx (r2L fun x y H Q => rIxL K x y H Q ∨ rIxT K x y H Q ∨ rIxS x y H Q) :=
  ((s_ixL.or2 (s_ixT.or2 (s_ixS.or2 s_ixR)))).imp fun vs H Q ⟨x, y, e, h⟩ => ⟨x, y, e, by
    rcases h with h | h | h | h
    · exact .inl h
    · exact .inr (.inl h)
    · exact .inr (.inr h)
    · exact .inl h⟩
/-- lists joined -/
def oCat : En → List M → Option M := fun env ms => match ms with
  | [m, n] => match elems env m, elems env n with
    | some (true, xs), some (true, ys) => if xs.length + ys.length ≤ sizeLine then some (.ol (xs ++ ys)) else none
    | _, _ => none
  | _ => none
theorem s_cat : OpS K oCat (r2L rCat) := by
  intro σ env F H fp ms vs A m Q ok hO hn dj e q
  unfold oCat at e
  split at e
  · rename_i x y
    split at e
    · rename_i xs ys hx hy
      split at e
      · rename_i hl
        cases e
        obtain ⟨v, w, B, C, rfl, rfl, h1, h2⟩ := ownL2 hO
        obtain ⟨a, us, D, rfl, l1, _, h3, s1⟩ := elems_ok ok h1 hx
        obtain ⟨b, ws, E, rfl, l2, _, h4, s2⟩ := elems_ok ok h2 hy
        refine ⟨_, _, rfl, a, b, us, ws, rfl, rfl, l1 rfl, l2 rfl, by rw [← h3.len, ← h4.len]; exact hl, fun p hp => newL ok (h3.append h4) (s1.append s2) hn hp q⟩
      · cases e
    · cases e
  · cases e
end
section
variable {X : Cx} {es : List Expr} {fs : En → Option (List M)} {pos : Pos}
theorem pd_lst (h : PDA X es fs) : PD X (.List es pos) (opr oLst fs) := PE.imp (pe_lst h) fun σ H Q q => tDA.op s_lst q
theorem pd_tup {x1} (h : PDA X es fs) : PD X (.Tuple es x1 pos) (opr oTup fs) := PE.imp (pe_tup h) fun σ H Q q => tDA.op s_tup q
end
end T2
end
section
set_option Elab.async false
set_option linter.all false
set_option maxRecDepth 100000
namespace T2
open PySem PySem.Spec PyProof.Rows L2
/-- the nodes of the slots -/
def Ond (env : En) (fp : Nat → List Addr) (a : Addr) : Prop := ∃ i m, env.get i = some m ∧ a ∈ fp i
/-- from one state to a later one; T: temporary nodes that may freeze -/
structure Go (K : PySem.W.Frag) (T : List Addr) (σ : L2.St) (env : En) (fp : Nat → List Addr) (F H : Hp) (σ' : L2.St) (env' : En) (fp' : Nat → List Addr) (F' H' : Hp) : Prop where
  fr : Same F F'
  keep : ∀ a o, H a = some o → ¬ Ond env fp a → a ∉ T → H' a = some o
  stay : ∀ a, H' a = none → H a = none
  nw : ∀ a, F' a ≠ none → F a ≠ none ∨ H a = none ∨ Ond env fp a ∨ a ∈ T
  nf : ∀ a, Ond env' fp' a → H a = none ∨ Ond env fp a ∨ a ∈ T
  ok : EnvOk K F' H' σ' env' fp'
  lok : ∀ a od u, H a = some (.frz od u) → H' a = some (.frz od u)
section
variable {K : PySem.W.Frag} {F H F' H' F1 H1 F2 H2 : Hp} {σ σ' σ1 σ2 : L2.St} {env env' env1 env2 : En} {fp fp' fp1 fp2 : Nat → List Addr} {A B T : List Addr}
theorem Go.refl (ok : EnvOk K F H σ env fp) : Go K [] σ env fp F H σ env fp F H := ⟨.refl _, fun _ _ h _ _ => h, fun _ h => h, fun _ h => .inl h, fun _ h => .inr (.inl h), ok, fun _ _ _ e => e⟩
theorem Go.trans (g : Go K [] σ env fp F H σ1 env1 fp1 F1 H1) (h : Go K T σ1 env1 fp1 F1 H1 σ2 env2 fp2 F2 H2) (hT : ∀ a ∈ T, H a = none ∨ Ond env fp a) : Go K [] σ env fp F H σ2 env2 fp2 F2 H2 := by
  have ond : ∀ a, Ond env1 fp1 a → H a = none ∨ Ond env fp a := fun a z => by
    rcases g.nf a z with z | z | z
    · exact .inl z
    · exact .inr z
    · cases z
  refine ⟨g.fr.trans h.fr, fun a o e no _ => h.keep a o (g.keep a o e no (by simp)) (fun z => ?_) (fun z => ?_), fun a z => g.stay a (h.stay a z), fun a z => ?_, fun a z => ?_, h.ok, fun a od u e => h.lok a od u (g.lok a od u e)⟩
  · rcases ond a z with z | z
    · rw [z] at e
      cases e
    · exact no z
  · rcases hT a z with z | z
    · rw [z] at e
      cases e
    · exact no z
  · rcases h.nw a z with z | z | z | z
    · rcases g.nw a z with z | z | z | z
      · exact .inl z
      · exact .inr (.inl z)
      · exact .inr (.inr (.inl z))
      · cases z
    · exact .inr (.inl (g.stay a z))
    · rcases ond a z with z | z
      · exact .inr (.inl z)
      · exact .inr (.inr (.inl z))
    · rcases hT a z with z | z
      · exact .inr (.inl z)
      · exact .inr (.inr (.inl z))
  · rcases h.nf a z with z | z | z
    · exact .inl (g.stay a z)
    · rcases ond a z with z | z
      · exact .inl z
      · exact .inr (.inl z)
    · rcases hT a z with z | z
      · exact .inl z
      · exact .inr (.inl z)
/-- temporary nodes stay -/
theorem Go.tmp (g : Go K T σ env fp F H σ' env' fp' F' H') (hA : ∀ a ∈ A, F a = none ∧ (∃ o, H a = some o) ∧ ¬ Ond env fp a ∧ a ∉ T) : ∀ a ∈ A, F' a = none ∧ ∀ o, H a = some o → H' a = some o := fun a ha => by
  obtain ⟨h1, ⟨o, h2⟩, h3, h4⟩ := hA a ha
  refine ⟨?_, fun o e => g.keep a o e h3 h4⟩
  cases q : F' a with
  | none => rfl
  | some u =>
    rcases g.nw a (by rw [q]; simp) with z | z | z | z
    · exact absurd h1 z
    · rw [h2] at z
      cases z
    · exact absurd z h3
    · exact absurd z h4
theorem Step.go (s : Step A F H F' H') (ok : EnvOk K F H σ env fp) (hA : ∀ a ∈ A, ∀ i m, env.get i = some m → a ∉ fp i) : Go K A σ env fp F H σ env fp F' H' :=
  ⟨s.fr, fun a o e _ z => s.hpA a o e z, s.stay, fun a h => by
    rcases s.nw a h with z | z | z
    · exact .inl z
    · exact .inr (.inl z)
    · exact .inr (.inr (.inr z)), fun a h => .inr (.inl h), ok.step s hA, s.lok⟩
theorem EnvOk.at (ok : EnvOk K F H σ env fp) {a : Addr} (h : Ond env fp a) : F a = none ∧ ∃ o, H a = some o := by
  obtain ⟨i, m, e, ha⟩ := h
  obtain ⟨v, _, q⟩ := ok.slot i m e
  exact q.at _ _ _ a ha
end
def En.put (env : En) (i : Nat) (m : M) : En := env.set i (some m)
def En.kill (env : En) (i : Nat) : En := env.set i none
theorem En.get_put {env : En} {i j : Nat} {m : M} (hi : i < env.length) : (env.put i m).get j = if j = i then some m else env.get j := by
  unfold En.put En.get
  by_cases h : j = i
  · subst h
    rw [if_pos rfl, List.getElem?_set_self hi]
  · rw [if_neg h, List.getElem?_set_ne (Ne.symm h)]
theorem En.get_kill {env : En} {i j : Nat} : (env.kill i).get j = if j = i then none else env.get j := by
  unfold En.kill En.get
  by_cases h : j = i
  · subst h
    rw [if_pos rfl]
    by_cases hi : j < env.length
    · rw [List.getElem?_set_self hi]
    · rw [List.getElem?_eq_none (by rw [List.length_set]; omega)]
  · rw [if_neg h, List.getElem?_set_ne (Ne.symm h)]
theorem En.get_lt {env : En} {i : Nat} {m : M} (h : env.get i = some m) : i < env.length := by
  unfold En.get at h
  cases e : env[i]? with
  | none => rw [e] at h; cases h
  | some o => exact (List.getElem?_eq_some_iff.mp e).1
mutual
/-- the slots that a result speaks of -/
def slots : M → List Nat
  | .fz _ => []
  | .bp i _ => [i]
  | .ol ms => slotsL ms
  | .ot ms => slotsL ms
  | .oi _ fs => slotsF fs
  | .od _ _ => []
  | .odt _ => []
def slotsL : List M → List Nat
  | [] => []
  | m :: ms => slots m ++ slotsL ms
def slotsF : List (Str × M) → List Nat
  | [] => []
  | m :: ms => slots m.2 ++ slotsF ms
end
/-- slots become frozen -/
def frS : List Nat → En → Option En
  | [], env => some env
  | i :: S, env => match env.get i with
    | some m => match dat0 m with
      | some d => frS S (env.put i (.fz d))
      | none => none
    | none => none
section
variable {K : PySem.W.Frag} {F H F' H' : Hp} {σ : L2.St} {env env' : En} {fp : Nat → List Addr} {A B : List Addr}
mutual
/-- the data of a result in a heap G that holds its nodes and those of the slots that it speaks of -/
theorem dat_in {G : Hp} (s : Same F G) (ok : EnvOk K F H σ env fp) : ∀ (m : M) (v : V) (A : List Addr) (d : D), Own K (plc H σ env) F H m v A → dat env m = some d → (∀ a ∈ A, ∀ o, H a = some o → G a = some o) → (∀ i ∈ slots m, ∀ n, env.get i = some n → ∀ a ∈ fp i, ∀ o, H a = some o → G a = some o) → Rep K G d v
  | .fz d, v, A, d', h, e, hA, hS => by
    simp only [Own, dat, datW, Option.some.injEq] at h e
    subst e
    exact Rep.mono s _ _ h.2
  | .bp i p, v, A, d', h, e, hA, hS => by
    simp only [Own, dat, datW] at h e
    obtain ⟨_, w, e1, e2, n, e3⟩ := h
    rw [e3] at e
    unfold En.place at e3
    split at e3
    · rename_i m' hm
      obtain ⟨w', g1, g2⟩ := ok.slot i m' hm
      rw [e1] at g1
      cases g1
      obtain ⟨C, c1, c2⟩ := g2.path e3 e2
      exact datW_ok s (fun _ _ _ _ z => z.elim) n v C d' c1 e fun a ha => hS i (by simp [slots]) m' hm a (c2.subset ha)
    · cases e3
  | .ol ms, v, A, d', h, e, hA, hS => by
    simp only [Own, dat, datW, Option.map_eq_some_iff] at h e
    obtain ⟨p, vs, B, rfl, rfl, f, q, r⟩ := h
    obtain ⟨ds, e, rfl⟩ := e
    simp only [Rep]
    exact ⟨p, vs, rfl, hA p List.mem_cons_self _ q, datL_in s ok ms vs B ds r e (fun a ha => hA a (List.mem_cons_of_mem _ ha)) (by simpa only [slots] using hS)⟩
  | .ot ms, v, A, d', h, e, hA, hS => by
    simp only [Own, dat, datW, Option.map_eq_some_iff] at h e
    obtain ⟨p, vs, B, rfl, rfl, f, q, r⟩ := h
    obtain ⟨ds, e, rfl⟩ := e
    simp only [Rep]
    exact ⟨p, vs, rfl, hA p List.mem_cons_self _ q, datL_in s ok ms vs B ds r e (fun a ha => hA a (List.mem_cons_of_mem _ ha)) (by simpa only [slots] using hS)⟩
  | .oi C fs, v, A, d', h, e, hA, hS => by
    simp only [Own, dat, datW, Option.map_eq_some_iff] at h e
    obtain ⟨p, dx, gs, B, rfl, rfl, f, f2, q, q2, r⟩ := h
    obtain ⟨ds, e, rfl⟩ := e
    simp only [Rep]
    exact ⟨p, dx, gs, rfl, hA p List.mem_cons_self _ q, hA dx (List.mem_cons_of_mem _ List.mem_cons_self) _ q2, datF_in s ok fs gs B ds r e (fun a ha => hA a (List.mem_cons_of_mem _ (List.mem_cons_of_mem _ ha))) (by simpa only [slots] using hS)⟩
  | .od lk kvs, v, A, d', h, e, hA, hS => by
    have h2 : Own K noBr F H (.od lk kvs) v A := by simpa only [Own] using h
    exact datW_ok (bp := fun _ _ => none) s (fun _ _ _ _ z => z.elim) (.od lk kvs) v A d' h2 e hA
  | .odt kvs, v, A, d', h, e, hA, hS => by
    simp only [dat, datW] at e
    cases e
theorem datL_in {G : Hp} (s : Same F G) (ok : EnvOk K F H σ env fp) : ∀ (ms : List M) (vs : List V) (A : List Addr) (ds : List D), OwnL K (plc H σ env) F H ms vs A → dats env ms = some ds → (∀ a ∈ A, ∀ o, H a = some o → G a = some o) → (∀ i ∈ slotsL ms, ∀ n, env.get i = some n → ∀ a ∈ fp i, ∀ o, H a = some o → G a = some o) → RepL K G ds vs
  | [], vs, A, ds, h, e, hA, hS => by
    simp only [OwnL, dats, datWL, Option.some.injEq] at h e
    subst e
    simp only [RepL]
    exact h.1
  | m :: ms, vs, A, ds, h, e, hA, hS => by
    simp only [OwnL] at h
    obtain ⟨v, r, B, C, rfl, rfl, q, q2⟩ := h
    simp only [dats, datWL] at e
    split at e
    · rename_i d ds' e1 e2
      cases e
      simp only [RepL]
      exact ⟨v, r, rfl, dat_in s ok m v B d q e1 (fun a ha => hA a (List.mem_append_left _ ha)) (fun i hi => hS i (by simp only [slotsL]; exact List.mem_append_left _ hi)),
        datL_in s ok ms r C ds' q2 e2 (fun a ha => hA a (List.mem_append_right _ ha)) (fun i hi => hS i (by simp only [slotsL]; exact List.mem_append_right _ hi))⟩
    · cases e
theorem datF_in {G : Hp} (s : Same F G) (ok : EnvOk K F H σ env fp) : ∀ (ms : List (Str × M)) (vs : List (Str × V)) (A : List Addr) (ds : List (Str × D)), OwnF K (plc H σ env) F H ms vs A → datWF (plD env) ms = some ds → (∀ a ∈ A, ∀ o, H a = some o → G a = some o) → (∀ i ∈ slotsF ms, ∀ n, env.get i = some n → ∀ a ∈ fp i, ∀ o, H a = some o → G a = some o) → RepF K G ds vs
  | [], vs, A, ds, h, e, hA, hS => by
    simp only [OwnF, datWF, Option.some.injEq] at h e
    subst e
    simp only [RepF]
    exact h.1
  | m :: ms, vs, A, ds, h, e, hA, hS => by
    simp only [OwnF] at h
    obtain ⟨v, r, B, C, rfl, rfl, q, q2⟩ := h
    simp only [datWF] at e
    split at e
    · rename_i d ds' e1 e2
      cases e
      simp only [RepF]
      exact ⟨v, r, rfl, dat_in s ok m.2 v B d q e1 (fun a ha => hA a (List.mem_append_left _ ha)) (fun i hi => hS i (by simp only [slotsF]; exact List.mem_append_left _ hi)),
        datF_in s ok ms r C ds' q2 e2 (fun a ha => hA a (List.mem_append_right _ ha)) (fun i hi => hS i (by simp only [slotsF]; exact List.mem_append_right _ hi))⟩
    · cases e
end
/-- slots freeze -/
theorem frS_ok : ∀ {S : List Nat} {env env' : En} {fp : Nat → List Addr} {F : Hp}, EnvOk K F H σ env fp → frS S env = some env' →
    ∃ F' fp', Go K [] σ env fp F H σ env' fp' F' H ∧ (∀ i ∈ S, ∀ n, env.get i = some n → ∀ a ∈ fp i, F' a = H a) ∧ (∀ a, Ond env' fp' a → Ond env fp a) ∧ (∀ a, ¬ Ond env fp a → F' a = F a)
  | [], env, env', fp, F, ok, e => by
    cases e
    exact ⟨F, fp, Go.refl ok, (fun i z => by cases z), fun a h => h, fun a _ => rfl⟩
  | i :: S, env, env', fp, F, ok, e => by
    simp only [frS] at e
    split at e
    · rename_i m hm
      split at e
      · rename_i d hd
        obtain ⟨v, g1, g2⟩ := ok.slot i m hm
        have hlt := En.get_lt hm
        have at' := g2.at _ _ _
        have s1 : Same F (frz F H (fp i)) := same_frz ok.sub
        have s2 : Same (frz F H (fp i)) H := frz_same ok.sub
        have fzv : Rep K (frz F H (fp i)) d v := datW_ok s1 (fun _ _ _ _ z => z.elim) m v (fp i) d g2 hd fun a ha o q => by
          unfold frz
          rw [if_pos ha]
          exact q
        have ok1 : EnvOk K (frz F H (fp i)) H σ (env.put i (.fz d)) (fun j => if j = i then [] else fp j) := by
          refine ⟨by unfold En.put; rw [List.length_set]; exact ok.len, s2, fun j n hj => ?_, fun j n hj => ?_, fun j k n n' a hj hk ha hb => ?_⟩
          · rw [En.get_put hlt] at hj
            by_cases h : j = i
            · subst h
              rw [if_pos rfl] at hj
              cases hj
              refine ⟨v, g1, ?_⟩
              rw [if_pos rfl]
              exact own_fz fzv
            · rw [if_neg h] at hj
              obtain ⟨w, k1, k2⟩ := ok.slot j n hj
              refine ⟨w, k1, ?_⟩
              rw [if_neg h]
              refine k2.mono s1 (fun _ _ _ z => z) _ _ _ fun a ha => ⟨?_, fun o q => q⟩
              unfold frz
              rw [if_neg fun z => h (ok.dj j i n m a hj hm ha z)]
              exact (k2.at _ _ _ a ha).1
          · by_cases h : j = i
            · simp only [if_pos h]
              exact .nil
            · rw [En.get_put hlt, if_neg h] at hj
              simp only [if_neg h]
              exact ok.nd j n hj
          · by_cases h : j = i
            · simp only [if_pos h] at ha
              cases ha
            · by_cases h' : k = i
              · simp only [if_pos h'] at hb
                cases hb
              · rw [En.get_put hlt, if_neg h] at hj
                rw [En.get_put hlt, if_neg h'] at hk
                simp only [if_neg h] at ha
                simp only [if_neg h'] at hb
                exact ok.dj j k n n' a hj hk ha hb
        have on1 : ∀ a, Ond (env.put i (.fz d)) (fun j => if j = i then [] else fp j) a → Ond env fp a := fun a ⟨j, n, hj, ha⟩ => by
          by_cases h : j = i
          · simp only [if_pos h] at ha
            cases ha
          · rw [En.get_put hlt, if_neg h] at hj
            simp only [if_neg h] at ha
            exact ⟨j, n, hj, ha⟩
        have go1 : Go K [] σ env fp F H σ (env.put i (.fz d)) (fun j => if j = i then [] else fp j) (frz F H (fp i)) H := by
          refine ⟨s1, fun a o q _ _ => q, fun a q => q, fun a z => ?_, fun a z => .inr (.inl (on1 a z)), ok1, fun _ _ _ e => e⟩
          unfold frz at z
          split at z
          · rename_i ha
            exact .inr (.inr (.inl ⟨i, m, hm, ha⟩))
          · exact .inl z
        obtain ⟨F2, fp2, go2, h2, o2, k2⟩ := frS_ok ok1 e
        refine ⟨F2, fp2, go1.trans go2 (fun a z => by cases z), fun j hj n hn a ha => ?_, fun a z => on1 a (o2 a z), fun a no => ?_⟩
        · by_cases h : j = i
          · subst h
            have e1 : frz F H (fp j) a = H a := by unfold frz; rw [if_pos ha]
            obtain ⟨_, o, ho⟩ := at' a (by
              have : n = m := Option.some.inj (hn.symm.trans hm)
              exact ha)
            rw [ho] at e1 ⊢
            exact go2.fr _ _ e1
          · rcases List.mem_cons.mp hj with z | z
            · exact absurd z h
            · refine h2 j z n ?_ a ?_
              · rw [En.get_put hlt, if_neg h]
                exact hn
              · simp only [if_neg h]
                exact ha
        · rw [k2 a fun z => no (on1 a z)]
          unfold frz
          rw [if_neg fun z => no ⟨i, m, hm, z⟩]
      · cases e
    · cases e
/-- results freeze: their nodes, the slots that they speak of -/
theorem frL_ok {ms : List M} {vs : List V} {ds : List D} (ok : EnvOk K F H σ env fp) (h : OwnL K (plc H σ env) F H ms vs A) (hA : ∀ a ∈ A, ¬ Ond env fp a) (e : dats env ms = some ds) (e' : frS (slotsL ms) env = some env') :
    ∃ F' fp', Go K A σ env fp F H σ env' fp' F' H ∧ RepL K F' ds vs ∧ (∀ a, Ond env' fp' a → Ond env fp a) := by
  obtain ⟨F1, fp1, g, h1, h2, h3⟩ := frS_ok ok e'
  have s1 : Same F1 (frz F1 H A) := same_frz g.ok.sub
  have s2 : Same (frz F1 H A) H := frz_same g.ok.sub
  have ok2 : EnvOk K (frz F1 H A) H σ env' fp1 := by
    refine ⟨g.ok.len, s2, fun j n hj => ?_, g.ok.nd, g.ok.dj⟩
    obtain ⟨w, k1, k2⟩ := g.ok.slot j n hj
    refine ⟨w, k1, k2.mono s1 (fun _ _ _ z => z) _ _ _ fun a ha => ⟨?_, fun o q => q⟩⟩
    unfold frz
    rw [if_neg fun z => hA a z (h2 a ⟨j, n, hj, ha⟩)]
    exact (k2.at _ _ _ a ha).1
  refine ⟨frz F1 H A, fp1, ⟨g.fr.trans s1, fun a o q h _ => g.keep a o q h (by simp), g.stay, fun a z => ?_, fun a z => .inr (.inl (h2 a z)), ok2, g.lok⟩, ?_, h2⟩
  · unfold frz at z
    split at z
    · rename_i ha
      exact .inr (.inr (.inr ha))
    · rcases g.nw a z with z | z | z | z
      · exact .inl z
      · exact .inr (.inl z)
      · exact .inr (.inr (.inl z))
      · cases z
  · refine datL_in (g.fr.trans s1) ok ms vs A ds h e (fun a ha o q => ?_) fun i hi n hn a ha o q => ?_
    · unfold frz
      rw [if_pos ha]
      exact q
    · have := h1 i hi n hn a ha
      rw [q] at this
      exact s1 _ _ this
end
mutual
def shut : Nat → M → Option M
  | _, .fz d => some (.fz d)
  | 0, m => (dat0 m).map .fz
  | k + 1, .ol ms => (shutL k ms).map .ol
  | k + 1, .ot ms => (shutL k ms).map .ot
  | k + 1, .oi C fs => (shutF k fs).map (.oi C)
  | _ + 1, .od lk kvs => some (.od lk kvs)
  | _ + 1, .odt kvs => some (.odt kvs)
  | _, .bp _ _ => none
def shutL : Nat → List M → Option (List M)
  | _, [] => some []
  | k, m :: ms => match shut k m, shutL k ms with
    | some n, some ns => some (n :: ns)
    | _, _ => none
def shutF : Nat → List (Str × M) → Option (List (Str × M))
  | _, [] => some []
  | k, m :: ms => match shut k m.2, shutF k ms with
    | some n, some ns => some ((m.1, n) :: ns)
    | _, _ => none
end
section
variable {K : PySem.W.Frag} {F H : Hp} {br : Nat → List Pa → V → Prop}
/-- what freezes but A' -/
def Fr (F H F' : Hp) (A A' : List Addr) : Prop := Same F F' ∧ (∀ a ∈ A', F' a = none) ∧ ∀ a ∈ A, a ∉ A' → ∀ o, H a = some o → F' a = some o
theorem Fr.left {F' : Hp} {B C B' C' : List Addr} (h : Fr F H F' (B ++ C) (B' ++ C')) (hn : (B ++ C).Nodup) (hC : C'.Sublist C) : Fr F H F' B B' :=
  ⟨h.1, fun a ha => h.2.1 a (List.mem_append_left _ ha), fun a ha hb => h.2.2 a (List.mem_append_left _ ha) fun z => by
    rcases List.mem_append.mp z with z | z
    · exact hb z
    · exact (List.nodup_append.mp hn).2.2 a ha a (hC.subset z) rfl⟩
theorem Fr.right {F' : Hp} {B C B' C' : List Addr} (h : Fr F H F' (B ++ C) (B' ++ C')) (hn : (B ++ C).Nodup) (hB : B'.Sublist B) : Fr F H F' C C' :=
  ⟨h.1, fun a ha => h.2.1 a (List.mem_append_right _ ha), fun a ha hb => h.2.2 a (List.mem_append_right _ ha) fun z => by
    rcases List.mem_append.mp z with z | z
    · exact (List.nodup_append.mp hn).2.2 a (hB.subset z) a ha rfl
    · exact hb z⟩
theorem Fr.cons {F' : Hp} {p : Addr} {B B' : List Addr} (h : Fr F H F' (p :: B) (p :: B')) (hn : (p :: B).Nodup) : Fr F H F' B B' ∧ F' p = none :=
  ⟨⟨h.1, fun a ha => h.2.1 a (List.mem_cons_of_mem _ ha), fun a ha hb => h.2.2 a (List.mem_cons_of_mem _ ha) fun z => by
    rcases List.mem_cons.mp z with rfl | z
    · exact (List.nodup_cons.mp hn).1 ha
    · exact hb z⟩, h.2.1 p List.mem_cons_self⟩
theorem shut0 {m : M} {v : V} {A : List Addr} {m' : M} (h : Own K br F H m v A) (e : (dat0 m).map M.fz = some m') : ∃ A', A'.Sublist A ∧ ∀ F', Fr F H F' A A' → Own K noBr F' H m' v A' := by
  obtain ⟨d, hd, rfl⟩ := Option.map_eq_some_iff.mp e
  exact ⟨[], List.nil_sublist _, fun F' hF => own_fz (datW_ok hF.1 (fun _ _ _ _ _ z => by cases z) m v A d h hd fun a ha => hF.2.2 a ha (by simp))⟩
mutual
theorem shut_ok : ∀ (k : Nat) (m : M) (v : V) (A : List Addr) (m' : M), Own K br F H m v A → A.Nodup → shut k m = some m' → ∃ A', A'.Sublist A ∧ ∀ F', Fr F H F' A A' → Own K noBr F' H m' v A'
  | 0, .fz d, v, A, m', h, hn, e => by
    simp only [shut, Option.some.injEq] at e
    subst e
    simp only [Own] at h
    exact ⟨[], List.nil_sublist _, fun F' hF => own_fz (Rep.mono hF.1 _ _ h.2)⟩
  | k + 1, .fz d, v, A, m', h, hn, e => by
    simp only [shut, Option.some.injEq] at e
    subst e
    simp only [Own] at h
    exact ⟨[], List.nil_sublist _, fun F' hF => own_fz (Rep.mono hF.1 _ _ h.2)⟩
  | 0, .ol ms, v, A, m', h, hn, e => shut0 h (by simpa only [shut] using e)
  | 0, .ot ms, v, A, m', h, hn, e => shut0 h (by simpa only [shut] using e)
  | 0, .oi C ms, v, A, m', h, hn, e => shut0 h (by simpa only [shut] using e)
  | 0, .bp i p, v, A, m', h, hn, e => shut0 h (by simpa only [shut] using e)
  | 0, .od lk kvs, v, A, m', h, hn, e => shut0 h (by simpa only [shut] using e)
  | k + 1, .od lk kvs, v, A, m', h, hn, e => by
    simp only [shut, Option.some.injEq] at e
    subst e
    simp only [Own] at h
    obtain ⟨p, vs, rfl, rfl, f, q, r⟩ := h
    refine ⟨[p], List.Sublist.refl _, fun F' hF => ?_⟩
    simp only [Own]
    exact ⟨p, vs, rfl, rfl, hF.2.1 p List.mem_cons_self, q, RepL.mono hF.1 _ _ r⟩
  | 0, .odt kvs, v, A, m', h, hn, e => shut0 h (by simpa only [shut] using e)
  | k + 1, .odt kvs, v, A, m', h, hn, e => by
    simp only [shut, Option.some.injEq] at e
    subst e
    simp only [Own] at h
    obtain ⟨p, vs, rfl, rfl, f, q, r⟩ := h
    refine ⟨[p], List.Sublist.refl _, fun F' hF => ?_⟩
    simp only [Own]
    exact ⟨p, vs, rfl, rfl, hF.2.1 p List.mem_cons_self, q, RepL.mono hF.1 _ _ r⟩
  | k + 1, .ol ms, v, A, m', h, hn, e => by
    simp only [shut] at e
    obtain ⟨ns, e1, rfl⟩ := Option.map_eq_some_iff.mp e
    simp only [Own] at h
    obtain ⟨p, vs, B, rfl, rfl, f, q, r⟩ := h
    obtain ⟨B', h1, h2⟩ := shutL_ok k ms vs B ns r (List.nodup_cons.mp hn).2 e1
    refine ⟨p :: B', h1.cons_cons p, fun F' hF => ?_⟩
    obtain ⟨h3, h4⟩ := hF.cons hn
    simp only [Own]
    exact ⟨p, vs, B', rfl, rfl, h4, q, h2 F' h3⟩
  | k + 1, .ot ms, v, A, m', h, hn, e => by
    simp only [shut] at e
    obtain ⟨ns, e1, rfl⟩ := Option.map_eq_some_iff.mp e
    simp only [Own] at h
    obtain ⟨p, vs, B, rfl, rfl, f, q, r⟩ := h
    obtain ⟨B', h1, h2⟩ := shutL_ok k ms vs B ns r (List.nodup_cons.mp hn).2 e1
    refine ⟨p :: B', h1.cons_cons p, fun F' hF => ?_⟩
    obtain ⟨h3, h4⟩ := hF.cons hn
    simp only [Own]
    exact ⟨p, vs, B', rfl, rfl, h4, q, h2 F' h3⟩
  | k + 1, .oi C fs, v, A, m', h, hn, e => by
    simp only [shut] at e
    obtain ⟨ns, e1, rfl⟩ := Option.map_eq_some_iff.mp e
    simp only [Own] at h
    obtain ⟨p, dx, gs, B, rfl, rfl, f, f2, q, q2, r⟩ := h
    obtain ⟨B', h1, h2⟩ := shutF_ok k fs gs B ns r (List.nodup_cons.mp (List.nodup_cons.mp hn).2).2 e1
    refine ⟨p :: dx :: B', (h1.cons_cons dx).cons_cons p, fun F' hF => ?_⟩
    obtain ⟨h3, h4⟩ := hF.cons hn
    obtain ⟨h5, h6⟩ := h3.cons (List.nodup_cons.mp hn).2
    simp only [Own]
    exact ⟨p, dx, gs, B', rfl, rfl, h4, h6, q, q2, h2 F' h5⟩
  | k + 1, .bp i p, v, A, m', h, hn, e => by simp only [shut] at e; cases e
theorem shutL_ok : ∀ (k : Nat) (ms : List M) (vs : List V) (A : List Addr) (ms' : List M), OwnL K br F H ms vs A → A.Nodup → shutL k ms = some ms' → ∃ A', A'.Sublist A ∧ ∀ F', Fr F H F' A A' → OwnL K noBr F' H ms' vs A'
  | k, [], vs, A, ms', h, hn, e => by
    simp only [shutL, Option.some.injEq] at e
    subst e
    simp only [OwnL] at h
    obtain ⟨rfl, rfl⟩ := h
    exact ⟨[], List.Sublist.refl _, fun F' hF => ownL_nil⟩
  | k, m :: ms, vs, A, ms', h, hn, e => by
    simp only [shutL] at e
    split at e
    · rename_i n ns e1 e2
      cases e
      simp only [OwnL] at h
      obtain ⟨v, r, B, C, rfl, rfl, q, q2⟩ := h
      have hn' := List.nodup_append.mp hn
      obtain ⟨B', b1, b2⟩ := shut_ok k m v B n q hn'.1 e1
      obtain ⟨C', c1, c2⟩ := shutL_ok k ms r C ns q2 hn'.2.1 e2
      refine ⟨B' ++ C', List.Sublist.append b1 c1, fun F' hF => ?_⟩
      simp only [OwnL]
      exact ⟨v, r, B', C', rfl, rfl, b2 F' (hF.left hn c1), c2 F' (hF.right hn b1)⟩
    · cases e
theorem shutF_ok : ∀ (k : Nat) (ms : List (Str × M)) (vs : List (Str × V)) (A : List Addr) (ms' : List (Str × M)), OwnF K br F H ms vs A → A.Nodup → shutF k ms = some ms' → ∃ A', A'.Sublist A ∧ ∀ F', Fr F H F' A A' → OwnF K noBr F' H ms' vs A'
  | k, [], vs, A, ms', h, hn, e => by
    simp only [shutF, Option.some.injEq] at e
    subst e
    simp only [OwnF] at h
    obtain ⟨rfl, rfl⟩ := h
    refine ⟨[], List.Sublist.refl _, fun F' hF => ?_⟩
    simp only [OwnF]
    exact ⟨trivial, trivial⟩
  | k, m :: ms, vs, A, ms', h, hn, e => by
    simp only [shutF] at e
    split at e
    · rename_i n ns e1 e2
      cases e
      simp only [OwnF] at h
      obtain ⟨v, r, B, C, rfl, rfl, q, q2⟩ := h
      have hn' := List.nodup_append.mp hn
      obtain ⟨B', b1, b2⟩ := shut_ok k m.2 v B n q hn'.1 e1
      obtain ⟨C', c1, c2⟩ := shutF_ok k ms r C ns q2 hn'.2.1 e2
      refine ⟨B' ++ C', List.Sublist.append b1 c1, fun F' hF => ?_⟩
      simp only [OwnF]
      exact ⟨v, r, B', C', rfl, rfl, b2 F' (hF.left hn c1), c2 F' (hF.right hn b1)⟩
    · cases e
end
end
def frz2 (F H : Hp) (A A' : List Addr) : Hp := fun a => if a ∈ A ∧ a ∉ A' then H a else F a
/-- a result goes into a slot, a list ..: k levels stay owned where it is a temporary tree, else it freezes, and the slots that it speaks of -/
def stow (k : Nat) (env : En) (m : M) : Option (M × En) := match slots m with
  | [] => (shut k m).map fun n => (n, env)
  | _ => match dat env m, frS (slots m) env with
    | some d, some env' => some (.fz d, env')
    | _, _ => none
section
variable {K : PySem.W.Frag} {F H : Hp} {σ : L2.St} {env env' : En} {fp : Nat → List Addr} {A : List Addr}
theorem stow_ok {k : Nat} {m m' : M} {v : V} (ok : EnvOk K F H σ env fp) (h : Own K (plc H σ env) F H m v A) (hn : A.Nodup) (hA : ∀ a ∈ A, ¬ Ond env fp a) (e : stow k env m = some (m', env')) :
    ∃ F' fp' A', Go K A σ env fp F H σ env' fp' F' H ∧ Own K noBr F' H m' v A' ∧ A'.Sublist A ∧ (∀ a, Ond env' fp' a → Ond env fp a) := by
  unfold stow at e
  split at e
  · obtain ⟨n, e1, q⟩ := Option.map_eq_some_iff.mp e
    cases q
    obtain ⟨A', h1, h2⟩ := shut_ok k m v A m' h hn e1
    have hF : Fr F H (frz2 F H A A') A A' := by
      refine ⟨fun b o q => ?_, fun a ha => ?_, fun a ha hb o q => ?_⟩
      · unfold frz2
        split
        · exact ok.sub _ _ q
        · exact q
      · unfold frz2
        rw [if_neg fun z => z.2 ha]
        exact (h.at _ _ _ a (h1.subset ha)).1
      · unfold frz2
        rw [if_pos ⟨ha, hb⟩]
        exact q
    refine ⟨frz2 F H A A', fp, A', ⟨hF.1, fun a o q _ _ => q, fun a q => q, fun a z => ?_, fun a z => .inr (.inl z), ?_, fun _ _ _ e => e⟩, h2 _ hF, h1, fun a z => z⟩
    · unfold frz2 at z
      split at z
      · rename_i hb
        exact .inr (.inr (.inr hb.1))
      · exact .inl z
    · refine ⟨ok.len, fun b o q => ?_, fun j n hj => ?_, ok.nd, ok.dj⟩
      · unfold frz2 at q
        split at q
        · exact q
        · exact ok.sub _ _ q
      · obtain ⟨w, k1, k2⟩ := ok.slot j n hj
        refine ⟨w, k1, k2.mono hF.1 (fun _ _ _ z => z) _ _ _ fun a ha => ⟨?_, fun o q => q⟩⟩
        unfold frz2
        rw [if_neg fun z => hA a z.1 ⟨j, n, hj, ha⟩]
        exact (k2.at _ _ _ a ha).1
  · split at e
    · rename_i d env1 hd hs
      cases e
      have hL : OwnL K (plc H σ env) F H [m] [v] A := by
        simp only [OwnL]
        exact ⟨v, [], A, [], rfl, by rw [List.append_nil], h, by trivial, by trivial⟩
      have hd' : dats env [m] = some [d] := by
        unfold dats
        simp only [datWL]
        rw [show datW (plD env) m = some d from hd]
      have hs' : frS (slotsL [m]) env = some env' := by
        simp only [slotsL, List.append_nil]
        exact hs
      obtain ⟨F', fp', g, r, o⟩ := frL_ok ok hL hA hd' hs'
      refine ⟨F', fp', [], g, ?_, List.nil_sublist _, o⟩
      obtain ⟨w, e1, e2⟩ := repL1 r
      cases e1
      exact own_fz e2
    · cases e
end
end T2
end
section
set_option Elab.async false
set_option linter.all false
set_option maxRecDepth 100000
namespace T2
open PySem PySem.Spec PyProof.Rows L2
section
variable (K : PySem.W.Frag)
/-- an expression that may change what slots own -/
def tX (g : En → Option (M × En)) : TE := fun σ H Q => ∃ env m env' F fp, g env = some (m, env') ∧ EnvOk K F H σ env fp ∧
  ∀ v F' H' fp' A, Go K [] σ env fp F H σ env' fp' F' H' → Own K (plc H' σ env') F' H' m v A → A.Nodup → (∀ a ∈ A, H a = none ∨ Ond env fp a) → (∀ a ∈ A, ¬ Ond env' fp' a) → Q v H'
def tXA (g : En → Option (List M × En)) : TA := fun σ H Q => ∃ env ms env' F fp, g env = some (ms, env') ∧ EnvOk K F H σ env fp ∧
  ∀ vs F' H' fp' A, Go K [] σ env fp F H σ env' fp' F' H' → OwnL K (plc H' σ env') F' H' ms vs A → A.Nodup → (∀ a ∈ A, H a = none ∨ Ond env fp a) → (∀ a ∈ A, ¬ Ond env' fp' a) → Q vs H'
def tXT (g : En → Option (Bool × En)) : TT := fun σ H Q => ∃ env b env' F fp, g env = some (b, env') ∧ EnvOk K F H σ env fp ∧ ∀ F' H' fp', Go K [] σ env fp F H σ env' fp' F' H' → Q b H'
end
def PX (X : Cx) (e : Expr) (g : En → Option (M × En)) : Prop := PE X e (tX X.K g)
def PXA (X : Cx) (es : List Expr) (g : En → Option (List M × En)) : Prop := PA X es (tXA X.K g)
def PXT (X : Cx) (e : Expr) (g : En → Option (Bool × En)) : Prop := PT X e (tXT X.K g)
/-- what changes nothing -/
def lif (f : En → Option M) : En → Option (M × En) := fun env => match f env with | some m => some (m, env) | none => none
def lifA (f : En → Option (List M)) : En → Option (List M × En) := fun env => match f env with | some m => some (m, env) | none => none
def lifT (f : En → Option Bool) : En → Option (Bool × En) := fun env => match f env with | some m => some (m, env) | none => none
section
variable {K : PySem.W.Frag} {F H F' H' F1 H1 F2 H2 : Hp} {σ σ' σ1 σ2 : L2.St} {env env' env1 env2 : En} {fp fp' fp1 fp2 : Nat → List Addr} {A B T : List Addr}
theorem tX.of {f : En → Option M} {Q : VK} (h : tX K (lif f) σ H Q) : tD K f σ H Q := by
  obtain ⟨env, m, env', F, fp, e, ok, q⟩ := h
  unfold lif at e
  split at e
  · rename_i m' hm
    cases e
    refine ⟨env, m, F, fp, hm, ok, fun v F' H' A s o n a => q v F' H' fp A (s.go ok fun a z => by cases z) o n (fun b hb => .inl (a b hb)) fun b hb z => ?_⟩
    obtain ⟨_, o', z⟩ := ok.at z
    rw [a b hb] at z
    cases z
  · cases e
theorem tXA.of {f : En → Option (List M)} {Q : List V → Hp → Prop} (h : tXA K (lifA f) σ H Q) : tDA K f σ H Q := by
  obtain ⟨env, m, env', F, fp, e, ok, q⟩ := h
  unfold lifA at e
  split at e
  · rename_i m' hm
    cases e
    refine ⟨env, m, F, fp, hm, ok, fun v F' H' A s o n a => q v F' H' fp A (s.go ok fun a z => by cases z) o n (fun b hb => .inl (a b hb)) fun b hb z => ?_⟩
    obtain ⟨_, o', z⟩ := ok.at z
    rw [a b hb] at z
    cases z
  · cases e
theorem tXT.of {f : En → Option Bool} {Q : Bool → Hp → Prop} (h : tXT K (lifT f) σ H Q) : tDT K f σ H Q := by
  obtain ⟨env, m, env', F, fp, e, ok, q⟩ := h
  unfold lifT at e
  split at e
  · rename_i m' hm
    cases e
    exact ⟨env, m, F, fp, hm, ok, fun F' H' s => q F' H' fp (s.go ok fun a z => by cases z)⟩
  · cases e
mutual
/-- a result that stays when slots change -/
def alv (env : En) : M → Bool
  | .fz _ => true
  | .bp i p => p.isEmpty && (env.get i).isSome
  | .ol ms => alvL env ms
  | .ot ms => alvL env ms
  | .oi _ fs => alvF env fs
  | .od _ _ => true
  | .odt _ => true
def alvL (env : En) : List M → Bool
  | [] => true
  | m :: ms => alv env m && alvL env ms
def alvF (env : En) : List (Str × M) → Bool
  | [] => true
  | m :: ms => alv env m.2 && alvF env ms
end
mutual
theorem Own.alive (s : Same F F') : ∀ (m : M) (v : V) (A : List Addr), Own K (plc H σ env) F H m v A → alv env' m = true → (∀ a ∈ A, F' a = none ∧ ∀ o, H a = some o → H' a = some o) → Own K (plc H' σ env') F' H' m v A
  | .fz d, v, A, h, e, k => by
    simp only [Own] at h ⊢
    exact ⟨h.1, Rep.mono s d v h.2⟩
  | .bp i p, v, A, h, e, k => by
    simp only [Own] at h ⊢
    simp only [alv, Bool.and_eq_true, List.isEmpty_iff] at e
    obtain ⟨h1, w, h2, h3, h4⟩ := h
    obtain ⟨rfl, e2⟩ := e
    obtain ⟨m', hm⟩ := Option.isSome_iff_exists.mp e2
    refine ⟨h1, w, h2, h3, m', ?_⟩
    unfold En.place
    rw [hm]
    unfold getP
    cases m' <;> rfl
  | .ol ms, v, A, h, e, k => by
    simp only [Own] at h ⊢
    simp only [alv] at e
    obtain ⟨p, vs, B, e1, rfl, f, q, r⟩ := h
    exact ⟨p, vs, B, e1, rfl, (k p List.mem_cons_self).1, (k p List.mem_cons_self).2 _ q, OwnL.alive s ms vs B r e fun a ha => k a (List.mem_cons_of_mem _ ha)⟩
  | .ot ms, v, A, h, e, k => by
    simp only [Own] at h ⊢
    simp only [alv] at e
    obtain ⟨p, vs, B, e1, rfl, f, q, r⟩ := h
    exact ⟨p, vs, B, e1, rfl, (k p List.mem_cons_self).1, (k p List.mem_cons_self).2 _ q, OwnL.alive s ms vs B r e fun a ha => k a (List.mem_cons_of_mem _ ha)⟩
  | .oi C fs, v, A, h, e, k => by
    simp only [Own] at h ⊢
    simp only [alv] at e
    obtain ⟨p, dx, gs, B, e1, rfl, f, f2, q, q2, r⟩ := h
    have kp := k p List.mem_cons_self
    have kd := k dx (List.mem_cons_of_mem _ List.mem_cons_self)
    exact ⟨p, dx, gs, B, e1, rfl, kp.1, kd.1, kp.2 _ q, kd.2 _ q2, OwnF.alive s fs gs B r e fun a ha => k a (List.mem_cons_of_mem _ (List.mem_cons_of_mem _ ha))⟩
  | .od lk kvs, v, A, h, e, k => by
    simp only [Own] at h ⊢
    obtain ⟨p, vs, e1, rfl, f, q, r⟩ := h
    have kp := k p List.mem_cons_self
    exact ⟨p, vs, e1, rfl, kp.1, q.mono kp.2, RepL.mono s _ _ r⟩
  | .odt kvs, v, A, h, e, k => by
    simp only [Own] at h ⊢
    obtain ⟨p, vs, e1, rfl, f, q, r⟩ := h
    have kp := k p List.mem_cons_self
    exact ⟨p, vs, e1, rfl, kp.1, kp.2 _ q, RepL.mono s _ _ r⟩
theorem OwnL.alive (s : Same F F') : ∀ (ms : List M) (vs : List V) (A : List Addr), OwnL K (plc H σ env) F H ms vs A → alvL env' ms = true → (∀ a ∈ A, F' a = none ∧ ∀ o, H a = some o → H' a = some o) → OwnL K (plc H' σ env') F' H' ms vs A
  | [], vs, A, h, e, k => by simpa only [OwnL] using h
  | m :: ms, vs, A, h, e, k => by
    simp only [OwnL] at h ⊢
    simp only [alvL, Bool.and_eq_true] at e
    obtain ⟨v, r, B, C, e1, rfl, q, q2⟩ := h
    exact ⟨v, r, B, C, e1, rfl, Own.alive s m v B q e.1 fun a ha => k a (List.mem_append_left _ ha), OwnL.alive s ms r C q2 e.2 fun a ha => k a (List.mem_append_right _ ha)⟩
theorem OwnF.alive (s : Same F F') : ∀ (ms : List (Str × M)) (vs : List (Str × V)) (A : List Addr), OwnF K (plc H σ env) F H ms vs A → alvF env' ms = true → (∀ a ∈ A, F' a = none ∧ ∀ o, H a = some o → H' a = some o) → OwnF K (plc H' σ env') F' H' ms vs A
  | [], vs, A, h, e, k => by simpa only [OwnF] using h
  | m :: ms, vs, A, h, e, k => by
    simp only [OwnF] at h ⊢
    simp only [alvF, Bool.and_eq_true] at e
    obtain ⟨v, r, B, C, e1, rfl, q, q2⟩ := h
    exact ⟨v, r, B, C, e1, rfl, Own.alive s m.2 v B q e.1 fun a ha => k a (List.mem_append_left _ ha), OwnF.alive s ms r C q2 e.2 fun a ha => k a (List.mem_append_right _ ha)⟩
end
def xNil : En → Option (List M × En) := fun env => some ([], env)
def xCons (g : En → Option (M × En)) (gs : En → Option (List M × En)) : En → Option (List M × En) := fun env => match g env with
  | some (m, e1) => match gs e1 with
    | some (ms, e2) => if alv e2 m then some (m :: ms, e2) else none
    | none => none
  | none => none
theorem tXA.nil {R : List V → Hp → Prop} (h : tXA K xNil σ H R) : R [] H := by
  obtain ⟨env, m, env', F, fp, e, ok, q⟩ := h
  cases e
  exact q [] F H fp [] (Go.refl ok) ownL_nil .nil (fun a z => by cases z) fun a z => by cases z
theorem tX.mono {f : En → Option (M × En)} {Q R : VK} (h : tX K f σ H Q) (i : ∀ v H', Q v H' → R v H') : tX K f σ H R := by
  obtain ⟨env, m, env', F, fp, e, ok, q⟩ := h
  exact ⟨env, m, env', F, fp, e, ok, fun v F' H' fp' A a b c d e => i _ _ (q v F' H' fp' A a b c d e)⟩
theorem tXA.mono {f : En → Option (List M × En)} {Q R : List V → Hp → Prop} (h : tXA K f σ H Q) (i : ∀ v H', Q v H' → R v H') : tXA K f σ H R := by
  obtain ⟨env, m, env', F, fp, e, ok, q⟩ := h
  exact ⟨env, m, env', F, fp, e, ok, fun v F' H' fp' A a b c d e => i _ _ (q v F' H' fp' A a b c d e)⟩
theorem tXA.cons {f : En → Option (M × En)} {fs : En → Option (List M × En)} {R : List V → Hp → Prop} (h : tXA K (xCons f fs) σ H R) : tX K f σ H fun v H1 => tXA K fs σ H1 fun vs H2 => R (v :: vs) H2 := by
  obtain ⟨env, m, env', F, fp, e, ok, q⟩ := h
  unfold xCons at e
  split at e
  · rename_i m1 e1 h1
    split at e
    · rename_i ms e2 h2
      split at e
      · rename_i ha
        cases e
        refine ⟨env, m1, e1, F, fp, h1, ok, fun v F1 H1 fp1 A g1 o1 n1 a1 b1 => ?_⟩
        refine ⟨e1, ms, env', F1, fp1, h2, g1.ok, fun vs F2 H2 fp2 B g2 o2 n2 a2 b2 => ?_⟩
        have st := g2.tmp (A := A) fun a ha => ⟨(o1.at _ _ _ a ha).1, (o1.at _ _ _ a ha).2, b1 a ha, by simp⟩
        have on1 : ∀ a, Ond e1 fp1 a → H a = none ∨ Ond env fp a := fun a z => by
          rcases g1.nf a z with z | z | z
          · exact .inl z
          · exact .inr z
          · cases z
        have no : ∀ a ∈ A, a ∉ B := fun a ha hb => by
          rcases a2 a hb with z | z
          · obtain ⟨_, o, z'⟩ := o1.at _ _ _ a ha
            rw [z] at z'
            cases z'
          · exact b1 a ha z
        refine q (v :: vs) F2 H2 fp2 (A ++ B) (g1.trans g2 fun a z => by cases z) ?_ ?_ (fun a ha => ?_) fun a ha => ?_
        · simp only [OwnL]
          exact ⟨v, vs, A, B, rfl, rfl, Own.alive g2.fr _ _ _ o1 ha st, o2⟩
        · exact List.nodup_append.mpr ⟨n1, n2, fun a ha b hb e => no a ha (e ▸ hb)⟩
        · rcases List.mem_append.mp ha with z | z
          · exact a1 a z
          · rcases a2 a z with z | z
            · exact .inl (g1.stay a z)
            · exact on1 a z
        · rcases List.mem_append.mp ha with z | z
          · intro w
            rcases g2.nf a w with w | w | w
            · obtain ⟨_, o, z'⟩ := o1.at _ _ _ a z
              rw [w] at z'
              cases z'
            · exact b1 a z w
            · cases w
          · exact b2 a z
      · cases e
    · cases e
  · cases e
/-- an operation behind arguments -/
def xop (op : En → List M → Option M) (gs : En → Option (List M × En)) : En → Option (M × En) := fun env => match gs env with
  | some (ms, e1) => match op e1 ms with
    | some m => some (m, e1)
    | none => none
  | none => none
theorem tXA.op {gs : En → Option (List M × En)} {op : En → List M → Option M} {r : List V → Hp → VK → Prop} (ho : OpS K op r) {Q : VK} (h : tX K (xop op gs) σ H Q) : tXA K gs σ H fun vs H1 => r vs H1 Q := by
  obtain ⟨env, m, env', F, fp, e, ok, q⟩ := h
  unfold xop at e
  split at e
  · rename_i ms e1 h1
    split at e
    · rename_i m' h2
      cases e
      refine ⟨env, ms, env', F, fp, h1, ok, fun vs F1 H1 fp1 A g o n a b => ?_⟩
      have dj : ∀ a ∈ A, ∀ i n, env'.get i = some n → a ∉ fp1 i := fun a ha i n hi hin => b a ha ⟨i, n, hi, hin⟩
      refine ho σ env' F1 H1 fp1 ms vs A m Q g.ok o n dj h2 fun v F2 H2 B s2 o2 n2 ab => ?_
      refine q v F2 H2 fp1 B (g.trans (s2.go g.ok dj) a) o2 n2 (fun c hc => ?_) fun c hc z => ?_
      · rcases ab c hc with z | z
        · exact .inl (g.stay c z)
        · exact a c z
      · rcases ab c hc with w | w
        · obtain ⟨_, o', z'⟩ := g.ok.at z
          rw [w] at z'
          cases z'
        · exact b c w z
    · cases e
  · cases e
theorem tXA.two {f g : En → Option (M × En)} {R : List V → Hp → Prop} (h : tXA K (xCons f (xCons g xNil)) σ H R) : tX K f σ H fun v H1 => tX K g σ H1 fun w H2 => R [v, w] H2 :=
  h.cons.mono fun v H1 h1 => (tXA.cons h1).mono fun w H2 h2 => tXA.nil h2
theorem tXA.one {f : En → Option (M × En)} {R : List V → Hp → Prop} (h : tXA K (xCons f xNil) σ H R) : tX K f σ H fun v H1 => R [v] H1 :=
  h.cons.mono fun v H1 h1 => tXA.nil h1
end
section
variable {X : Cx} {e a b : Expr} {es : List Expr} {f : En → Option M} {g ga gb : En → Option (M × En)} {gs : En → Option (List M × En)} {pos : Pos} {o : En → List M → Option M}
theorem px_of (h : PD X e f) : PX X e (lif f) := PE.imp h fun _ _ _ q => tX.of q
theorem pxa_of {fs : En → Option (List M)} (h : PDA X es fs) : PXA X es (lifA fs) := PA.imp h fun _ _ _ q => tXA.of q
theorem pxt_of {f : En → Option Bool} (h : PDT X e f) : PXT X e (lifT f) := PT.imp h fun _ _ _ q => tXT.of q
abbrev xbin (o : En → List M → Option M) (f g : En → Option (M × En)) := xop o (xCons f (xCons g xNil))
theorem px_op2 {e : Expr} {r : R2} (h : PE X e (tOp r (tX X.K ga) (tX X.K gb))) (ho : OpS X.K o (r2L r)) : PX X e (xbin o ga gb) := by
  refine PE.imp h fun σ H Q q => ?_
  refine (tXA.op ho q).two.mono fun v H1 h1 => h1.mono fun w H2 h2 => ?_
  obtain ⟨x, y, e, h2⟩ := h2
  cases e
  exact h2
theorem px_bin {op : Operator} {r : R2} (hr : OpR X (binaryOp op) r) (ho : OpS X.K o (r2L r)) (ha : PX X a ga) (hb : PX X b gb) : PX X (.BinOp a op b pos) (xbin o ga gb) := px_op2 (pe_op hr ha hb) ho
theorem pd_callT {x : Str} {p : Pos} {T : String} {r : List V → Hp → VK → Prop} {fs : En → Option (List M)} (hc : CallR X (.type T) r) (ho : OpS X.K o r) (hg : Gl X x) (hm : X.mg x = none) (hv : bootBuiltins x = some (.type T)) (ha : PDA X (e :: es) fs)
    (hn : x ≠ "__name__" := by decide) (hdb : (x == ("__debug__" : Str)) = false := by decide)
    (he : starEach (e :: es) X.env = (false, eval e X.env) :: starEach es X.env := by rfl) (hpl : (backTo pos (starEach es X.env)).any (·.1) = false := by rfl) : PD X (.Call (.Name x p) (e :: es) [] pos) (opr o fs) :=
  PE.imp (pe_callTy hc hg hm hv ha hn hdb he hpl) fun σ H Q q => tDA.op ho q
def tst (f : En → Option M) : En → Option Bool := fun env => match f env with
  | some (.fz (.bl b)) => some b
  | _ => none
def xtst (g : En → Option (M × En)) : En → Option (Bool × En) := fun env => match g env with
  | some (.fz (.bl b), e) => some (b, e)
  | _ => none
theorem tDT.test {K : PySem.W.Frag} {f : En → Option M} {σ : L2.St} {H : Hp} {Q : Bool → Hp → Prop} (h : tDT K (tst f) σ H Q) : tD K f σ H fun x H1 => ∃ c, x = .bl c ∧ Q c H1 := by
  obtain ⟨env, b, F, fp, e, ok, q⟩ := h
  unfold tst at e
  split at e
  · rename_i b' hb
    cases e
    refine ⟨env, _, F, fp, hb, ok, fun v F' H' A s o n a => ?_⟩
    simp only [Own, Rep] at o
    exact ⟨b, o.2, q F' H' s⟩
  · cases e
theorem tXT.test {K : PySem.W.Frag} {f : En → Option (M × En)} {σ : L2.St} {H : Hp} {Q : Bool → Hp → Prop} (h : tXT K (xtst f) σ H Q) : tX K f σ H fun x H1 => ∃ c, x = .bl c ∧ Q c H1 := by
  obtain ⟨env, b, env', F, fp, e, ok, q⟩ := h
  unfold xtst at e
  split at e
  · rename_i b' e' hb
    cases e
    refine ⟨env, _, _, F, fp, hb, ok, fun v F' H' fp' A g o n a b => ?_⟩
    simp only [Own, Rep] at o
    exact ⟨_, o.2, q F' H' fp' g⟩
  · cases e
theorem pdt_val (h : PD X e f) (he : ∀ whole, isTrue e X.env whole = (do let v ← whole; standAt e.pos; holding [v] (truthy v)) := by intro _; rfl) : PDT X e (tst f) := PT.imp (pt_val h he) fun σ H Q q => q.test
theorem pdt_cmp {fa fb : En → Option M} {op : CmpOp} {r : R2} (hr : OpR X (compareOp op) r) (ho : OpS X.K o (r2L r)) (ha : PD X a fa) (hb : PD X b fb) (hm : behindInMarks op b = false) : PDT X (.Compare a [op] [b] pos) (tst (bin o fa fb)) := by
  refine PT.imp (pt_cmpR hr ha hb hm) fun σ H Q q => ?_
  refine (tDA.op ho q.test).two.mono fun v H1 h1 => h1.mono fun w H2 h2 => ?_
  obtain ⟨x, y, e, h2⟩ := h2
  cases e
  exact h2
end
def PDW (X : Cx) (e : Expr) (f : En → Option Bool) : Prop := PW X e (tDT X.K f)
theorem PW.imp {X : Cx} {e : Expr} {t u : TT} (h : PW X e t) (i : ∀ σ H Q, u σ H Q → t σ H Q) : PW X e u := ⟨fun w pins s σ H Q I q => h.run w pins s σ H Q I (i _ _ _ q)⟩
def dAnd (f g : En → Option Bool) : En → Option Bool := fun env => match f env with
  | some true => g env
  | some false => some false
  | none => none
def dOr (f g : En → Option Bool) : En → Option Bool := fun env => match f env with
  | some false => g env
  | some true => some true
  | none => none
def dNot (f : En → Option Bool) : En → Option Bool := fun env => match f env with
  | some b => some (!b)
  | none => none
def xAnd (f g : En → Option (Bool × En)) : En → Option (Bool × En) := fun env => match f env with
  | some (true, e) => g e
  | some (false, e) => some (false, e)
  | none => none
def xOr (f g : En → Option (Bool × En)) : En → Option (Bool × En) := fun env => match f env with
  | some (false, e) => g e
  | some (true, e) => some (true, e)
  | none => none
def xNot (f : En → Option (Bool × En)) : En → Option (Bool × En) := fun env => match f env with
  | some (b, e) => some (!b, e)
  | none => none
section
variable {K : PySem.W.Frag} {σ : L2.St} {H : Hp}
theorem tDT.and {f g : En → Option Bool} {Q : Bool → Hp → Prop} (h : tDT K (dAnd f g) σ H Q) : tDT K f σ H fun c H1 => if c = true then tDT K g σ H1 Q else Q false H1 := by
  obtain ⟨env, b, F, fp, e, ok, q⟩ := h
  unfold dAnd at e
  split at e
  · rename_i hb
    refine ⟨env, true, F, fp, hb, ok, fun F1 H1 s => ?_⟩
    exact iteT (⟨env, b, F1, fp, e, ok.step s (fun a z => by cases z), fun F2 H2 s2 => q F2 H2 (s.trans s2 fun a z => by cases z)⟩)
  · rename_i hb
    cases e
    exact ⟨env, false, F, fp, hb, ok, fun F1 H1 s => iteF (q F1 H1 s)⟩
  · cases e
theorem tDT.or {f g : En → Option Bool} {Q : Bool → Hp → Prop} (h : tDT K (dOr f g) σ H Q) : tDT K f σ H fun c H1 => if c = true then Q true H1 else tDT K g σ H1 Q := by
  obtain ⟨env, b, F, fp, e, ok, q⟩ := h
  unfold dOr at e
  split at e
  · rename_i hb
    refine ⟨env, false, F, fp, hb, ok, fun F1 H1 s => ?_⟩
    exact iteF (⟨env, b, F1, fp, e, ok.step s (fun a z => by cases z), fun F2 H2 s2 => q F2 H2 (s.trans s2 fun a z => by cases z)⟩)
  · rename_i hb
    cases e
    exact ⟨env, true, F, fp, hb, ok, fun F1 H1 s => iteT (q F1 H1 s)⟩
  · cases e
theorem tDT.not {f : En → Option Bool} {Q : Bool → Hp → Prop} (h : tDT K (dNot f) σ H Q) : tDT K f σ H fun c H1 => Q (!c) H1 := by
  obtain ⟨env, b, F, fp, e, ok, q⟩ := h
  unfold dNot at e
  split at e
  · rename_i b' hb
    cases e
    exact ⟨env, b', F, fp, hb, ok, q⟩
  · cases e
theorem tXT.and {f g : En → Option (Bool × En)} {Q : Bool → Hp → Prop} (h : tXT K (xAnd f g) σ H Q) : tXT K f σ H fun c H1 => if c = true then tXT K g σ H1 Q else Q false H1 := by
  obtain ⟨env, b, env', F, fp, e, ok, q⟩ := h
  unfold xAnd at e
  split at e
  · rename_i e1 hb
    refine ⟨env, true, e1, F, fp, hb, ok, fun F1 H1 fp1 s => ?_⟩
    exact iteT (⟨e1, b, env', F1, fp1, e, s.ok, fun F2 H2 fp2 s2 => q F2 H2 fp2 (s.trans s2 fun a z => by cases z)⟩)
  · rename_i e1 hb
    cases e
    exact ⟨env, false, _, F, fp, hb, ok, fun F1 H1 fp1 s => iteF (q F1 H1 fp1 s)⟩
  · cases e
theorem tXT.or {f g : En → Option (Bool × En)} {Q : Bool → Hp → Prop} (h : tXT K (xOr f g) σ H Q) : tXT K f σ H fun c H1 => if c = true then Q true H1 else tXT K g σ H1 Q := by
  obtain ⟨env, b, env', F, fp, e, ok, q⟩ := h
  unfold xOr at e
  split at e
  · rename_i e1 hb
    refine ⟨env, false, e1, F, fp, hb, ok, fun F1 H1 fp1 s => ?_⟩
    exact iteF (⟨e1, b, env', F1, fp1, e, s.ok, fun F2 H2 fp2 s2 => q F2 H2 fp2 (s.trans s2 fun a z => by cases z)⟩)
  · rename_i e1 hb
    cases e
    exact ⟨env, true, _, F, fp, hb, ok, fun F1 H1 fp1 s => iteT (q F1 H1 fp1 s)⟩
  · cases e
theorem tXT.not {f : En → Option (Bool × En)} {Q : Bool → Hp → Prop} (h : tXT K (xNot f) σ H Q) : tXT K f σ H fun c H1 => Q (!c) H1 := by
  obtain ⟨env, b, env', F, fp, e, ok, q⟩ := h
  unfold xNot at e
  split at e
  · rename_i b' e' hb
    cases e
    exact ⟨env, b', _, F, fp, hb, ok, q⟩
  · cases e
end
section
variable {X : Cx} {a b : Expr} {rest : List Expr} {f g : En → Option Bool} {xf xg : En → Option (Bool × En)} {pos : Pos}
theorem pdw_and1 (h : PDT X a f) : PDW X (.BoolOp .And [a] pos) f := pw_and1 h
theorem pdw_or1 (h : PDT X a f) : PDW X (.BoolOp .Or [a] pos) f := pw_or1 h
theorem pdw_and (h : PDT X a f) (hb : PDW X (.BoolOp .And (b :: rest) pos) g) : PDW X (.BoolOp .And (a :: b :: rest) pos) (dAnd f g) := PW.imp (pw_and h hb) fun σ H Q q => q.and
theorem pdw_or (h : PDT X a f) (hb : PDW X (.BoolOp .Or (b :: rest) pos) g) : PDW X (.BoolOp .Or (a :: b :: rest) pos) (dOr f g) := PW.imp (pw_or h hb) fun σ H Q q => q.or
theorem PDW.t {e : Expr} (h : PDW X e f) : PDT X e f := PW.pt h
theorem pdt_not (h : PDT X a f) : PDT X (.UnaryOp .Not a pos) (dNot f) := PT.imp (pt_not h) fun σ H Q q => q.not
end
def val (f : En → Option Bool) : En → Option M := fun env => match f env with
  | some b => some (.fz (.bl b))
  | none => none
section
variable {X : Cx} {a b : Expr} {rest : List Expr} {f g : En → Option M} {pos : Pos}
def vAnd (f g : En → Option M) : En → Option M := fun env => match f env with
  | some (.fz (.bl true)) => g env
  | some (.fz (.bl false)) => some (.fz (.bl false))
  | _ => none
def vOr (f g : En → Option M) : En → Option M := fun env => match f env with
  | some (.fz (.bl false)) => g env
  | some (.fz (.bl true)) => some (.fz (.bl true))
  | _ => none
/-- a if t else b -/
def dIf (t : En → Option Bool) (f g : En → Option M) : En → Option M := fun env => match t env with
  | some true => f env
  | some false => g env
  | none => none
end
end T2
end
section
set_option Elab.async false
set_option linter.all false
set_option maxRecDepth 100000
namespace T2
open PySem PySem.Spec PyProof.Rows L2
/-- how a statement ends -/
inductive Fl where
  | nx (e : En) | rt (m : M) (e : En) | bk (e : En) | ct (e : En)
/-- the slots lk keep their values -/
def Lk (lk : Nat → Bool) (σ σ' : L2.St) : Prop := ∀ i, lk i = true → σ'[i]? = σ[i]?
theorem Lk.trans {lk : Nat → Bool} {σ σ1 σ2 : L2.St} (a : Lk lk σ σ1) (b : Lk lk σ1 σ2) : Lk lk σ σ2 := fun i h => (b i h).trans (a i h)
section
variable (K : PySem.W.Frag) (lk : Nat → Bool)
def Fin (D : Ends) (σ : L2.St) (env : En) (fp : Nat → List Addr) (F H : Hp) : Fl → Prop
  | .nx e' => ∀ σ' F' H' fp', Go K [] σ env fp F H σ' e' fp' F' H' → Lk lk σ σ' → D.nx σ' H'
  | .bk e' => ∀ σ' F' H' fp', Go K [] σ env fp F H σ' e' fp' F' H' → Lk lk σ σ' → D.bk σ' H'
  | .ct e' => ∀ σ' F' H' fp', Go K [] σ env fp F H σ' e' fp' F' H' → Lk lk σ σ' → D.ct σ' H'
  | .rt m e' => ∀ v σ' F' H' fp' A, Go K [] σ env fp F H σ' e' fp' F' H' → Lk lk σ σ' → Own K noBr F' H' m v A → A.Nodup → (∀ a ∈ A, H a = none ∨ Ond env fp a) → (∀ a ∈ A, ¬ Ond e' fp' a) → D.rt v H'
def tS (f : En → Option Fl) : TS := fun D σ H => ∃ env r F fp, f env = some r ∧ EnvOk K F H σ env fp ∧ Fin K lk D σ env fp F H r
end
def PDS (X : Cx) (lk : Nat → Bool) (st : Stmt) (f : En → Option Fl) : Prop := PS X st (tS X.K lk f)
def PDSs (X : Cx) (lk : Nat → Bool) (sts : List Stmt) (f : En → Option Fl) : Prop := PSs X sts (tS X.K lk f)
theorem PS.imp {X : Cx} {e : Stmt} {t u : TS} (h : PS X e t) (i : ∀ D σ H, u D σ H → t D σ H) : PS X e u := ⟨fun pins s σ H Q I q => h.run pins s σ H Q I (i _ _ _ q)⟩
theorem PSs.imp {X : Cx} {e : List Stmt} {t u : TS} (h : PSs X e t) (i : ∀ D σ H, u D σ H → t D σ H) : PSs X e u := ⟨fun pins s σ H Q I q => h.run pins s σ H Q I (i _ _ _ q)⟩
section
variable {K : PySem.W.Frag} {lk : Nat → Bool} {F H F' H' F1 H1 F2 H2 : Hp} {σ σ' σ1 σ2 : L2.St} {env env' env1 env2 : En} {fp fp' fp1 fp2 : Nat → List Addr} {A B T : List Addr} {D : Ends}
theorem Go.ond (g : Go K [] σ env fp F H σ1 env1 fp1 F1 H1) {a : Addr} (h : Ond env1 fp1 a) : H a = none ∨ Ond env fp a := by
  rcases g.nf a h with z | z | z
  · exact .inl z
  · exact .inr z
  · cases z
theorem Fin.after {r : Fl} (q : Fin K lk D σ env fp F H r) (g : Go K [] σ env fp F H σ1 env1 fp1 F1 H1) (l : Lk lk σ σ1) : Fin K lk D σ1 env1 fp1 F1 H1 r := by
  cases r with
  | nx e => exact fun σ' F' H' fp' g' l' => q σ' F' H' fp' (g.trans g' fun a z => by cases z) (l.trans l')
  | bk e => exact fun σ' F' H' fp' g' l' => q σ' F' H' fp' (g.trans g' fun a z => by cases z) (l.trans l')
  | ct e => exact fun σ' F' H' fp' g' l' => q σ' F' H' fp' (g.trans g' fun a z => by cases z) (l.trans l')
  | rt m e => exact fun v σ' F' H' fp' A g' l' o n a b => q v σ' F' H' fp' A (g.trans g' fun a z => by cases z) (l.trans l') o n (fun c hc => by
      rcases a c hc with z | z
      · exact .inl (g.stay c z)
      · exact g.ond z) b
end
def sNil : En → Option Fl := fun env => some (.nx env)
def sSeq (f g : En → Option Fl) : En → Option Fl := fun env => match f env with
  | some (.nx e) => g e
  | r => r
section
variable {X : Cx} {lk : Nat → Bool} {st : Stmt} {sts : List Stmt} {f g : En → Option Fl} {pos : Pos}
theorem pds_nil : PDSs X lk [] sNil := by
  refine PSs.imp pss_nil fun D σ H h => ?_
  obtain ⟨env, r, F, fp, e, ok, q⟩ := h
  cases e
  exact q σ F H fp (Go.refl ok) fun i _ => rfl
theorem pds_cons (h1 : PDS X lk st f) (h2 : PDSs X lk sts g) : PDSs X lk (st :: sts) (sSeq f g) := by
  refine PSs.imp (pss_cons h1 h2) fun D σ H h => ?_
  obtain ⟨env, r, F, fp, e, ok, q⟩ := h
  unfold sSeq at e
  split at e
  · rename_i e1 h1
    exact ⟨env, _, F, fp, h1, ok, fun σ1 F1 H1 fp1 g1 l1 => ⟨e1, r, F1, fp1, e, g1.ok, q.after g1 l1⟩⟩
  · rename_i r' hne
    cases r with
    | nx e1 => exact absurd e (hne e1)
    | rt m e1 => exact ⟨env, _, F, fp, e, ok, q⟩
    | bk e1 => exact ⟨env, _, F, fp, e, ok, q⟩
    | ct e1 => exact ⟨env, _, F, fp, e, ok, q⟩
theorem pds_one (h1 : PDS X lk st f) : PDSs X lk [st] f := pss_one h1
theorem pds_never : PDS X lk st (fun _ => none) := by
  refine PS.imp ps_never fun D σ H h => ?_
  obtain ⟨env, r, F, fp, e, ok, q⟩ := h
  cases e
/-- if -/
def sIf (t : En → Option (Bool × En)) (f g : En → Option Fl) : En → Option Fl := fun env => match t env with
  | some (true, e) => f e
  | some (false, e) => g e
  | none => none
theorem pds_if {c : Expr} {a b : List Stmt} {t : En → Option (Bool × En)} (hc : PXT X c t) (ha : PDSs X lk a f) (hb : PDSs X lk b g) : PDS X lk (.If c a b pos) (sIf t f g) := by
  refine PS.imp (ps_if hc ha hb) fun D σ H h => ?_
  obtain ⟨env, r, F, fp, e, ok, q⟩ := h
  unfold sIf at e
  split at e
  · rename_i e1 h1
    exact ⟨env, true, e1, F, fp, h1, ok, fun F1 H1 fp1 g1 => iteT ⟨e1, r, F1, fp1, e, g1.ok, q.after g1 fun i _ => rfl⟩⟩
  · rename_i e1 h1
    exact ⟨env, false, e1, F, fp, h1, ok, fun F1 H1 fp1 g1 => iteF ⟨e1, r, F1, fp1, e, g1.ok, q.after g1 fun i _ => rfl⟩⟩
  · cases e
/-- an expression for what it does -/
def sExp (g : En → Option (M × En)) : En → Option Fl := fun env => match g env with
  | some (_, e) => some (.nx e)
  | none => none
theorem pds_expr {e : Expr} {g : En → Option (M × En)} (he : PX X e g) (hs : swapsWith e none pos.line X.env = pure false := by rfl) : PDS X lk (.Expr e pos) (sExp g) := by
  refine PS.imp (ps_expr he hs) fun D σ H h => ?_
  obtain ⟨env, r, F, fp, e, ok, q⟩ := h
  unfold sExp at e
  split at e
  · rename_i m e1 h1
    cases e
    exact ⟨env, m, e1, F, fp, h1, ok, fun v F' H' fp' A g1 o n a b => q σ F' H' fp' g1 fun i _ => rfl⟩
  · cases e
end
section
variable {K : PySem.W.Frag} {lk : Nat → Bool} {F H F' H' F1 H1 F2 H2 : Hp} {σ σ' σ1 σ2 : L2.St} {env env' env1 env2 : En} {fp fp' fp1 fp2 : Nat → List Addr} {A B T : List Addr} {D : Ends}
theorem set_ok {i : Nat} {m : M} {v : V} (ok : EnvOk K F H σ env fp) (h : Own K noBr F H m v A) (hn : A.Nodup) (hA : ∀ a ∈ A, ¬ Ond env fp a) (hi : i < env.length) : Go K A σ env fp F H (σ.set i (some v)) (env.put i m) (fun j => if j = i then A else fp j) F H := by
  refine ⟨.refl _, fun _ _ e _ _ => e, fun _ e => e, fun _ e => .inl e, fun a ⟨j, n, hj, ha⟩ => ?_, ?_, fun _ _ _ e => e⟩
  · by_cases e : j = i
    · simp only [if_pos e] at ha
      exact .inr (.inr ha)
    · simp only [if_neg e] at ha
      rw [En.get_put hi, if_neg e] at hj
      exact .inr (.inl ⟨j, n, hj, ha⟩)
  · refine ⟨?_, ok.sub, fun j n hj => ?_, fun j n hj => ?_, fun j k n n' a hj hk ha hb => ?_⟩
    · unfold En.put
      rw [List.length_set, List.length_set]
      exact ok.len
    · rw [En.get_put hi] at hj
      by_cases e : j = i
      · subst e
        rw [if_pos rfl] at hj
        cases hj
        refine ⟨v, List.getElem?_set_self (by rw [← ok.len]; exact hi), ?_⟩
        simp only [if_pos]
        exact h
      · rw [if_neg e] at hj
        obtain ⟨w, k1, k2⟩ := ok.slot j n hj
        refine ⟨w, by rw [List.getElem?_set_ne (Ne.symm e)]; exact k1, ?_⟩
        simp only [if_neg e]
        exact k2
    · by_cases e : j = i
      · simp only [if_pos e]
        exact hn
      · rw [En.get_put hi, if_neg e] at hj
        simp only [if_neg e]
        exact ok.nd j n hj
    · by_cases e : j = i
      · simp only [if_pos e] at ha
        by_cases e' : k = i
        · rw [e, e']
        · simp only [if_neg e'] at hb
          rw [En.get_put hi, if_neg e'] at hk
          exact absurd ⟨k, n', hk, hb⟩ (hA a ha)
      · simp only [if_neg e] at ha
        rw [En.get_put hi, if_neg e] at hj
        by_cases e' : k = i
        · simp only [if_pos e'] at hb
          exact absurd ⟨j, n, hj, ha⟩ (hA a hb)
        · simp only [if_neg e'] at hb
          rw [En.get_put hi, if_neg e'] at hk
          exact ok.dj j k n n' a hj hk ha hb
/-- behind a result: it is stored -/
theorem stow_go {k : Nat} {m m' : M} {v : V} {env2 : En} (g : Go K [] σ env fp F H σ env1 fp1 F1 H1) (o : Own K (plc H1 σ env1) F1 H1 m v A) (n : A.Nodup) (a : ∀ a ∈ A, H a = none ∨ Ond env fp a) (b : ∀ a ∈ A, ¬ Ond env1 fp1 a) (e : stow k env1 m = some (m', env2)) :
    ∃ F2 fp2 A', Go K [] σ env fp F H σ env2 fp2 F2 H1 ∧ Own K noBr F2 H1 m' v A' ∧ A'.Nodup ∧ (∀ a ∈ A', H a = none ∨ Ond env fp a) ∧ (∀ a ∈ A', ¬ Ond env2 fp2 a) := by
  obtain ⟨F2, fp2, A', g2, o2, s2, k2⟩ := stow_ok g.ok o n b e
  exact ⟨F2, fp2, A', g.trans g2 a, o2, n.sublist s2, fun c hc => a c (s2.subset hc), fun c hc z => b c (s2.subset hc) (k2 c z)⟩
end
/-- name = e: the first k levels stay owned -/
def sAsg (lk : Nat → Bool) (i k : Nat) (g : En → Option (M × En)) : En → Option Fl := fun env => match g env with
  | some (m, e1) => match stow k e1 m with
    | some (m', e2) => if lk i = false ∧ i < e2.length then some (.nx (e2.put i m')) else none
    | none => none
  | none => none
theorem Lk.set {lk : Nat → Bool} {σ : L2.St} {i : Nat} {v : V} (h : lk i = false) : Lk lk σ (σ.set i (some v)) := fun j hj => by
  have : i ≠ j := fun e => by
    subst e
    rw [h] at hj
    cases hj
  rw [List.getElem?_set_ne this]
section
variable {X : Cx} {lk : Nat → Bool} {i k : Nat} {g : En → Option (M × En)}
theorem pds_asg {st : Stmt} (h : PS X st (tAsg (tX X.K g) (gName i))) : PDS X lk st (sAsg lk i k g) := by
  refine PS.imp h fun D σ H h => ?_
  obtain ⟨env, r, F, fp, e, ok, q⟩ := h
  unfold sAsg at e
  split at e
  · rename_i m e1 h1
    split at e
    · rename_i m' e2 h2
      split at e
      · rename_i hi
        cases e
        refine ⟨env, m, e1, F, fp, h1, ok, fun v F1 H1 fp1 A g1 o n a b => ?_⟩
        obtain ⟨F2, fp2, A', g2, o2, n2, a2, b2⟩ := stow_go g1 o n a b h2
        exact q _ F2 H1 _ (g2.trans (set_ok g2.ok o2 n2 b2 hi.2) a2) (Lk.set hi.1)
      · cases e
    · cases e
  · cases e
theorem pds_set {x : Str} {e : Expr} {pos pos' : Pos} (hN : X.N.Nodup) (he : PX X e g) (hi : X.N[i]? = some x := by rfl) (hx : Loc X.env.scope x := by first | exact .inl rfl | exact .inr rfl) (hs : swapsWith e (some (.Name x pos')) pos.line X.env = pure false := by rfl)
    (hf : X.fn x = true ∨ X.env.scope.names.lookup x = some .local := by first | exact .inl rfl | exact .inr rfl | assumption) : PDS X lk (.Assign [.Name x pos'] e pos) (sAsg lk i k g) := pds_asg (ps_set hN hi hx he hs hf)
end
def sRet (lk : Nat → Bool) (g : En → Option (M × En)) : En → Option Fl := fun env => match g env with
  | some (.bp i [], e1) => match e1.get i with
    | some m => if lk i = false then some (.rt m (e1.kill i)) else none
    | none => none
  | some (m, e1) => match stow 9 e1 m with
    | some (m', e2) => some (.rt m' e2)
    | none => none
  | none => none
section
variable {X : Cx} {lk : Nat → Bool} {g : En → Option (M × En)} {e : Expr} {pos : Pos}
theorem kill_ok {K : PySem.W.Frag} {F H : Hp} {σ : L2.St} {env : En} {fp : Nat → List Addr} {i : Nat} (ok : EnvOk K F H σ env fp) : Go K [] σ env fp F H σ (env.kill i) fp F H := by
  refine ⟨.refl _, fun _ _ e _ _ => e, fun _ e => e, fun _ e => .inl e, fun a ⟨j, n, hj, ha⟩ => ?_, ?_, fun _ _ _ e => e⟩
  · rw [En.get_kill] at hj
    split at hj
    · cases hj
    · exact .inr (.inl ⟨j, n, hj, ha⟩)
  · refine ⟨by unfold En.kill; rw [List.length_set]; exact ok.len, ok.sub, fun j n hj => ?_, fun j n hj => ?_, fun j k n n' a hj hk ha hb => ?_⟩
    · rw [En.get_kill] at hj
      split at hj
      · cases hj
      · exact ok.slot j n hj
    · rw [En.get_kill] at hj
      split at hj
      · cases hj
      · exact ok.nd j n hj
    · rw [En.get_kill] at hj hk
      split at hj
      · cases hj
      · split at hk
        · cases hk
        · exact ok.dj j k n n' a hj hk ha hb
theorem pds_ret (he : PX X e g) : PDS X lk (.Return (some e) pos) (sRet lk g) := by
  refine PS.imp (ps_ret he) fun D σ H h => ?_
  obtain ⟨env, r, F, fp, e, ok, q⟩ := h
  unfold sRet at e
  split at e
  · rename_i i e1 h1
    split at e
    · rename_i m hm
      split at e
      · rename_i hl
        cases e
        refine ⟨env, _, e1, F, fp, h1, ok, fun v F1 H1 fp1 A g1 o n a b => ?_⟩
        simp only [Own] at o
        obtain ⟨_, w, hw, hv, _⟩ := o
        have hv : v = w := hv
        subst hv
        obtain ⟨u, k1, k2⟩ := g1.ok.slot i m hm
        rw [hw] at k1
        cases k1
        refine q v σ F1 H1 fp1 (fp1 i) (g1.trans (kill_ok g1.ok) fun a z => by cases z) (fun _ _ => rfl) k2 (g1.ok.nd i m hm) (fun c hc => g1.ond ⟨i, m, hm, hc⟩) fun c hc ⟨j, n, hj, hc'⟩ => ?_
        rw [En.get_kill] at hj
        split at hj
        · cases hj
        · rename_i hne
          exact hne (g1.ok.dj j i n m c hj hm hc' hc)
      · cases e
    · cases e
  · rename_i m e1 hne h1
    split at e
    · rename_i m' e2 h2
      cases e
      refine ⟨env, m, e1, F, fp, h1, ok, fun v F1 H1 fp1 A g1 o n a b => ?_⟩
      obtain ⟨F2, fp2, A', g2, o2, n2, a2, b2⟩ := stow_go g1 o n a b h2
      exact q v σ F2 H1 fp2 A' g2 (fun _ _ => rfl) o2 n2 a2 b2
    · cases e
  · cases e
end
inductive Tg where
  | nm (i : Nat) | tp (ts : List Tg)
mutual
def asT (lk : Nat → Bool) : Tg → D → En → Option En
  | .nm i, d, env => if lk i = false ∧ i < env.length then some (env.put i (.fz d)) else none
  | .tp ts, .tup ds, env => if ts.length = ds.length then asTs lk ts ds env else none
  | .tp ts, .lst ds, env => if ts.length = ds.length then asTs lk ts ds env else none
  | .tp _, _, _ => none
def asTs (lk : Nat → Bool) : List Tg → List D → En → Option En
  | [], [], env => some env
  | t :: ts, d :: ds, env => match asT lk t d env with
    | some e => asTs lk ts ds e
    | none => none
  | _, _, _ => none
end
mutual
theorem asT_len {lk : Nat → Bool} : ∀ (t : Tg) (d : D) (env env' : En), asT lk t d env = some env' → env'.length = env.length
  | .nm i, d, env, env', e => by
    simp only [asT] at e
    split at e
    · cases e
      unfold En.put
      rw [List.length_set]
    · cases e
  | .tp ts, .tup ds, env, env', e => by
    simp only [asT] at e
    split at e
    · exact asTs_len ts ds env env' e
    · cases e
  | .tp ts, .non, env, env', e => by simp only [asT] at e; cases e
  | .tp ts, .bl _, env, env', e => by simp only [asT] at e; cases e
  | .tp ts, .int _, env, env', e => by simp only [asT] at e; cases e
  | .tp ts, .str _, env, env', e => by simp only [asT] at e; cases e
  | .tp ts, .lst ds, env, env', e => by
    simp only [asT] at e
    split at e
    · exact asTs_len ts ds env env' e
    · cases e
  | .tp ts, .ins _ _, env, env', e => by simp only [asT] at e; cases e
  | .tp ts, .dic _ _, env, env', e => by simp only [asT] at e; cases e
  | .tp ts, .any, env, env', e => by simp only [asT] at e; cases e
  | .tp ts, .exc _ _ _, env, env', e => by simp only [asT] at e; cases e
  | .tp ts, .scr _, env, env', e => by simp only [asT] at e; cases e
theorem asTs_len {lk : Nat → Bool} : ∀ (ts : List Tg) (ds : List D) (env env' : En), asTs lk ts ds env = some env' → env'.length = env.length
  | [], [], env, env', e => by simp only [asTs, Option.some.injEq] at e; rw [e]
  | t :: ts, d :: ds, env, env', e => by
    simp only [asTs] at e
    split at e
    · rename_i e1 h1
      rw [asTs_len ts ds e1 env' e, asT_len t d env e1 h1]
    · cases e
  | [], d :: ds, env, env', e => by simp only [asTs] at e; cases e
  | t :: ts, [], env, env', e => by simp only [asTs] at e; cases e
end
section
variable (K : PySem.W.Frag) (lk : Nat → Bool)
/-- a target takes data -/
def tT (t : Tg) : TG := fun v σ H Q => ∃ d env env' F fp, Rep K F d v ∧ asT lk t d env = some env' ∧ EnvOk K F H σ env fp ∧ ∀ σ' fp', Go K [] σ env fp F H σ' env' fp' F H → Lk lk σ σ' → Q σ' H
def tTs (t : List Tg) : TGs := fun vs σ H Q => ∃ ds env env' F fp, RepL K F ds vs ∧ asTs lk t ds env = some env' ∧ EnvOk K F H σ env fp ∧ ∀ σ' fp', Go K [] σ env fp F H σ' env' fp' F H → Lk lk σ σ' → Q σ' H
end
def PT' (X : Cx) (lk : Nat → Bool) (e : Expr) (t : Tg) : Prop := PG X e (tT X.K lk t)
def PTs' (X : Cx) (lk : Nat → Bool) (es : List Expr) (t : List Tg) : Prop := PGs X es (tTs X.K lk t)
theorem PG.imp {X : Cx} {e : Expr} {t u : TG} (h : PG X e t) (i : ∀ v σ H Q, u v σ H Q → t v σ H Q) : PG X e u := ⟨fun pins s σ H v w Q I r q => h.run pins s σ H v w Q I r (i _ _ _ _ q)⟩
theorem PGs.imp {X : Cx} {e : List Expr} {t u : TGs} (h : PGs X e t) (i : ∀ v σ H Q, u v σ H Q → t v σ H Q) : PGs X e u := ⟨fun pins s σ H v w Q I r q => h.run pins s σ H v w Q I r (i _ _ _ _ q)⟩
section
variable {X : Cx} {lk : Nat → Bool} {e : Expr} {es : List Expr} {t : Tg} {ts : List Tg} {pos : Pos}
theorem pt_nm {i : Nat} {x : Str} (hN : X.N.Nodup) (hi : X.N[i]? = some x := by rfl) (hx : Loc X.env.scope x := by first | exact .inl rfl | exact .inr rfl) (hf : X.fn x = true ∨ X.env.scope.names.lookup x = some .local := by first | exact .inl rfl | exact .inr rfl | assumption) : PT' X lk (.Name x pos) (.nm i) := by
  refine PG.imp (pg_name hN hi hx hf) fun v σ H Q h => ?_
  obtain ⟨d, env, env', F, fp, r, e, ok, q⟩ := h
  simp only [asT] at e
  split at e
  · rename_i hi
    cases e
    have g := set_ok (i := i) (v := v) ok (own_fz (br := noBr) (H := H) r) .nil (fun a z => by cases z) hi.2
    exact q _ _ g (Lk.set hi.1)
  · cases e
theorem pts_nil' : PTs' X lk [] [] := by
  refine PGs.imp pgs_nil fun v σ H Q h => ?_
  obtain ⟨ds, env, env', F, fp, r, e, ok, q⟩ := h
  cases ds with
  | nil =>
    simp only [asTs, Option.some.injEq] at e
    subst e
    simp only [RepL] at r
    exact ⟨r, q σ fp (Go.refl ok) fun _ _ => rfl⟩
  | cons d ds => simp only [asTs] at e; cases e
theorem pts_cons' (h1 : PT' X lk e t) (h2 : PTs' X lk es ts) (hs : (assignEach (e :: es) X.env).map (·.2) = assign e X.env :: (assignEach es X.env).map (·.2) := by rfl) : PTs' X lk (e :: es) (t :: ts) := by
  refine PGs.imp (pgs_cons h1 h2 hs) fun v σ H Q h => ?_
  obtain ⟨ds, env, env', F, fp, r, e, ok, q⟩ := h
  cases ds with
  | nil => simp only [asTs] at e; cases e
  | cons d ds =>
    simp only [asTs] at e
    split at e
    · rename_i e1 h1
      simp only [RepL] at r
      obtain ⟨w, vs, rfl, r1, r2⟩ := r
      refine ⟨w, vs, rfl, d, env, e1, F, fp, r1, h1, ok, fun σ1 fp1 g1 l1 => ?_⟩
      exact ⟨ds, e1, env', F, fp1, r2, e, g1.ok, fun σ2 fp2 g2 l2 => q σ2 fp2 (g1.trans g2 fun a z => by cases z) (l1.trans l2)⟩
    · cases e
theorem RepL.len {K : PySem.W.Frag} {F : Hp} : ∀ {ds : List D} {vs : List V}, RepL K F ds vs → ds.length = vs.length
  | [], vs, h => by
    simp only [RepL] at h
    rw [h]
    rfl
  | d :: ds, vs, h => by
    simp only [RepL] at h
    obtain ⟨v, r, rfl, _, q⟩ := h
    simp only [List.length_cons, RepL.len q]
theorem PG.or {e : Expr} {t u : TG} (h : PG X e t) (h' : PG X e u) : PG X e (fun v σ H Q => t v σ H Q ∨ u v σ H Q) := ⟨fun pins s σ H v w Q I r q => q.elim (h.run pins s σ H v w Q I r) (h'.run pins s σ H v w Q I r)⟩
theorem pt_tp {k : Nat} {n : Nat} (hc : X.calm = true) (h : PTs' X lk es ts) (hn : (assignEach es X.env).length = n := by rfl) (hl : ts.length = n := by rfl) (hst : (assignEach es X.env).findIdx? (·.1) = none := by rfl) : PT' X lk (.Tuple es k pos) (.tp ts) := by
  refine PG.imp (PG.or (pg_tup hc h hn hst) (pg_unl hc h hn hst)) fun v σ H Q h => ?_
  obtain ⟨d, env, env', F, fp, r, e, ok, q⟩ := h
  cases d with
  | tup ds =>
    simp only [asT] at e
    split at e
    · rename_i hl'
      simp only [Rep] at r
      obtain ⟨a, vs, rfl, r1, r2⟩ := r
      exact .inl ⟨a, vs, rfl, SqT.of (ok.sub _ _ r1), by rw [← r2.len, ← hl', hl], ds, env, env', F, fp, r2, e, ok, q⟩
    · cases e
  | non => cases e
  | bl _ => cases e
  | int _ => cases e
  | str _ => cases e
  | lst ds =>
    simp only [asT] at e
    split at e
    · rename_i hl'
      simp only [Rep] at r
      obtain ⟨a, vs, rfl, r1, r2⟩ := r
      exact .inr ⟨a, vs, rfl, SqL.of (ok.sub _ _ r1), by rw [← r2.len, ← hl', hl], ds, env, env', F, fp, r2, e, ok, q⟩
    · cases e
  | ins _ _ => cases e
  | dic _ _ => cases e
  | any => cases e
  | exc _ _ _ => cases e
  | scr _ => cases e
/-- targets = e, frozen -/
def sUnp (lk : Nat → Bool) (t : Tg) (g : En → Option (M × En)) : En → Option Fl := fun env => match g env with
  | some (m, e1) => match stow 0 e1 m with
    | some (.fz d, e2) => match asT lk t d e2 with
      | some e3 => some (.nx e3)
      | none => none
    | _ => none
  | none => none
end
end T2
end
section
set_option Elab.async false
set_option linter.all false
set_option maxRecDepth 100000
namespace T2
open PySem PySem.Spec PyProof.Rows L2
structure ItOk (K : PySem.W.Frag) (J : It) (F0 G0 : Hp) (ds : List D) : Prop where
  go : ∀ i F H d, Same F0 F → Same G0 H → Same F H → ds[i]? = some d → J.go i H ∧ ∀ x H', J.yld i H x H' → ∃ F', Step [] F H F' H' ∧ Rep K F' d x
  stop : ∀ i F H, Same F0 F → Same G0 H → Same F H → ds.length ≤ i → J.stop i H
section
variable (K : PySem.W.Frag)
def tI (it : En → Option (List D × En)) : TI := fun σ H R => ∃ env ds env' F fp, it env = some (ds, env') ∧ EnvOk K F H σ env fp ∧ ∀ J F' H' fp', Go K [] σ env fp F H σ env' fp' F' H' → ItOk K J F' F' ds → R J H'
def tIp (it : En → Option (List D)) : TI := fun σ H R => ∃ env ds F fp, it env = some ds ∧ EnvOk K F H σ env fp ∧ ∀ J F' H', Step [] F H F' H' → ItOk K J F' H' ds → R J H'
end
def PDI (X : Cx) (tg e : Expr) (it : En → Option (List D × En)) : Prop := PI X tg e (tI X.K it)
def PDP (X : Cx) (tg e : Expr) (it : En → Option (List D)) : Prop := PI X tg e (tIp X.K it)
theorem PI.imp {X : Cx} {tg e : Expr} {t u : TI} (h : PI X tg e t) (i : ∀ σ H R, u σ H R → t σ H R) : PI X tg e u := ⟨fun pins s σ H R I q => h.run pins s σ H R I (i _ _ _ q)⟩
/-- what is walked stands by itself -/
def tIr (K : PySem.W.Frag) (it : En → Option (List D)) : TI := fun σ H R => ∃ env ds F fp, it env = some ds ∧ EnvOk K F H σ env fp ∧ ∀ J F' H', Step [] F H F' H' → (∀ G, ItOk K J F' G ds) → R J H'
def PDR (X : Cx) (tg e : Expr) (it : En → Option (List D)) : Prop := PI X tg e (tIr X.K it)
def lifI (it : En → Option (List D)) : En → Option (List D × En) := fun env => match it env with
  | some ds => some (ds, env)
  | none => none
theorem pdi_of {X : Cx} {tg e : Expr} {it : En → Option (List D)} (h : PDR X tg e it) : PDI X tg e (lifI it) := PI.imp h fun σ H R h => by
  obtain ⟨env, ds, env', F, fp, e, ok, q⟩ := h
  unfold lifI at e
  split at e
  · rename_i ds' hd
    cases e
    exact ⟨env, ds, F, fp, hd, ok, fun J F' H' s j => q J F' H' fp (s.go ok fun a z => by cases z) (j F')⟩
  · cases e
theorem pdp_of {X : Cx} {tg e : Expr} {it : En → Option (List D)} (h : PDR X tg e it) : PDP X tg e it := PI.imp h fun σ H R h => by
  obtain ⟨env, ds, F, fp, e, ok, q⟩ := h
  exact ⟨env, ds, F, fp, e, ok, fun J F' H' s j => q J F' H' s (j H')⟩
section
variable {K : PySem.W.Frag} {F H F' H' : Hp}
theorem RepL.get : ∀ {ds : List D} {vs : List V} {i : Nat} {d : D}, RepL K F ds vs → ds[i]? = some d → ∃ v, vs[i]? = some v ∧ Rep K F d v
  | [], vs, i, d, h, e => by cases e
  | d' :: ds, vs, 0, d, h, e => by
    simp only [RepL] at h
    obtain ⟨v, r, rfl, h1, h2⟩ := h
    cases e
    exact ⟨v, rfl, h1⟩
  | d' :: ds, vs, i + 1, d, h, e => by
    simp only [RepL] at h
    obtain ⟨v, r, rfl, h1, h2⟩ := h
    exact RepL.get (ds := ds) (vs := r) (i := i) h2 (by simpa using e)
theorem seqT {H H' : Hp} {a : Addr} {xs : List V} (e : Same H H') (h : SqT K H a xs) : SqT K H' a xs := by
  rcases h with (h | ⟨o, h⟩) | h
  · exact .inl (.inl (e _ _ h))
  · exact .inl (.inr ⟨o, e _ _ h⟩)
  · exact .inr h
theorem it_list {G : Hp} {a : Addr} {vs : List V} {ds : List D} (h : SqL K G a vs) (r : RepL K F ds vs) : ItOk K (Itl K a) F G ds := by
  refine ⟨fun i F1 H1 d s1 sg s2 hd => ?_, fun i F1 H1 s1 sg s2 hl => ⟨vs, sg.seq h, by rw [← r.len]; exact hl⟩⟩
  have q : SqL K H1 a vs := sg.seq h
  obtain ⟨v, hv, rv⟩ := r.get hd
  refine ⟨⟨vs, v, q, hv⟩, fun x H2 ⟨e1, e2⟩ => ?_⟩
  subst e1
  have e3 := e2 vs q
  rw [hv] at e3
  cases e3
  exact ⟨F1, .refl s2, Rep.mono s1 _ _ rv⟩
theorem it_tup {G : Hp} {a : Addr} {vs : List V} {ds : List D} (h : SqT K G a vs) (r : RepL K F ds vs) : ItOk K (Itt K a) F G ds := by
  refine ⟨fun i F1 H1 d s1 sg s2 hd => ?_, fun i F1 H1 s1 sg s2 hl => ⟨vs, seqT sg h, by rw [← r.len]; exact hl⟩⟩
  have q : SqT K H1 a vs := seqT sg h
  obtain ⟨v, hv, rv⟩ := r.get hd
  refine ⟨⟨vs, v, q, hv⟩, fun x H2 ⟨e1, e2⟩ => ?_⟩
  subst e1
  have e3 := e2 vs q
  rw [hv] at e3
  cases e3
  exact ⟨F1, .refl s2, Rep.mono s1 _ _ rv⟩
theorem repL_ints : ∀ ns : List Int, RepL K F (ns.map .int) (ns.map V.int)
  | [] => by simp only [List.map_nil, RepL]
  | n :: ns => by
    simp only [List.map_cons, RepL]
    exact ⟨_, _, rfl, by simp only [Rep], repL_ints ns⟩
def rngD (lo : Int) (n : Nat) : List D := (List.range n).map fun i => .int (lo + (i : Nat))
theorem it_rng {G : Hp} {lo : Int} {n : Nat} : ItOk K (Itr lo n) F G (rngD lo n) := by
  refine ⟨fun i F1 H1 d s1 sg s2 hd => ?_, fun i F1 H1 s1 sg s2 hl => ?_⟩
  · unfold rngD at hd
    rw [List.getElem?_map] at hd
    obtain ⟨j, hj, rfl⟩ := Option.map_eq_some_iff.mp hd
    obtain ⟨hlt, e⟩ := List.getElem?_eq_some_iff.mp hj
    rw [List.getElem_range] at e
    subst e
    rw [List.length_range] at hlt
    refine ⟨hlt, fun x H2 ⟨e1, e2⟩ => ?_⟩
    subst e1 e2
    exact ⟨F1, .refl s2, by simp only [Rep]⟩
  · unfold rngD at hl
    rw [List.length_map, List.length_range] at hl
    exact hl
end
/-- the items of data -/
def itemsD : D → Option (List D)
  | .lst ds => some ds
  | .tup ds => some ds
  | .scr ns => some (ns.map .int)
  | _ => none
def isLst : D → Bool
  | .lst _ => true
  | .scr _ => true
  | _ => false
/-- what is walked, behind an expression: it freezes -/
def itX (b : Bool) (g : En → Option (M × En)) : En → Option (List D × En) := fun env => match g env with
  | some (m, e1) => match stow 0 e1 m with
    | some (.fz d, e2) => if isLst d = b then (match itemsD d with
      | some ds => some (ds, e2)
      | none => none) else none
    | _ => none
  | none => none
/-- the same, where nothing of the slots freezes -/
def items (env : En) (m : M) : Option D := match slots m with
  | [] => dat0 m
  | _ => match elems env m with
    | some (true, ms) => (allFz ms).map .lst
    | some (false, ms) => (allFz ms).map .tup
    | none => none
def itP (b : Bool) (f : En → Option M) : En → Option (List D) := fun env => match f env with
  | some m => match items env m with
    | some d => if isLst d = b then itemsD d else none
    | none => none
  | none => none
section
variable {X : Cx} {e tg : Expr} {g : En → Option (M × En)} {f : En → Option M}
theorem pdi_lst (h : PX X e g) : PDI X tg e (itX true g) := PI.imp (pi_list h) fun σ H R h => by
  obtain ⟨env, ds, env', F, fp, e, ok, q⟩ := h
  unfold itX at e
  split at e
  · rename_i m e1 h1
    split at e
    · rename_i d e2 h2
      split at e
      · rename_i hb
        split at e
        · rename_i ds' hd
          cases e
          refine ⟨env, m, e1, F, fp, h1, ok, fun v F1 H1 fp1 A g1 o n a b => ?_⟩
          obtain ⟨F2, fp2, A', g2, o2, n2, a2, b2⟩ := stow_go g1 o n a b h2
          simp only [Own] at o2
          cases d with
          | lst xs =>
            cases hd
            have o3 := o2.2
            simp only [Rep] at o3
            obtain ⟨p, vs, rfl, r1, r2⟩ := o3
            exact ⟨p, rfl, ⟨vs, SqL.of (g2.ok.sub _ _ r1)⟩, q _ F2 H1 fp2 g2 (it_list (SqL.of r1) r2)⟩
          | scr ns =>
            cases hd
            have o3 := o2.2
            simp only [Rep] at o3
            obtain ⟨p, rfl, r1⟩ := o3
            exact ⟨p, rfl, ⟨_, g2.ok.sub.seq r1⟩, q _ F2 H1 fp2 g2 (it_list r1 (repL_ints ns))⟩
          | non => cases hb
          | bl _ => cases hb
          | int _ => cases hb
          | str _ => cases hb
          | ins _ _ => cases hb
          | dic _ _ => cases hb
          | any => cases hb
          | exc _ _ _ => cases hb
          | tup _ => cases hb
        · cases e
      · cases e
    · cases e
  · cases e
/-- the data of a result whose slots stay -/
theorem items_ok {K : PySem.W.Frag} {F H : Hp} {σ : L2.St} {env : En} {fp : Nat → List Addr} {A : List Addr} {m : M} {v : V} {d : D} {ds : List D} (ok : EnvOk K F H σ env fp) (h : Own K (plc H σ env) F H m v A) (hA : ∀ a ∈ A, ¬ Ond env fp a) (e : items env m = some d) (hd : itemsD d = some ds) :
    ∃ F', Step A F H F' H ∧ ∃ p vs, v = .ref p ∧ RepL K F' ds vs ∧ (isLst d = true → SqL K H p vs) ∧ (isLst d = false → SqT K H p vs) := by
  unfold items at e
  split at e
  · rename_i hs
    have st : Step A F H (frz F H A) H := .mk' (same_frz ok.sub) (.refl _) (frz_same ok.sub) fun a z => by
      unfold frz at z
      split at z
      · rename_i ha
        exact .inr (.inr ha)
      · exact .inl z
    have e' : datW (fun _ _ => none) m = some d := e
    have r : Rep K (frz F H A) d v := datW_ok (same_frz ok.sub) (fun _ _ _ _ _ z => by cases z) m v A d h e' fun a ha o q => by
      unfold frz
      rw [if_pos ha]
      exact q
    refine ⟨frz F H A, st, ?_⟩
    cases d with
    | lst xs =>
      cases hd
      simp only [Rep] at r
      obtain ⟨p, vs, rfl, r1, r2⟩ := r
      exact ⟨p, vs, rfl, r2, fun _ => SqL.of (frz_same ok.sub _ _ r1), fun z => nomatch z⟩
    | tup xs =>
      cases hd
      simp only [Rep] at r
      obtain ⟨p, vs, rfl, r1, r2⟩ := r
      exact ⟨p, vs, rfl, r2, (fun z => nomatch z), fun _ => SqT.of (frz_same ok.sub _ _ r1)⟩
    | scr ns =>
      cases hd
      simp only [Rep] at r
      obtain ⟨p, rfl, r1⟩ := r
      exact ⟨p, _, rfl, repL_ints ns, fun _ => (frz_same ok.sub).seq r1, fun z => nomatch z⟩
    | non => cases hd
    | bl _ => cases hd
    | int _ => cases hd
    | str _ => cases hd
    | ins _ _ => cases hd
    | dic _ _ => cases hd
    | any => cases hd
    | exc _ _ _ => cases hd
  · have st : Step A F H F H := .mk' (.refl _) (.refl _) ok.sub fun a z => .inl z
    split at e
    · rename_i ms hm
      obtain ⟨xs, hx, rfl⟩ := Option.map_eq_some_iff.mp e
      cases hd
      obtain ⟨p, vs, B, rfl, q1, _, o, _⟩ := elems_ok ok h hm
      obtain ⟨r, _⟩ := allFz_ok o hx
      exact ⟨F, st, p, vs, rfl, r, fun _ => SqL.of (q1 rfl), fun z => nomatch z⟩
    · rename_i ms hm
      obtain ⟨xs, hx, rfl⟩ := Option.map_eq_some_iff.mp e
      cases hd
      obtain ⟨p, vs, B, rfl, _, q1, o, _⟩ := elems_ok ok h hm
      obtain ⟨r, _⟩ := allFz_ok o hx
      exact ⟨F, st, p, vs, rfl, r, (fun z => nomatch z), fun _ => SqT.of (q1 rfl)⟩
    · cases e
theorem itP_ok {K : PySem.W.Frag} {σ : L2.St} {H : Hp} {R : It → Hp → Prop} {b : Bool} (h : tIp K (itP b f) σ H R) : tD K f σ H fun x H1 => ∃ p, x = .ref p ∧ (b = true → (∃ xs, SqL K H1 p xs) ∧ R (Itl K p) H1) ∧ (b = false → (∃ xs, SqT K H1 p xs) ∧ R (Itt K p) H1) := by
  obtain ⟨env, ds, F, fp, e, ok, q⟩ := h
  unfold itP at e
  split at e
  · rename_i m h1
    split at e
    · rename_i d h2
      split at e
      · rename_i hb
        refine ⟨env, m, F, fp, h1, ok, fun v F1 H1 A s o n a => ?_⟩
        have no : ∀ c ∈ A, ¬ Ond env fp c := fun c hc z => by
          obtain ⟨_, o', z'⟩ := ok.at z
          rw [a c hc] at z'
          cases z'
        obtain ⟨F2, s2, p, vs, rfl, r, r1, r2⟩ := items_ok (ok.step s fun a z => by cases z) o no h2 e
        refine ⟨p, rfl, fun z => ?_, fun z => ?_⟩
        · exact ⟨⟨vs, r1 (hb.trans z)⟩, q _ F2 H1 (s.trans s2 a) (it_list (r1 (hb.trans z)) r)⟩
        · exact ⟨⟨vs, r2 (hb.trans z)⟩, q _ F2 H1 (s.trans s2 a) (it_tup (r2 (hb.trans z)) r)⟩
      · cases e
    · cases e
  · cases e
theorem pdp_lst (h : PD X e f) : PDP X tg e (itP true f) := PI.imp (pi_list h) fun σ H R h => (itP_ok h).mono fun x H1 ⟨p, e, q, _⟩ => ⟨p, e, (q rfl).1, (q rfl).2⟩
/-- range -/
def inR (i : Int) : Bool := decide (-(2 ^ 62) ≤ i ∧ i < 2 ^ 62)
def itR1 (fs : En → Option (List M)) : En → Option (List D) := fun env => match fs env with
  | some [.fz (.int j)] => if inR j then some (rngD 0 j.toNat) else none
  | _ => none
def itR2 (fs : En → Option (List M)) : En → Option (List D) := fun env => match fs env with
  | some [.fz (.int i), .fz (.int j)] => if inR i && inR j then some (rngD i (j - i).toNat) else none
  | _ => none
theorem pdr_range1 {a : Expr} {fs : En → Option (List M)} {p pos : Pos} (hg : Gl X "range") (hm : X.mg "range" = none) (ha : PDA X [a] fs) (hs : starEach [a] X.env = [(false, eval a X.env)] := by rfl) : PDR X tg (.Call (.Name "range" p) [a] [] pos) (itR1 fs) :=
  PI.imp (pi_range1 hg hm ha hs) fun σ H R h => by
    obtain ⟨env, ds, F, fp, e, ok, q⟩ := h
    unfold itR1 at e
    split at e
    · rename_i j hj
      split at e
      · rename_i hr
        cases e
        refine ⟨env, [.fz (.int j)], F, fp, hj, ok, fun vs F1 H1 A s o n a => ?_⟩
        obtain ⟨v, rfl, o1⟩ := ownL1 o
        simp only [Own, Rep] at o1
        unfold inR at hr
        have hr := of_decide_eq_true hr
        exact ⟨j, by rw [o1.2], hr.1, hr.2, q _ F1 H1 s fun G => it_rng⟩
      · cases e
    · cases e
theorem pdr_range2 {a b : Expr} {fs : En → Option (List M)} {p pos : Pos} (hg : Gl X "range") (hm : X.mg "range" = none) (ha : PDA X [a, b] fs) (hs : starEach [a, b] X.env = [(false, eval a X.env), (false, eval b X.env)] := by rfl) (hs2 : starEach [b] X.env = [(false, eval b X.env)] := by rfl) : PDR X tg (.Call (.Name "range" p) [a, b] [] pos) (itR2 fs) :=
  PI.imp (pi_range2 hg hm ha hs hs2) fun σ H R h => by
    obtain ⟨env, ds, F, fp, e, ok, q⟩ := h
    unfold itR2 at e
    split at e
    · rename_i i j hj
      split at e
      · rename_i hr
        cases e
        refine ⟨env, [.fz (.int i), .fz (.int j)], F, fp, hj, ok, fun vs F1 H1 A s o n a => ?_⟩
        obtain ⟨v, w, B, C, rfl, _, o1, o'⟩ := ownL2 o
        simp only [Own, Rep] at o1 o'
        unfold inR at hr
        rw [Bool.and_eq_true] at hr
        have h1 := of_decide_eq_true hr.1
        have h2 := of_decide_eq_true hr.2
        exact ⟨i, j, by rw [o1.2, o'.2], ⟨h1.1, h1.2, h2.1, h2.2⟩, q _ F1 H1 s fun G => it_rng⟩
      · cases e
    · cases e
end
def lpF (lk : Nat → Bool) (t : Tg) (body : En → Option Fl) : List D → En → Option Fl
  | [], env => some (.nx env)
  | d :: ds, env => match asT lk t d env with
    | some e1 => match body e1 with
      | some (.nx e2) => lpF lk t body ds e2
      | some (.ct e2) => lpF lk t body ds e2
      | some (.bk e2) => some (.nx e2)
      | some (.rt m e2) => some (.rt m e2)
      | none => none
    | none => none
def sFor (lk : Nat → Bool) (t : Tg) (it : En → Option (List D × En)) (body : En → Option Fl) : En → Option Fl := fun env => match it env with
  | some (ds, e1) => lpF lk t body ds e1
  | none => none
section
variable {X : Cx} {lk : Nat → Bool} {iter tg : Expr} {body : List Stmt} {t : Tg} {it : En → Option (List D × En)} {f : En → Option Fl} {pos : Pos}
theorem pds_for (hp : PassesOwn (model X.prog X.w) X.A X.env X.xe) (hc : X.calm = true) (hi : PDI X tg iter it) (hg : PT' X lk tg t) (hb : PDSs X lk body f)
    (hs : ∀ x, foldedSetIterable iter X.env x = pure x := by intro _; rfl) : PDS X lk (.For tg iter body [] pos) (sFor lk t it f) := by
  refine PS.imp (ps_for hp hc hi hg hb hs) fun D σ H h => ?_
  obtain ⟨env, r, F, fp, e, ok, q⟩ := h
  unfold sFor at e
  split at e
  · rename_i ds e1 h1
    refine ⟨env, ds, e1, F, fp, h1, ok, fun J F1 H1 fp1 g1 ji => ?_⟩
    refine ⟨fun i m σ' H' => m = ds.length - i ∧ i ≤ ds.length ∧ ∃ env' F' fp', lpF lk t f (ds.drop i) env' = some r ∧ Go X.K [] σ env fp F H σ' env' fp' F' H' ∧ Lk lk σ σ' ∧ Same F1 F',
      ⟨_, rfl, Nat.zero_le _, e1, F1, fp1, by rw [List.drop_zero]; exact e, g1, fun _ _ => rfl, .refl _⟩, fun i m σ' H' hW => ?_⟩
    obtain ⟨rfl, hi, env', F', fp', hl, g, l, s⟩ := hW
    by_cases hlt : i < ds.length
    · right
      obtain ⟨d, hd⟩ : ∃ d, ds[i]? = some d := ⟨_, List.getElem?_eq_getElem hlt⟩
      have hdrop : ds.drop i = d :: ds.drop (i + 1) := by
        rw [List.drop_eq_getElem_cons hlt]
        rw [List.getElem?_eq_getElem hlt] at hd
        cases hd
        rfl
      rw [hdrop] at hl
      simp only [lpF] at hl
      obtain ⟨j1, j2⟩ := ji.go i F' H' d s (s.trans g.ok.sub) g.ok.sub hd
      refine ⟨j1, fun σ2 H2 => ∃ env2 F2 fp2, lpF lk t f (ds.drop (i + 1)) env2 = some r ∧ Go X.K [] σ env fp F H σ2 env2 fp2 F2 H2 ∧ Lk lk σ σ2 ∧ Same F1 F2,
        fun σ2 H2 ⟨env2, F2, fp2, a, b, c, d'⟩ => ⟨ds.length - (i + 1), by omega, rfl, hlt, env2, F2, fp2, a, b, c, d'⟩, fun x H2 hy => ?_⟩
      obtain ⟨F2, s2, rx⟩ := j2 x H2 hy
      split at hl
      · rename_i e3 h3
        have g2 := g.trans (s2.go g.ok fun a z => by cases z) (fun a z => by cases z)
        refine ⟨d, env', e3, F2, fp', rx, h3, g2.ok, fun σ3 fp3 g3 l3 => ?_⟩
        have g4 := g2.trans g3 (fun a z => by cases z)
        split at hl
        · rename_i e4 h4
          exact ⟨e3, _, F2, fp3, h4, g4.ok, fun σ5 F5 H5 fp5 g5 l5 => ⟨e4, F5, fp5, hl, g4.trans g5 (fun a z => by cases z), (l.trans l3).trans l5, (s.trans s2.fr).trans g5.fr⟩⟩
        · rename_i e4 h4
          exact ⟨e3, _, F2, fp3, h4, g4.ok, fun σ5 F5 H5 fp5 g5 l5 => ⟨e4, F5, fp5, hl, g4.trans g5 (fun a z => by cases z), (l.trans l3).trans l5, (s.trans s2.fr).trans g5.fr⟩⟩
        · rename_i e4 h4
          cases hl
          exact ⟨e3, _, F2, fp3, h4, g4.ok, fun σ5 F5 H5 fp5 g5 l5 => q σ5 F5 H5 fp5 (g4.trans g5 fun a z => by cases z) ((l.trans l3).trans l5)⟩
        · rename_i m4 e4 h4
          cases hl
          exact ⟨e3, _, F2, fp3, h4, g4.ok, q.after g4 (l.trans l3)⟩
        · cases hl
      · cases hl
    · left
      have hi' : i = ds.length := by omega
      subst hi'
      rw [List.drop_length] at hl
      cases hl
      exact ⟨ji.stop _ F' H' s (s.trans g.ok.sub) g.ok.sub (Nat.le_refl _), q σ' F' H' fp' g l⟩
  · cases e
/-- while -/
def lpW (c : En → Option (Bool × En)) (body : En → Option Fl) : Nat → En → Option Fl
  | 0, _ => none
  | n + 1, env => match c env with
    | some (true, e1) => match body e1 with
      | some (.nx e2) => lpW c body n e2
      | some (.ct e2) => lpW c body n e2
      | some (.bk e2) => some (.nx e2)
      | some (.rt m e2) => some (.rt m e2)
      | none => none
    | some (false, e1) => some (.nx e1)
    | none => none
def sWh (n : Nat) (c : En → Option (Bool × En)) (body : En → Option Fl) : En → Option Fl := fun env => lpW c body n env
theorem pds_while {c : Expr} {n : Nat} {ct : En → Option (Bool × En)} (hp : PassesOwn (model X.prog X.w) X.A X.env X.xe) (hc : PXT X c ct) (hb : PDSs X lk body f) : PDS X lk (.While c body [] pos) (sWh n ct f) := by
  refine PS.imp (ps_while hp hc hb) fun D σ H h => ?_
  obtain ⟨env, r, F, fp, e, ok, q⟩ := h
  unfold sWh at e
  refine ⟨fun m σ' H' => ∃ env' F' fp', lpW ct f m env' = some r ∧ Go X.K [] σ env fp F H σ' env' fp' F' H' ∧ Lk lk σ σ', ⟨n, env, F, fp, e, Go.refl ok, fun _ _ => rfl⟩, fun m σ' H' hW => ?_⟩
  obtain ⟨env', F', fp', hl, g, l⟩ := hW
  cases m with
  | zero => simp only [lpW] at hl; cases hl
  | succ m =>
    simp only [lpW] at hl
    split at hl
    · rename_i e1 h1
      refine ⟨env', true, e1, F', fp', h1, g.ok, fun F1 H1 fp1 g1 => iteT ?_⟩
      have g2 := g.trans g1 (fun a z => by cases z)
      refine ⟨fun σ2 H2 => ∃ env2 F2 fp2, lpW ct f m env2 = some r ∧ Go X.K [] σ env fp F H σ2 env2 fp2 F2 H2 ∧ Lk lk σ σ2, fun σ2 H2 z => ⟨m, Nat.lt_succ_self _, z⟩, ?_⟩
      split at hl
      · rename_i e4 h4
        exact ⟨e1, _, F1, fp1, h4, g2.ok, fun σ5 F5 H5 fp5 g5 l5 => ⟨e4, F5, fp5, hl, g2.trans g5 (fun a z => by cases z), l.trans l5⟩⟩
      · rename_i e4 h4
        exact ⟨e1, _, F1, fp1, h4, g2.ok, fun σ5 F5 H5 fp5 g5 l5 => ⟨e4, F5, fp5, hl, g2.trans g5 (fun a z => by cases z), l.trans l5⟩⟩
      · rename_i e4 h4
        cases hl
        exact ⟨e1, _, F1, fp1, h4, g2.ok, fun σ5 F5 H5 fp5 g5 l5 => q σ5 F5 H5 fp5 (g2.trans g5 fun a z => by cases z) (l.trans l5)⟩
      · rename_i m4 e4 h4
        cases hl
        exact ⟨e1, _, F1, fp1, h4, g2.ok, q.after g2 l⟩
      · cases hl
    · rename_i e1 h1
      cases hl
      exact ⟨env', false, e1, F', fp', h1, g.ok, fun F1 H1 fp1 g1 => iteF (q σ' F1 H1 fp1 (g.trans g1 fun a z => by cases z) l)⟩
    · cases hl
end
end T2
end
section
set_option Elab.async false
set_option linter.all false
set_option maxRecDepth 100000
namespace T2
open PySem PySem.Spec PyProof.Rows L2
def En.wipe (env : En) : List Nat → En
  | [] => env
  | v :: vs => (env.wipe vs).kill v
def lkOf (vs : List Nat) : Nat → Bool := fun j => !vs.contains j
def lcL (vs : List Nat) (t : Tg) (cond : En → Option Bool) (elt : En → Option M) (env : En) : List D → Option (List M)
  | [] => some []
  | d :: ds => match asT (lkOf vs) t d (env.wipe vs) with
    | some e1 => match cond e1 with
      | some true => match elt e1 with
        | some m => if (slots m).isEmpty then (match lcL vs t cond elt env ds with
          | some ms => some (m :: ms)
          | none => none) else none
        | none => none
      | some false => lcL vs t cond elt env ds
      | none => none
    | none => none
def lcF (vs : List Nat) (t : Tg) (it : En → Option (List D)) (cond : En → Option Bool) (elt : En → Option M) : En → Option M := fun env => match it env with
  | some ds => match lcL vs t cond elt env ds with
    | some ms => if ms.length ≤ sizeLine then some (.ol ms) else none
    | none => none
  | none => none
section
variable {K : PySem.W.Frag} {F H F' H' : Hp} {σ σ' : L2.St} {env env' : En} {fp fp' : Nat → List Addr} {A : List Addr}
theorem En.get_wipe {vs : List Nat} {i : Nat} {m : M} (h : (env.wipe vs).get i = some m) : env.get i = some m ∧ i ∉ vs := by
  induction vs with
  | nil => exact ⟨h, by simp⟩
  | cons v vs ih =>
    simp only [En.wipe] at h
    rw [En.get_kill] at h
    split at h
    · cases h
    · rename_i hne
      obtain ⟨h1, h2⟩ := ih h
      exact ⟨h1, by simp only [List.mem_cons, not_or]; exact ⟨hne, h2⟩⟩
theorem En.wipe_length {vs : List Nat} : (env.wipe vs).length = env.length := by
  induction vs with
  | nil => rfl
  | cons v vs ih => simp only [En.wipe, En.kill, List.length_set]; exact ih
theorem wipe_get {vs : List Nat} {i : Nat} (h : i ∉ vs) : (L2.wipe σ vs)[i]? = σ[i]? := by
  induction vs with
  | nil => rfl
  | cons v vs ih =>
    simp only [L2.wipe]
    simp only [List.mem_cons, not_or] at h
    rw [List.getElem?_set_ne (Ne.symm h.1)]
    exact ih h.2
theorem wipe_in {vs : List Nat} {i : Nat} (h : i ∈ vs) (hl : i < σ.length) : (L2.wipe σ vs)[i]? = some none := by
  induction vs with
  | nil => cases h
  | cons v vs ih =>
    simp only [L2.wipe]
    by_cases e : v = i
    · subst e
      rw [List.getElem?_set_self (by rw [L2.wipe_length]; exact hl)]
    · rw [List.getElem?_set_ne e]
      rcases List.mem_cons.mp h with z | z
      · exact absurd z.symm e
      · exact ih z
theorem EnvOk.wipe (ok : EnvOk K F H σ env fp) (vs : List Nat) : EnvOk K F H (L2.wipe σ vs) (env.wipe vs) fp := by
  refine ⟨by rw [En.wipe_length, L2.wipe_length]; exact ok.len, ok.sub, fun i m h => ?_, fun i m h => ok.nd i m (En.get_wipe h).1, fun i j m n a h h' => ok.dj i j m n a (En.get_wipe h).1 (En.get_wipe h').1⟩
  obtain ⟨h1, h2⟩ := En.get_wipe h
  obtain ⟨v, e1, e2⟩ := ok.slot i m h1
  exact ⟨v, by rw [wipe_get h2]; exact e1, e2⟩
/-- own slots alone were changed -/
theorem wipe_same {vs : List Nat} (l : Lk (lkOf vs) (L2.wipe σ vs) σ') (hl : σ'.length = σ.length) : L2.wipe σ' vs = L2.wipe σ vs := by
  refine List.ext_getElem? fun i => ?_
  by_cases h : i ∈ vs
  · by_cases hi : i < σ.length
    · rw [wipe_in h hi, wipe_in h (by rw [hl]; exact hi)]
    · rw [List.getElem?_eq_none (by rw [L2.wipe_length]; omega), List.getElem?_eq_none (by rw [L2.wipe_length]; omega)]
  · rw [wipe_get h, l i (by unfold lkOf; simp [h])]
mutual
theorem clean {br br' : Nat → List Pa → V → Prop} : ∀ (m : M) (v : V) (A : List Addr), slots m = [] → Own K br F H m v A → Own K br' F H m v A
  | .fz d, v, A, e, h => by simpa only [Own] using h
  | .bp i p, v, A, e, h => by simp only [slots] at e; cases e
  | .ol ms, v, A, e, h => by
    simp only [Own] at h ⊢
    simp only [slots] at e
    obtain ⟨p, vs, B, e1, rfl, f, q, r⟩ := h
    exact ⟨p, vs, B, e1, rfl, f, q, cleanL ms vs B e r⟩
  | .ot ms, v, A, e, h => by
    simp only [Own] at h ⊢
    simp only [slots] at e
    obtain ⟨p, vs, B, e1, rfl, f, q, r⟩ := h
    exact ⟨p, vs, B, e1, rfl, f, q, cleanL ms vs B e r⟩
  | .oi C fs, v, A, e, h => by
    simp only [Own] at h ⊢
    simp only [slots] at e
    obtain ⟨p, dx, gs, B, e1, rfl, f, f2, q, q2, r⟩ := h
    exact ⟨p, dx, gs, B, e1, rfl, f, f2, q, q2, cleanF fs gs B e r⟩
  | .od lk kvs, v, A, e, h => by
    simp only [Own] at h ⊢
    exact h
  | .odt kvs, v, A, e, h => by
    simp only [Own] at h ⊢
    exact h
theorem cleanL {br br' : Nat → List Pa → V → Prop} : ∀ (ms : List M) (vs : List V) (A : List Addr), slotsL ms = [] → OwnL K br F H ms vs A → OwnL K br' F H ms vs A
  | [], vs, A, e, h => by simpa only [OwnL] using h
  | m :: ms, vs, A, e, h => by
    simp only [OwnL] at h ⊢
    simp only [slotsL, List.append_eq_nil_iff] at e
    obtain ⟨v, r, B, C, e1, rfl, q, q2⟩ := h
    exact ⟨v, r, B, C, e1, rfl, clean m v B e.1 q, cleanL ms r C e.2 q2⟩
theorem cleanF {br br' : Nat → List Pa → V → Prop} : ∀ (ms : List (Str × M)) (vs : List (Str × V)) (A : List Addr), slotsF ms = [] → OwnF K br F H ms vs A → OwnF K br' F H ms vs A
  | [], vs, A, e, h => by simpa only [OwnF] using h
  | m :: ms, vs, A, e, h => by
    simp only [OwnF] at h ⊢
    simp only [slotsF, List.append_eq_nil_iff] at e
    obtain ⟨v, r, B, C, e1, rfl, q, q2⟩ := h
    exact ⟨v, r, B, C, e1, rfl, clean m.2 v B e.1 q, cleanF ms r C e.2 q2⟩
end
end
section
variable {X : Cx} {elt tg iter : Expr} {ifs : List Expr} {scope : Scope} {own : List (Str × Nat)} {pos : Pos} {it : En → Option (List D)} {t : Tg} {cond : En → Option Bool} {f : En → Option M}
def cYes : En → Option Bool := fun _ => some true
theorem pdt_yes : PTs X [] (tDT X.K cYes) := ⟨fun pins s σ H Q I h => by
  obtain ⟨env, b, F, fp, e, ok, q⟩ := h
  cases e
  exact (pts_nil (X := X)).run pins s σ H Q I (q F H (.refl ok.sub))⟩
theorem pdt_one {c : Expr} (h : PDT X c cond) : PTs X [c] (tDT X.K cond) := pts_one h
theorem tLc_ok {vs : List Nat} {σ : L2.St} {H : Hp} {Q : VK} (h : tD X.K (lcF vs t it cond f) σ H Q) : tLc (tIp X.K it) (tT X.K (lkOf vs) t) (tDT X.K cond) (tD X.K f) vs σ H Q := by
  obtain ⟨env, m, F, fp, e, ok, q⟩ := h
  unfold lcF at e
  split at e
  · rename_i ds hds
    split at e
    · rename_i ms hms
      split at e
      · rename_i hsz
        cases e
        refine ⟨env, ds, F, fp, hds, ok, fun J F1 H1 s1 ji => fun Da hD => ?_⟩
        have hDH : H Da = none := s1.stay _ hD
        have hDF : F1 Da = none := s1.sub.free hD
        have sD : Same H1 (upd H1 Da (.lst [])) := fun b o e => by rw [upd_ne (ne_of_none e hD)]; exact e
        refine ⟨fun i mm H2 => mm = ds.length - i ∧ i ≤ ds.length ∧ ∃ F2 ms1 ms2 ws A, ms = ms1 ++ ms2 ∧ lcL vs t cond f env (ds.drop i) = some ms2 ∧ H2 Da = some (.lst ws) ∧ F2 Da = none ∧ OwnL X.K noBr F2 H2 ms1 ws A ∧ (Da :: A).Nodup ∧ (∀ a ∈ A, H a = none) ∧
            Step [] F H F2 H2 ∧ Same F1 F2 ∧ Same H1 H2,
          ⟨_, rfl, Nat.zero_le _, F1, [], ms, [], [], rfl, by rw [List.drop_zero]; exact hms, upd_same, hDF, ownL_nil, by simp, (fun a z => by cases z), s1.trans (Step.mk' (A := []) (.refl _) sD (s1.sub.trans sD) fun a z => .inl z) (fun a z => by cases z), .refl _, sD⟩, fun i mm H2 hW => ?_⟩
        obtain ⟨rfl, hi, F2, ms1, ms2, ws, A, em, hl, hDa, hFa, hO, hn, hA, st, sF, sH⟩ := hW
        have okS : EnvOk X.K F2 H2 σ env fp := ok.step st fun a z => by cases z
        by_cases hlt : i < ds.length
        · right
          obtain ⟨d, hd⟩ : ∃ d, ds[i]? = some d := ⟨_, List.getElem?_eq_getElem hlt⟩
          have hdrop : ds.drop i = d :: ds.drop (i + 1) := by
            rw [List.drop_eq_getElem_cons hlt]
            rw [List.getElem?_eq_getElem hlt] at hd
            cases hd
            rfl
          rw [hdrop] at hl
          simp only [lcL] at hl
          obtain ⟨j1, j2⟩ := ji.go i F2 H2 d sF sH okS.sub hd
          refine ⟨j1, fun H5 => ∃ F2 ms1 ms2 ws A, ms = ms1 ++ ms2 ∧ lcL vs t cond f env (ds.drop (i + 1)) = some ms2 ∧ H5 Da = some (.lst ws) ∧ F2 Da = none ∧ OwnL X.K noBr F2 H5 ms1 ws A ∧ (Da :: A).Nodup ∧ (∀ a ∈ A, H a = none) ∧
            Step [] F H F2 H5 ∧ Same F1 F2 ∧ Same H1 H5, fun H5 z => ⟨ds.length - (i + 1), by omega, rfl, hlt, z⟩, fun x H3 hy => ?_⟩
          obtain ⟨F3, s3, rx⟩ := j2 x H3 hy
          split at hl
          · rename_i e1 h1
            refine ⟨d, env.wipe vs, e1, F3, fp, rx, h1, (okS.step s3 fun a z => by cases z).wipe vs, fun σ2 fp2 g2 l2 => ?_⟩
            have hlen : σ2.length = σ.length := by
              rw [← g2.ok.len]
              have : e1.length = (env.wipe vs).length := asT_len t d _ _ h1
              rw [this, En.wipe_length]
              exact ok.len
            refine ⟨wipe_same l2 hlen, ?_⟩
            -- a later state, the new list as it is
            have keep : ∀ {F4 H4 : Hp}, Step [] F3 H3 F4 H4 → Step [] F H F4 H4 ∧ Same F1 F4 ∧ Same H1 H4 ∧ H4 Da = some (.lst ws) ∧ F4 Da = none ∧ OwnL X.K noBr F4 H4 ms1 ws A := fun {F4 H4} s4 => by
              have s34 : Step [] F2 H2 F4 H4 := s3.trans s4 fun a z => by cases z
              refine ⟨st.trans s34 (fun a z => by cases z), sF.trans s34.fr, sH.trans s34.hp, s34.hp _ _ hDa, ?_, ?_⟩
              · cases z : F4 Da with
                | none => rfl
                | some o =>
                  rcases s34.nw Da (by rw [z]; simp) with w | w | w
                  · exact absurd hFa w
                  · rw [hDa] at w
                    cases w
                  · cases w
              · refine hO.mono s34.fr (fun _ _ _ z => z) _ _ _ fun a ha => ⟨?_, s34.hp a⟩
                obtain ⟨z1, o, z2⟩ := hO.at _ _ _ a ha
                cases z : F4 a with
                | none => rfl
                | some o =>
                  rcases s34.nw a (by rw [z]; simp) with w | w | w
                  · exact absurd z1 w
                  · rw [z2] at w
                    cases w
                  · cases w
            split at hl
            · rename_i hc
              refine ⟨e1, true, F3, fp2, hc, g2.ok, fun F4 H4 s4 => iteT ?_⟩
              split at hl
              · rename_i m1 hm1
                split at hl
                · rename_i hs1
                  split at hl
                  · rename_i ms' hms'
                    cases hl
                    refine ⟨e1, m1, F4, fp2, hm1, g2.ok.step s4 (fun a z => by cases z), fun y F5 H5 B s5 o5 n5 a5 => ?_⟩
                    obtain ⟨st5, sF5, sH5, hDa5, hFa5, hO5⟩ := keep (s4.trans s5 fun a z => by cases z)
                    have hlen1 : ms1.length = ws.length := hO5.len
                    refine ⟨ws, hDa5, ?_, ?_⟩
                    · rw [← hlen1]
                      rw [em, List.length_append, List.length_cons] at hsz
                      omega
                    · have hBn : ∀ b ∈ B, H4 b = none := a5
                      obtain ⟨st4, _, _, hDa4, _, hO4⟩ := keep s4
                      have nDB : Da ∉ B := fun z => by
                        have := hBn Da z
                        rw [hDa4] at this
                        cases this
                      have nAB : ∀ a ∈ A, a ∉ B := fun a ha z => by
                        obtain ⟨_, o, z2⟩ := hO4.at _ _ _ a ha
                        rw [hBn a z] at z2
                        cases z2
                      have hn' := List.nodup_cons.mp hn
                      have o5' := clean (br' := noBr) m1 y B (by simpa [List.isEmpty_iff] using hs1) o5
                      have up : ∀ c o, c ≠ Da → H5 c = some o → (upd H5 Da (.lst (ws ++ [y]))) c = some o := fun c o ne e => by rw [upd_ne ne]; exact e
                      refine ⟨F5, ms1 ++ [m1], ms', ws ++ [y], A ++ B, by rw [em, List.append_assoc]; rfl, hms', upd_same, hFa5, ?_, ?_, ?_, ?_, sF5, fun b o e => ?_⟩
                      · refine OwnL.append (hO5.mono (.refl _) (fun _ _ _ z => z) _ _ _ fun a ha => ⟨(hO5.at _ _ _ a ha).1, fun o e => up a o (fun z => hn'.1 (z ▸ ha)) e⟩) ?_
                        simp only [OwnL]
                        refine ⟨y, [], B, [], rfl, by rw [List.append_nil], o5'.mono (.refl _) (fun _ _ _ z => z) _ _ _ fun a ha => ⟨(o5'.at _ _ _ a ha).1, fun o e => up a o (fun z => nDB (z ▸ ha)) e⟩, rfl, rfl⟩
                      · refine List.nodup_cons.mpr ⟨fun z => ?_, List.nodup_append.mpr ⟨hn'.2, n5, fun a ha b hb e => nAB a ha (e ▸ hb)⟩⟩
                        rcases List.mem_append.mp z with z | z
                        · exact hn'.1 z
                        · exact nDB z
                      · intro a ha
                        rcases List.mem_append.mp ha with z | z
                        · exact hA a z
                        · exact st4.stay _ (hBn a z)
                      · refine .mk' st5.fr (fun b o e => ?_) (fun b o e => ?_) fun a z => st5.nw a z
                        · rw [upd_ne (ne_of_none e hDH)]
                          exact st5.hp _ _ e
                        · rw [upd_ne fun z => by rw [z, hFa5] at e; cases e]
                          exact st5.sub _ _ e
                      · rw [upd_ne (ne_of_none e hD)]
                        exact sH5 _ _ e
                  · cases hl
                · cases hl
              · cases hl
            · rename_i hc
              refine ⟨e1, false, F3, fp2, hc, g2.ok, fun F4 H4 s4 => iteF ?_⟩
              obtain ⟨st4, sF4, sH4, hDa4, hFa4, hO4⟩ := keep s4
              exact ⟨F4, ms1, ms2, ws, A, em, hl, hDa4, hFa4, hO4, hn, hA, st4, sF4, sH4⟩
            · cases hl
          · cases hl
        · left
          have hi' : i = ds.length := by omega
          subst hi'
          rw [List.drop_length] at hl
          cases hl
          rw [List.append_nil] at em
          subst em
          refine ⟨ji.stop _ F2 H2 sF sH okS.sub (Nat.le_refl _), q _ F2 H2 (Da :: A) st ?_ hn fun a ha => ?_⟩
          · simp only [Own]
            exact ⟨Da, ws, A, rfl, rfl, hFa, hDa, hO.mono (.refl _) (fun _ _ _ z => z.elim) _ _ _ fun a ha => ⟨(hO.at _ _ _ a ha).1, fun _ z => z⟩⟩
          · rcases List.mem_cons.mp ha with rfl | z
            · exact hDH
            · exact hA a z
      · cases e
    · cases e
  · cases e
theorem pd_lc (hc : X.calm = true) (hN : X.N.Nodup) (hi : PDP X tg iter it) (ok : BlkOk X.N X.env.scope scope own)
    (hg : ∀ (s : Shared) (H : Hp) (C : Addr) (cl : List (Str × Addr)) (fp : List Addr), PT' (X.blk s H scope (compEnvC scope cl C X.env) fp) (lkOf (own.map (·.2))) tg t)
    (ht : ∀ (s : Shared) (H : Hp) (C : Addr) (cl : List (Str × Addr)) (fp : List Addr), PTs (X.blk s H scope (compEnvC scope cl C X.env) fp) ifs (tDT X.K cond))
    (he : ∀ (s : Shared) (H : Hp) (C : Addr) (cl : List (Str × Addr)) (fp : List Addr), PD (X.blk s H scope (compEnvC scope cl C X.env) fp) elt f) (hs : ∀ x, foldedSetIterable iter X.env x = pure x := by intro _; rfl) :
    PD X (.ListComp elt [⟨tg, iter, ifs, 0⟩] scope pos) (lcF (own.map (·.2)) t it cond f) := PE.imp (pe_lc (g := tT X.K (lkOf (own.map fun p : Str × Nat => p.2)) t) (tt := tDT X.K cond) (te := tD X.K f) hc hN hi ok hg ht he hs) fun σ H Q q => tLc_ok q
/-- name = [..] -/
theorem pds_setLc {lk : Nat → Bool} {i k : Nat} {y : Str} {py spos : Pos} (hc : X.calm = true) (hN : X.N.Nodup) (hy : X.N[i]? = some y) (hyl : X.env.scope.names.lookup y = some .local)
    (hsw : swapsWith (.ListComp elt [⟨tg, iter, ifs, 0⟩] scope pos) (some (.Name y py)) spos.line X.env = pure true) (hi : PDP X tg iter it) (ok : BlkOk X.N X.env.scope scope own)
    (hg : ∀ (s : Shared) (H : Hp) (C : Addr) (cl : List (Str × Addr)) (fp : List Addr), PT' (X.blk s H scope (compEnvC scope cl C X.env) fp) (lkOf (own.map (·.2))) tg t)
    (ht : ∀ (s : Shared) (H : Hp) (C : Addr) (cl : List (Str × Addr)) (fp : List Addr), PTs (X.blk s H scope (compEnvC scope cl C X.env) fp) ifs (tDT X.K cond))
    (he : ∀ (s : Shared) (H : Hp) (C : Addr) (cl : List (Str × Addr)) (fp : List Addr), PD (X.blk s H scope (compEnvC scope cl C X.env) fp) elt f) (hs : ∀ x, foldedSetIterable iter X.env x = pure x := by intro _; rfl) :
    PDS X lk (.Assign [.Name y py] (.ListComp elt [⟨tg, iter, ifs, 0⟩] scope pos) spos) (sAsg lk i k (lif (lcF (own.map (·.2)) t it cond f))) :=
  pds_asg (PS.imp (ps_setLc (g := tT X.K (lkOf (own.map fun p : Str × Nat => p.2)) t) (tt := tDT X.K cond) (te := tD X.K f) hc hN hy hyl hsw hi ok hg ht he hs) fun D σ H q => tLc_ok q.of)
end
end T2
end
section
set_option Elab.async false
set_option linter.all false
set_option maxRecDepth 100000
namespace T2
open PySem PySem.Spec PyProof.Rows L2
/-- room for k calls; no display is under way -/
structure RoomG (k : Nat) (A : Around) : Prop where
  rm : Room k A
  gd : A.guards = some []
section
variable {j k : Nat} {A : Around}
theorem RoomG.mono (r : RoomG k A) (h : j ≤ k) : RoomG j A := ⟨r.rm.mono h, r.gd⟩
theorem RoomG.deeper (r : RoomG (k + 1) A) (v : Env) : RoomG k (A.deeper v) := ⟨r.rm.deeper v, r.gd⟩
theorem RoomG.make (r : RoomG (k + 1) A) (C : Addr) (us : List Value) : RoomG k (A.under (.builtin "type.__call__" ⟨.ref C :: us, []⟩)) := by
  refine ⟨r.rm.make C us [], ?_⟩
  have e := r.gd
  first
  | exact e
  | (simp [Around.under, Code.guards, Code.isGuard, guardIds, pushGuards, e]; done)
theorem RoomG.units (r : RoomG k A) : A.units + 64 < cLine := r.rm.units
end
/-- FnOk, promised where nothing is being shown -/
structure FnG (P : Program) (w : World) (K : PySem.W.Frag) (mg : Str → Option Value) (base : Heap) (CX : CXT) (k : Nat) (fa : Addr) (d : FuncData) (ps : List Str) (sp : Sp) : Prop where
  lens : ∀ {zs H Q E}, sp zs H Q E → zs.length = ps.length
  runs : ∀ {A fs s H as us zs Q E}, RoomG k A → Env0 P w K mg base A fs s H → BindsTo s d as (ps.zip us) → Vals zs us → sp zs H Q E → codeAny (model P w) A (.call (.ref fa) as) (CR CX fs P w H s Q E) s
theorem FnG.mono {P : Program} {w : World} {K : PySem.W.Frag} {mg : Str → Option Value} {base : Heap} {CX : CXT} {j k : Nat} {fa : Addr} {d : FuncData} {ps : List Str} {sp : Sp} (F : FnG P w K mg base CX j fa d ps sp) (h : j ≤ k) : FnG P w K mg base CX k fa d ps sp :=
  ⟨F.lens, fun r => F.runs (r.mono h)⟩
theorem FnG.imp {P : Program} {w : World} {K : PySem.W.Frag} {mg : Str → Option Value} {base : Heap} {CX : CXT} {k : Nat} {fa : Addr} {d : FuncData} {ps : List Str} {sp sp' : Sp} (F : FnG P w K mg base CX k fa d ps sp) (i : ∀ zs H Q E, sp' zs H Q E → sp zs H Q E) : FnG P w K mg base CX k fa d ps sp' :=
  ⟨fun h => F.lens (i _ _ _ _ h), fun r e b v h => F.runs r e b v (i _ _ _ _ h)⟩
section
variable {X : Cx} {CX : CXT} {k : Nat} {fa C : Addr} {d : FuncData} {ps : List Str} {sp : Sp} {dvs : List V} {ds : List Value} {E : XK} {x m : Str} {p pos apos : Pos} {e o : Expr} {es : List Expr} {ta : TE} {t : TA}
/-- what a call's end leaves to its caller -/
theorem after_g {pins : List (Addr × Obj)} {σ : L2.St} {H : Hp} {s : Shared} {Q : VK} (hx : Passes CX X E) (I : Inv X pins σ H s) {r : Result} {s' : Shared} (h : CR CX X.stack X.prog X.w H s Q E r s') :
    match r with
    | .ok (.ret u) => EP X pins σ Q u s'
    | .ok _ => False
    | .error u => X.xe u s' := by
  rcases r with u | fl
  · exact hx pins σ H s u s' I h
  · rcases fl with _ | u | _ | _
    all_goals first
    | exact I.after h
    | exact h
theorem run_g {pins : List (Addr × Obj)} {σ : L2.St} {H : Hp} {s : Shared} {Q : VK} {us : List Value} {zs : List V} (F : FnG X.prog X.w X.K X.mg X.base CX k fa d ps sp) (hr : RoomG k X.A) (hb : Binds X.K d ps ds) (hd : Vals dvs ds) (hx : Passes CX X E)
    (I : Inv X pins σ H s) (r : Vals zs us) (h : sp (zs ++ dvs) H Q E) : wpAny (model X.prog X.w) X.A (call (.ref fa) us) (EP X pins σ Q) X.xe s := by
  have rr := r.append hd
  refine wpAny_call (codeAny_mono (F.runs hr I.env0 (hb s us I.kIn (rr.length.symm.trans (F.lens h))) rr h) fun r s' hq => ?_)
  have z := after_g hx I hq
  rcases r with u | fl
  · exact z
  · rcases fl with _ | u | _ | _
    all_goals exact z
theorem pe_callG (F : FnG X.prog X.w X.K X.mg X.base CX k fa d ps sp) (hr : RoomG k X.A) (hg : Gl X x) (hm : X.mg x = some (.ref fa)) (hk : PySem.W.keepIn X.K (.ref fa) = true) (hb : Binds X.K d ps ds) (hd : Vals dvs ds) (hx : Passes CX X E)
    (ha : PA X (e :: es) t) (h1 : (x == ("__debug__" : Str)) = false := by decide) (h2 : starEach (e :: es) X.env = (false, eval e X.env) :: starEach es X.env := by rfl) (h3 : (backTo pos (starEach es X.env)).any (·.1) = false := by rfl) :
    PE X (.Call (.Name x p) (e :: es) [] pos) (tCall sp dvs E t) :=
  ⟨fun pins s σ H Q I h => wpAny_Call_Name_kw (ld_glob I hg hm (PySem.W.callWith_K (h₀ := X.base) I.ok.mod.kin hk (thn (ha.run pos pins s σ H _ I h) fun us s1 ⟨zs, H1, I1, r, q⟩ => ⟨I1.kIn, run_g F hr hb hd hx I1 r q⟩) h2 h3) h1)⟩
theorem pe_methG {pl : Sem Bool} (he : PE X o ta) (c : Cls X.K C) (hm : Meth X.K C m fa) (F : FnG X.prog X.w X.K X.mg X.base CX k fa d ps sp) (hr : RoomG k X.A) (hb : Binds X.K d ps ds) (hd : Vals dvs ds) (hx : Passes CX X E) (ha : PA X (e :: es) t)
    (h2 : starEach (e :: es) X.env = (false, eval e X.env) :: starEach es X.env := by rfl) (h3 : (backTo pos (starEach es X.env)).any (·.1) = false := by rfl)
    (ht : eval (.Call (.Attribute o m apos) (e :: es) [] pos) X.env = (do let ov ← eval o X.env; standAt apos.atName; let (f, first) ← holding [ov] (getMethod ov m pl); callWith pos f first (backTo pos (starEach (e :: es) X.env)) (backToKw pos (keywordEach [] X.env))) := by rfl) :
    PE X (.Call (.Attribute o m apos) (e :: es) [] pos) (tMeth C m sp dvs E ta t) := by
  constructor
  intro pins s σ H Q I h
  refine PySem.W.methodCall_KW (pl := pl) (thn (he.run pins s σ H _ I h) ?_) ht
  rintro u s1 ⟨y, H1, I1, ry, a, dx, fs, rfl, ea, l, q⟩
  obtain rfl : u = Value.ref a := ry
  apply getmeth_ok I1 ea c hm l
  exact PySem.W.callWith_K (first := [.ref a]) (h₀ := X.base) I.ok.mod.kin hm.kp (thn (ha.run pos pins s1 σ H1 _ I1 q) fun us s2 ⟨zs, H2, I2, r, q2⟩ => ⟨I2.kIn, run_g (us := .ref a :: us) (zs := .ref a :: zs) F hr hb hd hx I2 (.cons rfl r) q2⟩) h2 h3
theorem run_gMake {pins : List (Addr × Obj)} {σ : L2.St} {H : Hp} {s : Shared} {Q : VK} {us : List Value} {zs : List V} (M : Mk X.K C fa) (F : FnG X.prog X.w X.K X.mg X.base CX k fa d ps sp) (hr : RoomG (k + 1) X.A) (hb : Binds X.K d ps ds) (hd : Vals dvs ds)
    (hx : Passes CX X E) (I : Inv X pins σ H s) (r : Vals zs us)
    (h : ∀ y dy, H y = none → H dy = none → dy ≠ y → sp (.ref y :: (zs ++ dvs)) (upd (upd H dy (.own y)) y (.ins C dy [])) (fun v H2 => v = .non ∧ Q (.ref y) H2) E) :
    wpAny (model X.prog X.w) X.A (call (.ref C) us) (EP X pins σ Q) X.xe s := by
  obtain ⟨z, hz⟩ : ∃ z, s.heap.objs.size = z := ⟨_, rfl⟩
  have hq := h (z + 1) z (I.hok.fresh (show s.heap.objs.size ≤ z + 1 by omega)) (I.hok.fresh (show s.heap.objs.size ≤ z by omega)) (show z ≠ z + 1 by omega)
  have J := Inv.made (C := C) I
  rw [hz] at J
  have rr : Vals (V.ref (z + 1) :: (zs ++ dvs)) (Value.ref (z + 1) :: (us ++ ds)) := .cons rfl (r.append hd)
  have hn : (Value.ref (z + 1) :: us ++ ds).length = ps.length := rr.length.symm.trans (F.lens hq)
  refine wpAny_call (make_map (f := fa) I.kIn M.makes M.init (beq_iff_eq.mp M.fn) ?_)
  rw [hz]
  refine codeAny_mono (F.runs (as := ⟨Value.ref (z + 1) :: us, []⟩) (hr.make C us) (J.env0.make C us []) (hb _ (Value.ref (z + 1) :: us) J.kIn hn) rr hq) fun r s' h2 => ?_
  have k2 := after_g hx J h2
  rcases r with u | fl
  · exact k2
  · rcases fl with _ | u | _ | _
    all_goals first
    | (obtain ⟨v, H', I3, rv, rfl, q3⟩ := k2; exact ⟨rv, ⟨V.ref (z + 1), H', I3, rfl, q3⟩⟩)
    | exact k2
theorem pe_makeG (M : Mk X.K C fa) (F : FnG X.prog X.w X.K X.mg X.base CX k fa d ps sp) (hr : RoomG (k + 1) X.A) (hg : Gl X x) (hm : X.mg x = some (.ref C)) (hb : Binds X.K d ps ds) (hd : Vals dvs ds) (hx : Passes CX X E)
    (ha : PA X (e :: es) t) (h1 : (x == ("__debug__" : Str)) = false := by decide) (h2 : starEach (e :: es) X.env = (false, eval e X.env) :: starEach es X.env := by rfl) (h3 : (backTo pos (starEach es X.env)).any (·.1) = false := by rfl) :
    PE X (.Call (.Name x p) (e :: es) [] pos) (tMake C sp dvs E t) :=
  ⟨fun pins s σ H Q I h => wpAny_Call_Name_kw (ld_glob I hg hm (PySem.W.callWith_K (h₀ := X.base) I.ok.mod.kin M.kp (thn (ha.run pos pins s σ H _ I h) fun us s1 ⟨zs, H1, I1, r, q⟩ => ⟨I1.kIn, run_gMake M F hr hb hd hx I1 r q⟩) h2 h3) h1)⟩
end
/-- a def by its body -/
theorem fun_g {P : Program} {w : World} {K : PySem.W.Frag} {mg : Str → Option Value} {base : Heap} {CX : CXT} {x qual : Str} {st : Stmt} {fa : Addr} {d : FuncData} {N ps : List Str} {k : Nat} {sp : Sp} (F : Fun K x qual st fa d) (S : FnScope N ps (defScope st)) (len : ∀ zs H Q E, sp zs H Q E → zs.length = ps.length)
    (body : ∀ (cd : Value) (A : Around) (fs : List Env) (s : Shared) (H : Hp) (zs : List V) (Q : VK) (E : XK), RoomG k (A.deeper (envOfC qual (defScope st) s.heap.objs.size fa cd)) → sp zs H Q E → ∃ t, PSs (cxOf CX P w K mg base N qual (defScope st) fa cd A fs s H E) (defBody st) t ∧ t { nx := fun _ H' => Q .non H', rt := Q } (start N zs) H) :
    FnG P w K mg base CX (k + 1) fa d ps sp := by
  obtain ⟨oc, od, kV, doc, pm, an, cd, ct, osl, rfl, lk, hcd⟩ := F.ex
  constructor
  · intro zs H Q E h
    exact len _ _ _ _ h
  intro A fs s H as us zs Q E hr e0 hb r h
  have keepB := fun (b : Addr) (o : Obj) (e : base.get? b = some o) => (e0.bs b o e).1
  have KX : K.In s.heap := e0.mod.kin.keeps keepB
  have hn := len _ _ _ _ h
  apply codeAny_call_function hr.rm.depth (KX _ _ lk) rfl S.co S.gen rfl (PySem.W.codeRec_of KX hcd)
  apply hb
  apply wpAny_newFunctionEnv_cells S.kind
  · rintro ⟨nm, v⟩ hy
    rcases S.par nm (List.of_mem_zip hy).1 with q | q
    · exact .inl q
    · exact .inr ⟨q, PySem.W.cellsFrom_some _ _ _ (.inl q)⟩
  intro env he s1 y
  subst he
  refine ⟨(e0.mod.nolimit.keeps keepB).keeps y.toInCall.keep, codeAny_func ?_⟩
  obtain ⟨t, ht, hq⟩ := body cd A fs s H zs Q E (hr.deeper _) h
  refine wpAny_mono (ht.run [] s1 (start N zs) H _ (inv_start S hr.rm.hd e0 hn r y) hq) (fun fl s' hs => ?_) fun e s' hs => hs
  rcases fl with _ | u | _ | _
  all_goals first
  | (obtain ⟨v, σ', H', J, rv, q⟩ := hs; exact ⟨v, H', J.os, J.bare, J.base, J.hok, rv, q⟩)
  | (obtain ⟨σ', H', J, q⟩ := hs; exact ⟨V.non, H', J.os, J.bare, J.base, J.hok, rfl, q⟩)
  | (obtain ⟨_, _, _, q⟩ := hs; exact q.elim)
/-- what a def does with its arguments' trees: its result, and what the arguments are behind it -/
abbrev Fn := List M → Option (M × List M)
def SpI (K : PySem.W.Frag) (f : Fn) : Sp := fun vs H Q _ => ∃ ms m ms' F fp, f ms = some (m, ms') ∧ EnvOk K F H (vs.map some) (ms.map some) fp ∧
  ∀ v F' H' fp' B, Go K [] (vs.map some) (ms.map some) fp F H (vs.map some) (ms'.map some) fp' F' H' → Own K noBr F' H' m v B → B.Nodup → (∀ b ∈ B, H b = none ∨ Ond (ms.map some) fp b) → (∀ b ∈ B, ¬ Ond (ms'.map some) fp' b) → Q v H'
def isFz : M → Bool
  | .fz _ => true
  | _ => false
def okA (lk : Nat → Bool) : Nat → List M → Bool
  | _, [] => true
  | i, m :: ms => (lk i || isFz m) && okA lk (i + 1) ms
def outs (lk : Nat → Bool) (e : En) : Nat → List M → Option (List M)
  | _, [] => some []
  | i, m :: ms => match (if lk i then e.get i else some m), outs lk e (i + 1) ms with
    | some n, some ns => some (n :: ns)
    | _, _ => none
def runD (n p : Nat) (lk : Nat → Bool) (fS : En → Option Fl) : Fn := fun ms => if ms.length = p ∧ okA lk 0 ms = true then (match fS (ms.map some ++ List.replicate (n - p) none) with
  | some (.rt m e) => match outs lk e 0 ms with
    | some ns => some (m, ns)
    | none => none
  | some (.nx e) => match outs lk e 0 ms with
    | some ns => some (.fz .non, ns)
    | none => none
  | _ => none) else none
section
variable {K : PySem.W.Frag} {F H F' H' : Hp} {σ σ' : L2.St} {env env' : En} {fp fp' : Nat → List Addr} {A : List Addr}
theorem get_map {ms : List M} {i : Nat} : En.get (ms.map some) i = ms[i]? := by
  unfold En.get
  rw [List.getElem?_map]
  cases ms[i]? <;> rfl
theorem get_pad {ms : List M} {k i : Nat} : En.get (ms.map some ++ List.replicate k none) i = ms[i]? := by
  unfold En.get
  by_cases h : i < ms.length
  · rw [List.getElem?_append_left (by simpa using h), List.getElem?_map]
    cases ms[i]? <;> rfl
  · rw [List.getElem?_append_right (by simpa using h), List.getElem?_replicate, List.getElem?_eq_none (by omega)]
    split <;> rename_i h' <;> split at h' <;> first | cases h' | rfl
theorem ond_pad {ms : List M} {k : Nat} {a : Addr} : Ond (ms.map some ++ List.replicate k none) fp a ↔ Ond (ms.map some) fp a := by
  unfold Ond
  simp only [get_pad, get_map]
theorem EnvOk.pad {vs : List V} {ms : List M} {n : Nat} (ok : EnvOk K F H (vs.map some) (ms.map some) fp) : EnvOk K F H (vs.map some ++ List.replicate n none) (ms.map some ++ List.replicate n none) fp := by
  have hl : ms.length = vs.length := by simpa using ok.len
  refine ⟨by simp [hl], ok.sub, fun i m h => ?_, fun i m h => ok.nd i m (by rw [get_map]; rw [get_pad] at h; exact h), fun i j m m' a h h' => ok.dj i j m m' a (by rw [get_map]; rw [get_pad] at h; exact h) (by rw [get_map]; rw [get_pad] at h'; exact h')⟩
  rw [get_pad] at h
  obtain ⟨v, e1, e2⟩ := ok.slot i m (by rw [get_map]; exact h)
  refine ⟨v, ?_, e2⟩
  have hi : i < vs.length := by rw [← hl]; exact (List.getElem?_eq_some_iff.mp h).1
  rw [List.getElem?_append_left (by simpa using hi)]
  exact e1
theorem outs_get {lk : Nat → Bool} {e : En} : ∀ {ms ns : List M} {k i : Nat} {m : M}, outs lk e k ms = some ns → ns[i]? = some m → (lk (k + i) = true ∧ e.get (k + i) = some m) ∨ (lk (k + i) = false ∧ ms[i]? = some m)
  | [], ns, k, i, m, h, hm => by
    simp only [outs, Option.some.injEq] at h
    subst h
    cases hm
  | a :: ms, ns, k, i, m, h, hm => by
    simp only [outs] at h
    split at h
    · rename_i n ns' h1 h2
      cases h
      cases i with
      | zero =>
        cases hm
        by_cases hk : lk k = true
        · rw [if_pos hk] at h1
          exact .inl ⟨hk, h1⟩
        · rw [if_neg hk] at h1
          exact .inr ⟨by simpa using hk, h1⟩
      | succ i =>
        have := outs_get (i := i) h2 (by simpa using hm)
        rw [Nat.add_assoc, Nat.add_comm 1 i] at this
        exact this
    · cases h
theorem outs_len {lk : Nat → Bool} {e : En} : ∀ {ms ns : List M} {k : Nat}, outs lk e k ms = some ns → ns.length = ms.length
  | [], ns, k, h => by
    simp only [outs, Option.some.injEq] at h
    subst h
    rfl
  | a :: ms, ns, k, h => by
    simp only [outs] at h
    split at h
    · rename_i n ns' h1 h2
      cases h
      simp only [List.length_cons, outs_len h2]
    · cases h
theorem okA_get {lk : Nat → Bool} : ∀ {ms : List M} {k i : Nat} {m : M}, okA lk k ms = true → ms[i]? = some m → lk (k + i) = false → ∃ d, m = .fz d
  | [], k, i, m, h, hm, hl => by cases hm
  | a :: ms, k, i, m, h, hm, hl => by
    simp only [okA, Bool.and_eq_true, Bool.or_eq_true] at h
    cases i with
    | zero =>
      cases hm
      rcases h.1 with z | z
      · rw [show k + 0 = k from rfl] at hl
        rw [hl] at z
        cases z
      · cases a with
        | fz d => exact ⟨d, rfl⟩
        | bp _ _ => cases z
        | ol _ => cases z
        | ot _ => cases z
        | oi _ _ => cases z
        | od _ _ => cases z
        | odt _ => cases z
    | succ i => exact okA_get (k := k + 1) (i := i) h.2 (by simpa using hm) (by rw [Nat.add_assoc, Nat.add_comm 1 i]; exact hl)
/-- behind a def's body: the arguments -/
theorem outs_ok {lk : Nat → Bool} {vs : List V} {ms ns : List M} {n : Nat} (ok : EnvOk K F H (vs.map some) (ms.map some) fp) (ha : okA lk 0 ms = true) (ho : outs lk env' 0 ms = some ns)
    (g : Go K [] (vs.map some ++ List.replicate n none) (ms.map some ++ List.replicate n none) fp F H σ' env' fp' F' H') (l : Lk lk (vs.map some ++ List.replicate n none) σ') :
    Go K [] (vs.map some) (ms.map some) fp F H (vs.map some) (ns.map some) (fun i => if lk i then fp' i else []) F' H' ∧ ∀ b, Ond (ns.map some) (fun i => if lk i then fp' i else []) b → Ond env' fp' b := by
  have hl : ms.length = vs.length := by simpa using ok.len
  have on : ∀ b, Ond (ns.map some) (fun i => if lk i then fp' i else []) b → Ond env' fp' b := fun b ⟨i, m, hi, hb⟩ => by
    rw [get_map] at hi
    by_cases hk : lk i = true
    · simp only [if_pos hk] at hb
      rcases outs_get ho hi with ⟨_, z⟩ | ⟨z, _⟩
      · rw [Nat.zero_add] at z
        exact ⟨i, m, z, hb⟩
      · rw [Nat.zero_add, hk] at z
        cases z
    · simp only [if_neg hk] at hb
      cases hb
  refine ⟨⟨g.fr, fun a o e no _ => g.keep a o e (fun z => no (ond_pad.mp z)) (by simp), g.stay, fun a z => ?_, fun a z => ?_, ?_, g.lok⟩, on⟩
  · rcases g.nw a z with z | z | z | z
    · exact .inl z
    · exact .inr (.inl z)
    · exact .inr (.inr (.inl (ond_pad.mp z)))
    · cases z
  · rcases g.ond (on a z) with z | z
    · exact .inl z
    · exact .inr (.inl (ond_pad.mp z))
  · refine ⟨by rw [List.length_map, List.length_map, outs_len ho, hl], g.ok.sub, fun i m hi => ?_, fun i m hi => ?_, fun i j m m' a hi hj ha hb => ?_⟩
    · rw [get_map] at hi
      rcases outs_get ho hi with ⟨h1, h2⟩ | ⟨h1, h2⟩ <;> rw [Nat.zero_add] at h1
      · rw [Nat.zero_add] at h2
        obtain ⟨v, e1, e2⟩ := g.ok.slot i m h2
        have hi' : i < vs.length := by
          rw [← hl, ← outs_len ho]
          exact (List.getElem?_eq_some_iff.mp hi).1
        rw [l i h1, List.getElem?_append_left (by simpa using hi')] at e1
        exact ⟨v, e1, by simp only [if_pos h1]; exact e2⟩
      · obtain ⟨d, rfl⟩ := okA_get ha h2 (by rw [Nat.zero_add]; exact h1)
        obtain ⟨v, e1, e2⟩ := ok.slot i (.fz d) (by rw [get_map]; exact h2)
        simp only [Own] at e2
        refine ⟨v, e1, ?_⟩
        rw [if_neg (by rw [h1]; simp)]
        exact own_fz (Rep.mono g.fr _ _ e2.2)
    · rw [get_map] at hi
      rcases outs_get ho hi with ⟨h1, h2⟩ | ⟨h1, h2⟩ <;> rw [Nat.zero_add] at h1
      · rw [Nat.zero_add] at h2
        simp only [if_pos h1]
        exact g.ok.nd i m h2
      · rw [if_neg (by rw [h1]; simp)]
        exact .nil
    · rw [get_map] at hi hj
      rcases outs_get ho hi with ⟨h1, h2⟩ | ⟨h1, h2⟩ <;> rw [Nat.zero_add] at h1
      · rcases outs_get ho hj with ⟨h3, h4⟩ | ⟨h3, h4⟩ <;> rw [Nat.zero_add] at h3
        · rw [Nat.zero_add] at h2 h4
          simp only [if_pos h1] at ha
          simp only [if_pos h3] at hb
          exact g.ok.dj i j m m' a h2 h4 ha hb
        · rw [if_neg (by rw [h3]; simp)] at hb
          cases hb
      · rw [if_neg (by rw [h1]; simp)] at ha
        cases ha
end
/-- a def keeps its promise, by its body -/
theorem def_ok {P : Program} {w : World} {K : PySem.W.Frag} {mg : Str → Option Value} {base : Heap} {x qual : Str} {st : Stmt} {f : Addr} {fd : FuncData} {N ps : List Str} {k : Nat} {lk : Nat → Bool} {fS : En → Option Fl} (F : Fun K x qual st f fd) (S : FnScope N ps (defScope st))
    (hb : ∀ (cdv : Value) (A : Around) (outer : List Env) (s : Shared) (H : Hp) (E : XK), RoomG k (A.deeper (envOfC qual (defScope st) s.heap.objs.size f cdv)) → PDSs (cxOf CX0 P w K mg base N qual (defScope st) f cdv A outer s H E).nox lk (defBody st) fS) :
    FnG P w K mg base CX0 (k + 1) f fd ps (SpI K (runD N.length ps.length lk fS)) := by
  have key : ∀ {ms : List M} {m : M} {ns : List M}, runD N.length ps.length lk fS ms = some (m, ns) → ms.length = ps.length ∧ okA lk 0 ms = true := fun {ms m ns} e => by
    unfold runD at e
    split at e
    · assumption
    · cases e
  refine fun_g F S (fun vs H Q E h => ?_) (fun cdv A outer s H vs Q E hr h => ?_)
  · obtain ⟨ms, m, ms', Fz, fp, e, ok, _⟩ := h
    rw [← (key e).1]
    have := ok.len
    simpa using this.symm
  · obtain ⟨ms, m, ms', Fz, fp, e, ok, q⟩ := h
    obtain ⟨hl, ha⟩ := key e
    have hv : ms.length = vs.length := by simpa using ok.len
    refine ⟨_, (hb cdv A outer s H E hr).nox, ?_⟩
    have hst : L2.start N vs = vs.map some ++ List.replicate (N.length - ps.length) none := by
      unfold L2.start
      rw [← hv, hl]
    rw [hst]
    unfold runD at e
    rw [if_pos ⟨hl, ha⟩] at e
    split at e
    · rename_i m' env' hf
      split at e
      · rename_i ns ho
        cases e
        refine ⟨_, _, Fz, fp, hf, ok.pad, fun v σ' F' H' fp' A g l o n a b => ?_⟩
        obtain ⟨g2, on⟩ := outs_ok ok ha ho g l
        refine q v F' H' _ A g2 o n (fun c hc => ?_) fun c hc z => b c hc (on c z)
        rcases a c hc with z | z
        · exact .inl z
        · exact .inr (ond_pad.mp z)
      · cases e
    · rename_i env' hf
      split at e
      · rename_i ns ho
        cases e
        refine ⟨_, _, Fz, fp, hf, ok.pad, fun σ' F' H' fp' g l => ?_⟩
        obtain ⟨g2, on⟩ := outs_ok ok ha ho g l
        exact q .non F' H' _ [] g2 (own_fz (by simp only [Rep])) .nil (fun c hc => by cases hc) fun c hc z => by cases hc
      · cases e
    · cases e
mutual
def sLf : M → Bool
  | .fz d => scal d
  | .bp _ _ => false
  | .ol ms => sLfL ms
  | .ot ms => sLfL ms
  | .oi _ fs => sLfF fs
  | .od _ _ => false
  | .odt _ => false
def sLfL : List M → Bool
  | [] => true
  | m :: ms => sLf m && sLfL ms
def sLfF : List (Str × M) → Bool
  | [] => true
  | m :: ms => sLf m.2 && sLfF ms
end
def shutZ : List Bool → List M → Option (List M)
  | [], [] => some []
  | b :: bs, m :: ms => match shut (if b then 9 else 0) m, shutZ bs ms with
    | some n, some ns => some (n :: ns)
    | _, _ => none
  | _, _ => none
section
variable {K : PySem.W.Frag} {F H F' H' : Hp} {σ σ' : L2.St} {env env' : En} {fp fp' : Nat → List Addr} {A B : List Addr} {br br' : Nat → List Pa → V → Prop}
mutual
theorem own_scal : ∀ (m : M) (v : V) (A : List Addr), Own K br F' H m v A → sLf m = true → (∀ a ∈ A, F a = none) → Own K br' F H m v A
  | .fz d, v, A, h, e, k => by
    simp only [sLf] at e
    simp only [Own] at h ⊢
    exact ⟨h.1, (rep_sc e).mpr ((rep_sc e).mp h.2)⟩
  | .bp i p, v, A, h, e, k => by cases e
  | .ol ms, v, A, h, e, k => by
    simp only [sLf] at e
    simp only [Own] at h ⊢
    obtain ⟨p, vs, B, e1, rfl, f, q, r⟩ := h
    exact ⟨p, vs, B, e1, rfl, k p List.mem_cons_self, q, own_scalL ms vs B r e fun a ha => k a (List.mem_cons_of_mem _ ha)⟩
  | .ot ms, v, A, h, e, k => by
    simp only [sLf] at e
    simp only [Own] at h ⊢
    obtain ⟨p, vs, B, e1, rfl, f, q, r⟩ := h
    exact ⟨p, vs, B, e1, rfl, k p List.mem_cons_self, q, own_scalL ms vs B r e fun a ha => k a (List.mem_cons_of_mem _ ha)⟩
  | .oi C fs, v, A, h, e, k => by
    simp only [sLf] at e
    simp only [Own] at h ⊢
    obtain ⟨p, dx, gs, B, e1, rfl, f, f2, q, q2, r⟩ := h
    exact ⟨p, dx, gs, B, e1, rfl, k p List.mem_cons_self, k dx (List.mem_cons_of_mem _ List.mem_cons_self), q, q2, own_scalF fs gs B r e fun a ha => k a (List.mem_cons_of_mem _ (List.mem_cons_of_mem _ ha))⟩
  | .od lk kvs, v, A, h, e, k => by cases e
  | .odt kvs, v, A, h, e, k => by cases e
theorem own_scalL : ∀ (ms : List M) (vs : List V) (A : List Addr), OwnL K br F' H ms vs A → sLfL ms = true → (∀ a ∈ A, F a = none) → OwnL K br' F H ms vs A
  | [], vs, A, h, e, k => by simpa only [OwnL] using h
  | m :: ms, vs, A, h, e, k => by
    simp only [sLfL, Bool.and_eq_true] at e
    simp only [OwnL] at h ⊢
    obtain ⟨v, r, B, C, e1, rfl, q, q2⟩ := h
    exact ⟨v, r, B, C, e1, rfl, own_scal m v B q e.1 fun a ha => k a (List.mem_append_left _ ha), own_scalL ms r C q2 e.2 fun a ha => k a (List.mem_append_right _ ha)⟩
theorem own_scalF : ∀ (ms : List (Str × M)) (vs : List (Str × V)) (A : List Addr), OwnF K br F' H ms vs A → sLfF ms = true → (∀ a ∈ A, F a = none) → OwnF K br' F H ms vs A
  | [], vs, A, h, e, k => by simpa only [OwnF] using h
  | m :: ms, vs, A, h, e, k => by
    simp only [sLfF, Bool.and_eq_true] at e
    simp only [OwnF] at h ⊢
    obtain ⟨v, r, B, C, e1, rfl, q, q2⟩ := h
    exact ⟨v, r, B, C, e1, rfl, own_scal m.2 v B q e.1 fun a ha => k a (List.mem_append_left _ ha), own_scalF ms r C q2 e.2 fun a ha => k a (List.mem_append_right _ ha)⟩
end
theorem shutZ_ok : ∀ {bs : List Bool} {ms : List M} {vs : List V} {A : List Addr} {ms' : List M}, OwnL K br F H ms vs A → A.Nodup → shutZ bs ms = some ms' → ∃ A', A'.Sublist A ∧ ∀ F', Fr F H F' A A' → OwnL K noBr F' H ms' vs A'
  | [], [], vs, A, ms', h, hn, e => by
    cases e
    simp only [OwnL] at h
    obtain ⟨rfl, rfl⟩ := h
    exact ⟨[], List.Sublist.refl _, fun F' hF => ownL_nil⟩
  | b :: bs, m :: ms, vs, A, ms', h, hn, e => by
    simp only [shutZ] at e
    split at e
    · rename_i n ns e1 e2
      cases e
      simp only [OwnL] at h
      obtain ⟨v, r, B, C, rfl, rfl, q, q2⟩ := h
      have hn' := List.nodup_append.mp hn
      obtain ⟨B', b1, b2⟩ := shut_ok _ m v B n q hn'.1 e1
      obtain ⟨C', c1, c2⟩ := shutZ_ok q2 hn'.2.1 e2
      refine ⟨B' ++ C', List.Sublist.append b1 c1, fun F' hF => ?_⟩
      simp only [OwnL]
      exact ⟨v, r, B', C', rfl, rfl, b2 F' (hF.left hn c1), c2 F' (hF.right hn b1)⟩
    · cases e
  | [], m :: ms, vs, A, ms', h, hn, e => by cases e
  | b :: bs, [], vs, A, ms', h, hn, e => by cases e
theorem fr_frz2 {A' : List Addr} (s : Same F H) (hA : ∀ a ∈ A', F a = none) : Fr F H (frz2 F H A A') A A' ∧ Same (frz2 F H A A') H ∧ ∀ a, frz2 F H A A' a ≠ none → F a ≠ none ∨ (a ∈ A ∧ a ∉ A') := by
  refine ⟨⟨fun b o q => ?_, fun a ha => ?_, fun a ha hb o q => ?_⟩, fun b o q => ?_, fun a z => ?_⟩
  · unfold frz2
    split
    · exact s _ _ q
    · exact q
  · unfold frz2
    rw [if_neg fun z => z.2 ha]
    exact hA a ha
  · unfold frz2
    rw [if_pos ⟨ha, hb⟩]
    exact q
  · unfold frz2 at q
    split at q
    · exact q
    · exact s _ _ q
  · unfold frz2 at z
    split at z
    · rename_i h
      exact .inr h
    · exact .inl z
/-- a callee's slots -/
theorem envOf (s : Same F H) : ∀ {ms : List M} {vs : List V} {A : List Addr}, OwnL K noBr F H ms vs A → A.Nodup → ∃ fp, EnvOk K F H (vs.map some) (ms.map some) fp ∧ ∀ a, Ond (ms.map some) fp a → a ∈ A
  | [], vs, A, h, hn => by
    simp only [OwnL] at h
    obtain ⟨rfl, rfl⟩ := h
    refine ⟨fun _ => [], ⟨rfl, s, fun i m e => ?_, fun i m e => .nil, fun i j m n a e _ ha => by cases ha⟩, fun a ⟨i, m, e, ha⟩ => by cases ha⟩
    rw [get_map] at e
    cases e
  | m :: ms, vs, A, h, hn => by
    simp only [OwnL] at h
    obtain ⟨v, r, B, C, rfl, rfl, q, q2⟩ := h
    have hn' := List.nodup_append.mp hn
    obtain ⟨fp, ok, on⟩ := envOf s q2 hn'.2.1
    have sc : ∀ {i n}, En.get (ms.map some) i = some n → ∀ a ∈ fp i, a ∈ C := fun {i n} e a ha => on a ⟨i, n, e, ha⟩
    refine ⟨fun i => match i with | 0 => B | i + 1 => fp i, ⟨by have := ok.len; simp at this ⊢; exact this, s, fun i n e => ?_, fun i n e => ?_, fun i j n n' a e e' ha hb => ?_⟩, fun a ⟨i, n, e, ha⟩ => ?_⟩
    · rw [get_map] at e
      cases i with
      | zero =>
        cases e
        exact ⟨v, rfl, q⟩
      | succ i =>
        obtain ⟨w, e1, e2⟩ := ok.slot i n (by rw [get_map]; simpa using e)
        exact ⟨w, by simpa using e1, e2⟩
    · cases i with
      | zero => exact hn'.1
      | succ i => exact ok.nd i n (by rw [get_map] at e ⊢; simpa using e)
    · rw [get_map] at e e'
      cases i with
      | zero =>
        cases j with
        | zero => rfl
        | succ j => exact absurd rfl (hn'.2.2 a ha a (sc (by rw [get_map]; simpa using e') a hb))
      | succ i =>
        cases j with
        | zero => exact absurd rfl (hn'.2.2 a hb a (sc (by rw [get_map]; simpa using e) a ha))
        | succ j => rw [ok.dj i j n n' a (by rw [get_map]; simpa using e) (by rw [get_map]; simpa using e') ha hb]
    · rw [get_map] at e
      cases i with
      | zero => exact List.mem_append_left _ ha
      | succ i => exact List.mem_append_right _ (sc (by rw [get_map]; simpa using e) a ha)
end
/-- a call whose arguments are no slots that the callee changes -/
def callP (io : List Bool) (f : Fn) : En → List M → Option M := fun env ms => match slotsL ms with
  | [] => match shutZ io ms with
    | some cs => match f cs with
      | some (r, _) => some r
      | none => none
    | none => none
  | _ => match dats env ms with
    | some ds => match f (ds.map .fz) with
      | some (r, _) => if sLf r then some r else none
      | none => none
    | none => none
section
variable {K : PySem.W.Frag}
theorem s_call {io : List Bool} {f : Fn} {E : XK} : OpS K (callP io f) (fun vs H Q => SpI K f vs H Q E) := by
  intro σ env F H fp ms vs A m Q ok hO hn dj e q
  unfold callP at e
  split at e
  · rename_i hs
    split at e
    · rename_i cs hc
      split at e
      · rename_i r cs' hf
        cases e
        obtain ⟨A', h1, h2⟩ := shutZ_ok hO hn hc
        obtain ⟨f1, f2, f3⟩ := fr_frz2 (A := A) ok.sub fun a ha => (hO.at _ _ _ a (h1.subset ha)).1
        obtain ⟨fpc, okc, on⟩ := envOf f2 (h2 _ f1) (hn.sublist h1)
        refine ⟨cs, m, cs', _, fpc, hf, okc, fun v F' H' fp' B g o n a b => q v F' H' B ⟨f1.1.trans g.fr, fun c u e z => g.keep c u e (fun w => z (h1.subset (on c w))) (by simp), g.stay, g.ok.sub, fun c z => ?_, g.lok⟩ (o.mono (.refl _) (fun _ _ _ z => z.elim) _ _ _ fun c hc => ⟨(o.at _ _ _ c hc).1, fun _ z => z⟩) n fun c hc => ?_⟩
        · rcases g.nw c z with w | w | w | w
          · rcases f3 c w with w | w
            · exact .inl w
            · exact .inr (.inr w.1)
          · exact .inr (.inl w)
          · exact .inr (.inr (h1.subset (on c w)))
          · cases w
        · rcases a c hc with w | w
          · exact .inl w
          · exact .inr (h1.subset (on c w))
      · cases e
    · cases e
  · split at e
    · rename_i ds hd
      split at e
      · rename_i r cs' hf
        split at e
        · rename_i hr
          cases e
          have rl : RepL K H ds vs := ok.dataL hO hd
          obtain ⟨fpc, okc, on⟩ := envOf (.refl H) (ownL_fz (br := noBr) (H := H) rl) .nil
          refine ⟨ds.map .fz, m, cs', H, fpc, hf, okc, fun v F' H' fp' B g o n a b => ?_⟩
          have noc : ∀ c, ¬ Ond ((ds.map M.fz).map some) fpc c := fun c w => by cases on c w
          have hB : ∀ c ∈ B, F c = none := fun c hc => ok.sub.free (g.fr.free (o.at _ _ _ c hc).1)
          refine q v F H' B ⟨.refl _, fun c u e _ => g.keep c u e (noc c) (by simp), g.stay, ok.sub.trans (g.fr.trans g.ok.sub), fun c z => .inl z, g.lok⟩ (own_scal m v B o hr hB) n fun c hc => ?_
          rcases a c hc with w | w
          · exact .inl w
          · exact absurd w (noc c)
        · cases e
      · cases e
    · cases e
/-- a call that changes the slot that its first argument is -/
def callI (io : List Bool) (f : Fn) (gs : En → Option (List M × En)) : En → Option (M × En) := fun env => match gs env with
  | some (.bp i [] :: rest, e1) => match slotsL rest with
    | [] => match e1.get i, shutZ io.tail rest with
      | some n, some cs => match f (n :: cs) with
        | some (r, n' :: _) => some (r, e1.put i n')
        | _ => none
      | _, _ => none
    | _ => none
  | _ => none
theorem tXA.mutc {io : List Bool} {f : Fn} {E : XK} {gs : En → Option (List M × En)} {σ : L2.St} {H : Hp} {Q : VK} (h : tX K (callI io f gs) σ H Q) : tXA K gs σ H fun vs H1 => SpI K f vs H1 Q E := by
  obtain ⟨env, m, env', F, fp, e, ok, q⟩ := h
  unfold callI at e
  split at e
  · rename_i i rest e1 h1
    split at e
    · rename_i hs
      split at e
      · rename_i n cs hn hc
        split at e
        · rename_i r n' tl hf
          cases e
          refine ⟨env, _, e1, F, fp, h1, ok, fun vs F1 H1 fp1 A g o nd a b => ?_⟩
          simp only [OwnL] at o
          obtain ⟨v, ws, B0, C, rfl, rfl, o1, o2⟩ := o
          simp only [Own] at o1
          obtain ⟨rfl, w, hw, hv, _⟩ := o1
          have hv : v = w := hv
          subst hv
          rw [List.nil_append] at nd a b
          obtain ⟨u, k1, k2⟩ := g.ok.slot i n hn
          rw [hw] at k1
          cases k1
          have hlt := En.get_lt hn
          obtain ⟨C', c1, c2⟩ := shutZ_ok o2 nd hc
          obtain ⟨f1, f2, f3⟩ := fr_frz2 (A := C) g.ok.sub fun x hx => (o2.at _ _ _ x (c1.subset hx)).1
          have kk : ∀ {j x}, (∃ y, e1.get j = some y) → x ∈ fp1 j → x ∉ C := fun {j x} ⟨y, hy⟩ hx z => b x z ⟨j, y, hy, hx⟩
          have k2' : Own K noBr (frz2 F1 H1 C C') H1 n v (fp1 i) := k2.mono f1.1 (fun _ _ _ z => z) _ _ _ fun x hx => ⟨by
            unfold frz2
            rw [if_neg fun z => kk ⟨n, hn⟩ hx z.1]
            exact (k2.at _ _ _ x hx).1, fun _ z => z⟩
          have oc : OwnL K noBr (frz2 F1 H1 C C') H1 (n :: cs) (v :: ws) (fp1 i ++ C') := by
            simp only [OwnL]
            exact ⟨v, ws, fp1 i, C', rfl, rfl, k2', c2 _ f1⟩
          have ndc : (fp1 i ++ C').Nodup := List.nodup_append.mpr ⟨g.ok.nd i n hn, nd.sublist c1, fun x hx y hy e => kk ⟨n, hn⟩ hx (c1.subset (e ▸ hy))⟩
          obtain ⟨fpc, okc, on⟩ := envOf f2 oc ndc
          refine ⟨n :: cs, m, n' :: tl, _, fpc, hf, okc, fun v' F' H' fp' B g' o' n'' a' b' => ?_⟩
          have onc : ∀ x, Ond ((n :: cs).map some) fpc x → x ∈ fp1 i ∨ x ∈ C := fun x z => (List.mem_append.mp (on x z)).imp id fun z => c1.subset z
          have h0 : En.get ((n' :: tl).map some) 0 = some n' := rfl
          have c0 : ∀ x, x ∈ fp' 0 → H1 x = none ∨ x ∈ fp1 i ∨ x ∈ C := fun x hx => (g'.ond ⟨0, n', h0, hx⟩).imp id (onc x)
          have go2 : Go K C σ e1 fp1 F1 H1 σ (e1.put i n') (fun k => if k = i then fp' 0 else fp1 k) F' H' := by
            refine ⟨f1.1.trans g'.fr, fun x u e no nC => g'.keep x u e (fun z => ?_) (by simp), g'.stay, fun x z => ?_, fun x ⟨j, y, hj, hx⟩ => ?_, ?_, g'.lok⟩
            · rcases onc x z with z | z
              · exact no ⟨i, n, hn, z⟩
              · exact nC z
            · rcases g'.nw x z with z | z | z | z
              · rcases f3 x z with z | z
                · exact .inl z
                · exact .inr (.inr (.inr z.1))
              · exact .inr (.inl z)
              · rcases onc x z with z | z
                · exact .inr (.inr (.inl ⟨i, n, hn, z⟩))
                · exact .inr (.inr (.inr z))
              · cases z
            · by_cases hj' : j = i
              · simp only [if_pos hj'] at hx
                rcases c0 x hx with z | z | z
                · exact .inl z
                · exact .inr (.inl ⟨i, n, hn, z⟩)
                · exact .inr (.inr z)
              · simp only [if_neg hj'] at hx
                rw [En.get_put hlt, if_neg hj'] at hj
                exact .inr (.inl ⟨j, y, hj, hx⟩)
            · -- other slots' nodes
              have other : ∀ j y, j ≠ i → e1.get j = some y → ∀ x ∈ fp1 j, (∃ o, H1 x = some o) ∧ F1 x = none ∧ x ∉ fp1 i ∧ x ∉ C := fun j y hj hy x hx => by
                obtain ⟨w', _, q'⟩ := g.ok.slot j y hy
                obtain ⟨z1, z2⟩ := q'.at _ _ _ x hx
                exact ⟨z2, z1, fun z => hj (g.ok.dj j i y n x hy hn hx z), kk ⟨y, hy⟩ hx⟩
              refine ⟨by unfold En.put; rw [List.length_set]; exact g.ok.len, g'.ok.sub, fun j y hj => ?_, fun j y hj => ?_, fun j k y y' x hj hk hx hx' => ?_⟩
              · rw [En.get_put hlt] at hj
                by_cases hj' : j = i
                · subst hj'
                  rw [if_pos rfl] at hj
                  cases hj
                  obtain ⟨w', z1, z2⟩ := g'.ok.slot 0 n' h0
                  simp only [List.map_cons, List.getElem?_cons_zero, Option.some.injEq] at z1
                  subst z1
                  refine ⟨v, hw, ?_⟩
                  simp only [if_pos]
                  exact z2
                · rw [if_neg hj'] at hj
                  obtain ⟨w', z1, z2⟩ := g.ok.slot j y hj
                  refine ⟨w', z1, ?_⟩
                  simp only [if_neg hj']
                  refine z2.mono (f1.1.trans g'.fr) (fun _ _ _ z => z) _ _ _ fun x hx => ?_
                  obtain ⟨⟨o, y1⟩, y2, y3, y4⟩ := other j y hj' hj x hx
                  have nO : ¬ Ond ((n :: cs).map some) fpc x := fun z => (onc x z).elim y3 y4
                  refine ⟨?_, fun u e => g'.keep x u e nO (by simp)⟩
                  cases z : F' x with
                  | none => rfl
                  | some u =>
                    rcases g'.nw x (by rw [z]; simp) with z | z | z | z
                    · rcases f3 x z with z | z
                      · exact absurd y2 z
                      · exact absurd z.1 y4
                    · rw [y1] at z
                      cases z
                    · exact absurd z nO
                    · cases z
              · rw [En.get_put hlt] at hj
                by_cases hj' : j = i
                · simp only [if_pos hj']
                  exact g'.ok.nd 0 n' h0
                · rw [if_neg hj'] at hj
                  simp only [if_neg hj']
                  exact g.ok.nd j y hj
              · have cross : ∀ k y, k ≠ i → e1.get k = some y → ∀ x, x ∈ fp' 0 → x ∈ fp1 k → False := fun k y hk hy x h1 h2 => by
                  obtain ⟨⟨o, y1⟩, y2, y3, y4⟩ := other k y hk hy x h2
                  rcases c0 x h1 with z | z | z
                  · rw [y1] at z
                    cases z
                  · exact y3 z
                  · exact y4 z
                rw [En.get_put hlt] at hj hk
                by_cases hj' : j = i
                · simp only [if_pos hj'] at hx
                  by_cases hk' : k = i
                  · rw [hj', hk']
                  · rw [if_neg hk'] at hk
                    simp only [if_neg hk'] at hx'
                    exact (cross k y' hk' hk x hx hx').elim
                · rw [if_neg hj'] at hj
                  simp only [if_neg hj'] at hx
                  by_cases hk' : k = i
                  · simp only [if_pos hk'] at hx'
                    exact (cross j y hj' hj x hx' hx).elim
                  · rw [if_neg hk'] at hk
                    simp only [if_neg hk'] at hx'
                    exact g.ok.dj j k y y' x hj hk hx hx'
          refine q v' F' H' _ B (g.trans go2 a) (o'.mono (.refl _) (fun _ _ _ z => z.elim) _ _ _ fun c hc => ⟨(o'.at _ _ _ c hc).1, fun _ z => z⟩) n'' (fun c hc => ?_) fun c hc ⟨j, y, hj, hx⟩ => ?_
          · rcases a' c hc with z | z
            · exact .inl (g.stay c z)
            · rcases onc c z with z | z
              · exact g.ond ⟨i, n, hn, z⟩
              · exact a c z
          · rw [En.get_put hlt] at hj
            by_cases hj' : j = i
            · simp only [if_pos hj'] at hx
              exact b' c hc ⟨0, n', h0, hx⟩
            · rw [if_neg hj'] at hj
              simp only [if_neg hj'] at hx
              obtain ⟨w', _, q'⟩ := g.ok.slot j y hj
              obtain ⟨_, o, z2⟩ := q'.at _ _ _ c hx
              rcases a' c hc with z | z
              · rw [z2] at z
                cases z
              · rcases onc c z with z | z
                · exact hj' (g.ok.dj j i y n c hj hn hx z)
                · exact kk ⟨y, hj⟩ hx z
        · cases e
      · cases e
    · cases e
  · cases e
end
section
variable {X : Cx} {k : Nat} {fa : Addr} {fd : FuncData} {ps : List Str} {fn : Fn} {x : Str} {p pos : Pos} {e : Expr} {es : List Expr} {io : List Bool} {fs : En → Option (List M)} {gs : En → Option (List M × En)} {E : XK}
theorem sp_nil {sp : Sp} {vs : List V} {H : Hp} {Q : VK} (h : sp vs H Q E) : sp (vs ++ []) H Q E := by rw [List.append_nil]; exact h
theorem pd_call (io : List Bool) (F : FnG X.prog X.w X.K X.mg X.base CX0 k fa fd ps (SpI X.K fn)) (hr : RoomG k X.A) (hg : Gl X x) (hm : X.mg x = some (.ref fa)) (hk : PySem.W.keepIn X.K (.ref fa) = true) (hb : Binds X.K fd ps [])
    (ha : PDA X (e :: es) fs) (hdb : (x == ("__debug__" : Str)) = false := by decide) (he : starEach (e :: es) X.env = (false, eval e X.env) :: starEach es X.env := by rfl) (hpl : (backTo pos (starEach es X.env)).any (·.1) = false := by rfl) :
    PD X (.Call (.Name x p) (e :: es) [] pos) (opr (callP io fn) fs) :=
  PE.imp (pe_callG (dvs := []) (E := E0) F hr hg hm hk hb .nil pass0 ha hdb he hpl) fun σ H Q q => by
    obtain ⟨env, ms, F, fp, e, ok, q'⟩ := tDA.op (s_call (E := E0)) q
    exact ⟨env, ms, F, fp, e, ok, fun vs F' H' A a b c d => sp_nil (q' vs F' H' A a b c d)⟩
theorem px_callI (io : List Bool) (F : FnG X.prog X.w X.K X.mg X.base CX0 k fa fd ps (SpI X.K fn)) (hr : RoomG k X.A) (hg : Gl X x) (hm : X.mg x = some (.ref fa)) (hk : PySem.W.keepIn X.K (.ref fa) = true) (hb : Binds X.K fd ps [])
    (ha : PXA X (e :: es) gs) (hdb : (x == ("__debug__" : Str)) = false := by decide) (he : starEach (e :: es) X.env = (false, eval e X.env) :: starEach es X.env := by rfl) (hpl : (backTo pos (starEach es X.env)).any (·.1) = false := by rfl) :
    PX X (.Call (.Name x p) (e :: es) [] pos) (callI io fn gs) :=
  PE.imp (pe_callG (dvs := []) (E := E0) F hr hg hm hk hb .nil pass0 ha hdb he hpl) fun σ H Q q => (tXA.mutc (E := E0) q).mono fun vs H1 h => sp_nil h
end
/-- a def of the text: where it stands, its promise -/
structure Df (P : Program) (w : World) (K : PySem.W.Frag) (mg : Str → Option Value) (base : Heap) (x : Str) (k : Nat) (ps : List Str) (fn : Fn) : Prop where
  ex : ∃ (f : Addr) (fd : FuncData), mg x = some (.ref f) ∧ PySem.W.keepIn K (.ref f) = true ∧ Binds K fd ps [] ∧ FnG P w K mg base CX0 k f fd ps (SpI K fn)
/-- a law's def keeps what is asked -/
theorem law_sp {K : PySem.W.Frag} {f : Fn} (h : ∀ ns : List Int, ns.length ≤ 63 → (∀ z ∈ ns, Builtin.Int.intBits z ≤ 1048576) → ∃ ms, f [.fz (.scr ns)] = some (.fz (.bl true), ms)) {H : Hp} {a : Addr} {ns : List Int} (hl : ns.length ≤ 63) (hb : ∀ z ∈ ns, Builtin.Int.intBits z ≤ 1048576) (hS : SqL K H a (ns.map V.int)) :
    SpI K f [.ref a] H (fun v _ => v = .bl true) fun _ _ _ => False := by
  obtain ⟨ms, e⟩ := h ns hl hb
  have r : RepL K H [D.scr ns] [V.ref a] := by
    simp only [RepL, Rep]
    exact ⟨_, [], rfl, ⟨a, rfl, hS⟩, rfl⟩
  obtain ⟨fp, ok, _⟩ := envOf (.refl H) (ownL_fz (br := noBr) (H := H) r) .nil
  exact ⟨_, _, ms, H, fp, e, ok, fun v F' H' fp' B g o n a b => by simpa only [Own, Rep] using o.2⟩
end T2
end
section
set_option Elab.async false
set_option linter.all false
set_option maxRecDepth 100000
namespace T2
open PySem PySem.Spec PyProof.Rows L2
section
variable {K : PySem.W.Frag}
theorem OwnL.split {F H : Hp} : ∀ {ms : List M} {vs : List V} {A : List Addr} {k : Nat} {n : M}, OwnL K noBr F H ms vs A → ms[k]? = some n → ∃ X Y B v, A = X ++ B ++ Y ∧ vs[k]? = some v ∧ Own K noBr F H n v B ∧
    ∀ F' H' n' B', Same F F' → (∀ x ∈ X ++ Y, F' x = none ∧ ∀ o, H x = some o → H' x = some o) → Own K noBr F' H' n' v B' → OwnL K noBr F' H' (ms.set k n') vs (X ++ B' ++ Y)
  | [], vs, A, k, n, h, e => by cases e
  | m :: ms, vs, A, 0, n, h, e => by
    simp only [OwnL] at h
    obtain ⟨v, r, B, C, rfl, rfl, q, q2⟩ := h
    cases e
    refine ⟨[], C, B, v, rfl, rfl, q, fun F' H' n' B' s k h => ?_⟩
    simp only [List.set_cons_zero, OwnL]
    exact ⟨v, r, B', C, rfl, rfl, h, q2.mono s (fun _ _ _ z => z) _ _ _ k⟩
  | m :: ms, vs, A, k + 1, n, h, e => by
    simp only [OwnL] at h
    obtain ⟨v, r, B, C, rfl, rfl, q, q2⟩ := h
    obtain ⟨X, Y, D, w, rfl, e1, e2, e3⟩ := OwnL.split (k := k) q2 (by simpa using e)
    refine ⟨B ++ X, Y, D, w, by simp only [List.append_assoc], by simpa using e1, e2, fun F' H' n' B' s k h => ?_⟩
    simp only [List.set_cons_succ, OwnL]
    exact ⟨v, r, B, X ++ B' ++ Y, rfl, by simp only [List.append_assoc], q.mono s (fun _ _ _ z => z) _ _ _ fun a ha => k a (by simp [ha]), e3 F' H' n' B' s (fun a ha => k a (by
      rcases List.mem_append.mp ha with z | z <;> simp [z])) h⟩
theorem OwnF.split {F H : Hp} : ∀ {ms : List (Str × M)} {vs : List (Str × V)} {A : List Addr} {f : Str} {n : M}, OwnF K noBr F H ms vs A → getF ms f = some n → ∃ X Y B v, A = X ++ B ++ Y ∧ vs.lookup f = some v ∧ Own K noBr F H n v B ∧
    ∀ F' H' n' B', Same F F' → (∀ x ∈ X ++ Y, F' x = none ∧ ∀ o, H x = some o → H' x = some o) → Own K noBr F' H' n' v B' → OwnF K noBr F' H' (setF ms f n') vs (X ++ B' ++ Y)
  | [], vs, A, k, n, h, e => by cases e
  | m :: ms, vs, A, f, n, h, e => by
    simp only [OwnF] at h
    obtain ⟨v, r, B, C, rfl, rfl, q, q2⟩ := h
    unfold getF at e
    by_cases hf : m.1 = f
    · rw [if_pos hf] at e
      cases e
      refine ⟨[], C, B, v, rfl, by rw [List.lookup_cons, hf]; simp, q, fun F' H' n' B' s k h => ?_⟩
      unfold setF
      rw [if_pos hf]
      simp only [OwnF]
      exact ⟨v, r, B', C, by rw [hf], rfl, h, q2.mono s (fun _ _ _ z => z) _ _ _ k⟩
    · rw [if_neg hf] at e
      obtain ⟨X, Y, D, w, rfl, e1, e2, e3⟩ := OwnF.split q2 e
      refine ⟨B ++ X, Y, D, w, by simp only [List.append_assoc], ?_, e2, fun F' H' n' B' s k h => ?_⟩
      · rw [List.lookup_cons]
        have : (f == m.1) = false := by simpa using fun z => hf z.symm
        simp only [this, e1]
      · unfold setF
        rw [if_neg hf]
        simp only [OwnF]
        exact ⟨v, r, B, X ++ B' ++ Y, rfl, by simp only [List.append_assoc], q.mono s (fun _ _ _ z => z) _ _ _ fun a ha => k a (by simp [ha]), e3 F' H' n' B' s (fun a ha => k a (by
          rcases List.mem_append.mp ha with z | z <;> simp [z])) h⟩
theorem getP_nil (m : M) : getP m [] = some m := by cases m <;> rfl
theorem setP_nil (m n : M) : setP m [] n = some n := by cases m <;> rfl
/-- a list node of a tree, and the tree with another one in its place -/
theorem Own.node {F H : Hp} : ∀ {p : List Pa} {m : M} {w : V} {A : List Addr} {a : Addr} {ms : List M}, Own K noBr F H m w A → getP m p = some (.ol ms) → ValP H w p (.ref a) →
    ∃ X Y C vs, A = X ++ (a :: C) ++ Y ∧ H a = some (.lst vs) ∧ OwnL K noBr F H ms vs C ∧
      ∀ F' H' ms' vs' C', Same F F' → (∀ x ∈ X ++ Y, F' x = none ∧ ∀ o, H x = some o → H' x = some o) → F' a = none → H' a = some (.lst vs') → OwnL K noBr F' H' ms' vs' C' → ∃ m', setP m p (.ol ms') = some m' ∧ Own K noBr F' H' m' w (X ++ (a :: C') ++ Y)
  | [], m, w, A, a, ms, h, e, q => by
    rw [getP_nil] at e
    cases e
    have q : V.ref a = w := q
    subst q
    simp only [Own] at h
    obtain ⟨p, vs, B, e1, rfl, f, g, r⟩ := h
    cases e1
    refine ⟨[], [], B, vs, by simp, g, r, fun F' H' ms' vs' C' s k f' g' o => ⟨_, setP_nil _ _, ?_⟩⟩
    simp only [Own]
    exact ⟨a, vs', C', rfl, by simp, f', g', o⟩
  | .ix kk :: r, m, w, A, a, ms, h, e, q => by
    obtain ⟨b, us, u, rfl, q, g, q2⟩ := q
    cases m with
    | ol xs =>
      simp only [Own] at h
      obtain ⟨p, vs', B, e1, rfl, f, q3, h⟩ := h
      cases e1
      have : us = vs' := by rcases q with q | q <;> rw [q3] at q <;> cases q <;> rfl
      subst this
      simp only [getP] at e
      split at e
      · rename_i m' hm
        obtain ⟨X, Y, D, v, rfl, e1, e2, e3⟩ := OwnL.split h hm
        rw [g] at e1
        cases e1
        obtain ⟨X', Y', C, vs, rfl, c1, c2, c3⟩ := Own.node e2 e q2
        refine ⟨b :: X ++ X', Y' ++ Y, C, vs, by simp, c1, c2, fun F' H' ms' vs' C' s k f' g' o => ?_⟩
        obtain ⟨n', s1, s2⟩ := c3 F' H' ms' vs' C' s (fun x hx => k x (by
          rcases List.mem_append.mp hx with z | z <;> simp [z])) f' g' o
        refine ⟨.ol (xs.set kk n'), by simp only [setP, hm, s1, Option.map_some], ?_⟩
        simp only [Own]
        have kb := k b (by simp)
        exact ⟨b, us, X ++ (X' ++ a :: C' ++ Y') ++ Y, rfl, by simp, kb.1, kb.2 _ q3, e3 F' H' n' _ s (fun x hx => k x (by
          rcases List.mem_append.mp hx with z | z <;> simp [z])) s2⟩
      · cases e
    | ot xs =>
      simp only [Own] at h
      obtain ⟨p, vs', B, e1, rfl, f, q3, h⟩ := h
      cases e1
      have : us = vs' := by rcases q with q | q <;> rw [q3] at q <;> cases q <;> rfl
      subst this
      simp only [getP] at e
      split at e
      · rename_i m' hm
        obtain ⟨X, Y, D, v, rfl, e1, e2, e3⟩ := OwnL.split h hm
        rw [g] at e1
        cases e1
        obtain ⟨X', Y', C, vs, rfl, c1, c2, c3⟩ := Own.node e2 e q2
        refine ⟨b :: X ++ X', Y' ++ Y, C, vs, by simp, c1, c2, fun F' H' ms' vs' C' s k f' g' o => ?_⟩
        obtain ⟨n', s1, s2⟩ := c3 F' H' ms' vs' C' s (fun x hx => k x (by
          rcases List.mem_append.mp hx with z | z <;> simp [z])) f' g' o
        refine ⟨.ot (xs.set kk n'), by simp only [setP, hm, s1, Option.map_some], ?_⟩
        simp only [Own]
        have kb := k b (by simp)
        exact ⟨b, us, X ++ (X' ++ a :: C' ++ Y') ++ Y, rfl, by simp, kb.1, kb.2 _ q3, e3 F' H' n' _ s (fun x hx => k x (by
          rcases List.mem_append.mp hx with z | z <;> simp [z])) s2⟩
      · cases e
    | fz d => cases e
    | bp i p => cases e
    | oi C fs => cases e
    | od _ _ => cases e
    | odt _ => cases e
  | .fd f :: r, m, w, A, a, ms, h, e, q => by
    obtain ⟨b, C0, dx0, gs0, u, rfl, q, g, q2⟩ := q
    cases m with
    | oi C xs =>
      simp only [Own] at h
      obtain ⟨p, dx, gs, B, e1, rfl, f1, f2, q3, q4, h⟩ := h
      cases e1
      rw [q3] at q
      cases q
      simp only [getP] at e
      split at e
      · rename_i m' hm
        obtain ⟨X, Y, D, v, rfl, e1, e2, e3⟩ := OwnF.split h hm
        rw [g] at e1
        cases e1
        obtain ⟨X', Y', C', vs, rfl, c1, c2, c3⟩ := Own.node e2 e q2
        refine ⟨b :: dx0 :: X ++ X', Y' ++ Y, C', vs, by simp, c1, c2, fun F' H' ms' vs' C'' s k f' g' o => ?_⟩
        obtain ⟨n', s1, s2⟩ := c3 F' H' ms' vs' C'' s (fun x hx => k x (by
          rcases List.mem_append.mp hx with z | z <;> simp [z])) f' g' o
        refine ⟨.oi C0 (setF xs f n'), by simp only [setP, hm, s1, Option.map_some], ?_⟩
        simp only [Own]
        have kb := k b (by simp)
        have kd := k dx0 (by simp)
        exact ⟨b, dx0, gs0, X ++ (X' ++ a :: C'' ++ Y') ++ Y, rfl, by simp, kb.1, kd.1, kb.2 _ q3, kd.2 _ q4, e3 F' H' n' _ s (fun x hx => k x (by
          rcases List.mem_append.mp hx with z | z <;> simp [z])) s2⟩
      · cases e
    | fz d => cases e
    | bp i p => cases e
    | ol ms => cases e
    | ot ms => cases e
    | od _ _ => cases e
    | odt _ => cases e
end
def setE (env : En) (i : Nat) (p : List Pa) (n : M) : Option En := match env.get i with
  | some m => (setP m p n).map (env.put i)
  | none => none
section
variable {K : PySem.W.Frag} {F H F' H' : Hp} {σ σ' : L2.St} {env env' : En} {fp fp' : Nat → List Addr} {A B : List Addr}
theorem mut_ok (ok : EnvOk K F H σ env fp) {i : Nat} {p : List Pa} {a : Addr} {ms : List M} (hpl : env.place i p = some (.ol ms)) (hv : plc H σ env i p (.ref a)) :
    ∃ C vs, H a = some (.lst vs) ∧ F a = none ∧ Ond env fp a ∧ OwnL K noBr F H ms vs C ∧ C.Nodup ∧ (∀ c ∈ C, Ond env fp c) ∧ a ∉ C ∧
      ∀ ms' vs' C', OwnL K noBr F H ms' vs' C' → C'.Nodup → (∀ c ∈ C', c ∈ C ∨ ¬ Ond env fp c) → ∃ env' fp', setE env i p (.ol ms') = some env' ∧ Go K C' σ env fp F H σ env' fp' F (upd H a (.lst vs')) ∧ ∀ x, Ond env' fp' x → x ∈ C' ∨ (Ond env fp x ∧ x ∉ C) := by
  obtain ⟨w, hw, hval, _⟩ := hv
  unfold En.place at hpl
  split at hpl
  · rename_i m hm
    obtain ⟨w', k1, k2⟩ := ok.slot i m hm
    rw [hw] at k1
    cases k1
    obtain ⟨X, Y, C, vs, eA, c1, c2, c3⟩ := k2.node hpl hval
    have nd := ok.nd i m hm
    rw [eA] at nd
    have hlt := En.get_lt hm
    have inA : ∀ x, x ∈ X ++ (a :: C) ++ Y → x ∈ fp i := fun x hx => by rw [eA]; exact hx
    have ha : a ∈ fp i := inA a (by simp)
    have nd1 := List.nodup_append.mp nd
    have nd2 := List.nodup_append.mp nd1.1
    have nd3 := List.nodup_cons.mp nd2.2.1
    have sep : ∀ x ∈ X ++ Y, x ≠ a ∧ x ∉ C := fun x hx => by
      rcases List.mem_append.mp hx with z | z
      · exact ⟨fun e => nd2.2.2 x z a List.mem_cons_self e, fun h => nd2.2.2 x z x (List.mem_cons_of_mem _ h) rfl⟩
      · exact ⟨fun e => nd1.2.2 a (by simp) x z e.symm, fun h => nd1.2.2 x (by simp [h]) x z rfl⟩
    refine ⟨C, vs, c1, (k2.at _ _ _ a ha).1, ⟨i, m, hm, ha⟩, c2, nd3.2, fun c hc => ⟨i, m, hm, inA c (by simp [hc])⟩, nd3.1, fun ms' vs' C' o n sC => ?_⟩
    have aC : a ∉ C' := fun z => (sC a z).elim nd3.1 fun h => h ⟨i, m, hm, ha⟩
    have up : ∀ x o, x ≠ a → H x = some o → (upd H a (.lst vs')) x = some o := fun x o ne e => by rw [upd_ne ne]; exact e
    have F0 : ∀ x ∈ fp i, F x = none := fun x hx => (k2.at _ _ _ x hx).1
    obtain ⟨m', s1, s2⟩ := c3 F (upd H a (.lst vs')) ms' vs' C' (.refl _) (fun x hx => ⟨F0 x (inA x (by rcases List.mem_append.mp hx with z | z <;> simp [z])), fun o => up x o (sep x hx).1⟩) (F0 a ha) upd_same
      (o.mono (.refl _) (fun _ _ _ z => z) _ _ _ fun x hx => ⟨(o.at _ _ _ x hx).1, fun u => up x u fun z => aC (z ▸ hx)⟩)
    have inN : ∀ x, x ∈ X ++ (a :: C') ++ Y → x ∈ C' ∨ (x ∈ fp i ∧ x ∉ C) := fun x hx => by
      simp only [List.mem_append, List.mem_cons] at hx
      rcases hx with (z | z | z) | z
      · exact .inr ⟨inA x (by simp [z]), (sep x (by simp [z])).2⟩
      · subst z
        exact .inr ⟨ha, nd3.1⟩
      · exact .inl z
      · exact .inr ⟨inA x (by simp [z]), (sep x (by simp [z])).2⟩
    have onN : ∀ x, Ond (env.put i m') (fun j => if j = i then X ++ (a :: C') ++ Y else fp j) x → x ∈ C' ∨ (Ond env fp x ∧ x ∉ C) := fun x ⟨j, y, hj, hx⟩ => by
      by_cases h : j = i
      · simp only [if_pos h] at hx
        rcases inN x hx with z | z
        · exact .inl z
        · exact .inr ⟨⟨i, m, hm, z.1⟩, z.2⟩
      · simp only [if_neg h] at hx
        rw [En.get_put hlt, if_neg h] at hj
        exact .inr ⟨⟨j, y, hj, hx⟩, fun z => h (ok.dj j i y m x hj hm hx (inA x (by simp [z])))⟩
    have ne' : ∀ {j y x}, j ≠ i → env.get j = some y → x ∈ fp j → x ≠ a ∧ x ∉ C' := fun {j y x} hj hy hx => by
      refine ⟨fun e => hj (ok.dj j i y m x hy hm hx (e ▸ ha)), fun z => ?_⟩
      rcases sC x z with w | w
      · exact hj (ok.dj j i y m x hy hm hx (inA x (by simp [w])))
      · exact w ⟨j, y, hy, hx⟩
    refine ⟨env.put i m', _, by unfold setE; simp only [hm, s1, Option.map_some], ⟨.refl _, fun x o e no _ => up x o (fun z => no (z ▸ ⟨i, m, hm, ha⟩)) e, fun x e => ?_, fun x z => .inl z, fun x z => ?_, ?_, fun x od u e => by rw [upd_ne fun z => by rw [z, c1] at e; cases e]; exact e⟩, onN⟩
    · by_cases h : x = a
      · subst h
        rw [upd_same] at e
        cases e
      · rw [upd_ne h] at e
        exact e
    · rcases onN x z with z | z
      · exact .inr (.inr z)
      · exact .inr (.inl z.1)
    · refine ⟨by unfold En.put; rw [List.length_set]; exact ok.len, fun x o e => ?_, fun j y hj => ?_, fun j y hj => ?_, fun j k y y' x hj hk hx hx' => ?_⟩
      · rw [upd_ne fun z => by rw [z, F0 a ha] at e; cases e]
        exact ok.sub _ _ e
      · rw [En.get_put hlt] at hj
        by_cases h : j = i
        · subst h
          rw [if_pos rfl] at hj
          cases hj
          refine ⟨w, hw, ?_⟩
          simp only [if_pos]
          exact s2
        · rw [if_neg h] at hj
          obtain ⟨w', z1, z2⟩ := ok.slot j y hj
          refine ⟨w', z1, ?_⟩
          simp only [if_neg h]
          exact z2.mono (.refl _) (fun _ _ _ z => z) _ _ _ fun x hx => ⟨(z2.at _ _ _ x hx).1, fun u => up x u (ne' h hj hx).1⟩
      · rw [En.get_put hlt] at hj
        by_cases h : j = i
        · simp only [if_pos h]
          have d1 : ∀ x ∈ C', x ∉ X ++ Y := fun x hx hz => by
            rcases sC x hx with w | w
            · exact (sep x hz).2 w
            · exact w ⟨i, m, hm, inA x (by rcases List.mem_append.mp hz with z | z <;> simp [z])⟩
          refine List.nodup_append.mpr ⟨List.nodup_append.mpr ⟨nd2.1, List.nodup_cons.mpr ⟨aC, n⟩, fun x hx y hy e => ?_⟩, nd1.2.1, fun x hx y hy e => ?_⟩
          · subst e
            rcases List.mem_cons.mp hy with z | z
            · exact (sep x (by simp [hx])).1 z
            · exact d1 x z (by simp [hx])
          · subst e
            simp only [List.mem_append, List.mem_cons] at hx
            rcases hx with z | z | z
            · exact nd1.2.2 x (by simp [z]) x hy rfl
            · exact (sep x (by simp [hy])).1 z
            · exact d1 x z (by simp [hy])
        · rw [if_neg h] at hj
          simp only [if_neg h]
          exact ok.nd j y hj
      · have cross : ∀ k y, k ≠ i → env.get k = some y → ∀ x, x ∈ X ++ (a :: C') ++ Y → x ∈ fp k → False := fun k y hk hy x h1 h2 => by
          rcases inN x h1 with z | z
          · exact (ne' hk hy h2).2 z
          · exact hk (ok.dj k i y m x hy hm h2 z.1)
        rw [En.get_put hlt] at hj hk
        by_cases hj' : j = i
        · simp only [if_pos hj'] at hx
          by_cases hk' : k = i
          · rw [hj', hk']
          · rw [if_neg hk'] at hk
            simp only [if_neg hk'] at hx'
            exact (cross k y' hk' hk x hx hx').elim
        · rw [if_neg hj'] at hj
          simp only [if_neg hj'] at hx
          by_cases hk' : k = i
          · simp only [if_pos hk'] at hx'
            exact (cross j y hj' hj x hx' hx).elim
          · rw [if_neg hk'] at hk
            simp only [if_neg hk'] at hx'
            exact ok.dj j k y y' x hj hk hx hx'
  · cases hpl
end
/-- a method that changes a list: its items and its arguments give the new items and the result -/
def MutS (K : PySem.W.Frag) (mu : List M → List M → Option (List M × M)) (r : V → List V → Hp → VK → Prop) : Prop :=
  ∀ (F H : Hp) (a : Addr) (vs : List V) (C : List Addr) (ms as : List M) (ws : List V) (B : List Addr) (ms' : List M) (res : M) (Q : VK), Same F H → H a = some (.lst vs) → OwnL K noBr F H ms vs C → OwnL K noBr F H as ws B → (C ++ B).Nodup → mu ms as = some (ms', res) →
    (∀ vs' C' v R, OwnL K noBr F H ms' vs' C' → Own K noBr F H res v R → (C' ++ R).Sublist (C ++ B) ∨ ((C' ++ R).Nodup ∧ ∀ x ∈ C' ++ R, x ∈ C ++ B) → Q v (upd H a (.lst vs'))) → r (.ref a) ws H Q
def stowA (k : Nat) (env : En) : List M → Option (List M × En)
  | [] => some ([], env)
  | [m] => match stow k env m with
    | some (n, e) => some ([n], e)
    | none => none
  | [.fz d, m] => match stow k env m with
    | some (n, e) => some ([.fz d, n], e)
    | none => none
  | _ => none
def isOl : Option M → Bool
  | some (.ol _) => true
  | _ => false
def xMut (k : Nat) (fo : En → Option M) (gs : En → Option (List M × En)) (mu : List M → List M → Option (List M × M)) : En → Option (M × En) := fun env => match fo env with
  | some (.bp i p) => match gs env with
    | some (as, e1) => if alv e1 (.bp i p) = true ∧ isOl (env.place i p) = true then (match stowA k e1 as with
      | some (bs, e2) => match e2.place i p with
        | some (.ol ms) => match mu ms bs with
          | some (ms', res) => match setE e2 i p (.ol ms') with
            | some e3 => some (res, e3)
            | none => none
          | none => none
        | _ => none
      | none => none) else none
    | none => none
  | _ => none
/-- the same, the arguments changing nothing -/
def xMutP (k : Nat) (fo : En → Option M) (fs : En → Option (List M)) (mu : List M → List M → Option (List M × M)) : En → Option (M × En) := fun env => match fo env with
  | some (.bp i p) => match fs env with
    | some as => if isOl (env.place i p) = true then (match stowA k env as with
      | some (bs, e2) => match e2.place i p with
        | some (.ol ms) => match mu ms bs with
          | some (ms', res) => match setE e2 i p (.ol ms') with
            | some e3 => some (res, e3)
            | none => none
          | none => none
        | _ => none
      | none => none) else none
    | none => none
  | _ => none
section
variable {K : PySem.W.Frag} {F H F' H' F1 H1 : Hp} {σ σ' : L2.St} {env env' env1 : En} {fp fp' fp1 : Nat → List Addr} {A B : List Addr}
theorem stow_goF {k : Nat} {m m' : M} {v : V} {env2 : En} (g : Go K [] σ env fp F H σ env1 fp1 F1 H1) (o : Own K (plc H1 σ env1) F1 H1 m v A) (n : A.Nodup) (a : ∀ a ∈ A, H a = none ∨ Ond env fp a) (b : ∀ a ∈ A, ¬ Ond env1 fp1 a) (e : stow k env1 m = some (m', env2)) :
    ∃ F2 fp2 A', Go K [] σ env fp F H σ env2 fp2 F2 H1 ∧ Own K noBr F2 H1 m' v A' ∧ A'.Nodup ∧ (∀ a ∈ A', H a = none ∨ Ond env fp a) ∧ (∀ a ∈ A', ¬ Ond env2 fp2 a) ∧ Same F1 F2 := by
  obtain ⟨F2, fp2, A', g2, o2, s2, k2⟩ := stow_ok g.ok o n b e
  exact ⟨F2, fp2, A', g.trans g2 a, o2, n.sublist s2, fun c hc => a c (s2.subset hc), fun c hc z => b c (s2.subset hc) (k2 c z), g2.fr⟩
theorem stowA_ok {k : Nat} {ms ms' : List M} {vs : List V} {env2 : En} (g : Go K [] σ env fp F H σ env1 fp1 F1 H1) (o : OwnL K (plc H1 σ env1) F1 H1 ms vs A) (n : A.Nodup) (a : ∀ a ∈ A, H a = none ∨ Ond env fp a) (b : ∀ a ∈ A, ¬ Ond env1 fp1 a) (e : stowA k env1 ms = some (ms', env2)) :
    ∃ F2 fp2 A', Go K [] σ env fp F H σ env2 fp2 F2 H1 ∧ OwnL K noBr F2 H1 ms' vs A' ∧ A'.Nodup ∧ (∀ a ∈ A', H a = none ∨ Ond env fp a) ∧ (∀ a ∈ A', ¬ Ond env2 fp2 a) := by
  unfold stowA at e
  split at e
  · cases e
    simp only [OwnL] at o
    obtain ⟨rfl, rfl⟩ := o
    exact ⟨F1, fp1, [], g, ownL_nil, .nil, (fun a z => by cases z), fun a z => by cases z⟩
  · rename_i m
    split at e
    · rename_i n' e' hs
      cases e
      obtain ⟨v, rfl, o1⟩ := ownL1 o
      obtain ⟨F2, fp2, A', g2, o2, n2, a2, b2⟩ := stow_go g o1 n a b hs
      refine ⟨F2, fp2, A', g2, ?_, n2, a2, b2⟩
      simp only [OwnL]
      exact ⟨v, [], A', [], rfl, by rw [List.append_nil], o2, rfl, rfl⟩
    · cases e
  · rename_i d m
    split at e
    · rename_i n' e' hs
      cases e
      obtain ⟨v, w, B, C, rfl, rfl, o1, o2⟩ := ownL2 o
      simp only [Own] at o1
      obtain ⟨rfl, r⟩ := o1
      rw [List.nil_append] at n a b
      obtain ⟨F2, fp2, A', g2, o3, n2, a2, b2, s12⟩ := stow_goF g o2 n a b hs
      refine ⟨F2, fp2, A', g2, ?_, n2, a2, b2⟩
      simp only [OwnL]
      exact ⟨v, [w], [], A', rfl, rfl, own_fz (Rep.mono s12 _ _ r), w, [], A', [], rfl, by rw [List.append_nil], o3, rfl, rfl⟩
    · cases e
  · cases e
/-- behind the receiver and the arguments: the change -/
theorem mut_fin {mu : List M → List M → Option (List M × M)} {r : V → List V → Hp → VK → Prop} {i : Nat} {p : List Pa} {bs ms ms' : List M} {ws : List V} {x : V} {res : M} {e2 e3 : En} {F2 : Hp} {fp2 : Nat → List Addr} {A' : List Addr} {Q : VK} (hm : MutS K mu r)
    (g2 : Go K [] σ env fp F H σ e2 fp2 F2 H1) (o2 : OwnL K noBr F2 H1 bs ws A') (n2 : A'.Nodup) (a2 : ∀ a ∈ A', H a = none ∨ Ond env fp a) (b2 : ∀ a ∈ A', ¬ Ond e2 fp2 a)
    (hx : ∃ w, σ[i]? = some (some w) ∧ ValP H1 w p x) (h2 : e2.place i p = some (.ol ms)) (h3 : mu ms bs = some (ms', res)) (h4 : setE e2 i p (.ol ms') = some e3)
    (q : ∀ v F' H' fp' A, Go K [] σ env fp F H σ e3 fp' F' H' → Own K (plc H' σ e3) F' H' res v A → A.Nodup → (∀ a ∈ A, H a = none ∨ Ond env fp a) → (∀ a ∈ A, ¬ Ond e3 fp' a) → Q v H') : r x ws H1 Q := by
  obtain ⟨w, hw, hv⟩ := hx
  have h2' := h2
  unfold En.place at h2
  split at h2
  · rename_i m hmi
    obtain ⟨w', k1, k2⟩ := g2.ok.slot i m hmi
    rw [hw] at k1
    cases k1
    obtain ⟨B0, hB, _⟩ := k2.path h2 hv
    simp only [Own] at hB
    obtain ⟨c, us, _, rfl, _, _, _, _⟩ := hB
    obtain ⟨C, vs, c1, c2, c3, c4, c5, c6, c7, c8⟩ := mut_ok g2.ok h2' ⟨w, hw, hv, _, h2'⟩
    have dCA : ∀ x ∈ C, x ∉ A' := fun x hx z => b2 x z (c6 x hx)
    have nd : (C ++ A').Nodup := List.nodup_append.mpr ⟨c5, n2, fun x hx y hy e => dCA x hx (e ▸ hy)⟩
    refine hm F2 H1 c vs C ms bs ws A' ms' res Q g2.ok.sub c1 c4 o2 nd h3 fun vs' C' v R o3 o4 hs => ?_
    have hs' : (C' ++ R).Nodup ∧ ∀ x ∈ C' ++ R, x ∈ C ++ A' := by
      rcases hs with z | z
      · exact ⟨nd.sublist z, fun x hx => z.subset hx⟩
      · exact z
    have nd' := List.nodup_append.mp hs'.1
    obtain ⟨e4, fp4, s1, s2, s3⟩ := c8 ms' vs' C' o3 nd'.1 fun x hx => (List.mem_append.mp (hs'.2 x (List.mem_append_left _ hx))).imp id fun z => b2 x z
    rw [h4] at s1
    cases s1
    have tC : ∀ x ∈ C', H x = none ∨ Ond env fp x := fun x hx => by
      rcases List.mem_append.mp (hs'.2 x (List.mem_append_left _ hx)) with z | z
      · exact g2.ond (c6 x z)
      · exact a2 x z
    have rne : ∀ x ∈ R, x ≠ c := fun x hx e => by
      subst e
      rcases List.mem_append.mp (hs'.2 x (List.mem_append_right _ hx)) with z | z
      · exact c7 z
      · exact b2 x z c3
    refine q v F2 _ fp4 R (g2.trans s2 tC) (o4.mono (.refl _) (fun _ _ _ z => z.elim) _ _ _ fun x hx => ⟨(o4.at _ _ _ x hx).1, fun u e => by rw [upd_ne (rne x hx)]; exact e⟩) nd'.2.1 (fun x hx => ?_) fun x hx z => ?_
    · rcases List.mem_append.mp (hs'.2 x (List.mem_append_right _ hx)) with z | z
      · exact g2.ond (c6 x z)
      · exact a2 x z
    · rcases s3 x z with z | z
      · exact nd'.2.2 x z x hx rfl
      · rcases List.mem_append.mp (hs'.2 x (List.mem_append_right _ hx)) with w | w
        · exact z.2 w
        · exact b2 x w z.1
  · cases h2
theorem mut_end {k : Nat} {mu : List M → List M → Option (List M × M)} {r : V → List V → Hp → VK → Prop} {i : Nat} {p : List Pa} {as bs ms ms' : List M} {ws : List V} {x : V} {res : M} {e2 e3 : En} {Q : VK} (hm : MutS K mu r)
    (g : Go K [] σ env fp F H σ env1 fp1 F1 H1) (o : OwnL K (plc H1 σ env1) F1 H1 as ws A) (n : A.Nodup) (a : ∀ a ∈ A, H a = none ∨ Ond env fp a) (b : ∀ a ∈ A, ¬ Ond env1 fp1 a)
    (hx : ∃ w, σ[i]? = some (some w) ∧ ValP H1 w p x) (h1 : stowA k env1 as = some (bs, e2)) (h2 : e2.place i p = some (.ol ms)) (h3 : mu ms bs = some (ms', res)) (h4 : setE e2 i p (.ol ms') = some e3)
    (q : ∀ v F' H' fp' A, Go K [] σ env fp F H σ e3 fp' F' H' → Own K (plc H' σ e3) F' H' res v A → A.Nodup → (∀ a ∈ A, H a = none ∨ Ond env fp a) → (∀ a ∈ A, ¬ Ond e3 fp' a) → Q v H') : r x ws H1 Q := by
  obtain ⟨F2, fp2, A', g2, o2, n2, a2, b2⟩ := stowA_ok g o n a b h1
  exact mut_fin hm g2 o2 n2 a2 b2 hx h2 h3 h4 q
theorem isOl_at (ok : EnvOk K F H σ env fp) {i : Nat} {p : List Pa} {w x : V} (hw : σ[i]? = some (some w)) (hv : ValP H w p x) (h : isOl (env.place i p) = true) : ∃ a xs, x = .ref a ∧ H a = some (.lst xs) := by
  cases e : env.place i p with
  | none => rw [e] at h; cases h
  | some n =>
    rw [e] at h
    cases n with
    | ol ms =>
      unfold En.place at e
      split at e
      · rename_i m hm
        obtain ⟨w', k1, k2⟩ := ok.slot i m hm
        rw [hw] at k1
        cases k1
        obtain ⟨B0, hB, _⟩ := k2.path e hv
        simp only [Own] at hB
        obtain ⟨c, us, _, rfl, _, _, h1, _⟩ := hB
        exact ⟨c, us, rfl, h1⟩
      · cases e
    | fz _ => cases h
    | bp _ _ => cases h
    | ot _ => cases h
    | oi _ _ => cases h
    | od _ _ => cases h
    | odt _ => cases h
theorem tX.mutP {k : Nat} {fo : En → Option M} {fs : En → Option (List M)} {mu : List M → List M → Option (List M × M)} {r : V → List V → Hp → VK → Prop} {Q : VK} (hm : MutS K mu r) (h : tX K (xMutP k fo fs mu) σ H Q) :
    tD K fo σ H fun x H1 => (∃ a xs, x = .ref a ∧ H1 a = some (.lst xs)) ∧ tDA K fs σ H1 fun ws H2 => r x ws H2 Q := by
  obtain ⟨env, m, env', F, fp, e, ok, q⟩ := h
  unfold xMutP at e
  split at e
  · rename_i i p h1
    split at e
    · rename_i as h2
      split at e
      · rename_i hol
        split at e
        · rename_i bs e2 h3
          split at e
          · rename_i ms h4
            split at e
            · rename_i ms' res h5
              split at e
              · rename_i e3 h6
                cases e
                refine ⟨env, _, F, fp, h1, ok, fun x F1 H1 A1 s1 o1 n1 a1 => ?_⟩
                simp only [Own] at o1
                obtain ⟨rfl, w, hw, hv, mi, hmi⟩ := o1
                have ok1 := ok.step s1 fun a z => by cases z
                refine ⟨isOl_at ok1 hw hv hol, env, as, F1, fp, h2, ok1, fun ws F2 H2 A2 s2 o2 n2 a2 => ?_⟩
                have s12 := s1.trans s2 fun a z => by cases z
                refine mut_end hm (s12.go ok fun a z => by cases z) o2 n2 (fun c hc => .inl (s1.stay c (a2 c hc))) (fun c hc z => ?_) ⟨w, hw, hv.mono s2.hp⟩ h3 h4 h5 h6 q
                obtain ⟨_, o, z'⟩ := ok1.at z
                rw [a2 c hc] at z'
                cases z'
              · cases e
            · cases e
          · cases e
        · cases e
      · cases e
    · cases e
  · cases e
end
def mAppend : List M → List M → Option (List M × M) := fun ms as => match as with
  | [m] => if ms.length < sizeLine then some (ms ++ [m], .fz .non) else none
  | _ => none
def mExtend : List M → List M → Option (List M × M) := fun ms as => match as with
  | [.fz (.lst ds)] => if ms.length + ds.length ≤ sizeLine then some (ms ++ ds.map .fz, .fz .non) else none
  | _ => none
def mClear : List M → List M → Option (List M × M) := fun _ as => match as with
  | [] => some ([], .fz .non)
  | _ => none
def mPop : List M → List M → Option (List M × M) := fun ms as => match as with
  | [] => match ms[ms.length - 1]? with
    | some m => some (ms.dropLast, m)
    | none => none
  | _ => none
section
variable {K : PySem.W.Frag}
theorem m_append : MutS K mAppend rAppend := by
  intro F H a vs C ms as ws B ms' res Q s ha hms has nd e q
  unfold mAppend at e
  split at e
  · rename_i m
    split at e
    · rename_i hl
      cases e
      obtain ⟨v, rfl, o⟩ := ownL1 has
      exact ⟨a, vs, v, rfl, rfl, ha, by rw [← hms.len]; exact hl, q _ (C ++ B) .non [] (hms.append has) (own_fz (by simp only [Rep])) (.inl (by rw [List.append_nil]; exact List.Sublist.refl _))⟩
    · cases e
  · cases e
theorem OwnL.dropL {br : Nat → List Pa → V → Prop} {F H : Hp} : ∀ {ms : List M} {vs : List V} {A : List Addr} {k : Nat} {m : M}, OwnL K br F H ms vs A → ms[k]? = some m → ∃ X Y B v, A = X ++ B ++ Y ∧ vs[k]? = some v ∧ Own K br F H m v B ∧ OwnL K br F H (ms.eraseIdx k) (vs.eraseIdx k) (X ++ Y)
  | [], vs, A, k, m, h, e => by cases e
  | n :: ms, vs, A, 0, m, h, e => by
    simp only [OwnL] at h
    obtain ⟨v, r, B, C, rfl, rfl, q, q2⟩ := h
    cases e
    exact ⟨[], C, B, v, rfl, rfl, q, q2⟩
  | n :: ms, vs, A, k + 1, m, h, e => by
    simp only [OwnL] at h
    obtain ⟨v, r, B, C, rfl, rfl, q, q2⟩ := h
    obtain ⟨X, Y, D, w, rfl, e1, e2, e3⟩ := OwnL.dropL (k := k) q2 (by simpa using e)
    refine ⟨B ++ X, Y, D, w, by simp only [List.append_assoc], by simpa using e1, e2, ?_⟩
    simp only [List.eraseIdx_cons_succ, OwnL]
    exact ⟨v, r.eraseIdx k, B, X ++ Y, rfl, by simp only [List.append_assoc], q, e3⟩
theorem popped {X Y B C : List Addr} (nd : (C ++ ([] : List Addr)).Nodup) (e : C = X ++ B ++ Y) : ((X ++ Y) ++ B).Nodup ∧ ∀ x ∈ (X ++ Y) ++ B, x ∈ C ++ ([] : List Addr) := by
  rw [List.append_nil] at nd
  rw [e] at nd
  refine ⟨?_, fun x hx => ?_⟩
  · have h1 := List.nodup_append.mp nd
    have h2 := List.nodup_append.mp h1.1
    refine List.nodup_append.mpr ⟨List.nodup_append.mpr ⟨h2.1, h1.2.1, fun x hx y hy => h1.2.2 x (by simp [hx]) y hy⟩, h2.2.1, fun x hx y hy e => ?_⟩
    subst e
    rcases List.mem_append.mp hx with z | z
    · exact h2.2.2 x z x hy rfl
    · exact h1.2.2 x (by simp [hy]) x z rfl
  · rw [List.append_nil, e]
    simp only [List.mem_append] at hx ⊢
    rcases hx with (z | z) | z
    · exact .inl (.inl z)
    · exact .inr z
    · exact .inl (.inr z)
theorem erase_last {α : Type} : ∀ (l : List α), l.eraseIdx (l.length - 1) = l.dropLast
  | [] => rfl
  | [a] => rfl
  | a :: b :: r => by
    show (a :: b :: r).eraseIdx (r.length + 1) = _
    rw [List.eraseIdx_cons_succ, List.dropLast_cons₂]
    have := erase_last (b :: r)
    simp only [List.length_cons, Nat.add_sub_cancel] at this
    rw [this]
theorem m_pop : MutS K mPop rPop := by
  intro F H a vs C ms as ws B ms' res Q s ha hms has nd e q
  unfold mPop at e
  split at e
  · split at e
    · rename_i m hm
      cases e
      simp only [OwnL] at has
      obtain ⟨rfl, rfl⟩ := has
      obtain ⟨X, Y, D, u, eC, e1, e2, e3⟩ := hms.dropL hm
      rw [hms.len] at e1
      rw [erase_last] at e3
      rw [hms.len, erase_last] at e3
      exact ⟨a, vs, u, rfl, rfl, ha, e1, q _ (X ++ Y) u D e3 e2 (.inr (popped nd eC))⟩
    · cases e
  · cases e
end
section
variable {X : Cx} {o e : Expr} {es : List Expr} {fo : En → Option M} {gs : En → Option (List M × En)} {fs : En → Option (List M)} {k : Nat} {mu : List M → List M → Option (List M × M)} {r : V → List V → Hp → VK → Prop} {id : String} {name : Str} {pos apos : Pos}
theorem tyL {K : PySem.W.Frag} {x : V} {H : Hp} (h : ∃ a xs, x = .ref a ∧ H a = some (.lst xs)) : tyV K "list" x H := by
  obtain ⟨a, xs, rfl, h⟩ := h
  exact .inl ⟨rfl, _, .inl (.inl h)⟩
theorem px_mutP (k : Nat) (slot : Slot "list" name id) (hty : typeOf (.builtin id) = pure (.type "method_descriptor")) (hm : MtM X id r) (mS : MutS X.K mu r) (ho : PD X o fo) (ha : PDA X (e :: es) fs)
    (hbase : attributeBase o name X.env (eval o X.env) = eval o X.env := by rfl)
    (hfew : ((backTo pos (starEach (e :: es) X.env)).all (fun x => !x.1) && (backToKw pos (keywordEach [] X.env)).all (fun x => x.1.isSome)
      && decide ((e :: es).length + ([] : List Keyword).length + (if ([] : List Keyword).isEmpty then 0 else 1) < 30)) = true := by rfl)
    (hline : (apos.endLine == pos.line) = true := by rfl) (hs : starEach (e :: es) X.env = (false, eval e X.env) :: starEach es X.env := by rfl) (hplain : (backTo pos (starEach es X.env)).any (·.1) = false := by rfl) :
    PX X (.Call (.Attribute o name apos) (e :: es) [] pos) (xMutP k fo fs mu) :=
  PE.imp (pe_bm PySem.F.plainAttrs_list slot hty hm ho ha hbase hfew hline hs hplain) fun σ H Q q => (tX.mutP mS q).mono fun v H1 ⟨h1, h2⟩ => ⟨tyL h1, h2⟩
theorem px_mut0 (k : Nat) (slot : Slot "list" name id) (hty : typeOf (.builtin id) = pure (.type "method_descriptor")) (hm : MtR X id r) (mS : MutS X.K mu r) (ho : PD X o fo)
    (hbase : attributeBase o name X.env (eval o X.env) = eval o X.env := by rfl) (hline : (apos.endLine == pos.line) = true := by rfl) :
    PX X (.Call (.Attribute o name apos) [] [] pos) (xMutP k fo aNil mu) :=
  PE.imp (pe_bm0 PySem.F.plainAttrs_list slot hty hm ho hbase hline) fun σ H Q q => (tX.mutP mS q).mono fun v H1 ⟨h1, h2⟩ => ⟨tyL h1, tDA.nil h2⟩
end
def mSet : List M → List M → Option (List M × M) := fun ms as => match as with
  | [.fz (.int i), m] => match ixN ms.length i with
    | some j => some (ms.set j m, .fz .non)
    | none => none
  | _ => none
section
variable {K : PySem.W.Frag} {F H F' H' F1 H1 : Hp} {σ σ' : L2.St} {env env' env1 : En} {fp fp' fp1 : Nat → List Addr} {A B : List Addr}
theorem OwnL.put {br : Nat → List Pa → V → Prop} : ∀ {ms : List M} {vs : List V} {A : List Addr} {k : Nat} {m : M} {v : V} {B : List Addr}, OwnL K br F H ms vs A → k < ms.length → Own K br F H m v B → ∃ X Y C, A = X ++ C ++ Y ∧ OwnL K br F H (ms.set k m) (vs.set k v) (X ++ B ++ Y)
  | [], vs, A, k, m, v, B, h, e, o => by cases e
  | n :: ms, vs, A, 0, m, v, B, h, e, o => by
    simp only [OwnL] at h
    obtain ⟨w, r, D, C, rfl, rfl, q, q2⟩ := h
    refine ⟨[], C, D, rfl, ?_⟩
    simp only [List.set_cons_zero, OwnL]
    exact ⟨v, r, B, C, rfl, rfl, o, q2⟩
  | n :: ms, vs, A, k + 1, m, v, B, h, e, o => by
    simp only [OwnL] at h
    obtain ⟨w, r, D, C, rfl, rfl, q, q2⟩ := h
    obtain ⟨X, Y, E, rfl, e1⟩ := OwnL.put (k := k) q2 (by simpa using e) o
    refine ⟨D ++ X, Y, E, by simp only [List.append_assoc], ?_⟩
    simp only [List.set_cons_succ, OwnL]
    exact ⟨w, r.set k v, D, X ++ B ++ Y, rfl, by simp only [List.append_assoc], q, e1⟩
/-- o[i] = e: by a rule on values whose arguments are the index and the value -/
theorem m_set : MutS K mSet (fun x ws H Q => ∃ i v, ws = [i, v] ∧ rSetL x i v H fun H' => Q .non H') := by
  intro F H a vs C ms as ws B ms' res Q s ha hms has nd e q
  unfold mSet at e
  split at e
  · rename_i i m
    split at e
    · rename_i j hj
      cases e
      obtain ⟨x, v, B1, B2, rfl, rfl, o1, o2⟩ := ownL2 has
      simp only [Own, Rep] at o1
      obtain ⟨rfl, rfl⟩ := o1
      rw [List.nil_append] at nd q
      have hlt : j < ms.length := (ixN_seq hj).2.1
      obtain ⟨X, Y, E, rfl, o3⟩ := hms.put hlt o2
      refine ⟨_, _, rfl, a, vs, i, j, rfl, rfl, ha, by rw [← hms.len]; exact hj, q _ (X ++ B2 ++ Y) .non [] o3 (own_fz (by simp only [Rep])) (.inr ?_)⟩
      have h1 := List.nodup_append.mp nd
      have h2 := List.nodup_append.mp h1.1
      have h3 := List.nodup_append.mp h2.1
      rw [List.append_nil]
      refine ⟨List.nodup_append.mpr ⟨List.nodup_append.mpr ⟨h3.1, h1.2.1, fun x hx y hy => h1.2.2 x (by simp [hx]) y hy⟩, h2.2.1, fun x hx y hy e => ?_⟩, fun x hx => ?_⟩
      · subst e
        rcases List.mem_append.mp hx with z | z
        · exact h2.2.2 x (by simp [z]) x hy rfl
        · exact h1.2.2 x (by simp [hy]) x z rfl
      · simp only [List.mem_append] at hx ⊢
        rcases hx with (z | z) | z
        · exact .inl (.inl (.inl z))
        · exact .inr z
        · exact .inl (.inr z)
    · cases e
  · cases e
end
/-- o[i] = e -/
def sSet (k : Nat) (fo fi : En → Option M) (g : En → Option (M × En)) : En → Option Fl := fun env => match g env with
  | some (m, e1) => match stow k e1 m with
    | some (m', e2) => match fo e2, fi e2 with
      | some (.bp i p), some (.fz (.int j)) => match e2.place i p with
        | some (.ol ms) => match mSet ms [.fz (.int j), m'] with
          | some (ms', _) => match setE e2 i p (.ol ms') with
            | some e3 => some (.nx e3)
            | none => none
          | none => none
        | _ => none
      | _, _ => none
    | none => none
  | none => none
/-- o[i] op= e, of ints -/
def sAugI (op : Int → Int → Int) (fo fi fe : En → Option M) : En → Option Fl := fun env => match fo env, fi env, fe env with
  | some (.bp i p), some (.fz (.int j)), some (.fz (.int b)) => match env.place i p with
    | some (.ol ms) => match atI ms j with
      | some (.fz (.int a)) => match mSet ms [.fz (.int j), .fz (.int (op a b))] with
        | some (ms', _) => match setE env i p (.ol ms') with
          | some e3 => some (.nx e3)
          | none => none
        | none => none
      | _ => none
    | _ => none
  | _, _, _ => none
/-- name op= e, of ints -/
def sAugN (lk : Nat → Bool) (op : Int → Int → Int) (i : Nat) (g : En → Option (M × En)) : En → Option Fl := fun env => match env.get i with
  | some (.fz (.int a)) => match g env with
    | some (.fz (.int b), e1) => if lk i = false ∧ i < e1.length then some (.nx (e1.put i (.fz (.int (op a b))))) else none
    | _ => none
  | _ => none
section
variable {X : Cx} {lk : Nat → Bool} {o ix e : Expr} {fo fi fe : En → Option M} {g : En → Option (M × En)} {k : Nat} {pos tpos : Pos}
theorem pds_setI (k : Nat) (he : PX X e g) (ho : PD X o fo) (hi : PD X ix fi) (hs : swapsWithSole [.Subscript o ix tpos] e pos.line X.env = pure false := by rfl) (hw : swappedStores [.Subscript o ix tpos] e X.env = pure none := by rfl)
    (h1 : (assignEach [.Subscript o ix tpos] X.env).map (·.2) = [assign (.Subscript o ix tpos) X.env] := by rfl)
    (ha : ∀ v, assign (.Subscript o ix tpos) X.env v = (do
      let ov ← holding [v] (eval o X.env)
      let iv ← holding [v, ov] (eval ix X.env)
      standAt tpos
      holding [v, ov, iv] (setItem ov iv v)
      release [v, ov, iv] []) := by intro _; rfl) : PDS X lk (.Assign [.Subscript o ix tpos] e pos) (sSet k fo fi g) := by
  refine PS.imp (ps_asg he (pg_sub ho hi set_list ha) hs hw h1) fun D σ H h => ?_
  obtain ⟨env, r, F, fp, e, ok, q⟩ := h
  unfold sSet at e
  split at e
  · rename_i m e1 h1
    split at e
    · rename_i m' e2 h2
      split at e
      · rename_i i p j h3 h4
        split at e
        · rename_i ms h5
          split at e
          · rename_i ms' rr h6
            split at e
            · rename_i e3 h7
              cases e
              refine ⟨env, m, e1, F, fp, h1, ok, fun v F1 H1 fp1 A g1 o1 n1 a1 b1 => ?_⟩
              obtain ⟨F2, fp2, A', g2, o2, n2, a2, b2⟩ := stow_go g1 o1 n1 a1 b1 h2
              refine ⟨e2, _, F2, fp2, h3, g2.ok, fun x F3 H3 A3 s3 o3 n3 a3 => ?_⟩
              simp only [Own] at o3
              obtain ⟨rfl, w, hw, hv, _⟩ := o3
              refine ⟨e2, _, F3, fp2, h4, g2.ok.step s3 (fun a z => by cases z), fun y F4 H4 A4 s4 o4 n4 a4 => ?_⟩
              simp only [Own, Rep] at o4
              obtain ⟨rfl, rfl⟩ := o4
              have s34 := s3.trans s4 fun a z => by cases z
              have g4 := g2.trans (s34.go g2.ok fun a z => by cases z) (fun a z => by cases z)
              have noA : ∀ c ∈ A', ¬ Ond e2 fp2 c := b2
              have z1 : Own X.K noBr F4 H4 m' v A' := o2.mono s34.fr (fun _ _ _ z => z) _ _ _ fun c hc => by
                obtain ⟨z1, u, z2⟩ := o2.at _ _ _ c hc
                refine ⟨?_, s34.hp c⟩
                cases z : F4 c with
                | none => rfl
                | some u' =>
                  rcases s34.nw c (by rw [z]; simp) with w | w | w
                  · exact absurd z1 w
                  · rw [z2] at w
                    cases w
                  · cases w
              have o2' : OwnL X.K noBr F4 H4 [.fz (.int j), m'] [.int j, v] A' := by
                simp only [OwnL]
                exact ⟨.int j, [v], [], A', rfl, rfl, own_fz (by simp only [Rep]), v, [], A', [], rfl, by rw [List.append_nil], z1, rfl, rfl⟩
              have := mut_fin (r := fun x ws H Q => ∃ i v, ws = [i, v] ∧ rSetL x i v H fun H' => Q .non H') (Q := fun _ H' => D.nx σ H') m_set g4 o2' n2 a2 b2 ⟨w, hw, hv.mono s4.hp⟩ h5 h6 h7 fun v' F' H' fp' A g o n a b => q σ F' H' fp' g fun _ _ => rfl
              obtain ⟨_, _, ee, this⟩ := this
              cases ee
              exact this
            · cases e
          · cases e
        · cases e
      · cases e
    · cases e
  · cases e
theorem pget_list : PGet X (rIxL X.K) := by
  intro pins s σ H x y v u Q I rx ry h
  obtain ⟨p, xs, i, z, rfl, rfl, hq, he, q⟩ := h
  cases rx
  obtain ⟨t, rfl⟩ := ry
  obtain ⟨its, r, pl, hz⟩ := I.list hq
  obtain ⟨j, h1, h2, h3, h4, h5⟩ := atI_get he
  obtain ⟨w, ew, rw'⟩ := r.get h2
  have hl := r.length
  have hn := line63
  have fin : EP X pins σ Q w s := ⟨z, H, I, rw', q⟩
  by_cases h0 : 0 ≤ i
  · have hj : i.toNat = j := by
      rw [seqIndex_of h0 h5] at h1
      exact Option.some.inj h1
    exact wpAny_getItem_list pl.isList h0 (by omega) (by rw [hj]; simpa using ew) fin
  · have hj : (i + (its.toArray.size : Int)).toNat = j := by
      rw [seqIndex_neg (by omega) h4] at h1
      rw [List.size_toArray, ← hl]
      exact Option.some.inj h1
    exact wpAny_getItem_list_neg pl.isList (by omega) (by rw [List.size_toArray] <;> omega) (by omega) (by rw [hj]; simpa using ew) fin
theorem pds_augI {op : Operator} {f : Int → Int → Int} (hp : PIp X op (ipI f)) (ho : PD X o fo) (hi : PD X ix fi) (he : PD X e fe)
    (ha : ∀ ov iv new, augStore ix ov iv new = (do holding [new, ov, iv] (setItem ov iv new); release [new, ov, iv] []; pure .next) := by intros; rfl) : PDS X lk (.AugAssign (.Subscript o ix tpos) op e pos) (sAugI f fo fi fe) := by
  refine PS.imp (ps_augS ho hi pget_list he hp set_list ha) fun D σ H h => ?_
  obtain ⟨env, r, F, fp, e, ok, q⟩ := h
  unfold sAugI at e
  split at e
  · rename_i i p j b h1 h2 h3
    split at e
    · rename_i ms h5
      split at e
      · rename_i a h4
        split at e
        · rename_i ms' rr h6
          split at e
          · rename_i e3 h7
            cases e
            refine ⟨env, _, F, fp, h1, ok, fun x F1 H1 A1 s1 o1 n1 a1 => ?_⟩
            simp only [Own] at o1
            obtain ⟨rfl, w, hw, hv, _⟩ := o1
            have ok1 := ok.step s1 fun a z => by cases z
            refine ⟨env, _, F1, fp, h2, ok1, fun y F2 H2 A2 s2 o2 n2 a2 => ?_⟩
            simp only [Own, Rep] at o2
            obtain ⟨rfl, rfl⟩ := o2
            have ok2 := ok1.step s2 fun a z => by cases z
            obtain ⟨c, xs, rfl, hc⟩ := isOl_at ok2 hw (hv.mono s2.hp) (by rw [h5]; rfl)
            obtain ⟨C, vs, c1, c2, c3, c4, _⟩ := mut_ok ok2 h5 ⟨w, hw, hv.mono s2.hp, _, h5⟩
            obtain ⟨u, E, u1, u2, _⟩ := atI_own c4 h4
            simp only [Own, Rep] at u2
            refine ⟨c, vs, j, u, rfl, rfl, SqL.of c1, u1, ?_⟩
            refine ⟨env, _, F2, fp, h3, ok2, fun z F3 H3 A3 s3 o3 n3 a3 => ?_⟩
            simp only [Own, Rep] at o3
            refine ⟨a, b, u2.2, o3.2, ?_⟩
            have s123 := (s1.trans s2 fun a z => by cases z).trans s3 fun a z => by cases z
            have o4 : OwnL X.K noBr F3 H3 [.fz (.int j), .fz (.int (f a b))] [.int j, .int (f a b)] [] := by
              simp only [OwnL]
              exact ⟨.int j, _, [], [], rfl, rfl, own_fz (by simp only [Rep]), .int (f a b), [], [], [], rfl, rfl, own_fz (by simp only [Rep]), rfl, rfl⟩
            have := mut_fin (r := fun x ws H Q => ∃ i v, ws = [i, v] ∧ rSetL x i v H fun H' => Q .non H') (Q := fun _ H' => D.nx σ H') m_set (s123.go ok fun a z => by cases z) o4 .nil (fun a z => by cases z) (fun a z => by cases z) ⟨w, hw, (hv.mono s2.hp).mono s3.hp⟩ h5 h6 h7 fun v' F' H' fp' A g o n a b => q σ F' H' fp' g fun _ _ => rfl
            obtain ⟨_, _, ee, this⟩ := this
            cases ee
            exact this
          · cases e
        · cases e
      · cases e
    · cases e
  · cases e
theorem pds_augN {i : Nat} {x : Str} {op : Operator} {f : Int → Int → Int} {pos' : Pos} (hN : X.N.Nodup) (hp : PIp X op (ipI f)) (he : PX X e g) (hi : X.N[i]? = some x := by rfl) (hx : Loc X.env.scope x := by first | exact .inl rfl | exact .inr rfl)
    (hf : X.fn x = true ∨ X.env.scope.names.lookup x = some .local := by first | exact .inl rfl | exact .inr rfl | assumption) : PDS X lk (.AugAssign (.Name x pos') op e pos) (sAugN lk f i g) := by
  refine PS.imp (ps_aug hN hi hx he hp hf) fun D σ H h => ?_
  obtain ⟨env, r, F, fp, e, ok, q⟩ := h
  unfold sAugN at e
  split at e
  · rename_i a h1
    split at e
    · rename_i b e1 h2
      split at e
      · rename_i hl
        cases e
        obtain ⟨v, k1, k2⟩ := ok.slot i _ h1
        simp only [Own, Rep] at k2
        refine ⟨v, k1, env, _, e1, F, fp, h2, ok, fun y F1 H1 fp1 A g1 o n a' b' => ?_⟩
        simp only [Own, Rep] at o
        refine ⟨a, b, k2.2, o.2, ?_⟩
        have g2 := set_ok (i := i) (v := .int (f a b)) g1.ok (own_fz (br := noBr) (H := H1) (d := .int (f a b)) (by simp only [Rep])) .nil (fun a z => by cases z) hl.2
        exact q _ F1 H1 _ (g1.trans g2 fun a z => by cases z) (Lk.set hl.1)
      · cases e
    · cases e
  · cases e
end
end T2
end
section
set_option Elab.async false
set_option linter.all false
set_option maxRecDepth 100000
namespace T2
open PySem PySem.Spec PyProof.Rows L2
section
variable {K : PySem.W.Frag}
def gLen : List D → Option D
  | [.lst ds] => some (.int ds.length)
  | [.tup ds] => some (.int ds.length)
  | [.scr ns] => some (.int ns.length)
  | [.str x] => if decide (x.length ≤ sizeLine) then some (.int x.length) else none
  | _ => none
abbrev rLen (K : PySem.W.Frag) : List V → Hp → VK → Prop := fun xs H Q => (∃ p ys, xs = [.ref p] ∧ (SqL K H p ys ∨ SqT K H p ys) ∧ Q (.int ys.length) H) ∨ (∃ z, xs = [.str z] ∧ z.length ≤ sizeLine ∧ Q (.int z.length) H)
theorem call_len' {X : Cx} : CallR X (.builtin "len") (rLen X.K) := call_len_seq.or call_len_str
theorem s_len : OpS K (sop gLen) (rLen K) := scalS fun H ds vs d Q h e hs q => by
  unfold gLen at e
  split at e
  · cases e
    obtain ⟨v, rfl, q1⟩ := repL1 h
    simp only [Rep] at q1
    obtain ⟨a, ys, rfl, h1, h2⟩ := q1
    exact .inl ⟨a, ys, rfl, .inl (SqL.of h1), by rw [← h2.len]; exact q⟩
  · cases e
    obtain ⟨v, rfl, q1⟩ := repL1 h
    simp only [Rep] at q1
    obtain ⟨a, ys, rfl, h1, h2⟩ := q1
    exact .inl ⟨a, ys, rfl, .inr (SqT.of h1), by rw [← h2.len]; exact q⟩
  · cases e
    obtain ⟨v, rfl, q1⟩ := repL1 h
    simp only [Rep] at q1
    obtain ⟨a, rfl, h1⟩ := q1
    exact .inl ⟨a, _, rfl, .inl h1, by rw [List.length_map]; exact q⟩
  · split at e
    · rename_i hl
      cases e
      obtain ⟨v, rfl, q1⟩ := repL1 h
      simp only [Rep] at q1
      exact .inr ⟨_, by rw [q1], of_decide_eq_true hl, q⟩
    · cases e
  · cases e
def intsOf : List D → Option (List Int)
  | [] => some []
  | .int i :: ds => match intsOf ds with
    | some ns => some (i :: ns)
    | none => none
  | _ :: _ => none
theorem intsOf_ok {F : Hp} : ∀ {ds : List D} {vs : List V} {ns : List Int}, RepL K F ds vs → intsOf ds = some ns → vs = ns.map V.int
  | [], vs, ns, h, e => by
    cases e
    simp only [RepL] at h
    exact h
  | d :: ds, vs, ns, h, e => by
    cases d with
    | int i =>
      simp only [intsOf] at e
      split at e
      · rename_i ms hm
        cases e
        simp only [RepL, Rep] at h
        obtain ⟨v, r, rfl, rfl, h2⟩ := h
        rw [intsOf_ok h2 hm]
        rfl
      · cases e
    | non => cases e
    | bl _ => cases e
    | str _ => cases e
    | lst _ => cases e
    | tup _ => cases e
    | ins _ _ => cases e
    | dic _ _ => cases e
    | any => cases e
    | exc _ _ _ => cases e
    | scr _ => cases e
def gSum : List D → Option D
  | [.lst ds] => match intsOf ds with
    | some ns => some (.int ns.sum)
    | none => none
  | _ => none
/-- the greatest, the least of a list -/
def lMax : List Int → Option Int
  | [] => none
  | n :: ns => some (ns.foldl (fun a b => if b > a then b else a) n)
def lMin : List Int → Option Int
  | [] => none
  | n :: ns => some (ns.foldl (fun a b => if b < a then b else a) n)
theorem fold_max : ∀ (ns : List Int) (n : Int), let m := ns.foldl (fun a b => if b > a then b else a) n; n ≤ m ∧ (∀ y ∈ ns, y ≤ m) ∧ (m = n ∨ m ∈ ns)
  | [], n => ⟨Int.le_refl _, (fun y z => by cases z), .inl rfl⟩
  | a :: ns, n => by
    have ih := fold_max ns (if a > n then a else n)
    simp only [List.foldl_cons]
    refine ⟨?_, fun y hy => ?_, ?_⟩
    · have := ih.1
      split at this <;> omega
    · rcases List.mem_cons.mp hy with rfl | z
      · have := ih.1
        split at this <;> omega
      · exact ih.2.1 y z
    · rcases ih.2.2 with z | z
      · rw [z]
        split
        · exact .inr List.mem_cons_self
        · exact .inl rfl
      · exact .inr (List.mem_cons_of_mem _ z)
theorem fold_min : ∀ (ns : List Int) (n : Int), let m := ns.foldl (fun a b => if b < a then b else a) n; m ≤ n ∧ (∀ y ∈ ns, m ≤ y) ∧ (m = n ∨ m ∈ ns)
  | [], n => ⟨Int.le_refl _, (fun y z => by cases z), .inl rfl⟩
  | a :: ns, n => by
    have ih := fold_min ns (if a < n then a else n)
    simp only [List.foldl_cons]
    refine ⟨?_, fun y hy => ?_, ?_⟩
    · have := ih.1
      split at this <;> omega
    · rcases List.mem_cons.mp hy with rfl | z
      · have := ih.1
        split at this <;> omega
      · exact ih.2.1 y z
    · rcases ih.2.2 with z | z
      · rw [z]
        split
        · exact .inr List.mem_cons_self
        · exact .inl rfl
      · exact .inr (List.mem_cons_of_mem _ z)
def gMax : List D → Option D
  | [.lst ds] => match intsOf ds with
    | some ns => (lMax ns).map .int
    | none => none
  | _ => none
def gMin : List D → Option D
  | [.lst ds] => match intsOf ds with
    | some ns => (lMin ns).map .int
    | none => none
  | _ => none
theorem s_max : OpS K (sop gMax) (rMax K) := scalS fun H ds vs d Q h e hs q => by
  unfold gMax at e
  split at e
  · split at e
    · rename_i ns hn
      obtain ⟨m, hm, rfl⟩ := Option.map_eq_some_iff.mp e
      obtain ⟨v, rfl, q1⟩ := repL1 h
      simp only [Rep] at q1
      obtain ⟨a, ys, rfl, h1, h2⟩ := q1
      have := intsOf_ok h2 hn
      subst this
      cases ns with
      | nil => cases hm
      | cons n ns =>
        have f := fold_max ns n
        simp only [lMax, Option.some.injEq] at hm
        rw [hm] at f
        refine ⟨a, n :: ns, rfl, SqL.of h1, by simp, fun k hk hy => ?_⟩
        have e1 : m ∈ n :: ns := f.2.2.elim (fun z => z ▸ List.mem_cons_self) fun z => List.mem_cons_of_mem _ z
        have e2 : k ≤ m := (List.mem_cons.mp hk).elim (fun z => z ▸ f.1) fun z => f.2.1 k z
        have e3 := hy m e1
        have : k = m := by omega
        subst this
        exact q
    · cases e
  · cases e
theorem s_min : OpS K (sop gMin) (rMin K) := scalS fun H ds vs d Q h e hs q => by
  unfold gMin at e
  split at e
  · split at e
    · rename_i ns hn
      obtain ⟨m, hm, rfl⟩ := Option.map_eq_some_iff.mp e
      obtain ⟨v, rfl, q1⟩ := repL1 h
      simp only [Rep] at q1
      obtain ⟨a, ys, rfl, h1, h2⟩ := q1
      have := intsOf_ok h2 hn
      subst this
      cases ns with
      | nil => cases hm
      | cons n ns =>
        have f := fold_min ns n
        simp only [lMin, Option.some.injEq] at hm
        rw [hm] at f
        refine ⟨a, n :: ns, rfl, SqL.of h1, by simp, fun k hk hy => ?_⟩
        have e1 : m ∈ n :: ns := f.2.2.elim (fun z => z ▸ List.mem_cons_self) fun z => List.mem_cons_of_mem _ z
        have e2 : m ≤ k := (List.mem_cons.mp hk).elim (fun z => z ▸ f.1) fun z => f.2.1 k z
        have e3 := hy m e1
        have : k = m := by omega
        subst this
        exact q
    · cases e
  · cases e
def gAbs : List D → Option D
  | [.int i] => some (.int (if i < 0 then -i else i))
  | _ => none
def gInt : List D → Option D
  | [.int i] => some (.int i)
  | [.bl k] => some (.int (if k then 1 else 0))
  | _ => none
theorem s_int : OpS K (sop gInt) (fun xs H Q => (∃ i, xs = [.int i] ∧ Q (.int i) H) ∨ ∃ k, xs = [.bl k] ∧ Q (.int (if k then 1 else 0)) H) := scalS fun H ds vs d Q h e hs q => by
  unfold gInt at e
  split at e
  · cases e
    obtain ⟨v, rfl, q1⟩ := repL1 h
    simp only [Rep] at q1
    exact .inl ⟨_, by rw [q1], q⟩
  · cases e
    obtain ⟨v, rfl, q1⟩ := repL1 h
    simp only [Rep] at q1
    exact .inr ⟨_, by rw [q1], q⟩
  · cases e
def gMax2 := gII (fun _ _ => true) fun i j => if j > i then j else i
def gMin2 := gII (fun _ _ => true) fun i j => if j < i then j else i
theorem s_max2 : OpS K (sop gMax2) (fun xs H Q => ∃ i j, xs = [.int i, .int j] ∧ Q (.int (if j > i then j else i)) H) := scalS fun H ds vs d Q h e hs q => by
  unfold gMax2 gII at e
  split at e
  · cases e
    obtain ⟨v, w, rfl, q1, q2⟩ := repL2 h
    simp only [Rep] at q1 q2
    exact ⟨_, _, by rw [q1, q2], q⟩
  · cases e
theorem s_min2 : OpS K (sop gMin2) (fun xs H Q => ∃ i j, xs = [.int i, .int j] ∧ Q (.int (if j < i then j else i)) H) := scalS fun H ds vs d Q h e hs q => by
  unfold gMin2 gII at e
  split at e
  · cases e
    obtain ⟨v, w, rfl, q1, q2⟩ := repL2 h
    simp only [Rep] at q1 q2
    exact ⟨_, _, by rw [q1, q2], q⟩
  · cases e
abbrev rMaxA (K : PySem.W.Frag) : List V → Hp → VK → Prop := fun xs H Q => (∃ i j, xs = [.int i, .int j] ∧ Q (.int (if j > i then j else i)) H) ∨ rMax K xs H Q
abbrev rMinA (K : PySem.W.Frag) : List V → Hp → VK → Prop := fun xs H Q => (∃ i j, xs = [.int i, .int j] ∧ Q (.int (if j < i then j else i)) H) ∨ rMin K xs H Q
theorem call_maxA {X : Cx} (hc : X.calm = true) : CallR X (.builtin "max") (rMaxA X.K) := (call_max2 hc).or (cr_max hc)
theorem call_minA {X : Cx} (hc : X.calm = true) : CallR X (.builtin "min") (rMinA X.K) := (call_min2 hc).or (cr_min hc)
def oMax := oOr (sop gMax2) (sop gMax)
def oMin := oOr (sop gMin2) (sop gMin)
theorem s_maxA : OpS K oMax (rMaxA K) := s_max2.or s_max
theorem s_minA : OpS K oMin (rMinA K) := s_min2.or s_min
/-- list(x) -/
def oListOf : En → List M → Option M := fun env ms => match ms with
  | [.fz (.scr ns)] => some (.ol (ns.map fun n => .fz (.int n)))
  | [m] => match elems env m with
    | some (_, xs) => some (.ol xs)
    | none => none
  | _ => none
theorem map_fz_int (ns : List Int) : (ns.map fun n => M.fz (.int n)) = (ns.map D.int).map M.fz := by rw [List.map_map]; rfl
end
section
variable {X : Cx} {a b : Expr} {f g : En → Option M} {p pos rp rpos : Pos}
theorem PRg.imp {e : Expr} {t u : L2.St → Hp → (Int → Int → Hp → Prop) → Prop} (h : PRg X e t) (i : ∀ σ H R, u σ H R → t σ H R) : PRg X e u := fun pins s σ H Q I q => h pins s σ H Q I (i _ _ _ q)
end
def tyN : D → Option String
  | .non => some "NoneType"
  | .bl _ => some "bool"
  | .int _ => some "int"
  | .str _ => some "str"
  | .lst _ => some "list"
  | .tup _ => some "tuple"
  | _ => none
theorem tyN_ok {K : PySem.W.Frag} {H : Hp} {v : V} {n : String} : ∀ {d : D}, Rep K H d v → tyN d = some n → TyX K H v (.type n)
  | .non, h, e => by cases e; simp only [Rep] at h; subst h; exact .base .non
  | .bl b, h, e => by cases e; simp only [Rep] at h; subst h; exact .base (.bl b)
  | .int b, h, e => by cases e; simp only [Rep] at h; subst h; exact .base (.int b)
  | .str b, h, e => by cases e; simp only [Rep] at h; subst h; exact .base (.str b)
  | .lst b, h, e => by cases e; simp only [Rep] at h; obtain ⟨a, vs, rfl, h, _⟩ := h; exact .base (.lst h)
  | .tup b, h, e => by cases e; simp only [Rep] at h; obtain ⟨a, vs, rfl, h, _⟩ := h; exact .base (.tup h)
  | .ins _ _, h, e => by cases e
  | .dic _ _, h, e => by cases e
  | .any, h, e => by cases e
  | .exc _ _ _, h, e => by cases e
  | .scr _, h, e => by cases e
/-- isinstance(x, T) -/
def oIsi (kit : String → Option Bool) (f : En → Option M) : En → Option M := fun env => match f env with
  | some m => match dat env m with
    | some d => match tyN d with
      | some n => match kit n with
        | some b => some (.fz (.bl b))
        | none => none
      | none => none
    | none => none
  | none => none
section
variable {X : Cx} {a b : Expr} {f g : En → Option M} {p pos rp : Pos} {x T : Str} {TN : String}
theorem pd_isi {kit : String → Option Bool} (hk : ∀ n b, kit n = some b → PySem.W.kitOne X.K (.type n) (.type TN) = some b) (hg : Gl X "isinstance") (hm : X.mg "isinstance" = none) (hgT : Gl X T) (hmT : X.mg T = none) (hvT : bootBuiltins T = some (.type TN)) (ha : PD X a f) (hv : bootBuiltins "isinstance" = some (.builtin "isinstance"))
    (hnT : T ≠ "__name__" := by decide) (hdbT : (T == ("__debug__" : Str)) = false := by decide)
    (s1 : starEach [a, .Name T rp] X.env = (false, eval a X.env) :: starEach [.Name T rp] X.env := by rfl) (s2 : starEach [.Name T rp] X.env = (false, eval (.Name T rp) X.env) :: starEach [] X.env := by rfl) (hpl : (backTo pos (starEach [.Name T rp] X.env)).any (·.1) = false := by rfl) :
    PD X (.Call (.Name "isinstance" p) [a, .Name T rp] [] pos) (oIsi kit f) :=
  PE.imp (pe_callB (call_isi (X := X)) hg hm hv (pa_cons ha (pa_cons (pe_bltn (v := .ty TN) hgT hmT hvT rfl hnT hdbT) pa_nil s2) s1) (by decide) (by decide) s1 hpl) fun σ H Q h => by
    obtain ⟨env, m, F, fp, e, ok, q⟩ := h
    unfold oIsi at e
    split at e
    · rename_i m' h1
      split at e
      · rename_i d h2
        split at e
        · rename_i n h3
          split at e
          · rename_i b h4
            cases e
            refine ⟨env, m', F, fp, h1, ok, fun v F' H' A s o nd aa => ?_⟩
            have r := (ok.step s fun a z => by cases z).data o h2
            exact ⟨v, .ty TN, .type n, .type TN, b, rfl, .ty TN, tyN_ok r h3, hk n b h4, q _ F' H' [] s (own_fz (by simp only [Rep])) .nil fun a z => by cases z⟩
          · cases e
        · cases e
      · cases e
    · cases e
end
def kitT (T : String) : String → Option Bool := fun n => if n = T then some true else if T = "int" ∧ n = "bool" then some true else if n ∈ ["NoneType", "bool", "int", "str", "list", "tuple"] ∧ T ∈ ["bool", "int", "str", "list", "tuple"] then some false else none
theorem kitT_ok {K : PySem.W.Frag} {T : String} (hT : T ∈ ["bool", "int", "str", "list", "tuple"]) : ∀ n b, kitT T n = some b → PySem.W.kitOne K (.type n) (.type T) = some b := by
  intro n b e
  have key : ∀ n ∈ ["NoneType", "bool", "int", "str", "list", "tuple"], ∀ T ∈ ["bool", "int", "str", "list", "tuple"], kitB n T = kitT T n := by decide +kernel
  by_cases hn : n ∈ ["NoneType", "bool", "int", "str", "list", "tuple"]
  · exact kit_ty ((key n hn T hT).trans e)
  · exfalso
    unfold kitT at e
    split at e
    · rename_i h
      subst h
      exact hn (List.mem_cons_of_mem _ hT)
    · split at e
      · rename_i h
        rw [h.2] at hn
        exact hn (by decide)
      · split at e
        · rename_i h
          exact hn h.1
        · cases e
def enD : Nat → List D → List D
  | _, [] => []
  | k, d :: ds => .tup [.int (k : Nat), d] :: enD (k + 1) ds
def zipD : List D → List D → List D
  | a :: as, b :: bs => .tup [a, b] :: zipD as bs
  | _, _ => []
theorem zipD_get : ∀ {as bs : List D} {i : Nat} {d : D}, (zipD as bs)[i]? = some d → ∃ a b, as[i]? = some a ∧ bs[i]? = some b ∧ d = .tup [a, b]
  | [], bs, i, d, h => by cases h
  | a :: as, [], i, d, h => by cases h
  | a :: as, b :: bs, 0, d, h => by
    cases h
    exact ⟨a, b, rfl, rfl, rfl⟩
  | a :: as, b :: bs, i + 1, d, h => by
    obtain ⟨a', b', h1, h2, h3⟩ := zipD_get (as := as) (bs := bs) (i := i) (by simpa [zipD] using h)
    exact ⟨a', b', by simpa using h1, by simpa using h2, h3⟩
theorem zipD_len : ∀ (as bs : List D), (zipD as bs).length = min as.length bs.length
  | [], bs => by simp [zipD]
  | a :: as, [] => by simp [zipD]
  | a :: as, b :: bs => by
    simp only [zipD, List.length_cons, zipD_len as bs]
    omega
section
variable {K : PySem.W.Frag} {F H G : Hp}
/-- a new frozen tuple -/
theorem step_tup {F1 H1 : Hp} {T : Addr} {ds : List D} {vs : List V} (s2 : Same F1 H1) (hT : H1 T = none) (r : RepL K F1 ds vs) : Step [] F1 H1 (upd F1 T (.tup vs)) (upd H1 T (.tup vs)) ∧ Rep K (upd F1 T (.tup vs)) (.tup ds) (.ref T) := by
  have fT : F1 T = none := s2.free hT
  have sF : Same F1 (upd F1 T (.tup vs)) := fun b o e => by rw [upd_ne (ne_of_none e fT)]; exact e
  refine ⟨.mk' sF (fun b o e => by rw [upd_ne (ne_of_none e hT)]; exact e) (fun b o e => ?_) fun a z => ?_, ?_⟩
  · by_cases hb : b = T
    · subst hb
      rw [upd_same] at e ⊢
      exact e
    · rw [upd_ne hb] at e ⊢
      exact s2 _ _ e
  · by_cases hb : a = T
    · subst hb
      exact .inr (.inl hT)
    · rw [upd_ne hb] at z
      exact .inl z
  · simp only [Rep]
    exact ⟨T, vs, rfl, upd_same, RepL.mono sF _ _ r⟩
theorem it_zip {a b : Addr} {vs ws : List V} {ds es : List D} (h : SqL K G a vs) (h' : SqL K G b ws) (r : RepL K F ds vs) (r' : RepL K F es ws) : ItOk K (Itz K a b) F G (zipD ds es) := by
  refine ⟨fun i F1 H1 d s1 sg s2 hd => ?_, fun i F1 H1 s1 sg s2 hl => ⟨vs, ws, sg.seq h, sg.seq h', by rw [zipD_len] at hl; rw [← r.len, ← r'.len]; omega⟩⟩
  obtain ⟨x, y, hx, hy, rfl⟩ := zipD_get hd
  obtain ⟨v, hv, rv⟩ := r.get hx
  obtain ⟨w, hw, rw'⟩ := r'.get hy
  refine ⟨⟨vs, ws, v, w, sg.seq h, sg.seq h', hv, hw⟩, fun z H2 ⟨T, x', y', e1, hT, e2, e3, e4⟩ => ?_⟩
  subst e1 e2
  have e5 := e3 vs (sg.seq h)
  have e6 := e4 ws (sg.seq h')
  rw [hv] at e5
  rw [hw] at e6
  cases e5
  cases e6
  obtain ⟨z1, z2⟩ := step_tup (ds := [x, y]) (vs := [v, w]) s2 hT (by
    simp only [RepL]
    exact ⟨_, _, rfl, Rep.mono s1 _ _ rv, w, [], rfl, Rep.mono s1 _ _ rw', rfl⟩)
  exact ⟨_, z1, z2⟩
end
def lstD (d : D) : Option (List D) := if isLst d then itemsD d else none
/-- all results freeze -/
def frzX (gs : En → Option (List M × En)) : En → Option (List D × En) := fun env => match gs env with
  | some (ms, e1) => match dats e1 ms, frS (slotsL ms) e1 with
    | some ds, some e2 => some (ds, e2)
    | _, _ => none
  | none => none
def itZipX (gs : En → Option (List M × En)) : En → Option (List D × En) := fun env => match frzX gs env with
  | some ([d, d'], e2) => match lstD d, lstD d' with
    | some ds, some es => some (zipD ds es, e2)
    | _, _ => none
  | _ => none
def itemsL (env : En) : List M → Option (List D)
  | [] => some []
  | m :: ms => match items env m, itemsL env ms with
    | some d, some ds => some (d :: ds)
    | _, _ => none
def itEnP (fs : En → Option (List M)) : En → Option (List D) := fun env => match fs env with
  | some ms => match itemsL env ms with
    | some [d] => match lstD d with
      | some ds => some (enD 0 ds)
      | none => none
    | _ => none
  | none => none
def itZipP (fs : En → Option (List M)) : En → Option (List D) := fun env => match fs env with
  | some ms => match itemsL env ms with
    | some [d, d'] => match lstD d, lstD d' with
      | some ds, some es => some (zipD ds es)
      | _, _ => none
    | _ => none
  | none => none
section
variable {K : PySem.W.Frag} {F H F' H' : Hp} {σ : L2.St} {env : En} {fp : Nat → List Addr} {A : List Addr}
theorem lstD_ok {d : D} {v : V} {ds : List D} (s : Same F H) (r : Rep K F d v) (e : lstD d = some ds) : ∃ p vs, v = .ref p ∧ SqL K F p vs ∧ RepL K F ds vs := by
  unfold lstD at e
  split at e
  · rename_i hb
    cases d with
    | lst xs =>
      cases e
      simp only [Rep] at r
      obtain ⟨a, vs, rfl, h1, h2⟩ := r
      exact ⟨a, vs, rfl, SqL.of h1, h2⟩
    | scr ns =>
      cases e
      simp only [Rep] at r
      obtain ⟨a, rfl, h1⟩ := r
      exact ⟨a, _, rfl, h1, repL_ints ns⟩
    | non => cases hb
    | bl _ => cases hb
    | int _ => cases hb
    | str _ => cases hb
    | tup _ => cases hb
    | ins _ _ => cases hb
    | dic _ _ => cases hb
    | any => cases hb
    | exc _ _ _ => cases hb
  · cases e
theorem frzX_ok {gs : En → Option (List M × En)} {R : List V → Hp → Prop} {f : List D → Option (List D)} (h : ∃ env ds ds' env' F fp, frzX gs env = some (ds, env') ∧ f ds = some ds' ∧ EnvOk K F H σ env fp ∧ ∀ vs F' H' fp', Go K [] σ env fp F H σ env' fp' F' H' → RepL K F' ds vs → R vs H') : tXA K gs σ H R := by
  obtain ⟨env, ds, ds', env', F, fp, e, _, ok, q⟩ := h
  unfold frzX at e
  split at e
  · rename_i ms e1 h1
    split at e
    · rename_i ds' e2 h2 h3
      cases e
      refine ⟨env, ms, e1, F, fp, h1, ok, fun vs F1 H1 fp1 A g o n a b => ?_⟩
      obtain ⟨F2, fp2, g2, r, _⟩ := frL_ok g.ok o b h2 h3
      exact q vs F2 H1 fp2 (g.trans g2 a) r
    · cases e
  · cases e
end
section
variable {X : Cx} {e e2 : Expr} {gs : En → Option (List M × En)} {fs : En → Option (List M)} {p pos tpos : Pos} {elts : List Expr} {kk : Nat}
theorem pdi_zip (hg : Gl X "zip") (hm : X.mg "zip" = none) (ha : PXA X [e, e2] gs) (hs : starEach [e, e2] X.env = (false, eval e X.env) :: starEach [e2] X.env := by rfl) (hpl : (backTo pos (starEach [e2] X.env)).any (·.1) = false := by rfl) : PDI X (.Tuple elts kk tpos) (.Call (.Name "zip" p) [e, e2] [] pos) (itZipX gs) :=
  PI.imp (pi_zip hg hm ha hs hpl) fun σ H R h => by
    obtain ⟨env, ds, env', F, fp, e, ok, q⟩ := h
    unfold itZipX at e
    split at e
    · rename_i d d' e2 h1
      split at e
      · rename_i ds' es' h2 h3
        cases e
        refine frzX_ok (f := fun _ => some []) ⟨env, [d, d'], [], env', F, fp, h1, rfl, ok, fun vs F' H' fp' g r => ?_⟩
        obtain ⟨v, w, rfl, r1, r1'⟩ := repL2 r
        obtain ⟨p, us, rfl, r2, r3⟩ := lstD_ok g.ok.sub r1 h2
        obtain ⟨p', us', rfl, r2', r3'⟩ := lstD_ok g.ok.sub r1' h3
        exact ⟨p, p', us, us', rfl, g.ok.sub.seq r2, g.ok.sub.seq r2', q _ F' H' fp' g (it_zip r2 r2' r3 r3')⟩
      · cases e
    · cases e
end
end T2
end
section
set_option Elab.async false
set_option linter.all false
set_option maxRecDepth 100000
namespace T2
open PySem PySem.Spec PyProof.Rows L2
def oRep : En → List M → Option M := fun env ms => match ms with
  | [m, .fz (.int k)] => match elems env m with
    | some (true, xs) => match allFz xs with
      | some ds => if decide (-(2 ^ 63) ≤ k ∧ k < 2 ^ 63 ∧ ds.length * k.toNat ≤ sizeLine) then some (.ol ((List.replicate k.toNat ds).flatten.map .fz)) else none
      | none => none
    | _ => none
  | _ => none
theorem repL_append {K : PySem.W.Frag} {F : Hp} : ∀ {as bs : List D} {vs ws : List V}, RepL K F as vs → RepL K F bs ws → RepL K F (as ++ bs) (vs ++ ws)
  | [], bs, vs, ws, h, h' => by
    simp only [RepL] at h
    subst h
    exact h'
  | a :: as, bs, vs, ws, h, h' => by
    simp only [RepL] at h
    obtain ⟨v, r, rfl, q, q2⟩ := h
    simp only [List.cons_append, RepL]
    exact ⟨v, r ++ ws, rfl, q, repL_append q2 h'⟩
theorem repL_rep {K : PySem.W.Frag} {F : Hp} {ds : List D} {vs : List V} (h : RepL K F ds vs) : ∀ k : Nat, RepL K F (List.replicate k ds).flatten (List.replicate k vs).flatten
  | 0 => by simp only [List.replicate_zero, List.flatten_nil, RepL]
  | k + 1 => by
    simp only [List.replicate_succ, List.flatten_cons]
    exact repL_append h (repL_rep h k)
section
variable {K : PySem.W.Frag}
theorem s_rep : OpS K oRep (r2L rRep) := by
  intro σ env F H fp ms vs A m Q ok hO hn dj e q
  unfold oRep at e
  split at e
  · rename_i x k
    split at e
    · rename_i xs hx
      split at e
      · rename_i ds hd
        split at e
        · rename_i hk
          cases e
          have hk := of_decide_eq_true hk
          obtain ⟨v, w, B, C, rfl, rfl, h1, h2⟩ := ownL2 hO
          simp only [Own, Rep] at h2
          obtain ⟨rfl, rfl⟩ := h2
          obtain ⟨a, us, D, rfl, l1, _, h3, _⟩ := elems_ok ok h1 hx
          obtain ⟨r, _⟩ := allFz_ok h3 hd
          exact ⟨_, _, rfl, a, k, us, rfl, rfl, l1 rfl, hk.1, hk.2.1, by rw [← r.len]; exact hk.2.2, fun p hp => newL ok (ownL_fz (repL_rep r _)) (List.nil_sublist _) hn hp q⟩
        · cases e
      · cases e
    · cases e
  · cases e
def oAdd := oOr (sop iAdd) (oOr (sop gStr) oCat)
def oMul := oOr (sop iMul) oRep
abbrev rAdd : R2 := fun x y H Q => rI0 (fun i j => .int (i + j)) x y H Q ∨ (fun x y H Q => ∃ i j, x = V.str i ∧ y = V.str j ∧ i.length + j.length ≤ sizeLine ∧ Q (.str (i ++ j)) H) x y H Q ∨ rCat x y H Q
abbrev rMulA : R2 := fun x y H Q => rI CMulX (fun i j => .int (i * j)) x y H Q ∨ rRep x y H Q
theorem op_addA {X : Cx} : OpR X (binaryOp .Add) rAdd := op_add.or (op_add_str.or op_cat)
theorem op_mulA {X : Cx} : OpR X (binaryOp .Mult) rMulA := op_mulX.or op_rep
theorem s_addA : OpS K oAdd (r2L rAdd) := s_add.or2 (s_addS.or2 s_cat)
theorem s_mulA : OpS K oMul (r2L rMulA) := s_mul.or2 s_rep
def gInL (neg : Bool) : List D → Option D
  | [a, .lst ds] => match pyD a, pyDL ds with
    | some x, some xs => if SeqAt.shaped x && SeqAt.shaped (.list xs) then some (.bl (if neg then !xs.any (fun z => PyData.eqv z x) else xs.any fun z => PyData.eqv z x)) else none
    | _, _ => none
  | _ => none
def gInT (neg : Bool) : List D → Option D
  | [a, .tup ds] => if scal a && ds.all scal && flatV (toV a) && (ds.map toV).all flatV then some (.bl (if neg then !inV (toV a) (ds.map toV) else inV (toV a) (ds.map toV))) else none
  | _ => none
def gInS (neg : Bool) : List D → Option D
  | [.str i, .str j] => some (.bl (if neg then !(!(Builtin.Str.occurrences j i 0 j.length 1).isEmpty) else !(Builtin.Str.occurrences j i 0 j.length 1).isEmpty))
  | _ => none
def oIn := oOr (sop (gInL false)) (oOr (sop (gInT false)) (sop (gInS false)))
def oNin := oOr (sop (gInL true)) (oOr (sop (gInT true)) (sop (gInS true)))
theorem hu65 {k : Nat} {A : Around} (r : RoomG k A) : A.units + 65 < cLine := by have := r.rm.un; omega
end
def sPart (o : Option (En → Option M)) : En → Option (Option Int) := fun env => match o with
  | none => some none
  | some f => match f env with
    | some (.fz (.int i)) => some (some i)
    | _ => none
def cutM {α : Type} (xs : List α) (lo hi : Option Int) : List α := (xs.drop (HT.sIx xs.length 0 lo)).take (HT.sIx xs.length xs.length hi - HT.sIx xs.length 0 lo)
def slM (env : En) (l h : Option Int) (m : M) : Option M := match m with
    | .fz (.str z) => if decide (z.length ≤ sizeLine) then some (.fz (.str (cutS z l h))) else none
    | .fz (.scr ns) => some (.ol ((cutM ns l h).map fun n => .fz (.int n)))
    | m => match elems env m with
      | some (true, xs) => some (.ol (cutM xs l h))
      | some (false, xs) => if HT.sIx xs.length 0 l = 0 ∧ HT.sIx xs.length xs.length h = xs.length then none else some (mkT (cutM xs l h))
      | none => none
def oSl (f : En → Option M) (lo hi : Option (En → Option M)) : En → Option M := fun env => match f env, sPart lo env, sPart hi env with
  | some m, some l, some h => slM env l h m
  | _, _, _ => none
section
variable {X : Cx} {a : Expr} {f : En → Option M}
def tDO (K : PySem.W.Frag) (f : En → Option (Option Int)) : TO := fun σ H Q => ∃ env i F fp, f env = some i ∧ EnvOk K F H σ env fp ∧ ∀ F' H', Step [] F H F' H' → Q i H'
def PDO (X : Cx) (e : Option Expr) (o : Option (En → Option M)) : Prop := PO X e (tDO X.K (sPart o))
theorem PO.imp {e : Option Expr} {t u : TO} (h : PO X e t) (i : ∀ σ H Q, u σ H Q → t σ H Q) : PO X e u := ⟨fun pins s σ H Q I q => h.run pins s σ H Q I (i _ _ _ q)⟩
theorem pdo_none : PDO X none none := PO.imp po_none fun σ H Q h => by
  obtain ⟨env, i, F, fp, e, ok, q⟩ := h
  cases e
  exact q F H (.refl ok.sub)
theorem pdo_some (h : PD X a f) : PDO X (some a) (some f) := PO.imp (po_some h) fun σ H Q h => by
  obtain ⟨env, i, F, fp, e, ok, q⟩ := h
  unfold sPart at e
  dsimp only at e
  split at e
  · rename_i j hj
    cases e
    refine ⟨env, .fz (.int j), F, fp, hj, ok, fun v F' H' A s o n aa => ?_⟩
    simp only [Own, Rep] at o
    exact ⟨j, o.2, q F' H' s⟩
  · cases e
theorem cut_own {K : PySem.W.Frag} {br : Nat → List Pa → V → Prop} {F H : Hp} {ms : List M} {vs : List V} {A : List Addr} (h : OwnL K br F H ms vs A) (lo hi : Option Int) : ∃ B, OwnL K br F H (cutM ms lo hi) (cutV vs lo hi) B ∧ B.Sublist A := by
  unfold cutM cutV
  rw [h.len]
  obtain ⟨B, h1, h2⟩ := h.drop (HT.sIx vs.length 0 lo)
  obtain ⟨C, h3, h4⟩ := h1.take (HT.sIx vs.length vs.length hi - HT.sIx vs.length 0 lo)
  exact ⟨C, h3, h4.trans h2⟩
theorem cut_map {α : Type} {β : Type} (g : α → β) (xs : List α) (lo hi : Option Int) : cutM (xs.map g) lo hi = (cutM xs lo hi).map g := by
  unfold cutM
  rw [List.length_map, List.map_take, List.map_drop]
theorem cut_V (xs : List V) (lo hi : Option Int) : cutV xs lo hi = cutM xs lo hi := rfl
abbrev rSlA (K : PySem.W.Frag) : V → Option Int → Option Int → Hp → VK → Prop := fun x lo hi H Q => rSlL K x lo hi H Q ∨ (fun x lo hi H Q => rSlT K x lo hi H Q ∨ rSlS x lo hi H Q) x lo hi H Q
theorem sl_any : SlR X (rSlA X.K) := sl_list.or (sl_tup.or sl_str)
theorem s_sl {K : PySem.W.Frag} {σ : L2.St} {env : En} {F H : Hp} {fp : Nat → List Addr} {m : M} {v : V} {A : List Addr} {l h : Option Int} {n : M} {Q : VK} (ok : EnvOk K F H σ env fp) (o : Own K (plc H σ env) F H m v A) (hn : A.Nodup)
    (e : slM env l h m = some n)
    (q : ∀ v F' H' B, Step A F H F' H' → Own K (plc H' σ env) F' H' n v B → B.Nodup → (∀ a ∈ B, H a = none ∨ a ∈ A) → Q v H') : rSlA K v l h H Q := by
  unfold slM at e
  split at e
  · rename_i z
    split at e
    · rename_i hz
      cases e
      simp only [Own, Rep] at o
      exact .inr (.inr ⟨z, o.2, of_decide_eq_true hz, keepS ok (own_fz (by simp only [Rep])) (List.nil_sublist _) hn q⟩)
    · cases e
  · rename_i ns
    cases e
    simp only [Own, Rep] at o
    obtain ⟨rfl, a, rfl, o⟩ := o
    refine .inl ⟨a, _, rfl, ok.sub.seq o, fun p hp => ?_⟩
    rw [map_fz_int] at q
    have r : RepL K F ((cutM ns l h).map D.int) (cutV (ns.map V.int) l h) := by
      rw [cut_V, cut_map]
      exact repL_ints _
    exact newL ok (ownL_fz r) (List.Sublist.refl _) hn hp q
  · split at e
    · rename_i xs hx
      cases e
      obtain ⟨a, us, D, rfl, l1, _, h3, s1⟩ := elems_ok ok o hx
      obtain ⟨B, c1, c2⟩ := cut_own h3 l h
      exact .inl ⟨a, us, rfl, SqL.of (l1 rfl), fun p hp => newL ok c1 (c2.trans s1) hn hp q⟩
    · rename_i xs hx
      split at e
      · cases e
      · rename_i hw
        cases e
        obtain ⟨a, us, D, rfl, _, l1, h3, s1⟩ := elems_ok ok o hx
        obtain ⟨B, c1, c2⟩ := cut_own h3 l h
        exact .inr (.inl ⟨a, us, rfl, SqT.of (l1 rfl), by rw [← h3.len]; exact hw, fun p hp => newT ok c1 (c2.trans s1) hn hp q⟩)
    · cases e
theorem pd_slice {lo hi : Option Expr} {fl fh : Option (En → Option M)} {pos p2 : Pos} (ha : PD X a f) (hl : PDO X lo fl) (hh : PDO X hi fh) : PD X (.Subscript a (.Slice lo hi none p2) pos) (oSl f fl fh) :=
  PE.imp (pe_slice sl_any ha hl hh) fun σ H Q h => by
    obtain ⟨env, n, F, fp, e, ok, q⟩ := h
    unfold oSl at e
    split at e
    · rename_i m l h h1 h2 h3
      refine ⟨env, m, F, fp, h1, ok, fun v F1 H1 A s1 o1 n1 a1 => ?_⟩
      have ok1 := ok.step s1 fun a z => by cases z
      refine ⟨env, l, F1, fp, h2, ok1, fun F2 H2 s2 => ?_⟩
      have ok2 := ok1.step s2 fun a z => by cases z
      refine ⟨env, h, F2, fp, h3, ok2, fun F3 H3 s3 => ?_⟩
      have ok3 := ok2.step s3 fun a z => by cases z
      refine s_sl ok3 ((o1.step s2).step s3) n1 e fun v F' H' B s o nd a => ?_
      have s123 := (s1.trans s2 fun a z => by cases z).trans s3 fun a z => by cases z
      refine q v F' H' B (s123.trans s fun c hc => a1 c hc) o nd fun c hc => ?_
      rcases a c hc with z | z
      · exact s123.stay c z
      · exact a1 c z
    · cases e
end
end T2
end
section
set_option Elab.async false
set_option linter.all false
set_option maxRecDepth 100000
namespace T2
open PySem
theorem get_z {m : Option M} {r : En} : En.get (m :: r) 0 = m := by unfold En.get; cases m <;> rfl
theorem get_s {m : Option M} {r : En} {i : Nat} : En.get (m :: r) (i + 1) = En.get r i := id rfl
theorem put_z {m : Option M} {r : En} {n : M} : En.put (m :: r) 0 n = some n :: r := id rfl
theorem put_s {m : Option M} {r : En} {i : Nat} {n : M} : En.put (m :: r) (i + 1) n = m :: En.put r i n := id rfl
def namM (i : Nat) : Option M → Option M
  | some (.fz d) => some (.fz d)
  | some _ => some (.bp i [])
  | none => none
theorem e_nam {i : Nat} {env : En} : nam i env = namM i (env.get i) := id rfl
theorem e_cst {d : D} {env : En} : cst d env = some (.fz d) := id rfl
def o2 (o : En → List M → Option M) (env : En) : Option M → Option M → Option M
  | some a, some b => o env [a, b]
  | _, _ => none
def o1 (o : En → List M → Option M) (env : En) : Option M → Option M
  | some a => o env [a]
  | _ => none
theorem e_bin {o : En → List M → Option M} {f g : En → Option M} {env : En} : T2.bin o f g env = o2 o env (f env) (g env) := by
  unfold T2.bin opr aCons aNil o2
  cases f env <;> cases g env <;> rfl
theorem e_una {o : En → List M → Option M} {f : En → Option M} {env : En} : T2.una o f env = o1 o env (f env) := by
  unfold T2.una opr aCons aNil o1
  cases f env <;> rfl
theorem o2_s {o : En → List M → Option M} {env : En} {a b : M} : o2 o env (some a) (some b) = o env [a, b] := id rfl
theorem o1_s {o : En → List M → Option M} {env : En} {a : M} : o1 o env (some a) = o env [a] := id rfl
theorem e_acons {f : En → Option M} {fs : En → Option (List M)} {env : En} : aCons f fs env = (match f env, fs env with
  | some m, some ms => some (m :: ms)
  | _, _ => none) := id rfl
theorem e_anil {env : En} : aNil env = some [] := id rfl
theorem e_opr {op : En → List M → Option M} {fs : En → Option (List M)} {env : En} : opr op fs env = (match fs env with
  | some ms => op env ms
  | none => none) := id rfl
section
variable {env : En} {i j : Int} {x y : Str} {a b : Bool}
theorem k_add : oAdd env [.fz (.int i), .fz (.int j)] = some (.fz (.int (i + j))) := id rfl
theorem k_sub : sop iSub env [.fz (.int i), .fz (.int j)] = some (.fz (.int (i - j))) := id rfl
theorem sop_ii {c : Int → Int → Bool} {f : Int → Int → Int} (h : c i j = true) : sop (gII c f) env [.fz (.int i), .fz (.int j)] = some (.fz (.int (f i j))) := by
  show (match (match (if c i j then some (D.int (f i j)) else none) with
    | some d => if scal d then some (M.fz d) else none
    | none => none) with | r => r) = _
  rw [if_pos h]
  rfl
theorem k_mul (h : cMul i j = true) : oMul env [.fz (.int i), .fz (.int j)] = some (.fz (.int (i * j))) := by
  unfold oMul oOr
  rw [show sop iMul env [.fz (.int i), .fz (.int j)] = _ from sop_ii h]
theorem k_mod (h : 0 < j) : sop iMod env [.fz (.int i), .fz (.int j)] = some (.fz (.int (i % j))) := sop_ii (decide_eq_true h)
theorem k_div (h : 0 < j) (h' : j.natAbs.log2 < 9000) : sop iDiv env [.fz (.int i), .fz (.int j)] = some (.fz (.int (i / j))) := sop_ii (decide_eq_true ⟨h, h'⟩)
theorem k_pow (h : 0 ≤ j) (h' : j ≤ 1000000) (h'' : i.natAbs < 2 ^ 64) : sop iPow env [.fz (.int i), .fz (.int j)] = some (.fz (.int (i ^ j.toNat))) := sop_ii (decide_eq_true ⟨h, h', h''⟩)
theorem k_shl (h : 0 ≤ j) (h' : j ≤ 1000000) (h'' : i.natAbs < 2 ^ 64) : sop iShl env [.fz (.int i), .fz (.int j)] = some (.fz (.int (i * 2 ^ j.toNat))) := sop_ii (decide_eq_true ⟨h, h', h''⟩)
theorem k_shr (h : 0 ≤ j) : sop iShr env [.fz (.int i), .fz (.int j)] = some (.fz (.int (i / 2 ^ j.toNat))) := sop_ii (decide_eq_true h)
theorem k_and : sop iAnd env [.fz (.int i), .fz (.int j)] = some (.fz (.int (Builtin.bitAnd i j))) := id rfl
theorem k_or : sop iOr env [.fz (.int i), .fz (.int j)] = some (.fz (.int (Builtin.bitOr i j))) := id rfl
theorem k_lt : sop iLt env [.fz (.int i), .fz (.int j)] = some (.fz (.bl (decide (i < j)))) := id rfl
theorem k_le : sop iLe env [.fz (.int i), .fz (.int j)] = some (.fz (.bl (decide (i ≤ j)))) := id rfl
theorem k_gt : sop iGt env [.fz (.int i), .fz (.int j)] = some (.fz (.bl (decide (j < i)))) := id rfl
theorem k_ge : sop iGe env [.fz (.int i), .fz (.int j)] = some (.fz (.bl (decide (j ≤ i)))) := id rfl
theorem k_neg : sop (gU fun i => -i) env [.fz (.int i)] = some (.fz (.int (-i))) := id rfl
theorem k_abs : sop gAbs env [.fz (.int i)] = some (.fz (.int (if i < 0 then -i else i))) := id rfl
theorem k_intb : sop gInt env [.fz (.bl a)] = some (.fz (.int (if a then 1 else 0))) := id rfl
theorem k_inti : sop gInt env [.fz (.int i)] = some (.fz (.int i)) := id rfl
end
theorem e_seq {f g : En → Option Fl} {env : En} : sSeq f g env = (match f env with
  | some (.nx e) => g e
  | r => r) := id rfl
def asgM (lk : Nat → Bool) (i k : Nat) (env : En) : Option M → Option Fl
  | some m => match stow k env m with
    | some (m', e2) => if lk i = false ∧ i < e2.length then some (.nx (e2.put i m')) else none
    | none => none
  | none => none
theorem e_asg {lk : Nat → Bool} {i k : Nat} {f : En → Option M} {env : En} : sAsg lk i k (lif f) env = asgM lk i k env (f env) := by
  unfold sAsg lif asgM
  cases f env <;> rfl
theorem asgM_fz {lk : Nat → Bool} {i k : Nat} {env : En} {d : D} (h : lk i = false) (h' : i < env.length) : asgM lk i k env (some (.fz d)) = some (.nx (env.put i (.fz d))) := by
  unfold asgM stow
  simp only [slots]
  cases k <;> simp only [shut, Option.map_some, h, h', and_self, if_true]
def retM (lk : Nat → Bool) (env : En) (m : Option M) : Option Fl := sRet lk (fun e => match m with | some m => some (m, e) | none => none) env
theorem e_ret {lk : Nat → Bool} {f : En → Option M} {env : En} : sRet lk (lif f) env = retM lk env (f env) := id rfl
theorem retM_fz {lk : Nat → Bool} {env : En} {d : D} : retM lk env (some (.fz d)) = some (.rt (.fz d) env) := id rfl
theorem retM_bp {lk : Nat → Bool} {env : En} {i : Nat} {m : M} (h : env.get i = some m) (h' : lk i = false) : retM lk env (some (.bp i [])) = some (.rt m (env.kill i)) := by
  unfold retM sRet
  simp only [h, h', if_true]
def ifM (f g : En → Option Fl) (env : En) : Option Bool → Option Fl
  | some true => f env
  | some false => g env
  | none => none
theorem e_if {t : En → Option Bool} {f g : En → Option Fl} {env : En} : sIf (lifT t) f g env = ifM f g env (t env) := by
  unfold sIf lifT ifM
  cases t env with
  | none => rfl
  | some b => cases b <;> rfl
theorem ifM_t {f g : En → Option Fl} {env : En} : ifM f g env (some true) = f env := id rfl
theorem ifM_f {f g : En → Option Fl} {env : En} : ifM f g env (some false) = g env := id rfl
def tstM : Option M → Option Bool
  | some (.fz (.bl b)) => some b
  | _ => none
theorem e_tst {f : En → Option M} {env : En} : tst f env = tstM (f env) := by
  unfold tst tstM
  cases f env with
  | none => rfl
  | some m => cases m <;> rfl
theorem e_nil {env : En} : sNil env = some (.nx env) := id rfl
theorem run_rt {n p : Nat} {lk : Nat → Bool} {fS : En → Option Fl} {ms : List M} {env : En} {m : M} {e : En} {ns : List M} (h1 : ms.length = p) (h2 : okA lk 0 ms = true) (he : ms.map some ++ List.replicate (n - p) none = env) (h : fS env = some (.rt m e)) (h3 : outs lk e 0 ms = some ns) : runD n p lk fS ms = some (m, ns) := by
  unfold runD
  rw [if_pos ⟨h1, h2⟩, he, h]
  simp only [h3]
theorem run_nx {n p : Nat} {lk : Nat → Bool} {fS : En → Option Fl} {ms : List M} {env : En} {e : En} {ns : List M} (h1 : ms.length = p) (h2 : okA lk 0 ms = true) (he : ms.map some ++ List.replicate (n - p) none = env) (h : fS env = some (.nx e)) (h3 : outs lk e 0 ms = some ns) : runD n p lk fS ms = some (.fz .non, ns) := by
  unfold runD
  rw [if_pos ⟨h1, h2⟩, he, h]
  simp only [h3]
section
variable {env e1 e2 : En} {f g : En → Option M} {fs : En → Option (List M)} {m a b r : M} {ms cs cs' : List M} {d : D} {o : En → List M → Option M} {S T : En → Option Fl} {R : Option Fl}
theorem acons_of (h : f env = some m) (h' : fs env = some ms) : aCons f fs env = some (m :: ms) := by rw [e_acons, h, h']
theorem opr_of {op : En → List M → Option M} (h : fs env = some ms) (h' : op env ms = some r) : opr op fs env = some r := by rw [e_opr, h]; exact h'
theorem bin_of (h : f env = some a) (h' : g env = some b) (h'' : o env [a, b] = some r) : T2.bin o f g env = some r := by rw [e_bin, h, h', o2_s]; exact h''
theorem una_of (h : f env = some a) (h'' : o env [a] = some r) : T2.una o f env = some r := by rw [e_una, h, o1_s]; exact h''
theorem callP_of {io : List Bool} {F : Fn} (h : slotsL ms = []) (h' : shutZ io ms = some cs) (h'' : F cs = some (r, cs')) : callP io F env ms = some r := by
  unfold callP
  rw [h]
  simp only [h', h'']
theorem callI_of {io : List Bool} {F : Fn} {gs : En → Option (List M × En)} {i : Nat} {rest tl : List M} {n n' : M} (h1 : gs env = some (.bp i [] :: rest, e1)) (h2 : slotsL rest = []) (h3 : e1.get i = some n) (h4 : shutZ io.tail rest = some cs) (h5 : F (n :: cs) = some (r, n' :: tl)) : callI io F gs env = some (r, e1.put i n') := by
  unfold callI
  rw [h1]
  simp only [h2, h3, h4, h5]
theorem nam_fz {i : Nat} (h : env.get i = some (.fz d)) : nam i env = some (.fz d) := by rw [e_nam, h]; rfl
theorem lif_of (h : f env = some m) : lif f env = some (m, env) := by unfold lif; rw [h]
theorem lifA_of (h : fs env = some ms) : lifA fs env = some (ms, env) := by unfold lifA; rw [h]
theorem seq_of (h : S env = some (.nx e1)) (h' : T e1 = R) : sSeq S T env = R := by rw [e_seq, h]; exact h'
theorem seq_rt (h : S env = some (.rt m e1)) : sSeq S T env = some (.rt m e1) := by rw [e_seq, h]
theorem tst_of {c : Bool} (h : f env = some (.fz (.bl c))) : tst f env = some c := by rw [e_tst, h]; rfl
theorem if_t {t : En → Option Bool} (h : t env = some true) (h' : S env = R) : sIf (lifT t) S T env = R := by rw [e_if, h, ifM_t]; exact h'
theorem if_f {t : En → Option Bool} (h : t env = some false) (h' : T env = R) : sIf (lifT t) S T env = R := by rw [e_if, h, ifM_f]; exact h'
theorem asg_of {lk : Nat → Bool} {i k : Nat} (h : f env = some (.fz d)) (hl : lk i = false) (hi : i < env.length) : sAsg lk i k (lif f) env = some (.nx (env.put i (.fz d))) := by rw [e_asg, h]; exact asgM_fz hl hi
theorem asgX_of {lk : Nat → Bool} {i k : Nat} {G : En → Option (M × En)} {m' : M} (h : G env = some (m, e1)) (hs : stow k e1 m = some (m', e2)) (hl : lk i = false) (hi : i < e2.length) : sAsg lk i k G env = some (.nx (e2.put i m')) := by
  unfold sAsg
  rw [h]
  simp only [hs, hl, hi, and_self, if_true]
theorem ret_of {lk : Nat → Bool} (h : f env = some (.fz d)) : sRet lk (lif f) env = some (.rt (.fz d) env) := by rw [e_ret, h]; rfl
theorem retX_of {lk : Nat → Bool} {G : En → Option (M × En)} (h : G env = some (.fz d, e1)) : sRet lk G env = some (.rt (.fz d) e1) := by
  unfold sRet
  rw [h]
  rfl
theorem exp_of {G : En → Option (M × En)} (h : G env = some (m, e1)) : sExp G env = some (.nx e1) := by unfold sExp; rw [h]
theorem for_of {lk : Nat → Bool} {t : Tg} {it : En → Option (List D × En)} {ds : List D} (h : it env = some (ds, e1)) (h' : lpF lk t S ds e1 = R) : sFor lk t it S env = R := by unfold sFor; rw [h]; exact h'
theorem lp_nil {lk : Nat → Bool} {t : Tg} : lpF lk t S [] env = some (.nx env) := by unfold lpF; rfl
theorem lp_cons {lk : Nat → Bool} {t : Tg} {ds : List D} (h : asT lk t d env = some e1) (h' : S e1 = some (.nx e2)) (h'' : lpF lk t S ds e2 = R) : lpF lk t S (d :: ds) env = R := by
  unfold lpF
  rw [h]
  simp only [h']
  exact h''
end
end T2
end
section
set_option Elab.async false
set_option linter.all false
set_option maxRecDepth 100000
namespace T2
open PySem
theorem cMul_ok {i j : Int} (a b : Nat) (hi : i.natAbs < 2 ^ a) (hj : j.natAbs < 2 ^ b) (h : a + b ≤ 134217728) : cMul i j = true := by
  unfold cMul
  have x := PyProof.Rows.intBits_le hi
  have y := PyProof.Rows.intBits_le hj
  exact decide_eq_true (by omega)
abbrev I (i : Int) : M := .fz (.int i)
theorem k_lst {env : En} {ms : List M} (h : ms.length ≤ sizeLine) : oLst env ms = some (.ol ms) := by
  unfold oLst
  rw [if_pos h]
theorem pyDL_ints : ∀ ns : List Int, pyDL (ns.map .int) = some (ns.map .int)
  | [] => id rfl
  | n :: ns => by
    show (match pyD (.int n), pyDL (ns.map .int) with
      | some x, some xs => some (x :: xs)
      | _, _ => none) = _
    rw [pyDL_ints ns]
    rfl
theorem eqvAll_ints : ∀ xs ys : List Int, PyData.eqvAll (xs.map .int) (ys.map .int) = (xs == ys)
  | [], [] => by rfl
  | [], y :: ys => by rfl
  | x :: xs, [] => by rfl
  | x :: xs, y :: ys => by
    show (PyData.eqv (.int x) (.int y) && PyData.eqvAll (xs.map .int) (ys.map .int)) = _
    rw [eqvAll_ints xs ys]
    rfl
theorem canLay_ints : ∀ ns : List Int, PyData.canLayAll0 (ns.map .int) = true
  | [] => by rfl
  | n :: ns => by
    show (PyData.canLay0 (.int n) && PyData.canLayAll0 (ns.map .int)) = true
    rw [canLay_ints ns]
    rfl
theorem depth_ints : ∀ ns : List Int, PyData.depthAll (ns.map .int) ≤ 1
  | [] => by decide
  | n :: ns => by
    show max (PyData.depth (.int n)) (PyData.depthAll (ns.map .int)) ≤ 1
    exact Nat.max_le.mpr ⟨by rw [show PyData.depth (.int n) = 0 by rfl]; omega, depth_ints ns⟩
theorem shaped_ints (ns : List Int) : SeqAt.shaped (.list (ns.map .int)) = true := by
  show ((PyData.canLay0 (.list (ns.map .int))) && decide (PyData.depth (.list (ns.map .int)) ≤ 64)) = true
  rw [show PyData.canLay0 (.list (ns.map .int)) = PyData.canLayAll0 (ns.map .int) by rfl, canLay_ints]
  have : PyData.depth (.list (ns.map .int)) = PyData.depthAll (ns.map .int) + 1 := by rfl
  have h := depth_ints ns
  rw [this]
  simp
  omega
theorem gEq_ints (neg : Bool) (xs ys : List Int) : gEq neg [.lst (xs.map .int), .lst (ys.map .int)] = some (.bl (if neg then !(xs == ys) else xs == ys)) := by
  have px : ∀ xs : List Int, pyD (.lst (xs.map .int)) = some (.list (xs.map .int)) := fun xs => by
    show (pyDL (xs.map .int)).map PyData.list = _
    rw [pyDL_ints]
    rfl
  show (match pyD (.lst (xs.map .int)), pyD (.lst (ys.map .int)) with
    | some x, some y => if SeqAt.shaped x && SeqAt.shaped y then some (.bl (if neg then !PyData.eqv x y else PyData.eqv x y)) else none
    | _, _ => none : Option D) = _
  rw [px, px]
  simp only [shaped_ints, Bool.and_self, if_true]
  rw [show PyData.eqv (.list (xs.map .int)) (.list (ys.map .int)) = PyData.eqvAll (xs.map .int) (ys.map .int) by rfl, eqvAll_ints]
theorem sop_of {g : List D → Option D} {env : En} {ms : List M} {ds : List D} {d : D} (h : dats env ms = some ds) (h' : g ds = some d) (h'' : scal d = true) : sop g env ms = some (.fz d) := by
  unfold sop
  rw [h]
  simp only [h', h'', if_true]
section
variable {env e1 e2 : En} {f g : En → Option Bool} {b c : Bool}
theorem or_f (h : f env = some false) (h' : g env = some c) : dOr f g env = some c := by unfold dOr; rw [h]; exact h'
theorem not_of (h : f env = some b) : dNot f env = some (!b) := by unfold dNot; rw [h]
end
theorem ifX_t {t : En → Option (Bool × En)} {S T : En → Option Fl} {R : Option Fl} {env e1 : En} (h : t env = some (true, e1)) (h' : S e1 = R) : sIf t S T env = R := by
  unfold sIf
  rw [h]
  exact h'
theorem ifX_f {t : En → Option (Bool × En)} {S T : En → Option Fl} {R : Option Fl} {env e1 : En} (h : t env = some (false, e1)) (h' : T e1 = R) : sIf t S T env = R := by
  unfold sIf
  rw [h]
  exact h'
section
variable {env e1 e2 e3 : En} {G J : En → Option (M × En)} {gs : En → Option (List M × En)} {a b r m : M} {ms : List M} {o : En → List M → Option M}
theorem xcons_of (h : G env = some (m, e1)) (h' : gs e1 = some (ms, e2)) (h'' : alv e2 m = true) : xCons G gs env = some (m :: ms, e2) := by
  unfold xCons
  rw [h]
  simp only [h', h'', if_true]
theorem xop_of (h : gs env = some (ms, e1)) (h' : o e1 ms = some r) : xop o gs env = some (r, e1) := by
  unfold xop
  rw [h]
  simp only [h']
theorem xbin_of (h : G env = some (a, e1)) (h' : J e1 = some (b, e2)) (h1 : alv e2 a = true) (h2 : alv e2 b = true) (h'' : o e2 [a, b] = some r) : xbin o G J env = some (r, e2) :=
  xop_of (xcons_of h (xcons_of h' rfl h2) h1) h''
end
section
variable {vs : List Nat} {t : Tg} {cond : En → Option Bool} {elt : En → Option M} {env : En}
theorem lcL_mem {v : D → M} : ∀ (ds : List D) (_ : ∀ d ∈ ds, ∃ e1, asT (lkOf vs) t d (env.wipe vs) = some e1 ∧ elt e1 = some (v d) ∧ slots (v d) = []), lcL vs t cYes elt env ds = some (ds.map v)
  | [], _ => by unfold lcL; rfl
  | d :: ds, ht => by
    obtain ⟨e1, h1, h2, h3⟩ := ht d (List.mem_cons_self ..)
    have ih := lcL_mem ds fun d' h => ht d' (List.mem_cons_of_mem _ h)
    unfold lcL
    rw [h1]
    simp only [cYes, ih, h2, h3, List.isEmpty_nil, if_true, List.map_cons]
theorem lcF_of {it : En → Option (List D)} {ds : List D} {ms : List M} (h : it env = some ds) (h' : lcL vs t cond elt env ds = some ms) (h'' : ms.length ≤ sizeLine) : lcF vs t it cond elt env = some (.ol ms) := by
  unfold lcF
  rw [h]
  simp only [h', h'', if_true]
end
abbrev oD (ds : List D) : M := .ol (ds.map .fz)
abbrev oI (L : List Int) : M := oD (L.map .int)
abbrev lI (L : List Int) : D := .lst (L.map .int)
theorem datWL_fz {bp : Nat → List Pa → Option D} : ∀ ds : List D, datWL bp (ds.map .fz) = some ds
  | [] => by rfl
  | d :: ds => by
    show (match datW bp (.fz d), datWL bp (ds.map .fz) with
      | some d, some ds => some (d :: ds)
      | _, _ => none) = _
    rw [datWL_fz ds]
    rfl
theorem datW_oD {bp : Nat → List Pa → Option D} (ds : List D) : datW bp (oD ds) = some (.lst ds) := by
  show (datWL bp (ds.map .fz)).map D.lst = _
  rw [datWL_fz]
  rfl
theorem slotsL_fz : ∀ ds : List D, slotsL (ds.map .fz) = []
  | [] => by rfl
  | d :: ds => by
    show slots (.fz d) ++ slotsL (ds.map .fz) = []
    rw [slotsL_fz ds]
    rfl
theorem shutL_fz {k : Nat} : ∀ ds : List D, shutL k (ds.map .fz) = some (ds.map .fz)
  | [] => by cases k <;> rfl
  | d :: ds => by
    have h : shut k (.fz d) = some (.fz d) := by cases k <;> rfl
    show (match shut k (.fz d), shutL k (ds.map .fz) with
      | some n, some ns => some (n :: ns)
      | _, _ => none) = _
    rw [shutL_fz ds, h]
    rfl
theorem stow_z {env : En} (ds : List D) : stow 0 env (oD ds) = some (.fz (.lst ds), env) := by
  unfold stow
  rw [show slots (oD ds) = [] from slotsL_fz ds]
  show (shut 0 (oD ds)).map _ = _
  rw [show shut 0 (oD ds) = (dat0 (oD ds)).map .fz by rfl, show dat0 (oD ds) = some (.lst ds) from datW_oD ds]
  rfl
theorem stow_s {env : En} {k : Nat} (ds : List D) : stow (k + 1) env (oD ds) = some (oD ds, env) := by
  unfold stow
  rw [show slots (oD ds) = [] from slotsL_fz ds]
  show (shut (k + 1) (oD ds)).map _ = _
  rw [show shut (k + 1) (oD ds) = (shutL k (ds.map .fz)).map .ol by rfl, shutL_fz]
  rfl
theorem dat_bp {env : En} {i : Nat} {ds : List D} (h : env.get i = some (oD ds)) : plD env i [] = some (.lst ds) := by
  have : env.place i [] = some (oD ds) := by
    show (match env.get i with
      | some m => getP m []
      | none => none) = _
    rw [h]
    rfl
  unfold plD
  rw [this]
  exact datW_oD ds
theorem sLfL_ints : ∀ L : List Int, sLfL ((L.map D.int).map .fz) = true
  | [] => by rfl
  | d :: ds => by
    show (sLf (.fz (.int d)) && sLfL ((ds.map D.int).map .fz)) = true
    rw [sLfL_ints ds]
    rfl
theorem sLf_oI (L : List Int) : sLf (oI L) = true := sLfL_ints L
theorem nam_oD {env : En} {i : Nat} {ds : List D} (h : env.get i = some (oD ds)) : nam i env = some (.bp i []) := by rw [e_nam, h]; rfl
theorem shutZ_f {b : Bool} {bs : List Bool} {d : D} {ms cs : List M} (h : shutZ bs ms = some cs) : shutZ (b :: bs) (.fz d :: ms) = some (.fz d :: cs) := by
  show (match shut (if b then 9 else 0) (.fz d), shutZ bs ms with
    | some n, some ns => some (n :: ns)
    | _, _ => none) = _
  rw [h, show shut (if b then 9 else 0) (.fz d) = some (.fz d) by cases b <;> rfl]
theorem shutZ_z {bs : List Bool} {ds : List D} {ms cs : List M} (h : shutZ bs ms = some cs) : shutZ (false :: bs) (oD ds :: ms) = some (.fz (.lst ds) :: cs) := by
  show (match shut 0 (oD ds), shutZ bs ms with
    | some n, some ns => some (n :: ns)
    | _, _ => none) = _
  rw [h, show shut 0 (oD ds) = (dat0 (oD ds)).map .fz by rfl, show dat0 (oD ds) = some (.lst ds) from datW_oD ds]
  rfl
theorem shutZ_s {bs : List Bool} {ds : List D} {ms cs : List M} (h : shutZ bs ms = some cs) : shutZ (true :: bs) (oD ds :: ms) = some (oD ds :: cs) := by
  show (match shut 9 (oD ds), shutZ bs ms with
    | some n, some ns => some (n :: ns)
    | _, _ => none) = _
  rw [h, show shut 9 (oD ds) = (shutL 8 (ds.map .fz)).map .ol by rfl, shutL_fz]
  rfl
theorem dats_f {env : En} {d : D} {ms : List M} {cs : List D} (h : dats env ms = some cs) : dats env (.fz d :: ms) = some (d :: cs) := by
  show (match datW (plD env) (.fz d), datWL (plD env) ms with
    | some d, some ds => some (d :: ds)
    | _, _ => none) = _
  rw [show datWL (plD env) ms = some cs from h]
  rfl
theorem dats_o {env : En} {ds : List D} {ms : List M} {cs : List D} (h : dats env ms = some cs) : dats env (oD ds :: ms) = some (.lst ds :: cs) := by
  show (match datW (plD env) (oD ds), datWL (plD env) ms with
    | some d, some ds => some (d :: ds)
    | _, _ => none) = _
  rw [show datWL (plD env) ms = some cs from h, datW_oD]
theorem dats_b {env : En} {i : Nat} {ds : List D} {ms : List M} {cs : List D} (h0 : env.get i = some (oD ds)) (h : dats env ms = some cs) : dats env (.bp i [] :: ms) = some (.lst ds :: cs) := by
  show (match datW (plD env) (.bp i []), datWL (plD env) ms with
    | some d, some ds => some (d :: ds)
    | _, _ => none) = _
  rw [show datWL (plD env) ms = some cs from h, show datW (plD env) (.bp i []) = plD env i [] by rfl, dat_bp h0]
theorem dats_n {env : En} : dats env [] = some [] := by rfl
/-- a call with arguments that a slot holds -/
theorem callB_of {io : List Bool} {F : Fn} {env : En} {ms : List M} {ds : List D} {r : M} {cs : List M} {i : Nat} {l : List Nat} (h : slotsL ms = i :: l) (h1 : dats env ms = some ds) (h2 : F (ds.map .fz) = some (r, cs)) (h3 : sLf r = true) : callP io F env ms = some r := by
  unfold callP
  rw [h]
  simp only [h1, h2, h3, if_true]
section
variable {env e1 e2 e3 : En} {fo fi fe : En → Option M} {fs : En → Option (List M)} {gs : En → Option (List M × En)} {G : En → Option (M × En)} {mu : List M → List M → Option (List M × M)} {i k : Nat} {ms ms' as bs : List M} {res m m' r2 : M} {j : Int}
theorem place_z (h : env.get i = some m) : env.place i [] = some m := by
  unfold En.place
  rw [h]
  rfl
theorem setE_z (h : env.get i = some m) : setE env i [] m' = some (env.put i m') := by
  unfold setE
  rw [h]
  rfl
theorem mutP_of (h1 : fo env = some (.bp i [])) (h2 : fs env = some as) (h0 : isOl (env.place i []) = true) (h3 : stowA k env as = some (bs, e2)) (h4 : e2.get i = some (.ol ms)) (h5 : mu ms bs = some (ms', res)) : xMutP k fo fs mu env = some (res, e2.put i (.ol ms')) := by
  unfold xMutP
  rw [h1]
  simp only [h2, h0, h3, if_true, place_z h4, h5, setE_z h4]
theorem mutX_of (h1 : fo env = some (.bp i [])) (h2 : gs env = some (as, e1)) (h0 : alv e1 (.bp i []) = true ∧ isOl (env.place i []) = true) (h3 : stowA k e1 as = some (bs, e2)) (h4 : e2.get i = some (.ol ms)) (h5 : mu ms bs = some (ms', res)) : xMut k fo gs mu env = some (res, e2.put i (.ol ms')) := by
  unfold xMut
  rw [h1]
  simp only [h2]
  rw [if_pos h0]
  simp only [h3, place_z h4, h5, setE_z h4]
theorem set_of (h1 : G env = some (m, e1)) (h2 : stow k e1 m = some (m', e2)) (h3 : fo e2 = some (.bp i [])) (h4 : fi e2 = some (.fz (.int j))) (h5 : e2.get i = some (.ol ms)) (h6 : mSet ms [.fz (.int j), m'] = some (ms', r2)) : sSet k fo fi G env = some (.nx (e2.put i (.ol ms'))) := by
  unfold sSet
  rw [h1]
  simp only [h2, h3, h4, place_z h5, h6, setE_z h5]
theorem append_fz {ms : List M} {d : D} (h : ms.length < sizeLine) : mAppend ms [.fz d] = some (ms ++ [.fz d], .fz .non) := by
  unfold mAppend
  simp only [h, if_true]
end
theorem intsOf_ints : ∀ L : List Int, intsOf (L.map .int) = some L
  | [] => by rfl
  | x :: L => by
    show (match intsOf (L.map .int) with
      | some ns => some (x :: ns)
      | none => none) = _
    rw [intsOf_ints L]
theorem allFz_fz : ∀ ds : List D, allFz (ds.map .fz) = some ds
  | [] => by rfl
  | d :: ds => by
    show (match allFz (ds.map .fz) with
      | some ds => some (d :: ds)
      | none => none) = _
    rw [allFz_fz ds]
theorem items_f {env : En} {d : D} : items env (.fz d) = some d := by rfl
theorem items_o {env : En} {ds : List D} : items env (oD ds) = some (.lst ds) := by
  unfold items
  rw [show slots (oD ds) = [] from slotsL_fz ds]
  exact datW_oD ds
theorem kid_fz {i : Nat} {p : List Pa} : ∀ (ds : List D) (k : Nat), kid i p k (ds.map .fz) = ds.map .fz
  | [], _ => by rfl
  | d :: ds, k => by
    show M.fz d :: kid i p (k + 1) (ds.map .fz) = _
    rw [kid_fz ds]
    rfl
theorem elems_b {env : En} {i : Nat} {ds : List D} (h : env.get i = some (oD ds)) : elems env (.bp i []) = some (true, ds.map .fz) := by
  unfold elems
  simp only [place_z h, kid_fz]
theorem items_b {env : En} {i : Nat} {ds : List D} (h : env.get i = some (oD ds)) : items env (.bp i []) = some (.lst ds) := by
  unfold items
  rw [show slots (.bp i []) = [i] by rfl, elems_b h]
  show (allFz (ds.map .fz)).map _ = _
  rw [allFz_fz]
  rfl
theorem sum_of {env : En} {e : En → Option M} {a : M} {L : List Int} (h : e env = some a) (ha : dats env [a] = some [lI L]) : opr (sop gSum) (aCons e aNil) env = some (.fz (.int L.sum)) := by
  refine opr_of (acons_of h e_anil) (sop_of ha (d := .int L.sum) ?_ rfl)
  show (match intsOf (L.map .int) with
    | some ns => some (D.int ns.sum)
    | none => none) = _
  rw [intsOf_ints]
theorem retM_oI {lk : Nat → Bool} {env : En} (ds : List D) : retM lk env (some (oD ds)) = some (.rt (oD ds) env) := by
  unfold retM sRet
  show (match stow 9 env (oD ds) with
    | some (m', e2) => some (Fl.rt m' e2)
    | none => none) = _
  rw [stow_s (k := 8)]
theorem dat_of {env : En} {m : M} {d : D} (h : dats env [m] = some [d]) : dat env m = some d := by
  have e : dats env [m] = (match datW (plD env) m, some [] with
    | some d, some ds => some (d :: ds)
    | _, _ => none : Option (List D)) := by rfl
  rw [e] at h
  show datW (plD env) m = _
  cases hm : datW (plD env) m with
  | none => rw [hm] at h; cases h
  | some d' => rw [hm] at h; cases h; rfl
theorem len_b {env : En} {f : En → Option M} {m : M} {ds : List D} (h : f env = some m) (hd : dats env [m] = some [.lst ds]) : opr (sop gLen) (aCons f aNil) env = some (.fz (.int ds.length)) :=
  opr_of (acons_of h e_anil) (sop_of hd (show gLen [.lst ds] = some (.int ds.length) from rfl) rfl)
theorem eqb_of {neg : Bool} {env : En} {f g : En → Option M} {a b : M} {xs ys : List Int} (h : f env = some a) (h' : g env = some b) (hd : dats env [a, b] = some [lI xs, lI ys]) : tst (T2.bin (sop (gEq neg)) f g) env = some (if neg then !(xs == ys) else xs == ys) :=
  tst_of (bin_of h h' (sop_of hd (gEq_ints neg xs ys) rfl))
theorem k_eq {neg : Bool} {env : En} {i j : Int} : sop (gEq neg) env [.fz (.int i), .fz (.int j)] = some (.fz (.bl (if neg then !(i == j) else i == j))) := by
  refine sop_of rfl (d := .bl (if neg then !(i == j) else i == j)) ?_ rfl
  rfl
theorem idx_f {env : En} {ds : List D} {i : Int} {d : D} (h : L2.atI ds i = some d) : oIdx env [.fz (.lst ds), .fz (.int i)] = some (.fz d) := by
  have h1 : oIx true env [.fz (.lst ds), .fz (.int i)] = some (.fz d) := by
    show L2.atI (ds.map M.fz) i = _
    exact atI_map h
  show oOr (oIx true) _ env _ = _
  unfold oOr
  rw [h1]
theorem atI_nat {α : Type} {xs : List α} {i : Nat} {x : α} (h : xs[i]? = some x) : L2.atI xs (i : Int) = some x := by
  have hlt := (List.getElem?_eq_some_iff.mp h).1
  unfold L2.atI L2.ixN
  rw [if_pos (by omega), if_pos (by exact_mod_cast hlt)]
  exact h
theorem listOf_b {env : En} {i : Nat} {ds : List D} (h : env.get i = some (oD ds)) : oListOf env [.bp i []] = some (oD ds) := by
  unfold oListOf
  simp only [elems_b h]
theorem itX_of {b : Bool} {g : En → Option (M × En)} {env e1 e2 : En} {m : M} {d : D} {ds : List D} (h : g env = some (m, e1)) (h1 : stow 0 e1 m = some (.fz d, e2)) (h2 : isLst d = b) (h3 : itemsD d = some ds) : itX b g env = some (ds, e2) := by
  unfold itX
  rw [h]
  simp only [h1, h2, h3, if_true]
/-- a comprehension over a list of numbers -/
theorem lc_list {vs : List Nat} {t : Tg} {elt : En → Option M} {env : En} {it : En → Option (List D)} {ts : List Int} {v : Int → Int} (h : it env = some (ts.map .int))
    (hE : ∀ x ∈ ts, ∃ e1, asT (lkOf vs) t (.int x) (env.wipe vs) = some e1 ∧ elt e1 = some (.fz (.int (v x)))) (hl : ts.length ≤ sizeLine) : lcF vs t it cYes elt env = some (oI (ts.map v)) := by
  have := lcL_mem (vs := vs) (t := t) (elt := elt) (env := env) (v := fun d => match d with
    | .int x => .fz (.int (v x))
    | _ => .fz .non) (ts.map .int) (fun d hd => by
      obtain ⟨p, hp, rfl⟩ := List.mem_map.mp hd
      obtain ⟨e1, h1, h2⟩ := hE p hp
      exact ⟨e1, h1, h2, rfl⟩)
  rw [List.map_map] at this
  have e : ts.map ((fun d => match d with
    | D.int x => M.fz (.int (v x))
    | _ => M.fz .non) ∘ D.int) = ((ts.map v).map D.int).map M.fz := by
    rw [List.map_map, List.map_map]
    rfl
  rw [e] at this
  refine lcF_of h this ?_
  simp only [List.length_map]
  exact hl
theorem k_andN {env : En} {a b : Nat} : sop iAnd env [.fz (.int a), .fz (.int b)] = some (.fz (.int ((a &&& b : Nat) : Int))) := k_and
theorem bitOrN (a b : Nat) : Builtin.bitOr (a : Int) (b : Int) = ((a ||| b : Nat) : Int) := by
  have h1 : ¬ (0 : Int) ≤ Builtin.bitNot (a : Int) := by unfold Builtin.bitNot; omega
  have h2 : ¬ (0 : Int) ≤ Builtin.bitNot (b : Int) := by unfold Builtin.bitNot; omega
  have h3 : ∀ x : Int, Builtin.bitNot (Builtin.bitNot x) = x := fun x => by unfold Builtin.bitNot; omega
  unfold Builtin.bitOr Builtin.bitAnd
  rw [decide_eq_false h1, decide_eq_false h2]
  simp only [h3, Int.toNat_natCast]
theorem k_orN {env : En} {a b : Nat} : sop iOr env [.fz (.int a), .fz (.int b)] = some (.fz (.int ((a ||| b : Nat) : Int))) := k_or.trans (by rw [bitOrN])
theorem augI_of {env : En} {op : Int → Int → Int} {fo fi fe : En → Option M} {i : Nat} {j b a : Int} {ms ms' : List M} {r : M} (h1 : fo env = some (.bp i [])) (h2 : fi env = some (.fz (.int j))) (h3 : fe env = some (.fz (.int b))) (h4 : env.get i = some (.ol ms)) (h5 : L2.atI ms j = some (.fz (.int a))) (h6 : mSet ms [.fz (.int j), .fz (.int (op a b))] = some (ms', r)) : sAugI op fo fi fe env = some (.nx (env.put i (.ol ms'))) := by
  unfold sAugI
  rw [h1, h2, h3]
  simp only [place_z h4, h5, h6, setE_z h4]
theorem mSet_nat {L : List Int} {i : Nat} {x : Int} (h : i < L.length) : mSet ((L.map D.int).map .fz) [.fz (.int (i : Int)), .fz (.int x)] = some (((L.set i x).map D.int).map .fz, .fz .non) := by
  have hx : L2.ixN L.length (i : Int) = some i := by
    unfold L2.ixN
    rw [if_pos (by omega), if_pos (by exact_mod_cast h), Int.toNat_natCast]
  unfold mSet
  simp only [List.length_map, hx]
  simp [List.map_set]
theorem atI_ints {L : List Int} {i : Nat} (h : i < L.length) : L2.atI ((L.map D.int).map M.fz) (i : Int) = some (.fz (.int L[i])) := by
  refine atI_nat ?_
  simp [h]
theorem elems_o {env : En} {ms : List M} : elems env (.ol ms) = some (true, ms) := by rfl
theorem cat_oo {env : En} {xs ys : List D} (h : xs.length + ys.length ≤ sizeLine) : oAdd env [oD xs, oD ys] = some (oD (xs ++ ys)) := by
  have h1 : sop iAdd env [oD xs, oD ys] = none := by
    unfold sop
    rw [dats_o (dats_o dats_n)]
    rfl
  have h2 : sop gStr env [oD xs, oD ys] = none := by
    unfold sop
    rw [dats_o (dats_o dats_n)]
    rfl
  have h3 : oCat env [oD xs, oD ys] = some (oD (xs ++ ys)) := by
    unfold oCat
    simp only [elems_o, List.length_map]
    rw [if_pos h]
    show _ = some (M.ol ((xs ++ ys).map M.fz))
    rw [List.map_append]
  show oOr (sop iAdd) (oOr (sop gStr) oCat) env _ = _
  unfold oOr
  rw [h1, h2, h3]
theorem slice_s {env : En} {f : En → Option M} {ns : List Int} {k : Int} (h : f env = some (.fz (.scr ns))) : oSl f none (some (cst (.int k))) env = some (oI (cutM ns none (some k))) := by
  unfold oSl sPart
  rw [h]
  show some (M.ol ((cutM ns none (some k)).map fun n => .fz (.int n))) = _
  show _ = some (M.ol (((cutM ns none (some k)).map D.int).map M.fz))
  rw [List.map_map]
  rfl
theorem sub_cut {α : Type} (xs : List α) (k : Nat) : cutM xs none (some (k : Int)) = xs.take k := by
  unfold cutM
  have : ¬ (k : Int) < 0 := by omega
  simp [HT.sIx, this, List.take_eq_take_iff]
theorem idx_b {env : En} {i : Nat} {L : List Int} {k : Nat} (h : env.get i = some (oI L)) (hk : k < L.length) : oIdx env [.bp i [], .fz (.int (k : Int))] = some (.fz (.int L[k])) := by
  have h1 : oIx true env [.bp i [], .fz (.int (k : Int))] = some (.fz (.int L[k])) := by
    show (match elems env (.bp i []) with
      | some (c, xs) => if c = true then L2.atI xs (k : Int) else none
      | none => none) = _
    rw [elems_b h]
    exact atI_ints hk
  show oOr (oIx true) _ env _ = _
  unfold oOr
  rw [h1]
theorem idx_i {env : En} {L : List Int} {k : Nat} (hk : k < L.length) : oIdx env [.fz (lI L), .fz (.int (k : Int))] = some (.fz (.int L[k])) :=
  idx_f (atI_nat (by simp [hk]))
theorem append_ints {L : List Int} {x : Int} (h : L.length < sizeLine) : mAppend ((L.map D.int).map .fz) [.fz (.int x)] = some (((L ++ [x]).map D.int).map .fz, .fz .non) := by
  rw [append_fz (by simpa using h), List.map_append, List.map_append]
  rfl
theorem k_eqF {env : En} {i j : Int} : sop (gEq false) env [.fz (.int i), .fz (.int j)] = some (.fz (.bl (i == j))) := k_eq.trans (by simp)
theorem k_eqT {env : En} {i j : Int} : sop (gEq true) env [.fz (.int i), .fz (.int j)] = some (.fz (.bl (!(i == j)))) := k_eq.trans (by simp)
theorem lifI_of {it : En → Option (List D)} {env : En} {ds : List D} (h : it env = some ds) : lifI it env = some (ds, env) := by
  unfold lifI
  rw [h]
/-- a list, a sign and a number as a tuple -/
abbrev sayM (R : List Int) (s : Str) (x : Int) : M := .ot [oI R, .fz (.str s), .fz (.int x)]
theorem slots_say (R : List Int) (s : Str) (x : Int) : slots (sayM R s x) = [] := by
  show slotsL ((R.map D.int).map .fz) ++ ([] ++ ([] ++ [])) = []
  rw [slotsL_fz]
  rfl
theorem shut_say (k : Nat) (R : List Int) (s : Str) (x : Int) : shut (k + 2) (sayM R s x) = some (sayM R s x) := by
  show (shutL (k + 1) [oI R, .fz (.str s), .fz (.int x)]).map M.ot = _
  have h : shut (k + 1) (oI R) = some (oI R) := by
    show (shutL k ((R.map D.int).map .fz)).map M.ol = _
    rw [shutL_fz]
    rfl
  have e : shutL (k + 1) [oI R, .fz (.str s), .fz (.int x)] = (match shut (k + 1) (oI R), shutL (k + 1) [.fz (.str s), .fz (.int x)] with
    | some n, some ns => some (n :: ns)
    | _, _ => none) := by rfl
  rw [e, h]
  rfl
theorem stow_say {env : En} (k : Nat) (R : List Int) (s : Str) (x : Int) : stow (k + 2) env (sayM R s x) = some (sayM R s x, env) := by
  unfold stow
  rw [slots_say]
  show (shut (k + 2) (sayM R s x)).map _ = _
  rw [shut_say]
  rfl
theorem retM_say {lk : Nat → Bool} {env : En} (R : List Int) (s : Str) (x : Int) : retM lk env (some (sayM R s x)) = some (.rt (sayM R s x) env) := by
  unfold retM sRet
  show (match stow 9 env (sayM R s x) with
    | some (m', e2) => some (Fl.rt m' e2)
    | none => none) = _
  rw [stow_say 7]
end T2
end
section
set_option Elab.async false
set_option linter.all false
set_option maxRecDepth 100000
namespace T2
open PySem PySem.Spec PyProof.Rows L2
/-- own slots as they were, the others as they are -/
def En.back : List Nat → En → En → En
  | [], _, e => e
  | v :: vs, o, e => (En.back vs o e).set v (o.get v)
/-- own slots hold nothing that changes -/
def okV (env : En) : List Nat → Bool
  | [] => true
  | v :: vs => (match env.get v with
    | none => true
    | some (.fz _) => true
    | _ => false) && okV env vs
section
variable {K : PySem.W.Frag} {F H F' H' F1 H1 F2 H2 : Hp} {σ σ' σ1 σ2 : L2.St} {env env' e1 e2 o : En} {fp fp' fp1 fp2 : Nat → List Addr} {vs : List Nat}
theorem En.back_len : (En.back vs o e2).length = e2.length := by
  induction vs with
  | nil => rfl
  | cons v vs ih => simp only [En.back, List.length_set]; exact ih
theorem En.get_back {i : Nat} (hl : o.length = e2.length) : (En.back vs o e2).get i = if i ∈ vs then o.get i else e2.get i := by
  induction vs with
  | nil => simp [En.back]
  | cons v vs ih =>
    simp only [En.back]
    by_cases h : i = v
    · subst h
      by_cases hi : i < e2.length
      · have : En.get ((En.back vs o e2).set i (o.get i)) i = o.get i := by
          unfold En.get
          rw [List.getElem?_set_self (by rw [En.back_len]; exact hi)]
          cases o[i]? with
          | none => rfl
          | some x => cases x <;> rfl
        rw [this]
        simp
      · have h1 : En.get ((En.back vs o e2).set i (o.get i)) i = none := by
          unfold En.get
          rw [List.getElem?_eq_none (by rw [List.length_set, En.back_len]; omega)]
        have h2 : o.get i = none := by
          unfold En.get
          rw [List.getElem?_eq_none (by omega)]
        rw [h1, h2]
        simp
    · have : En.get ((En.back vs o e2).set v (o.get v)) i = (En.back vs o e2).get i := by
        unfold En.get
        rw [List.getElem?_set_ne (Ne.symm h)]
      rw [this, ih]
      by_cases hm : i ∈ vs <;> simp [hm, h]
theorem okV_get : ∀ {vs : List Nat} {i : Nat} {m : M}, okV env vs = true → i ∈ vs → env.get i = some m → ∃ d, m = .fz d
  | v :: vs, i, m, h, hi, e => by
    simp only [okV, Bool.and_eq_true] at h
    rcases List.mem_cons.mp hi with rfl | hi
    · have := h.1
      rw [e] at this
      cases m with
      | fz d => exact ⟨d, rfl⟩
      | bp => cases this
      | ol => cases this
      | ot => cases this
      | oi => cases this
      | od => cases this
      | odt _ => cases this
    · exact okV_get h.2 hi e
theorem ond_wipe {a : Addr} (h : Ond (env.wipe vs) fp a) : Ond env fp a := by
  obtain ⟨i, m, e, ha⟩ := h
  exact ⟨i, m, (En.get_wipe e).1, ha⟩
theorem Go.frame (g : Go K [] (L2.wipe σ vs) (env.wipe vs) fp F H σ2 e2 fp2 F2 H2) (ok : EnvOk K F H σ env fp) (hs : L2.wipe σ2 vs = L2.wipe σ vs) (hl : σ2.length = σ.length) (hv : okV env vs = true) :
    Go K [] σ env fp F H σ (En.back vs env e2) (fun i => if i ∈ vs then [] else fp2 i) F2 H2 := by
  have hel : env.length = e2.length := by rw [g.ok.len, hl, ok.len]
  have hon : ∀ a, Ond (En.back vs env e2) (fun i => if i ∈ vs then [] else fp2 i) a → Ond e2 fp2 a := fun a ⟨i, m, e, ha⟩ => by
    by_cases hi : i ∈ vs
    · simp only [hi, if_true] at ha
      cases ha
    · simp only [hi, if_false] at ha
      rw [En.get_back hel, if_neg hi] at e
      exact ⟨i, m, e, ha⟩
  refine ⟨g.fr, fun a o e no z => g.keep a o e (fun w => no (ond_wipe w)) z, g.stay, fun a z => ?_, fun a z => ?_, ?_, g.lok⟩
  · rcases g.nw a z with z | z | z | z
    · exact .inl z
    · exact .inr (.inl z)
    · exact .inr (.inr (.inl (ond_wipe z)))
    · cases z
  · rcases g.nf a (hon a z) with z | z | z
    · exact .inl z
    · exact .inr (.inl (ond_wipe z))
    · cases z
  · refine ⟨by rw [En.back_len, ← hel]; exact ok.len, g.ok.sub, fun i m e => ?_, fun i m e => ?_, fun i j m n a e e' ha hb => ?_⟩
    · rw [En.get_back hel] at e
      by_cases hi : i ∈ vs
      · rw [if_pos hi] at e
        obtain ⟨d, rfl⟩ := okV_get hv hi e
        obtain ⟨v, h1, h2⟩ := ok.slot i _ e
        refine ⟨v, h1, ?_⟩
        simp only [hi, if_true]
        simp only [Own] at h2 ⊢
        exact ⟨trivial, Rep.mono g.fr _ _ h2.2⟩
      · rw [if_neg hi] at e
        obtain ⟨v, h1, h2⟩ := g.ok.slot i m e
        refine ⟨v, ?_, by simp only [hi, if_false]; exact h2⟩
        rw [← wipe_get (σ := σ) hi, ← hs, wipe_get hi]
        exact h1
    · by_cases hi : i ∈ vs
      · simp only [hi, if_true]
        exact List.nodup_nil
      · rw [En.get_back hel, if_neg hi] at e
        simp only [hi, if_false]
        exact g.ok.nd i m e
    · by_cases hi : i ∈ vs
      · simp only [hi, if_true] at ha
        cases ha
      · by_cases hj : j ∈ vs
        · simp only [hj, if_true] at hb
          cases hb
        · rw [En.get_back hel, if_neg hi] at e
          rw [En.get_back hel, if_neg hj] at e'
          simp only [hi, if_false] at ha
          simp only [hj, if_false] at hb
          exact g.ok.dj i j m n a e e' ha hb
/-- a new node of our own is written -/
theorem Go.upd {D : Addr} {u : HO} (g : Go K [] σ env fp F H σ1 e1 fp1 F1 H1) (hD : H D = none) (hF : F1 D = none) (hn : ¬ Ond e1 fp1 D) : Go K [] σ env fp F H σ1 e1 fp1 F1 (upd H1 D u) := by
  refine ⟨g.fr, fun a o e no z => ?_, fun a z => ?_, g.nw, g.nf, ?_, fun a od u e => by rw [upd_ne (ne_of_none e hD)]; exact g.lok a od u e⟩
  · rw [upd_ne (ne_of_none e hD)]
    exact g.keep a o e no z
  · by_cases h : a = D
    · rw [h]
      exact hD
    · rw [upd_ne h] at z
      exact g.stay a z
  · refine ⟨g.ok.len, fun b o e => ?_, fun i m e => ?_, g.ok.nd, g.ok.dj⟩
    · rw [upd_ne fun z => by rw [z, hF] at e; cases e]
      exact g.ok.sub _ _ e
    · obtain ⟨v, h1, h2⟩ := g.ok.slot i m e
      exact ⟨v, h1, h2.mono (.refl _) (fun _ _ _ z => z) _ _ _ fun a ha => ⟨(h2.at _ _ _ a ha).1, fun o e' => by
        rw [upd_ne fun z : a = D => hn ⟨i, m, e, by rw [← z]; exact ha⟩]
        exact e'⟩⟩
end
/-- the items, the outer slots going along -/
def lcLX (vs : List Nat) (t : Tg) (cond : En → Option Bool) (elt : En → Option (M × En)) : List D → En → Option (List M × En)
  | [], env => some ([], env)
  | d :: ds, env => match asT (lkOf vs) t d (env.wipe vs) with
    | some e1 => match cond e1 with
      | some true => match elt e1 with
        | some (m, e2) => if (slots m).isEmpty && okV env vs then (match lcLX vs t cond elt ds (En.back vs env e2) with
          | some (ms, e3) => some (m :: ms, e3)
          | none => none) else none
        | none => none
      | some false => lcLX vs t cond elt ds env
      | none => none
    | none => none
def lcX (vs : List Nat) (t : Tg) (it : En → Option (List D × En)) (cond : En → Option Bool) (elt : En → Option (M × En)) : En → Option (M × En) := fun env => match it env with
  | some (ds, e1) => match lcLX vs t cond elt ds e1 with
    | some (ms, e2) => if ms.length ≤ sizeLine then some (.ol ms, e2) else none
    | none => none
  | none => none
section
variable {X : Cx} {elt tg iter : Expr} {ifs : List Expr} {scope : Scope} {own : List (Str × Nat)} {pos : Pos} {it : En → Option (List D × En)} {t : Tg} {cond : En → Option Bool} {f : En → Option (M × En)}
theorem tLcX_ok {vs : List Nat} {σ : L2.St} {H : Hp} {Q : VK} (h : tX X.K (lcX vs t it cond f) σ H Q) : tLc (tI X.K it) (tT X.K (lkOf vs) t) (tDT X.K cond) (tX X.K f) vs σ H Q := by
  obtain ⟨env, m, env', F, fp, e, ok, q⟩ := h
  unfold lcX at e
  split at e
  · rename_i ds e1 hds
    split at e
    · rename_i ms ef hms
      split at e
      · rename_i hsz
        cases e
        refine ⟨env, ds, e1, F, fp, hds, ok, fun J F1 H1 fp1 g1 ji => fun Da hD => ?_⟩
        have hDH : H Da = none := g1.stay _ hD
        have hDF : F1 Da = none := g1.ok.sub.free hD
        have hDo : ∀ {en : En} {f : Nat → List Addr} {G B : Hp} {s : L2.St}, EnvOk X.K G B s en f → B Da = none → ¬ Ond en f Da := fun ok' z w => by
          obtain ⟨_, o, e⟩ := ok'.at w
          rw [z] at e
          cases e
        refine ⟨fun i mm H2 => mm = ds.length - i ∧ i ≤ ds.length ∧ ∃ ei F2 fp2 ms1 ms2 ws A, ms = ms1 ++ ms2 ∧ lcLX vs t cond f (ds.drop i) ei = some (ms2, env') ∧ H2 Da = some (.lst ws) ∧ F2 Da = none ∧ ¬ Ond ei fp2 Da ∧ OwnL X.K noBr F2 H2 ms1 ws A ∧ (Da :: A).Nodup ∧ (∀ a ∈ A, H a = none ∨ Ond env fp a) ∧ (∀ a ∈ A, ¬ Ond ei fp2 a) ∧
            Go X.K [] σ env fp F H σ ei fp2 F2 H2 ∧ Same F1 F2,
          ⟨_, rfl, Nat.zero_le _, e1, F1, fp1, [], ms, [], [], rfl, by rw [List.drop_zero]; exact hms, upd_same, hDF, hDo g1.ok hD, ownL_nil, by simp, (fun a z => by cases z), (fun a z => by cases z), g1.upd hDH hDF (hDo g1.ok hD), .refl _⟩, fun i mm H2 hW => ?_⟩
        obtain ⟨rfl, hi, ei, F2, fp2, ms1, ms2, ws, A, em, hl, hDa, hFa, hDn, hO, hn, hA, hAn, g, sF⟩ := hW
        by_cases hlt : i < ds.length
        · right
          obtain ⟨d, hd⟩ : ∃ d, ds[i]? = some d := ⟨_, List.getElem?_eq_getElem hlt⟩
          have hdrop : ds.drop i = d :: ds.drop (i + 1) := by
            rw [List.drop_eq_getElem_cons hlt]
            rw [List.getElem?_eq_getElem hlt] at hd
            cases hd
            rfl
          rw [hdrop] at hl
          simp only [lcLX] at hl
          obtain ⟨j1, j2⟩ := ji.go i F2 H2 d sF (sF.trans g.ok.sub) g.ok.sub hd
          refine ⟨j1, fun H5 => ∃ ei F2 fp2 ms1 ms2 ws A, ms = ms1 ++ ms2 ∧ lcLX vs t cond f (ds.drop (i + 1)) ei = some (ms2, env') ∧ H5 Da = some (.lst ws) ∧ F2 Da = none ∧ ¬ Ond ei fp2 Da ∧ OwnL X.K noBr F2 H5 ms1 ws A ∧ (Da :: A).Nodup ∧ (∀ a ∈ A, H a = none ∨ Ond env fp a) ∧ (∀ a ∈ A, ¬ Ond ei fp2 a) ∧
            Go X.K [] σ env fp F H σ ei fp2 F2 H5 ∧ Same F1 F2, fun H5 z => ⟨ds.length - (i + 1), by omega, rfl, hlt, z⟩, fun x H3 hy => ?_⟩
          obtain ⟨F3, s3, rx⟩ := j2 x H3 hy
          have g3 := g.trans (s3.go g.ok fun a z => by cases z) (fun a z => by cases z)
          have n3 : ∀ a, a ∈ Da :: A → F3 a = none ∧ (∃ o, H3 a = some o) ∧ ¬ Ond ei fp2 a ∧ a ∉ ([] : List Addr) := fun a ha => by
            have hh : F2 a = none ∧ (∃ o, H2 a = some o) ∧ ¬ Ond ei fp2 a := by
              rcases List.mem_cons.mp ha with rfl | ha
              · exact ⟨hFa, ⟨_, hDa⟩, hDn⟩
              · exact ⟨(hO.at _ _ _ a ha).1, (hO.at _ _ _ a ha).2, hAn a ha⟩
            obtain ⟨o, ho⟩ := hh.2.1
            refine ⟨?_, ⟨o, s3.hp _ _ ho⟩, hh.2.2, by simp⟩
            cases z : F3 a with
            | none => rfl
            | some u =>
              rcases s3.nw a (by rw [z]; simp) with w | w | w
              · exact absurd hh.1 w
              · rw [ho] at w
                cases w
              · cases w
          have k3 : ∀ a ∈ Da :: A, ∀ o, H2 a = some o → H3 a = some o := fun a _ o e => s3.hp _ _ e
          split at hl
          · rename_i e1' h1
            refine ⟨d, ei.wipe vs, e1', F3, fp2, rx, h1, g3.ok.wipe vs, fun σ2 fp3 g4 l2 => ?_⟩
            have hlen : σ2.length = σ.length := by
              rw [← g4.ok.len]
              have : e1'.length = (ei.wipe vs).length := asT_len t d _ _ h1
              rw [this, En.wipe_length]
              exact g3.ok.len
            refine ⟨wipe_same l2 hlen, ?_⟩
            split at hl
            · rename_i hc
              refine ⟨e1', true, F3, fp3, hc, g4.ok, fun F4 H4 s4 => iteT ?_⟩
              split at hl
              · rename_i m1 e2 hm1
                split at hl
                · rename_i hs1
                  simp only [Bool.and_eq_true, List.isEmpty_iff] at hs1
                  obtain ⟨hs1, hv⟩ := hs1
                  split at hl
                  · rename_i ms' ef' hms'
                    cases hl
                    have g44 := g4.trans (s4.go g4.ok fun a z => by cases z) (fun a z => by cases z)
                    refine ⟨e1', m1, e2, F4, fp3, hm1, g44.ok, fun y F5 H5 fp5 B g5 o5 n5 a5 b5 => ?_⟩
                    have g45 := g44.trans g5 (fun a z => by cases z)
                    have gf := g45.frame g3.ok (wipe_same l2 hlen) hlen hv
                    have gw := g3.trans gf (fun a z => by cases z)
                    have tm := gf.tmp n3
                    have onb : ∀ a, Ond (En.back vs ei e2) (fun i => if i ∈ vs then [] else fp5 i) a → Ond e2 fp5 a := fun a ⟨i, m, e, ha⟩ => by
                      have hel : ei.length = e2.length := by rw [g45.ok.len, hlen, g3.ok.len]
                      by_cases hi : i ∈ vs
                      · simp only [hi, if_true] at ha
                        cases ha
                      · simp only [hi, if_false] at ha
                        rw [En.get_back hel, if_neg hi] at e
                        exact ⟨i, m, e, ha⟩
                    have nb : ∀ a ∈ Da :: A, ¬ Ond (En.back vs ei e2) (fun i => if i ∈ vs then [] else fp5 i) a := fun a ha w => by
                      obtain ⟨h1, ⟨o, h2⟩, h3, _⟩ := n3 a ha
                      rcases gf.nf a w with z | z | z
                      · rw [h2] at z
                        cases z
                      · exact h3 z
                      · cases z
                    have hDa5 : H5 Da = some (.lst ws) := (tm Da (List.mem_cons_self ..)).2 _ (k3 Da (List.mem_cons_self ..) _ hDa)
                    have hFa5 : F5 Da = none := (tm Da (List.mem_cons_self ..)).1
                    have hO5 : OwnL X.K noBr F5 H5 ms1 ws A := hO.mono (s3.fr.trans gf.fr) (fun _ _ _ z => z) _ _ _ fun a ha => ⟨(tm a (List.mem_cons_of_mem _ ha)).1, fun o e => (tm a (List.mem_cons_of_mem _ ha)).2 _ (k3 a (List.mem_cons_of_mem _ ha) _ e)⟩
                    have hlen1 : ms1.length = ws.length := hO5.len
                    have hB4 : ∀ b ∈ B, b ∉ Da :: A := fun b hb z => by
                      obtain ⟨h1, ⟨o, h2⟩, h3, _⟩ := n3 b z
                      rcases a5 b hb with w | w
                      · rw [s4.hp _ _ h2] at w
                        cases w
                      · rcases g4.nf b w with w | w | w
                        · rw [h2] at w
                          cases w
                        · exact h3 (ond_wipe w)
                        · cases w
                    refine ⟨ws, hDa5, ?_, ?_⟩
                    · rw [← hlen1]
                      rw [em, List.length_append, List.length_cons] at hsz
                      omega
                    · have hn' := List.nodup_cons.mp hn
                      have nDB : Da ∉ B := fun z => hB4 Da z (List.mem_cons_self ..)
                      have o5' := clean (br' := noBr) m1 y B hs1 o5
                      have up : ∀ c o, c ≠ Da → H5 c = some o → (upd H5 Da (.lst (ws ++ [y]))) c = some o := fun c o ne e => by rw [upd_ne ne]; exact e
                      refine ⟨En.back vs ei e2, F5, fun i => if i ∈ vs then [] else fp5 i, ms1 ++ [m1], ms', ws ++ [y], A ++ B, by rw [em, List.append_assoc]; rfl, hms', upd_same, hFa5, nb Da (List.mem_cons_self ..), ?_, ?_, ?_, ?_, gw.upd hDH hFa5 (nb Da (List.mem_cons_self ..)), (sF.trans s3.fr).trans gf.fr⟩
                      · refine OwnL.append (hO5.mono (.refl _) (fun _ _ _ z => z) _ _ _ fun a ha => ⟨(hO5.at _ _ _ a ha).1, fun o e => up a o (fun z => hn'.1 (z ▸ ha)) e⟩) ?_
                        simp only [OwnL]
                        refine ⟨y, [], B, [], rfl, by rw [List.append_nil], o5'.mono (.refl _) (fun _ _ _ z => z) _ _ _ fun a ha => ⟨(o5'.at _ _ _ a ha).1, fun o e => up a o (fun z => nDB (z ▸ ha)) e⟩, rfl, rfl⟩
                      · refine List.nodup_cons.mpr ⟨fun z => ?_, List.nodup_append.mpr ⟨hn'.2, n5, fun a ha b hb e => hB4 b hb (e ▸ List.mem_cons_of_mem _ ha)⟩⟩
                        rcases List.mem_append.mp z with z | z
                        · exact hn'.1 z
                        · exact nDB z
                      · intro a ha
                        rcases List.mem_append.mp ha with z | z
                        · exact hA a z
                        · rcases a5 a z with w | w
                          · exact .inl (g3.stay a (g44.stay a w))
                          · rcases g44.nf a w with w | w | w
                            · exact .inl (g3.stay a w)
                            · exact g3.ond (ond_wipe w)
                            · cases w
                      · intro a ha
                        rcases List.mem_append.mp ha with z | z
                        · exact nb a (List.mem_cons_of_mem _ z)
                        · exact fun w => b5 a z (onb a w)
                  · cases hl
                · cases hl
              · cases hl
            · rename_i hc
              refine ⟨e1', false, F3, fp3, hc, g4.ok, fun F4 H4 s4 => iteF ?_⟩
              have s34 : Step [] F2 H2 F4 H4 := s3.trans s4 fun a z => by cases z
              have g34 := g.trans (s34.go g.ok fun a z => by cases z) (fun a z => by cases z)
              have n4 : ∀ a ∈ Da :: A, F4 a = none := fun a ha => by
                obtain ⟨h1, ⟨o, h2⟩, _, _⟩ := n3 a ha
                cases z : F4 a with
                | none => rfl
                | some u =>
                  rcases s4.nw a (by rw [z]; simp) with w | w | w
                  · exact absurd h1 w
                  · rw [h2] at w
                    cases w
                  · cases w
              exact ⟨ei, F4, fp2, ms1, ms2, ws, A, em, hl, s34.hp _ _ hDa, n4 Da (List.mem_cons_self ..), hDn, hO.mono s34.fr (fun _ _ _ z => z) _ _ _ (fun a ha => ⟨n4 a (List.mem_cons_of_mem _ ha), s34.hp a⟩), hn, hA, hAn, g34, sF.trans s34.fr⟩
            · cases hl
          · cases hl
        · left
          have hi' : i = ds.length := by omega
          subst hi'
          rw [List.drop_length] at hl
          cases hl
          rw [List.append_nil] at em
          subst em
          refine ⟨ji.stop _ F2 H2 sF (sF.trans g.ok.sub) g.ok.sub (Nat.le_refl _), q _ F2 H2 fp2 (Da :: A) g ?_ hn (fun a ha => ?_) (fun a ha => ?_)⟩
          · simp only [Own]
            exact ⟨Da, ws, A, rfl, rfl, hFa, hDa, hO.mono (.refl _) (fun _ _ _ z => z.elim) _ _ _ fun a ha => ⟨(hO.at _ _ _ a ha).1, fun _ z => z⟩⟩
          · rcases List.mem_cons.mp ha with rfl | z
            · exact .inl hDH
            · exact hA a z
          · rcases List.mem_cons.mp ha with rfl | z
            · exact hDn
            · exact hAn a z
      · cases e
    · cases e
  · cases e
/-- name = [..] -/
theorem pds_setLcX {lk : Nat → Bool} {i k : Nat} {y : Str} {py spos : Pos} (hc : X.calm = true) (hN : X.N.Nodup) (hy : X.N[i]? = some y) (hyl : X.env.scope.names.lookup y = some .local)
    (hsw : swapsWith (.ListComp elt [⟨tg, iter, ifs, 0⟩] scope pos) (some (.Name y py)) spos.line X.env = pure true) (hi : PDI X tg iter it) (ok : BlkOk X.N X.env.scope scope own)
    (hg : ∀ (s : Shared) (H : Hp) (C : Addr) (cl : List (Str × Addr)) (fp : List Addr), PT' (X.blk s H scope (compEnvC scope cl C X.env) fp) (lkOf (own.map (·.2))) tg t)
    (ht : ∀ (s : Shared) (H : Hp) (C : Addr) (cl : List (Str × Addr)) (fp : List Addr), PTs (X.blk s H scope (compEnvC scope cl C X.env) fp) ifs (tDT X.K cond))
    (he : ∀ (s : Shared) (H : Hp) (C : Addr) (cl : List (Str × Addr)) (fp : List Addr), PX (X.blk s H scope (compEnvC scope cl C X.env) fp) elt f) (hs : ∀ x, foldedSetIterable iter X.env x = pure x := by intro _; rfl) :
    PDS X lk (.Assign [.Name y py] (.ListComp elt [⟨tg, iter, ifs, 0⟩] scope pos) spos) (sAsg lk i k (lcX (own.map (·.2)) t it cond f)) :=
  pds_asg (PS.imp (ps_setLc (g := tT X.K (lkOf (own.map fun p : Str × Nat => p.2)) t) (tt := tDT X.K cond) (te := tX X.K f) hc hN hy hyl hsw hi ok hg ht he hs) fun D σ H q => tLcX_ok q)
end
end T2
end
section
set_option Elab.async false
set_option linter.all false
set_option maxRecDepth 100000
namespace T2
open PySem
section
variable {env e1 e2 e3 : En} {f g t : En → Option M} {fs : En → Option (List M)} {a b r m m' : M} {ms bs as : List M} {o : En → List M → Option M} {d : D} {i k : Nat} {S T : En → Option Fl} {R : Option Fl} {c c' : Bool}
theorem x_nam {i : Nat} (h : env.get i = some m) (h' : namM i (some m) = some r) : nam i env = some r := by rw [e_nam, h, h']
theorem x_lifT {t : En → Option Bool} (h : t env = some c) : lifT t env = some (c, env) := by unfold lifT; rw [h]
theorem x_if {t : En → Option (Bool × En)} (h : t env = some (c, e1)) (h' : (if c = true then S e1 else T e1) = R) : sIf t S T env = R := by
  unfold sIf
  rw [h]
  cases c
  · simpa using h'
  · simpa using h'
theorem x_or {f g : En → Option Bool} (h : f env = some c) (h' : g env = some c') : dOr f g env = some (c || c') := by
  unfold dOr; rw [h]
  cases c
  · simpa using h'
  · rfl
theorem x_and {f g : En → Option Bool} (h : f env = some c) (h' : g env = some c') : dAnd f g env = some (c && c') := by
  unfold dAnd; rw [h]
  cases c
  · rfl
  · simpa using h'
theorem x_vand (h : f env = some (.fz (.bl c))) (h' : g env = some (.fz (.bl c'))) : vAnd f g env = some (.fz (.bl (c && c'))) := by
  unfold vAnd; rw [h]
  cases c
  · rfl
  · simpa using h'
theorem x_vor (h : f env = some (.fz (.bl c))) (h' : g env = some (.fz (.bl c'))) : vOr f g env = some (.fz (.bl (c || c'))) := by
  unfold vOr; rw [h]
  cases c
  · simpa using h'
  · rfl
theorem x_dif {t : En → Option Bool} (h : t env = some c) (h' : f env = some a) (h'' : g env = some b) : dIf t f g env = some (if c = true then a else b) := by
  unfold dIf; rw [h]
  cases c
  · simpa using h''
  · simpa using h'
theorem x_val {t : En → Option Bool} (h : t env = some c) : val t env = some (.fz (.bl c)) := by unfold val; rw [h]
/-- name = value -/
theorem x_asg {lk : Nat → Bool} {i k : Nat} {G : En → Option (M × En)} {m2 : M} (hl : lk i = false) (h : G env = some (m, e1)) (hs : stow k e1 m = some (m', e2)) (hm : m' = m2) (hi : Nat.ble (i + 1) e2.length = true) (he : e2.put i m2 = e3) : sAsg lk i k G env = some (.nx e3) := by
  subst hm he
  exact asgX_of h hs hl (Nat.le_of_ble_eq_true hi)
theorem nrm_I {v w : Int} (h : v = w) : (M.fz (.int v)) = .fz (.int w) := by rw [h]
theorem nrm_B {v w : Bool} (h : v = w) : (M.fz (.bl v)) = .fz (.bl w) := by rw [h]
theorem nrm_O {v w : List Int} (h : v = w) : oI v = oI w := by rw [h]
theorem nrm_L {v w : List Int} (h : v = w) : (M.fz (lI v)) = .fz (lI w) := by rw [h]
theorem x_ret {lk : Nat → Bool} {G : En → Option (M × En)} {m2 : M} (h : G env = some (m, e1)) (hm : m = m2) (hs : retM lk e1 (some m2) = R) : sRet lk G env = R := by
  subst hm
  unfold retM sRet at hs
  unfold sRet
  rw [h]
  exact hs
theorem stow_f {k : Nat} : stow k env (.fz d) = some (.fz d, env) := by cases k <;> rfl
theorem x_mutP {fo : En → Option M} {mu : List M → List M → Option (List M × M)} {ms' : List M} {res : M} {p : List Pa} (h1 : fo env = some (.bp i p)) (h2 : fs env = some as) (h0 : isOl (env.place i p) = true) (h3 : stowA k env as = some (bs, e2)) (h4 : e2.place i p = some (.ol ms)) (h5 : mu ms bs = some (ms', res)) (h6 : setE e2 i p (.ol ms') = some e3) : xMutP k fo fs mu env = some (res, e3) := by
  unfold xMutP
  rw [h1]
  simp only [h2, h0, h3, if_true, h4, h5, h6]
theorem setE_put {m0 : M} (h : env.get i = some m0) (he : env.put i m = e1) : setE env i [] m = some e1 := by subst he; exact setE_z h
theorem x_mut {fo : En → Option M} {gs : En → Option (List M × En)} {mu : List M → List M → Option (List M × M)} {ms' : List M} {res : M} (h1 : fo env = some (.bp i [])) (h2 : gs env = some (as, e1)) (h0 : alv e1 (.bp i []) = true ∧ isOl (env.place i []) = true) (h3 : stowA k e1 as = some (bs, e2)) (h4 : e2.get i = some (.ol ms)) (h5 : mu ms bs = some (ms', res)) (he : e2.put i (.ol ms') = e3) : xMut k fo gs mu env = some (res, e3) := by
  subst he
  exact mutX_of h1 h2 h0 h3 h4 h5
theorem x_callI {io : List Bool} {F : Fn} {gs : En → Option (List M × En)} {i : Nat} {rest tl cs : List M} {n n' : M} (h1 : gs env = some (.bp i [] :: rest, e1)) (h2 : slotsL rest = []) (h3 : e1.get i = some n) (h4 : shutZ io.tail rest = some cs) (h5 : F (n :: cs) = some (r, n' :: tl)) (he : e1.put i n' = e2) : callI io F gs env = some (r, e2) := by
  subst he
  exact callI_of h1 h2 h3 h4 h5
theorem x_set {fo fi : En → Option M} {G : En → Option (M × En)} {ms' : List M} {r2 : M} {j : Int} (h1 : G env = some (m, e1)) (h2 : stow k e1 m = some (m', e2)) (h3 : fo e2 = some (.bp i [])) (h4 : fi e2 = some (.fz (.int j))) (h5 : e2.get i = some (.ol ms)) (h6 : mSet ms [.fz (.int j), m'] = some (ms', r2)) (he : e2.put i (.ol ms') = e3) : sSet k fo fi G env = some (.nx e3) := by
  subst he
  exact set_of h1 h2 h3 h4 h5 h6
theorem x_augN {lk : Nat → Bool} {op : Int → Int → Int} {i : Nat} {G : En → Option (M × En)} {x y : Int} (h : env.get i = some (.fz (.int x))) (h' : G env = some (.fz (.int y), e1)) (hl : lk i = false) (hi : Nat.ble (i + 1) e1.length = true) (he : e1.put i (.fz (.int (op x y))) = e2) : sAugN lk op i G env = some (.nx e2) := by
  subst he
  unfold sAugN
  rw [h]
  simp only [h']
  rw [if_pos ⟨hl, Nat.le_of_ble_eq_true hi⟩]
theorem x_for {lk : Nat → Bool} {t : Tg} {it : En → Option (List D × En)} {ds : List D} (h : it env = some (ds, e1)) (h' : lpF lk t S ds e1 = R) : sFor lk t it S env = R := for_of h h'
/-- ranges -/
theorem x_rng1 {j : Int} (h : fs env = some [.fz (.int j)]) (h' : inR j = true) : itR1 fs env = some (rngD 0 j.toNat) := by
  unfold itR1
  rw [h]
  simp only [h', if_true]
theorem x_rng2 {i j : Int} (h : fs env = some [.fz (.int i), .fz (.int j)]) (h' : inR i = true) (h'' : inR j = true) : itR2 fs env = some (rngD i (j - i).toNat) := by
  unfold itR2
  rw [h]
  simp only [h', h'', Bool.and_self, if_true]
theorem rngD0 (n : Nat) : rngD 0 n = (List.range n).map fun k : Nat => D.int k := by unfold rngD; simp
theorem inR_of {j : Int} (h : -(2 ^ 62) ≤ j) (h' : j < 2 ^ 62) : inR j = true := by unfold inR; exact decide_eq_true ⟨h, h'⟩
theorem x_xop {gs : En → Option (List M × En)} (h : gs env = some (ms, e1)) (h' : o e1 ms = some r) : xop o gs env = some (r, e1) := xop_of h h'
theorem isi_int {x : Int} (h : f env = some (.fz (.int x))) : oIsi (kitT "int") f env = some (.fz (.bl true)) := by
  unfold oIsi; rw [h]; rfl
theorem isi_nbool {x : Int} (h : f env = some (.fz (.int x))) : oIsi (kitT "bool") f env = some (.fz (.bl false)) := by
  unfold oIsi; rw [h]; rfl
theorem items_lst {ds : List D} (h : f env = some m) (h' : items env m = some (.lst ds)) : itP true f env = some ds := by
  unfold itP
  rw [h]
  simp only [h']
  rfl
def at1 (L : List Int) (j : Int) : Int := L.getD j.toNat 0
theorem at1_nat {L : List Int} {k : Nat} (h : k < L.length) : at1 L k = L[k] := by unfold at1; simp [h]
theorem x_idxF {L : List Int} {j : Int} (h0 : 0 ≤ j) (h1 : j < L.length) : oIdx env [.fz (lI L), .fz (.int j)] = some (.fz (.int (at1 L j))) := by
  obtain ⟨k, rfl⟩ : ∃ k : Nat, j = k := ⟨j.toNat, by omega⟩
  have hk : k < L.length := by omega
  rw [at1_nat hk]
  exact idx_i hk
theorem x_idxB {i : Nat} {L : List Int} {j : Int} (h : env.get i = some (oI L)) (h0 : 0 ≤ j) (h1 : j < L.length) : oIdx env [.bp i [], .fz (.int j)] = some (.fz (.int (at1 L j))) := by
  obtain ⟨k, rfl⟩ : ∃ k : Nat, j = k := ⟨j.toNat, by omega⟩
  have hk : k < L.length := by omega
  rw [at1_nat hk]
  exact idx_b h hk
theorem x_idxO {L : List Int} {j : Int} (h0 : 0 ≤ j) (h1 : j < L.length) : oIdx env [oI L, .fz (.int j)] = some (.fz (.int (at1 L j))) := by
  obtain ⟨k, rfl⟩ : ∃ k : Nat, j = k := ⟨j.toNat, by omega⟩
  have hk : k < L.length := by omega
  rw [at1_nat hk]
  have h1 : oIx true env [oI L, .fz (.int (k : Int))] = some (.fz (.int L[k])) := by
    show L2.atI ((L.map D.int).map M.fz) (k : Int) = _
    exact atI_ints hk
  show oOr (oIx true) _ env _ = _
  unfold oOr
  rw [h1]
theorem x_lenI {L : List Int} (h : f env = some m) (hd : dats env [m] = some [lI L]) : opr (sop gLen) (aCons f aNil) env = some (.fz (.int L.length)) := by
  have := len_b h hd
  rwa [List.length_map] at this
theorem x_lenS {ns : List Int} (h : f env = some (.fz (.scr ns))) : opr (sop gLen) (aCons f aNil) env = some (.fz (.int ns.length)) :=
  opr_of (acons_of h e_anil) (sop_of (dats_f dats_n) (show gLen [.scr ns] = some (.int ns.length) from rfl) rfl)
theorem x_sumI {L : List Int} (h : f env = some a) (ha : dats env [a] = some [lI L]) : opr (sop gSum) (aCons f aNil) env = some (.fz (.int L.sum)) := sum_of h ha
theorem x_append {L : List Int} {x : Int} (h : (L.length : Int) < 16777216) : mAppend ((L.map D.int).map .fz) [.fz (.int x)] = some (((L ++ [x]).map D.int).map .fz, .fz .non) := append_ints (by simp only [sizeLine]; omega)
theorem x_mset {L : List Int} {j x : Int} (h0 : 0 ≤ j) (h1 : j < L.length) : mSet ((L.map D.int).map .fz) [.fz (.int j), .fz (.int x)] = some (((L.set j.toNat x).map D.int).map .fz, .fz .non) := by
  obtain ⟨k, rfl⟩ : ∃ k : Nat, j = k := ⟨j.toNat, by omega⟩
  rw [mSet_nat (by omega), Int.toNat_natCast]
theorem x_sl {lo hi : Option (En → Option M)} {l h : Option Int} (h0 : f env = some m) (hl : sPart lo env = some l) (hh : sPart hi env = some h) (hs : slM env l h m = some r) : oSl f lo hi env = some r := by
  unfold oSl
  rw [h0, hl, hh]
  exact hs
theorem part_n : sPart none env = some none := by rfl
theorem part_s {j : Int} (h : f env = some (.fz (.int j))) : sPart (some f) env = some (some j) := by
  simp only [sPart, h]
theorem slM_b {i : Nat} {L : List Int} {l h : Option Int} (h0 : env.get i = some (oI L)) : slM env l h (.bp i []) = some (oI (cutM L l h)) := by
  unfold slM
  simp only [elems_b h0, cut_map]
theorem slM_s {ns : List Int} {l h : Option Int} : slM env l h (.fz (.scr ns)) = some (oI (cutM ns l h)) := by
  show some (M.ol ((cutM ns l h).map fun n => .fz (.int n))) = _
  show _ = some (M.ol (((cutM ns l h).map D.int).map M.fz))
  rw [List.map_map]
  rfl
theorem slM_f {L : List Int} {l h : Option Int} : slM env l h (.fz (lI L)) = some (oI (cutM L l h)) := by
  show some (M.ol ((cutM ((L.map D.int).map M.fz) l h))) = _
  rw [cut_map, cut_map]
theorem x_cat {xs ys : List Int} (h : xs.length + ys.length ≤ sizeLine) : oAdd env [oI xs, oI ys] = some (oI (xs ++ ys)) := by
  have := cat_oo (env := env) (xs := xs.map .int) (ys := ys.map .int) (by simpa using h)
  rw [this]
  show some (oD _) = some (oD _)
  rw [List.map_append]
theorem k_lstI1 {x : Int} : oLst env [.fz (.int x)] = some (oI [x]) := k_lst (by simp [sizeLine])
theorem k_lstI0 : oLst env [] = some (oI []) := k_lst (by simp [sizeLine])
def rngI (n : Int) : List Int := (List.range n.toNat).map fun k : Nat => (k : Int)
def rngI2 (i j : Int) : List Int := (List.range (j - i).toNat).map fun k : Nat => i + (k : Int)
theorem mem_rngI {n x : Int} : x ∈ rngI n ↔ 0 ≤ x ∧ x < n := by
  unfold rngI
  simp only [List.mem_map, List.mem_range]
  constructor
  · rintro ⟨k, hk, rfl⟩
    omega
  · rintro ⟨h, h'⟩
    exact ⟨x.toNat, by omega, by omega⟩
theorem mem_rngI2 {i j x : Int} : x ∈ rngI2 i j ↔ i ≤ x ∧ x < j := by
  unfold rngI2
  simp only [List.mem_map, List.mem_range]
  constructor
  · rintro ⟨k, hk, rfl⟩
    omega
  · rintro ⟨h, h'⟩
    exact ⟨(x - i).toNat, by omega, by omega⟩
theorem rngI_len {n : Int} : (rngI n).length = n.toNat := by unfold rngI; simp
theorem rngI2_len {i j : Int} : (rngI2 i j).length = (j - i).toNat := by unfold rngI2; simp
theorem x_rI1 {j : Int} (h : fs env = some [.fz (.int j)]) (h' : inR j = true) : itR1 fs env = some ((rngI j).map .int) := by
  rw [x_rng1 h h', rngD0]
  unfold rngI
  rw [List.map_map]
  rfl
theorem x_rI2 {i j : Int} (h : fs env = some [.fz (.int i), .fz (.int j)]) (h' : inR i = true) (h'' : inR j = true) : itR2 fs env = some ((rngI2 i j).map .int) := by
  rw [x_rng2 h h' h'']
  unfold rngI2 rngD
  rw [List.map_map]
  rfl
theorem asT_nm {lk : Nat → Bool} {i : Nat} (h : lk i = false) (h' : Nat.ble (i + 1) env.length = true) (he : env.put i (.fz d) = e1) : asT lk (.nm i) d env = some e1 := by
  subst he
  unfold asT
  rw [if_pos ⟨h, Nat.le_of_ble_eq_true h'⟩]
theorem k_eqLF {xs ys : List Int} (hd : dats env [a, b] = some [lI xs, lI ys]) : sop (gEq false) env [a, b] = some (.fz (.bl (xs == ys))) := (sop_of hd (gEq_ints false xs ys) rfl).trans (by simp)
theorem k_eqLT {xs ys : List Int} (hd : dats env [a, b] = some [lI xs, lI ys]) : sop (gEq true) env [a, b] = some (.fz (.bl (!(xs == ys)))) := (sop_of hd (gEq_ints true xs ys) rfl).trans (by simp)
theorem g_get {i : Nat} (h : En.get env i = some m) : En.get env i = some m := h
theorem g_place {i : Nat} {p : List Pa} (h : En.place env i p = some m) : En.place env i p = some m := h
theorem g_isOl {q : Option M} (h : isOl q = true) : isOl q = true := h
theorem g_alv (h : alv env m = true) : alv env m = true := h
theorem g_alv2 {q : Prop} (h : alv env m = true) (h' : q) : alv env m = true ∧ q := ⟨h, h'⟩
theorem g_stow {k : Nat} {q : Option (M × En)} (h : stow k env m = q) : stow k env m = q := h
theorem g_slots {l : List Nat} (h : slotsL ms = l) : slotsL ms = l := h
theorem g_ble {x y : Nat} (h : Nat.ble x y = true) : Nat.ble x y = true := h
theorem g_put {i : Nat} (h : En.put env i m = e1) : En.put env i m = e1 := h
theorem g_retM {lk : Nat → Bool} {q : Option M} (h : retM lk env q = R) : retM lk env q = R := h
theorem g_outs {lk : Nat → Bool} {j : Nat} {q : Option (List M)} (h : outs lk env j ms = q) : outs lk env j ms = q := h
theorem g_shut {io : List Bool} {q : Option (List M)} (h : shutZ io ms = q) : shutZ io ms = q := h
theorem slotsL_n : slotsL [] = [] := rfl
theorem slotsL_cf (h : slotsL ms = []) : slotsL (.fz d :: ms) = [] := h
theorem slotsL_co {ds : List D} (h : slotsL ms = []) : slotsL (oD ds :: ms) = [] := by
  show slotsL (ds.map .fz) ++ slotsL ms = []
  rw [slotsL_fz, h]
  rfl
theorem shutZ_n : shutZ [] [] = some [] := rfl
theorem stowA_n {k : Nat} : stowA k env [] = some ([], env) := rfl
theorem stowA_1 {k : Nat} (h : stow k env m = some (m', e1)) : stowA k env [m] = some ([m'], e1) := by
  unfold stowA
  simp only [h]
theorem stowA_2 {k : Nat} (h : stow k env m = some (m', e1)) : stowA k env [.fz d, m] = some ([.fz d, m'], e1) := by
  unfold stowA
  simp only [h]
theorem g_eq {A : Type} {x : Option A} {y : A} (h : x = some y) : x = some y := h
theorem g_prop {p : Prop} (h : p) : p := h
theorem x_augI {op : Int → Int → Int} {fo fi fe : En → Option M} {i : Nat} {j b : Int} {L : List Int} (h1 : fo env = some (.bp i [])) (h2 : fi env = some (.fz (.int j))) (h3 : fe env = some (.fz (.int b))) (h4 : env.get i = some (oI L)) (h5 : 0 ≤ j) (h6 : j < L.length) (he : env.put i (oI (L.set j.toNat (op (at1 L j) b))) = e1) : sAugI op fo fi fe env = some (.nx e1) := by
  subst he
  have h7 : L2.atI ((L.map D.int).map M.fz) j = some (.fz (.int (at1 L j))) := by
    obtain ⟨k, rfl⟩ : ∃ k : Nat, j = k := ⟨j.toNat, by omega⟩
    rw [at1_nat (by omega)]
    exact atI_ints (by omega)
  exact augI_of h1 h2 h3 h4 h7 (x_mset h5 h6)
theorem setE_p1 {i k : Nat} {p : List Pa} {ms ms' : List M} {x n : M} (hp : p = [.ix k]) (h : env.get i = some (.ol ms)) (hk : ms[k]? = some x) (hs : ms.set k n = ms') (he : env.put i (.ol ms') = e1) : setE env i p n = some e1 := by
  subst hs he hp
  unfold setE
  rw [h]
  have : setP (.ol ms) [.ix k] n = some (.ol (ms.set k n)) := by
    show (match ms[k]? with
      | some m => (setP m [] n).map fun m' => M.ol (ms.set k m')
      | none => none) = _
    rw [hk]
    simp only [setP_nil, Option.map_some]
  simp only [this, Option.map_some]
theorem g_set {ms ms' : List M} {k : Nat} {n : M} (h : ms.set k n = ms') : ms.set k n = ms' := h
theorem x_unp {lk : Nat → Bool} {t : Tg} {G : En → Option (M × En)} (h : G env = some (m, e1)) (hs : stow 0 e1 m = some (.fz d, e2)) (ha : asT lk t d e2 = some e3) : sUnp lk t G env = some (.nx e3) := by
  unfold sUnp
  rw [h]
  simp only [hs, ha]
theorem asT_tp {lk : Nat → Bool} {ts : List Tg} {ds : List D} (h : ts.length = ds.length) (h' : asTs lk ts ds env = some e1) : asT lk (.tp ts) (.tup ds) env = some e1 := by
  unfold asT
  rw [if_pos h]
  exact h'
theorem asT_tl {lk : Nat → Bool} {ts : List Tg} {ds : List D} (h : ts.length = ds.length) (h' : asTs lk ts ds env = some e1) : asT lk (.tp ts) (.lst ds) env = some e1 := by
  unfold asT
  rw [if_pos h]
  exact h'
theorem asTs_n {lk : Nat → Bool} : asTs lk [] [] env = some env := by unfold asTs; rfl
theorem asTs_c {lk : Nat → Bool} {t : Tg} {ts : List Tg} {ds : List D} (h : asT lk t d env = some e1) (h' : asTs lk ts ds e1 = some e2) : asTs lk (t :: ts) (d :: ds) env = some e2 := by
  unfold asTs
  rw [h]
  exact h'
theorem x_wh {n : Nat} {c : En → Option (Bool × En)} (h : lpW c S n env = R) : sWh n c S env = R := h
theorem g_lp {lk : Nat → Bool} {t : Tg} {ts : List D} (h : lpF lk t S ts env = R) : lpF lk t S ts env = R := h
theorem g_lw {n : Nat} {c : En → Option (Bool × En)} (h : lpW c S n env = R) : lpW c S n env = R := h
theorem shut_f {k : Nat} : shut k (.fz d) = some (.fz d) := by cases k <;> rfl
theorem shut_s {k : Nat} {ds : List D} : shut (k + 1) (oD ds) = some (oD ds) := by
  show (shutL k (ds.map .fz)).map M.ol = _
  rw [shutL_fz]
  rfl
theorem shut_ol {k : Nat} {ms ms' : List M} (h : shutL k ms = some ms') : shut (k + 1) (.ol ms) = some (.ol ms') := by
  show (shutL k ms).map M.ol = _
  rw [h]
  rfl
theorem shut_ot {k : Nat} {ms ms' : List M} (h : shutL k ms = some ms') : shut (k + 1) (.ot ms) = some (.ot ms') := by
  show (shutL k ms).map M.ot = _
  rw [h]
  rfl
theorem shutL_n {k : Nat} : shutL k [] = some [] := by cases k <;> rfl
theorem shutL_c {k : Nat} {ms ms' : List M} (h : shut k m = some m') (h' : shutL k ms = some ms') : shutL k (m :: ms) = some (m' :: ms') := by
  show (match shut k m, shutL k ms with
    | some n, some ns => some (n :: ns)
    | _, _ => none) = _
  rw [h, h']
theorem stow_ol {k : Nat} {ms ms' : List M} (h : slotsL ms = []) (h' : shutL k ms = some ms') : stow (k + 1) env (.ol ms) = some (.ol ms', env) := by
  unfold stow
  rw [show slots (.ol ms) = [] from h]
  show (shut (k + 1) (.ol ms)).map _ = _
  rw [shut_ol h']
  rfl
theorem stow_ot {k : Nat} {ms ms' : List M} (h : slotsL ms = []) (h' : shutL k ms = some ms') : stow (k + 1) env (.ot ms) = some (.ot ms', env) := by
  unfold stow
  rw [show slots (.ot ms) = [] from h]
  show (shut (k + 1) (.ot ms)).map _ = _
  rw [shut_ot h']
  rfl
theorem slotsL_cl {ns : List M} (h : slotsL ns = []) (h' : slotsL ms = []) : slotsL (.ol ns :: ms) = [] := by
  show slotsL ns ++ slotsL ms = []
  rw [h, h']
  rfl
theorem slotsL_ct {ns : List M} (h : slotsL ns = []) (h' : slotsL ms = []) : slotsL (.ot ns :: ms) = [] := by
  show slotsL ns ++ slotsL ms = []
  rw [h, h']
  rfl
theorem g_meq {m m' : M} (h : m = m') : m = m' := h
end
end T2
end
section
set_option Elab.async false
set_option linter.all false
set_option maxRecDepth 100000
namespace T2
open PySem PySem.Spec PyProof.Rows L2
def lpO (x : Nat) (body : En → Option Fl) : List M → En → Option (List M × En)
  | [], env => some ([], env)
  | m :: ms, env => match body (env.put x m) with
    | some (.nx e2) => match e2.get x with
      | some m' => match lpO x body ms (e2.kill x) with
        | some (ms', e3) => some (m' :: ms', e3)
        | none => none
      | none => none
    | _ => none
def sForO (lk : Nat → Bool) (i x : Nat) (body : En → Option Fl) : En → Option Fl := fun env => match env.get i with
  | some (.ol ms) => if lk x = false ∧ x < env.length ∧ i ≠ x then (match lpO x body ms ((env.kill i).kill x) with
    | some (ms', e) => some (.nx (e.put i (.ol ms')))
    | none => none) else none
  | _ => none
def froz : Option M → Option M
  | some m => (dat0 m).map .fz
  | none => none
def frzT (f : En → Option Bool) : En → Option Bool := fun env => f (env.map froz)
def frzE (f : En → Option M) : En → Option M := fun env => match f (env.map froz) with
  | some r => if sLf r then some r else none
  | none => none
theorem froz_n : froz none = none := rfl
theorem froz_f {d : D} : froz (some (.fz d)) = some (.fz d) := rfl
theorem froz_o {ds : List D} : froz (some (oD ds)) = some (.fz (.lst ds)) := by
  show (datW (fun _ _ => none) (oD ds)).map M.fz = _
  rw [datW_oD]
  rfl
theorem dat0_f {d : D} : dat0 (.fz d) = some d := rfl
theorem dat0_o {ds : List D} : dat0 (oD ds) = some (.lst ds) := datW_oD ds
def datL0 (ms : List M) : Option (List D) := datWL (fun _ _ => none) ms
theorem datL0_n : datL0 [] = some [] := rfl
theorem datL0_c {m : M} {ms : List M} {d : D} {ds : List D} (h : dat0 m = some d) (h' : datL0 ms = some ds) : datL0 (m :: ms) = some (d :: ds) := by
  show (match datW (fun _ _ => none) m, datWL (fun _ _ => none) ms with
    | some d, some ds => some (d :: ds)
    | _, _ => none) = _
  rw [show datW (fun _ _ => none) m = some d from h, show datWL (fun _ _ => none) ms = some ds from h']
theorem dat0_l {ms : List M} {ds : List D} (h : datL0 ms = some ds) : dat0 (.ol ms) = some (.lst ds) := by
  show (datWL (fun _ _ => none) ms).map D.lst = _
  rw [show datWL (fun _ _ => none) ms = some ds from h]
  rfl
theorem dat0_t {ms : List M} {ds : List D} (h : datL0 ms = some ds) : dat0 (.ot ms) = some (.tup ds) := by
  show (datWL (fun _ _ => none) ms).map D.tup = _
  rw [show datWL (fun _ _ => none) ms = some ds from h]
  rfl
theorem froz_m {m : M} {d : D} (h : dat0 m = some d) : froz (some m) = some (.fz d) := by
  show (dat0 m).map M.fz = _
  rw [h]
  rfl
def frozL (env : En) : En := env.map froz
theorem frozL_n : frozL [] = [] := rfl
theorem frozL_c {o o' : Option M} {env env' : En} (h : froz o = o') (h' : frozL env = env') : frozL (o :: env) = o' :: env' := by
  subst h h'
  rfl
theorem x_frzT {f : En → Option Bool} {env env' : En} {b : Bool} (h : frozL env = env') (h' : f env' = some b) : frzT f env = some b := by
  subst h
  exact h'
theorem x_frzE {f : En → Option M} {env env' : En} {r : M} (h : frozL env = env') (h' : f env' = some r) (h'' : sLf r = true) : frzE f env = some r := by
  subst h
  unfold frzE
  rw [show env.map froz = frozL env from rfl, h']
  simp only [h'', if_true]
theorem stow_zl {env : En} {ms : List M} {ds : List D} (h : slotsL ms = []) (h' : datL0 ms = some ds) : stow 0 env (.ol ms) = some (.fz (.lst ds), env) := by
  unfold stow
  rw [show slots (.ol ms) = [] from h]
  show (shut 0 (.ol ms)).map _ = _
  rw [show shut 0 (.ol ms) = (dat0 (.ol ms)).map .fz by rfl, dat0_l h']
  rfl
theorem stow_zt {env : En} {ms : List M} {ds : List D} (h : slotsL ms = []) (h' : datL0 ms = some ds) : stow 0 env (.ot ms) = some (.fz (.tup ds), env) := by
  unfold stow
  rw [show slots (.ot ms) = [] from h]
  show (shut 0 (.ot ms)).map _ = _
  rw [show shut 0 (.ot ms) = (dat0 (.ot ms)).map .fz by rfl, dat0_t h']
  rfl
theorem sLf_ol {L : List Int} : sLf (oI L) = true := sLf_oI L
theorem sLf_nil : sLf (.ol []) = true := rfl
theorem lpO_n {x : Nat} {B : En → Option Fl} {env : En} : lpO x B [] env = some ([], env) := rfl
theorem lpO_c {x : Nat} {B : En → Option Fl} {env e1 e2 e3 e4 : En} {m m' : M} {ms ms' : List M} (he : env.put x m = e1) (h : B e1 = some (.nx e2)) (h' : e2.get x = some m') (hk : e2.kill x = e3) (h'' : lpO x B ms e3 = some (ms', e4)) : lpO x B (m :: ms) env = some (m' :: ms', e4) := by
  subst he hk
  unfold lpO
  rw [h]
  simp only [h', h'']
theorem x_forO {lk : Nat → Bool} {i x : Nat} {B : En → Option Fl} {env e1 e2 e3 : En} {ms ms' : List M} (hl : lk x = false) (hx : Nat.ble (x + 1) env.length = true) (hi : i ≠ x) (h : env.get i = some (.ol ms)) (he : (env.kill i).kill x = e1) (h' : lpO x B ms e1 = some (ms', e2)) (he' : e2.put i (.ol ms') = e3) : sForO lk i x B env = some (.nx e3) := by
  subst he he'
  unfold sForO
  rw [h]
  simp only [h']
  rw [if_pos ⟨hl, Nat.le_of_ble_eq_true hx, hi⟩]
end T2
end
section
set_option Elab.async false
set_option linter.all false
set_option maxRecDepth 100000
namespace T2
open PySem
mutual
/-- as Python has it -/
def eqD : D → D → Bool
  | .non, .non => true
  | .bl a, .bl b => a == b
  | .bl a, .int j => (if a then 1 else 0) == j
  | .int i, .bl b => i == (if b then 1 else 0)
  | .int i, .int j => i == j
  | .str x, .str y => x == y
  | .lst xs, .lst ys => eqDL xs ys
  | .tup xs, .tup ys => eqDL xs ys
  | _, _ => false
def eqDL : List D → List D → Bool
  | [], [] => true
  | x :: xs, y :: ys => eqD x y && eqDL xs ys
  | _, _ => false
end
mutual
/-- data that is compared: no deeper than k, its texts plain -/
def gd : Nat → D → Bool
  | _, .non => true
  | _, .bl _ => true
  | _, .int _ => true
  | _, .str x => PyData.strOk x
  | k + 1, .lst xs => gdL k xs
  | k + 1, .tup xs => gdL k xs
  | _, _ => false
def gdL : Nat → List D → Bool
  | _, [] => true
  | k, x :: xs => gd k x && gdL k xs
end
mutual
theorem gd_ok : ∀ (k : Nat) (d : D), gd k d = true → ∃ x, pyD d = some x ∧ PyData.canLay0 x = true ∧ PyData.depth x ≤ k
  | k, .non, _ => ⟨.none, rfl, rfl, Nat.zero_le _⟩
  | k, .bl b, _ => ⟨.bool b, rfl, rfl, Nat.zero_le _⟩
  | k, .int i, _ => ⟨.int i, rfl, rfl, Nat.zero_le _⟩
  | k, .str x, h => ⟨.str x, rfl, by simpa [gd, PyData.canLay0] using h, Nat.zero_le _⟩
  | k + 1, .lst xs, h => by
    obtain ⟨ys, h1, h2, h3⟩ := gdL_ok k xs (by simpa [gd] using h)
    exact ⟨.list ys, by simp [pyD, h1], by simpa [PyData.canLay0] using h2, by simpa [PyData.depth] using h3⟩
  | k + 1, .tup xs, h => by
    obtain ⟨ys, h1, h2, h3⟩ := gdL_ok k xs (by simpa [gd] using h)
    exact ⟨.tuple ys, by simp [pyD, h1], by simpa [PyData.canLay0] using h2, by simpa [PyData.depth] using h3⟩
  | 0, .lst xs, h => by simp [gd] at h
  | 0, .tup xs, h => by simp [gd] at h
  | k, .ins _ _, h => by cases k <;> simp [gd] at h
  | k, .dic _ _, h => by cases k <;> simp [gd] at h
  | k, .any, h => by cases k <;> simp [gd] at h
  | k, .exc _ _ _, h => by cases k <;> simp [gd] at h
  | k, .scr _, h => by cases k <;> simp [gd] at h
theorem gdL_ok : ∀ (k : Nat) (ds : List D), gdL k ds = true → ∃ xs, pyDL ds = some xs ∧ PyData.canLayAll0 xs = true ∧ PyData.depthAll xs ≤ k
  | k, [], _ => ⟨[], rfl, rfl, Nat.zero_le _⟩
  | k, d :: ds, h => by
    simp only [gdL, Bool.and_eq_true] at h
    obtain ⟨x, h1, h2, h3⟩ := gd_ok k d h.1
    obtain ⟨xs, h4, h5, h6⟩ := gdL_ok k ds h.2
    exact ⟨x :: xs, by simp [pyDL, h1, h4], by simp [PyData.canLayAll0, h2, h5], by simp only [PyData.depthAll]; exact Nat.max_le.mpr ⟨h3, h6⟩⟩
end
mutual
theorem eqD_ok : ∀ (d e : D) (x y : PyData), (∃ k, gd k d = true) → (∃ k, gd k e = true) → pyD d = some x → pyD e = some y → PyData.eqv x y = eqD d e
  | d, e, x, y, hd, he, h, h' => by
    cases d with
    | ins _ _ => obtain ⟨k, hk⟩ := hd; cases k <;> simp [gd] at hk
    | scr _ => obtain ⟨k, hk⟩ := hd; cases k <;> simp [gd] at hk
    | dic _ _ => obtain ⟨k, hk⟩ := hd; cases k <;> simp [gd] at hk
    | any => obtain ⟨k, hk⟩ := hd; cases k <;> simp [gd] at hk
    | exc _ _ _ => obtain ⟨k, hk⟩ := hd; cases k <;> simp [gd] at hk
    | lst xs =>
      cases e with
      | ins _ _ => obtain ⟨k, hk⟩ := he; cases k <;> simp [gd] at hk
      | scr _ => obtain ⟨k, hk⟩ := he; cases k <;> simp [gd] at hk
      | dic _ _ => obtain ⟨k, hk⟩ := he; cases k <;> simp [gd] at hk
      | any => obtain ⟨k, hk⟩ := he; cases k <;> simp [gd] at hk
      | exc _ _ _ => obtain ⟨k, hk⟩ := he; cases k <;> simp [gd] at hk
      | lst ys =>
        simp only [pyD, Option.map_eq_some_iff] at h h'
        obtain ⟨us, h1, rfl⟩ := h
        obtain ⟨vs, h2, rfl⟩ := h'
        obtain ⟨k, hk⟩ := hd
        obtain ⟨j, hj⟩ := he
        cases k with
        | zero => simp [gd] at hk
        | succ k =>
          cases j with
          | zero => simp [gd] at hj
          | succ j => simpa [PyData.eqv, eqD] using eqDL_ok xs ys us vs ⟨k, by simpa [gd] using hk⟩ ⟨j, by simpa [gd] using hj⟩ h1 h2
      | tup ys =>
        simp only [pyD, Option.map_eq_some_iff] at h h'
        obtain ⟨us, h1, rfl⟩ := h
        obtain ⟨vs, h2, rfl⟩ := h'
        simp [PyData.eqv, eqD]
      | _ => simp only [pyD, Option.map_eq_some_iff] at h; obtain ⟨us, h1, rfl⟩ := h; simp only [pyD, Option.some.injEq] at h'; subst h'; simp [PyData.eqv, eqD]
    | tup xs =>
      cases e with
      | ins _ _ => obtain ⟨k, hk⟩ := he; cases k <;> simp [gd] at hk
      | scr _ => obtain ⟨k, hk⟩ := he; cases k <;> simp [gd] at hk
      | dic _ _ => obtain ⟨k, hk⟩ := he; cases k <;> simp [gd] at hk
      | any => obtain ⟨k, hk⟩ := he; cases k <;> simp [gd] at hk
      | exc _ _ _ => obtain ⟨k, hk⟩ := he; cases k <;> simp [gd] at hk
      | tup ys =>
        simp only [pyD, Option.map_eq_some_iff] at h h'
        obtain ⟨us, h1, rfl⟩ := h
        obtain ⟨vs, h2, rfl⟩ := h'
        obtain ⟨k, hk⟩ := hd
        obtain ⟨j, hj⟩ := he
        cases k with
        | zero => simp [gd] at hk
        | succ k =>
          cases j with
          | zero => simp [gd] at hj
          | succ j => simpa [PyData.eqv, eqD] using eqDL_ok xs ys us vs ⟨k, by simpa [gd] using hk⟩ ⟨j, by simpa [gd] using hj⟩ h1 h2
      | lst ys =>
        simp only [pyD, Option.map_eq_some_iff] at h h'
        obtain ⟨us, h1, rfl⟩ := h
        obtain ⟨vs, h2, rfl⟩ := h'
        simp [PyData.eqv, eqD]
      | _ => simp only [pyD, Option.map_eq_some_iff] at h; obtain ⟨us, h1, rfl⟩ := h; simp only [pyD, Option.some.injEq] at h'; subst h'; simp [PyData.eqv, eqD]
    | _ =>
      cases e with
      | ins _ _ => obtain ⟨k, hk⟩ := he; cases k <;> simp [gd] at hk
      | scr _ => obtain ⟨k, hk⟩ := he; cases k <;> simp [gd] at hk
      | dic _ _ => obtain ⟨k, hk⟩ := he; cases k <;> simp [gd] at hk
      | any => obtain ⟨k, hk⟩ := he; cases k <;> simp [gd] at hk
      | exc _ _ _ => obtain ⟨k, hk⟩ := he; cases k <;> simp [gd] at hk
      | lst ys => simp only [pyD, Option.map_eq_some_iff] at h'; obtain ⟨us, h1, rfl⟩ := h'; simp only [pyD, Option.some.injEq] at h; subst h; simp [PyData.eqv, eqD]
      | tup ys => simp only [pyD, Option.map_eq_some_iff] at h'; obtain ⟨us, h1, rfl⟩ := h'; simp only [pyD, Option.some.injEq] at h; subst h; simp [PyData.eqv, eqD]
      | _ => simp only [pyD, Option.some.injEq] at h h'; subst h h'; simp [PyData.eqv, eqD]
theorem eqDL_ok : ∀ (ds es : List D) (xs ys : List PyData), (∃ k, gdL k ds = true) → (∃ k, gdL k es = true) → pyDL ds = some xs → pyDL es = some ys → PyData.eqvAll xs ys = eqDL ds es
  | [], [], xs, ys, _, _, h, h' => by cases h; cases h'; rfl
  | [], e :: es, xs, ys, _, _, h, h' => by
    simp only [pyDL] at h h'
    cases h
    split at h'
    · cases h'; rfl
    · cases h'
  | d :: ds, [], xs, ys, _, _, h, h' => by
    simp only [pyDL] at h h'
    cases h'
    split at h
    · cases h; rfl
    · cases h
  | d :: ds, e :: es, xs, ys, ⟨k, hk⟩, ⟨j, hj⟩, h, h' => by
    simp only [pyDL] at h h'
    simp only [gdL, Bool.and_eq_true] at hk hj
    split at h
    · rename_i x xs' h1 h2
      cases h
      split at h'
      · rename_i y ys' h3 h4
        cases h'
        simp only [PyData.eqvAll, eqDL]
        rw [eqD_ok d e x y ⟨k, hk.1⟩ ⟨j, hj.1⟩ h1 h3, eqDL_ok ds es xs' ys' ⟨k, hk.2⟩ ⟨j, hj.2⟩ h2 h4]
      · cases h'
    · cases h
end
theorem gEq_gen {neg : Bool} {d e : D} (hd : gd 64 d = true) (he : gd 64 e = true) : gEq neg [d, e] = some (.bl (if neg then !eqD d e else eqD d e)) := by
  obtain ⟨x, h1, h2, h3⟩ := gd_ok 64 d hd
  obtain ⟨y, h4, h5, h6⟩ := gd_ok 64 e he
  unfold gEq
  simp only [h1, h4]
  have sx : SeqAt.shaped x = true := by unfold SeqAt.shaped; simp [h2, h3]
  have sy : SeqAt.shaped y = true := by unfold SeqAt.shaped; simp [h5, h6]
  rw [sx, sy, eqD_ok d e x y ⟨_, hd⟩ ⟨_, he⟩ h1 h4]
  rfl
theorem k_eqGT {env : En} {a b : M} {d e : D} (h : dats env [a, b] = some [d, e]) (hd : gd 64 d = true) (he : gd 64 e = true) : sop (gEq true) env [a, b] = some (.fz (.bl (!eqD d e))) := (sop_of h (gEq_gen hd he) rfl).trans (by simp)
theorem k_eqGF {env : En} {a b : M} {d e : D} (h : dats env [a, b] = some [d, e]) (hd : gd 64 d = true) (he : gd 64 e = true) : sop (gEq false) env [a, b] = some (.fz (.bl (eqD d e))) := (sop_of h (gEq_gen hd he) rfl).trans (by simp)
theorem gd_int {k : Nat} {i : Int} : gd k (.int i) = true := by cases k <;> rfl
theorem gd_bl {k : Nat} {i : Bool} : gd k (.bl i) = true := by cases k <;> rfl
theorem gd_non {k : Nat} : gd k .non = true := by cases k <;> rfl
theorem gd_lst {k : Nat} {ds : List D} (h : gdL k ds = true) : gd (k + 1) (.lst ds) = true := h
theorem gd_tup {k : Nat} {ds : List D} (h : gdL k ds = true) : gd (k + 1) (.tup ds) = true := h
theorem gdL_n {k : Nat} : gdL k [] = true := by cases k <;> rfl
theorem gdL_c {k : Nat} {d : D} {ds : List D} (h : gd k d = true) (h' : gdL k ds = true) : gdL k (d :: ds) = true := by
  show (gd k d && gdL k ds) = true
  rw [h, h']
  rfl
theorem gdL_all {k : Nat} : ∀ {ds : List D}, (∀ d ∈ ds, gd k d = true) → gdL k ds = true
  | [], _ => gdL_n
  | d :: ds, h => gdL_c (h d (List.mem_cons_self ..)) (gdL_all fun e he => h e (List.mem_cons_of_mem _ he))
theorem gdL_map {α : Type} {k : Nat} {f : α → D} {xs : List α} (h : ∀ x ∈ xs, gd k (f x) = true) : gdL k (xs.map f) = true := gdL_all fun d hd => by
  obtain ⟨x, hx, rfl⟩ := List.mem_map.mp hd
  exact h x hx
theorem gdL_ints {k : Nat} {L : List Int} : gdL k (L.map .int) = true := gdL_map fun _ _ => gd_int
theorem gd_lI {k : Nat} {L : List Int} : gd (k + 1) (lI L) = true := gd_lst gdL_ints
mutual
theorem eqD_self : ∀ (k : Nat) (d : D), gd k d = true → eqD d d = true
  | k, .non, _ => rfl
  | k, .bl b, _ => by simp [eqD]
  | k, .int i, _ => by simp [eqD]
  | k, .str x, h => by simp [eqD]
  | k + 1, .lst xs, h => by simpa [eqD] using eqDL_self k xs (by simpa [gd] using h)
  | k + 1, .tup xs, h => by simpa [eqD] using eqDL_self k xs (by simpa [gd] using h)
  | 0, .lst xs, h => by simp [gd] at h
  | 0, .tup xs, h => by simp [gd] at h
  | k, .ins _ _, h => by cases k <;> simp [gd] at h
  | k, .dic _ _, h => by cases k <;> simp [gd] at h
  | k, .any, h => by cases k <;> simp [gd] at h
  | k, .exc _ _ _, h => by cases k <;> simp [gd] at h
  | k, .scr _, h => by cases k <;> simp [gd] at h
theorem eqDL_self : ∀ (k : Nat) (ds : List D), gdL k ds = true → eqDL ds ds = true
  | k, [], _ => rfl
  | k, d :: ds, h => by
    simp only [gdL, Bool.and_eq_true] at h
    simp only [eqDL, eqD_self k d h.1, eqDL_self k ds h.2, Bool.and_self]
end
theorem k_eqST {env : En} {a b : M} {d : D} (h : dats env [a, b] = some [d, d]) (hd : gd 64 d = true) : sop (gEq true) env [a, b] = some (.fz (.bl false)) := (k_eqGT h hd hd).trans (by rw [eqD_self 64 d hd]; rfl)
theorem k_eqSF {env : En} {a b : M} {d : D} (h : dats env [a, b] = some [d, d]) (hd : gd 64 d = true) : sop (gEq false) env [a, b] = some (.fz (.bl true)) := (k_eqGF h hd hd).trans (by rw [eqD_self 64 d hd])
theorem dats_e {env : En} {ms : List M} {cs : List D} (h : dats env ms = some cs) : dats env (.ol [] :: ms) = some (lI [] :: cs) := dats_o (ds := []) h
theorem dats_m {env : En} {i : Nat} {m : M} {d : D} {ms : List M} {cs : List D} (h0 : env.get i = some m) (hd : dat0 m = some d) (h : dats env ms = some cs) : dats env (.bp i [] :: ms) = some (d :: cs) := by
  have hp : plD env i [] = some d := by
    unfold plD
    rw [place_z h0]
    exact hd
  show (match datW (plD env) (.bp i []), datWL (plD env) ms with
    | some d, some ds => some (d :: ds)
    | _, _ => none) = _
  rw [show datWL (plD env) ms = some cs from h, show datW (plD env) (.bp i []) = plD env i [] by rfl, hp]
section
variable {vs : List Nat} {t : Tg} {cond : En → Option Bool} {elt : En → Option M} {env e1 : En} {d : D} {ds : List D} {ms : List M} {m : M}
theorem lcL_n : lcL vs t cond elt env [] = some [] := by unfold lcL; rfl
theorem lcL_s (hT : asT (lkOf vs) t d (env.wipe vs) = some e1) {c : Bool} (hC : cond e1 = some c) (hc : c = false) (h : lcL vs t cond elt env ds = some ms) : lcL vs t cond elt env (d :: ds) = some ms := by
  subst hc
  unfold lcL
  rw [hT]
  simp only [hC, h]
theorem lcL_t (hT : asT (lkOf vs) t d (env.wipe vs) = some e1) {c : Bool} (hC : cond e1 = some c) (hc : c = true) (hE : elt e1 = some m) (hs : slotsL [m] = []) (h : lcL vs t cond elt env ds = some ms) : lcL vs t cond elt env (d :: ds) = some (m :: ms) := by
  subst hc
  have hs' : slots m = [] := by
    have : slotsL [m] = slots m ++ [] := rfl
    rw [this, List.append_nil] at hs
    exact hs
  unfold lcL
  rw [hT]
  simp only [hC, hE, h, hs', List.isEmpty_nil, if_true]
theorem x_lc {it : En → Option (List D)} (h : it env = some ds) (h' : lcL vs t cond elt env ds = some ms) (hl : ms.length ≤ sizeLine) : lcF vs t it cond elt env = some (.ol ms) := lcF_of h h' hl
theorem x_yes : cYes env = some true := rfl
end
theorem x_isi {env : En} {f : En → Option M} {m : M} {d : D} {T n : String} {b : Bool} (h : f env = some m) (hd : dats env [m] = some [d]) (hn : tyN d = some n) (hk : kitT T n = some b) : oIsi (kitT T) f env = some (.fz (.bl b)) := by
  unfold oIsi
  rw [h]
  simp only [dat_of hd, hn, hk]
theorem x_lcX {vs : List Nat} {t : Tg} {cond : En → Option Bool} {it : En → Option (List D × En)} {elt : En → Option (M × En)} {env e1 e2 : En} {ds : List D} {ms : List M} (h : it env = some (ds, e1)) (h' : lcLX vs t cond elt ds e1 = some (ms, e2)) (hl : ms.length ≤ sizeLine) : lcX vs t it cond elt env = some (.ol ms, e2) := by
  unfold lcX
  rw [h]
  simp only [h', hl, if_true]
theorem lcLX_n {vs : List Nat} {t : Tg} {cond : En → Option Bool} {elt : En → Option (M × En)} {env : En} : lcLX vs t cond elt [] env = some ([], env) := by unfold lcLX; rfl
theorem lcLX_c {vs : List Nat} {t : Tg} {elt : En → Option (M × En)} {env e1 e2 e3 e4 : En} {d : D} {ds : List D} {m : M} {ms : List M} (hT : asT (lkOf vs) t d (env.wipe vs) = some e1) (hE : elt e1 = some (m, e2)) (hs : slots m = []) (hv : okV env vs = true) (hb : En.back vs env e2 = e3) (h : lcLX vs t cYes elt ds e3 = some (ms, e4)) : lcLX vs t cYes elt (d :: ds) env = some (m :: ms, e4) := by
  subst hb
  unfold lcLX
  rw [hT]
  simp only [cYes, hE, hs, hv, List.isEmpty_nil, Bool.and_self, if_true, h]
/-- numbers, by an invariant of the slots -/
theorem lcLX_ints {vs : List Nat} {t : Tg} {elt : En → Option (M × En)} (Inv : En → Prop) (P : Int → Prop) : ∀ (ds : List D) (hs : ∀ d ∈ ds, ∀ e, Inv e → ∃ e1 x e2, asT (lkOf vs) t d (e.wipe vs) = some e1 ∧ elt e1 = some (.fz (.int x), e2) ∧ okV e vs = true ∧ P x ∧ Inv (En.back vs e e2)) (e : En) (h0 : Inv e),
    ∃ (L : List Int) (e' : En), lcLX vs t cYes elt ds e = some ((L.map D.int).map .fz, e') ∧ L.length = ds.length ∧ (∀ x ∈ L, P x) ∧ Inv e'
  | [], _, e, h0 => ⟨[], e, lcLX_n, rfl, (fun x hx => by cases hx), h0⟩
  | d :: ds, hs, e, h0 => by
    obtain ⟨e1, x, e2, h1, h2, h3, h4, h5⟩ := hs d (List.mem_cons_self ..) e h0
    obtain ⟨L, e', h6, h7, h8, h9⟩ := lcLX_ints Inv P ds (fun d hd => hs d (List.mem_cons_of_mem _ hd)) _ h5
    exact ⟨x :: L, e', lcLX_c h1 h2 rfl h3 rfl h6, by simp [h7], fun y hy => by
      rcases List.mem_cons.mp hy with rfl | hy
      · exact h4
      · exact h8 y hy, h9⟩
theorem e_xnil {env : En} : xNil env = some ([], env) := rfl
theorem k_lstI2 {env : En} {x y : Int} : oLst env [.fz (.int x), .fz (.int y)] = some (oI [x, y]) := k_lst (by simp [sizeLine])
theorem k_lstI3 {env : En} {x y z : Int} : oLst env [.fz (.int x), .fz (.int y), .fz (.int z)] = some (oI [x, y, z]) := k_lst (by simp [sizeLine])
theorem k_lstI4 {env : En} {x y z u : Int} : oLst env [.fz (.int x), .fz (.int y), .fz (.int z), .fz (.int u)] = some (oI [x, y, z, u]) := k_lst (by simp [sizeLine])
theorem k_lstI5 {env : En} {x y z u v : Int} : oLst env [.fz (.int x), .fz (.int y), .fz (.int z), .fz (.int u), .fz (.int v)] = some (oI [x, y, z, u, v]) := k_lst (by simp [sizeLine])
theorem k_lstI6 {env : En} {x y z u v w : Int} : oLst env [.fz (.int x), .fz (.int y), .fz (.int z), .fz (.int u), .fz (.int v), .fz (.int w)] = some (oI [x, y, z, u, v, w]) := k_lst (by simp [sizeLine])
end T2
end
section
set_option Elab.async false
set_option linter.all false
set_option maxRecDepth 100000
namespace T2
open PySem PySem.Spec PyProof.Rows L2
def okR3 (i j c : Int) : Bool := decide (c ≠ 0) && decide (c.natAbs < 1073741824) && Builtin.Range.small i j c
def rszN (i j c : Int) : Nat := (Builtin.Range.rangeSize i j c).toNat
def rngS (i j c : Int) : List Int := (List.range (rszN i j c)).map fun k : Nat => i + (k : Int) * c
def itR3 (fs : En → Option (List M)) : En → Option (List D) := fun env => match fs env with
  | some [.fz (.int i), .fz (.int j), .fz (.int c)] => if okR3 i j c then some ((rngS i j c).map .int) else none
  | _ => none
def blsOf : List D → Option (List Bool)
  | [] => some []
  | .bl b :: ds => (blsOf ds).map (b :: ·)
  | _ => none
def gAny : List D → Option D
  | [.lst ds] => match blsOf ds with
    | some bs => some (.bl (bs.any id))
    | none => none
  | _ => none
def gAll : List D → Option D
  | [.lst ds] => match blsOf ds with
    | some bs => some (.bl (bs.all id))
    | none => none
  | _ => none
def chS (o o' : En → List M → Option M) (f g h : En → Option M) : En → Option Bool := fun env => match f env, g env with
  | some a, some (.fz d) => if scal d then (match o env [a, .fz d] with
    | some (.fz (.bl true)) => match h env with
      | some c => match o' env [.fz d, c] with
        | some (.fz (.bl r)) => some r
        | _ => none
      | none => none
    | some (.fz (.bl false)) => some false
    | _ => none) else none
  | _, _ => none
section
variable {X : Cx} {tg a b c e : Expr} {fs : En → Option (List M)} {p pos rp rpos : Pos} {ta : TA}
def oListR3 (fs : En → Option (List M)) : En → Option M := fun env => match fs env with
  | some [.fz (.int i), .fz (.int j), .fz (.int c)] => if okR3 i j c && decide (rszN i j c ≤ 16777216) then some (oI (rngS i j c)) else none
  | _ => none
/-- xs[::-1] of a list of data -/
def oRev (f : En → Option M) : En → Option M := fun env => match f env with
  | some (.fz (.scr ns)) => some (oI ns.reverse)
  | some m => match elems env m with
    | some (true, ms) => match allFz ms with
      | some ds => some (oD ds.reverse)
      | none => none
    | _ => none
  | none => none
theorem RepL.reverse {K : PySem.W.Frag} {F : Hp} : ∀ {ds : List D} {vs : List V}, RepL K F ds vs → RepL K F ds.reverse vs.reverse
  | [], vs, h => by
    simp only [RepL] at h
    subst h
    simp only [List.reverse_nil, RepL]
  | d :: ds, vs, h => by
    simp only [RepL] at h
    obtain ⟨v, r, rfl, h1, h2⟩ := h
    rw [List.reverse_cons, List.reverse_cons]
    refine repL_append (RepL.reverse h2) ?_
    simp only [RepL]
    exact ⟨v, [], rfl, h1, rfl⟩
end
section
variable {env : En} {f g h : En → Option M} {fs : En → Option (List M)} {m a b c : M} {L : List Int} {o o' : En → List M → Option M} {d : D}
theorem x_rI3 {i j k : Int} (h : fs env = some [.fz (.int i), .fz (.int j), .fz (.int k)]) (h' : okR3 i j k = true) : itR3 fs env = some ((rngS i j k).map .int) := by
  unfold itR3
  rw [h]
  simp only [h', if_true]
theorem x_listR3 {i j k : Int} (h : fs env = some [.fz (.int i), .fz (.int j), .fz (.int k)]) (h' : okR3 i j k = true) (h'' : rszN i j k ≤ 16777216) : oListR3 fs env = some (oI (rngS i j k)) := by
  unfold oListR3
  rw [h]
  simp only [h', h'', decide_true, Bool.and_self, if_true]
theorem x_revB {i : Nat} (h : f env = some (.bp i [])) (h0 : env.get i = some (oI L)) : oRev f env = some (oI L.reverse) := by
  unfold oRev
  rw [h]
  simp only [elems_b h0, allFz_fz]
  show some (oD (L.map D.int).reverse) = some (oD (L.reverse.map D.int))
  rw [← List.map_reverse]
theorem x_revF (h : f env = some (.fz (lI L))) : oRev f env = some (oI L.reverse) := by
  unfold oRev
  rw [h]
  show (match allFz ((L.map D.int).map .fz) with
    | some ds => some (oD ds.reverse)
    | none => none) = _
  rw [allFz_fz]
  show some (oD (L.map D.int).reverse) = some (oD (L.reverse.map D.int))
  rw [← List.map_reverse]
theorem blsOf_map (bs : List Bool) : blsOf (bs.map .bl) = some bs := by
  induction bs with
  | nil => rfl
  | cons b bs ih =>
    show (blsOf (bs.map .bl)).map (b :: ·) = _
    rw [ih]
    rfl
abbrev lB (bs : List Bool) : D := .lst (bs.map .bl)
theorem x_anyB {bs : List Bool} (h : f env = some m) (hd : dats env [m] = some [lB bs]) : opr (sop gAny) (aCons f aNil) env = some (.fz (.bl (bs.any id))) :=
  opr_of (acons_of h e_anil) (sop_of hd (by show (match blsOf (bs.map .bl) with
    | some bs => some (D.bl (bs.any id))
    | none => none) = _
                                            rw [blsOf_map]) rfl)
theorem x_allB {bs : List Bool} (h : f env = some m) (hd : dats env [m] = some [lB bs]) : opr (sop gAll) (aCons f aNil) env = some (.fz (.bl (bs.all id))) :=
  opr_of (acons_of h e_anil) (sop_of hd (by show (match blsOf (bs.map .bl) with
    | some bs => some (D.bl (bs.all id))
    | none => none) = _
                                            rw [blsOf_map]) rfl)
theorem x_ch {k r : Bool} (hf : f env = some a) (hg : g env = some (.fz d)) (hs : scal d = true) (h1 : o env [a, .fz d] = some (.fz (.bl k))) (hh : h env = some c) (h2 : o' env [.fz d, c] = some (.fz (.bl r))) : chS o o' f g h env = some (k && r) := by
  unfold chS
  rw [hf, hg]
  simp only [hs, h1, if_true]
  cases k
  · rfl
  · simp only [hh, h2, Bool.true_and]
end
theorem anyEqv : ∀ (ds : List D) (d : D) (xs : List PyData) (x : PyData), (∃ k, gdL k ds = true) → (∃ k, gd k d = true) → pyDL ds = some xs → pyD d = some x → (xs.any fun z => PyData.eqv z x) = ds.any fun z => eqD z d
  | [], d, xs, x, _, _, h, _ => by cases h; rfl
  | e :: ds, d, xs, x, ⟨k, hk⟩, hd, h, h' => by
    simp only [pyDL] at h
    simp only [gdL, Bool.and_eq_true] at hk
    split at h
    · rename_i y ys h1 h2
      cases h
      simp only [List.any_cons]
      rw [eqD_ok e d y x ⟨k, hk.1⟩ hd h1 h', anyEqv ds d ys x ⟨k, hk.2⟩ hd h2 h']
    · cases h
theorem gInL_gen {neg : Bool} {d : D} {ds : List D} (hd : gd 64 d = true) (he : gdL 63 ds = true) : gInL neg [d, .lst ds] = some (.bl (if neg then !(ds.any fun z => eqD z d) else ds.any fun z => eqD z d)) := by
  obtain ⟨x, h1, h2, h3⟩ := gd_ok 64 d hd
  obtain ⟨xs, h4, h5, h6⟩ := gdL_ok 63 ds he
  unfold gInL
  simp only [h1, h4]
  have sx : SeqAt.shaped x = true := by unfold SeqAt.shaped; simp [h2, h3]
  have sy : SeqAt.shaped (.list xs) = true := by
    unfold SeqAt.shaped
    have : PyData.canLay0 (.list xs) = true := by simpa [PyData.canLay0] using h5
    have h7 : PyData.depth (.list xs) ≤ 64 := by simp only [PyData.depth]; omega
    simp [this, h7]
  rw [sx, sy, anyEqv ds d xs x ⟨_, he⟩ ⟨_, hd⟩ h4 h1]
  rfl
section
variable {env : En} {a b : M} {L : List Int} {x : Int} {bs : List Bool}
theorem k_inG {d : D} {ds : List D} (h : dats env [a, b] = some [d, .lst ds]) (hd : gd 64 d = true) (he : gdL 63 ds = true) : oIn env [a, b] = some (.fz (.bl (ds.any fun z => eqD z d))) := by
  show oOr (sop (gInL false)) _ env _ = _
  unfold oOr
  rw [sop_of h (gInL_gen hd he) rfl]
  rfl
theorem k_ninG {d : D} {ds : List D} (h : dats env [a, b] = some [d, .lst ds]) (hd : gd 64 d = true) (he : gdL 63 ds = true) : oNin env [a, b] = some (.fz (.bl (!(ds.any fun z => eqD z d)))) := by
  show oOr (sop (gInL true)) _ env _ = _
  unfold oOr
  rw [sop_of h (gInL_gen hd he) rfl]
  rfl
theorem any_ints : (L.map D.int).any (fun z => eqD z (.int x)) = L.contains x := by
  induction L with
  | nil => rfl
  | cons y L ih =>
    rw [List.map_cons, List.any_cons, ih, List.contains_cons]
    show (y == x || _) = _
    rw [BEq.comm]
theorem k_inI (h : dats env [a, b] = some [.int x, lI L]) : oIn env [a, b] = some (.fz (.bl (L.contains x))) := (k_inG h gd_int gdL_ints).trans (by rw [any_ints])
theorem k_ninI (h : dats env [a, b] = some [.int x, lI L]) : oNin env [a, b] = some (.fz (.bl (!(L.contains x)))) := (k_ninG h gd_int gdL_ints).trans (by rw [any_ints])
theorem any_bls {y : Bool} : (bs.map D.bl).any (fun z => eqD z (.bl y)) = bs.contains y := by
  induction bs with
  | nil => rfl
  | cons z L ih =>
    rw [List.map_cons, List.any_cons, ih, List.contains_cons]
    show (z == y || _) = _
    rw [BEq.comm]
theorem k_inB {y : Bool} (h : dats env [a, b] = some [.bl y, lB bs]) : oIn env [a, b] = some (.fz (.bl (bs.contains y))) := (k_inG h gd_bl (gdL_map fun _ _ => gd_bl)).trans (by rw [any_bls])
theorem k_ninB {y : Bool} (h : dats env [a, b] = some [.bl y, lB bs]) : oNin env [a, b] = some (.fz (.bl (!(bs.contains y)))) := (k_ninG h gd_bl (gdL_map fun _ _ => gd_bl)).trans (by rw [any_bls])
theorem listOf_f {ds : List D} : oListOf env [.fz (.lst ds)] = some (oD ds) := by rfl
theorem listOf_o {ds : List D} : oListOf env [oD ds] = some (oD ds) := by rfl
theorem listOf_s {ns : List Int} : oListOf env [.fz (.scr ns)] = some (oI ns) := by
  show some (M.ol (ns.map fun n => .fz (.int n))) = _
  rw [map_fz_int]
theorem x_catBB {i j : Nat} {xs ys : List Int} (h : env.get i = some (oI xs)) (h' : env.get j = some (oI ys)) (hl : xs.length + ys.length ≤ sizeLine) : oAdd env [.bp i [], .bp j []] = some (oI (xs ++ ys)) := by
  have h1 : sop iAdd env [.bp i [], .bp j []] = none := by
    unfold sop
    rw [dats_b h (dats_b h' dats_n)]
    rfl
  have h2 : sop gStr env [.bp i [], .bp j []] = none := by
    unfold sop
    rw [dats_b h (dats_b h' dats_n)]
    rfl
  have h3 : oCat env [.bp i [], .bp j []] = some (oI (xs ++ ys)) := by
    unfold oCat
    simp only [elems_b h, elems_b h', List.length_map]
    rw [if_pos hl]
    show some (M.ol _) = some (M.ol (((xs ++ ys).map D.int).map M.fz))
    rw [List.map_append, List.map_append]
  show oOr (sop iAdd) (oOr (sop gStr) oCat) env _ = _
  unfold oOr
  rw [h1, h2, h3]
theorem x_catBO {i : Nat} {xs ys : List Int} (h : env.get i = some (oI xs)) (hl : xs.length + ys.length ≤ sizeLine) : oAdd env [.bp i [], oI ys] = some (oI (xs ++ ys)) := by
  have h1 : sop iAdd env [.bp i [], oI ys] = none := by
    unfold sop
    rw [dats_b h (dats_o dats_n)]
    rfl
  have h2 : sop gStr env [.bp i [], oI ys] = none := by
    unfold sop
    rw [dats_b h (dats_o dats_n)]
    rfl
  have h3 : oCat env [.bp i [], oI ys] = some (oI (xs ++ ys)) := by
    unfold oCat
    simp only [elems_b h, elems_o, List.length_map]
    rw [if_pos hl]
    show some (M.ol _) = some (M.ol (((xs ++ ys).map D.int).map M.fz))
    rw [List.map_append, List.map_append]
  show oOr (sop iAdd) (oOr (sop gStr) oCat) env _ = _
  unfold oOr
  rw [h1, h2, h3]
theorem elems_f {ds : List D} : elems env (.fz (.lst ds)) = some (true, ds.map .fz) := rfl
theorem x_catFO {xs ys : List Int} (hl : xs.length + ys.length ≤ sizeLine) : oAdd env [.fz (lI xs), oI ys] = some (oI (xs ++ ys)) := by
  have h1 : sop iAdd env [.fz (lI xs), oI ys] = none := by
    unfold sop
    rw [dats_f (dats_o dats_n)]
    rfl
  have h2 : sop gStr env [.fz (lI xs), oI ys] = none := by
    unfold sop
    rw [dats_f (dats_o dats_n)]
    rfl
  have h3 : oCat env [.fz (lI xs), oI ys] = some (oI (xs ++ ys)) := by
    unfold oCat
    simp only [elems_f, elems_o, List.length_map]
    rw [if_pos hl]
    show some (M.ol _) = some (M.ol (((xs ++ ys).map D.int).map M.fz))
    rw [List.map_append, List.map_append]
  show oOr (sop iAdd) (oOr (sop gStr) oCat) env _ = _
  unfold oOr
  rw [h1, h2, h3]
theorem x_catFF {xs ys : List Int} (hl : xs.length + ys.length ≤ sizeLine) : oAdd env [.fz (lI xs), .fz (lI ys)] = some (oI (xs ++ ys)) := by
  have h1 : sop iAdd env [.fz (lI xs), .fz (lI ys)] = none := by
    unfold sop
    rw [dats_f (dats_f dats_n)]
    rfl
  have h2 : sop gStr env [.fz (lI xs), .fz (lI ys)] = none := by
    unfold sop
    rw [dats_f (dats_f dats_n)]
    rfl
  have h3 : oCat env [.fz (lI xs), .fz (lI ys)] = some (oI (xs ++ ys)) := by
    unfold oCat
    simp only [elems_f, List.length_map]
    rw [if_pos hl]
    show some (M.ol _) = some (M.ol (((xs ++ ys).map D.int).map M.fz))
    rw [List.map_append, List.map_append]
  show oOr (sop iAdd) (oOr (sop gStr) oCat) env _ = _
  unfold oOr
  rw [h1, h2, h3]
theorem x_clear {ms : List M} : mClear ms [] = some ([], .fz .non) := rfl
end
section
variable {lk : Nat → Bool} {env : En}
theorem retM_oIe {L L' : List Int} (h : L = L') : retM lk env (some (oI L)) = some (.rt (oI L') env) := by subst h; exact retM_oI _
theorem retM_Ie {x y : Int} (h : x = y) : retM lk env (some (.fz (.int x))) = some (.rt (.fz (.int y)) env) := by subst h; exact retM_fz
theorem retM_Be {x y : Bool} (h : x = y) : retM lk env (some (.fz (.bl x))) = some (.rt (.fz (.bl y)) env) := by subst h; exact retM_fz
end
theorem bitAndN (a b : Nat) : Builtin.bitAnd (a : Int) (b : Int) = ((a &&& b : Nat) : Int) := rfl
end T2
end
section
set_option Elab.async false
set_option linter.all false
set_option maxRecDepth 100000
namespace T2
open PySem
section
variable {env e1 e2 : En} {f g : En → Option M} {fs : En → Option (List M)} {a b r m m' : M} {d : D} {ds : List D} {α β : Type}
theorem stow_b0 {i : Nat} (h : env.get i = some (oD ds)) (he : env.put i (.fz (.lst ds)) = e1) : stow 0 env (.bp i []) = some (.fz (.lst ds), e1) := by
  subst he
  have h1 : dat env (.bp i []) = some (.lst ds) := dat_of (dats_b h dats_n)
  unfold stow
  show (match dat env (.bp i []), frS [i] env with
    | some d, some env' => some (M.fz d, env')
    | _, _ => none) = _
  rw [h1]
  have h2 : frS [i] env = some (env.put i (.fz (.lst ds))) := by
    unfold frS
    rw [h]
    show (match dat0 (oD ds) with
      | some d => frS [] (env.put i (.fz d))
      | none => none) = _
    rw [dat0_o]
    rfl
  rw [h2]
theorem stow_bm {i : Nat} (h : env.get i = some m) (hm : dat0 m = some d) (he : env.put i (.fz d) = e1) : stow 0 env (.bp i []) = some (.fz d, e1) := by
  subst he
  have h1 : dat env (.bp i []) = some d := dat_of (dats_m h hm dats_n)
  unfold stow
  show (match dat env (.bp i []), frS [i] env with
    | some d, some env' => some (M.fz d, env')
    | _, _ => none) = _
  rw [h1]
  have h2 : frS [i] env = some (env.put i (.fz d)) := by
    unfold frS
    rw [h]
    show (match dat0 m with
      | some d => frS [] (env.put i (.fz d))
      | none => none) = _
    rw [hm]
    rfl
  rw [h2]
theorem x_idxM [Inhabited α] {F : α → D} {xs : List α} {j : Int} (h0 : 0 ≤ j) (h1 : j < xs.length) : oIdx env [.fz (.lst (xs.map F)), .fz (.int j)] = some (.fz (F (xs.getD j.toNat default))) := by
  obtain ⟨k, rfl⟩ : ∃ k : Nat, j = k := ⟨j.toNat, by omega⟩
  have hk : k < xs.length := by omega
  refine idx_f (atI_nat ?_)
  rw [List.getElem?_map, List.getElem?_eq_getElem hk]
  simp [List.getD, hk]
theorem x_lenM {F : α → D} {xs : List α} (h : f env = some m) (hd : dats env [m] = some [.lst (xs.map F)]) : opr (sop gLen) (aCons f aNil) env = some (.fz (.int xs.length)) := by
  have := len_b h hd
  rwa [List.length_map] at this
theorem x_lenG (h : f env = some m) (hd : dats env [m] = some [.lst ds]) : opr (sop gLen) (aCons f aNil) env = some (.fz (.int ds.length)) := len_b h hd
theorem x_lenT (h : f env = some m) (hd : dats env [m] = some [.tup ds]) : opr (sop gLen) (aCons f aNil) env = some (.fz (.int ds.length)) :=
  opr_of (acons_of h e_anil) (sop_of hd (show gLen [.tup ds] = some (.int ds.length) from rfl) rfl)
/-- a comprehension over anything -/
theorem lcL_map {vs : List Nat} {t : Tg} {elt : En → Option M} {F : α → D} {w : α → M} {e1 : α → En} : ∀ (xs : List α) (hT : ∀ x ∈ xs, asT (lkOf vs) t (F x) (env.wipe vs) = some (e1 x)) (hE : ∀ x ∈ xs, elt (e1 x) = some (w x)) (hs : ∀ x ∈ xs, slotsL [w x] = []), lcL vs t cYes elt env (xs.map F) = some (xs.map w)
  | [], _, _, _ => lcL_n
  | x :: xs, hT, hE, hs => lcL_t (hT x (List.mem_cons_self ..)) x_yes rfl (hE x (List.mem_cons_self ..)) (hs x (List.mem_cons_self ..)) (lcL_map xs (fun y hy => hT y (List.mem_cons_of_mem _ hy)) (fun y hy => hE y (List.mem_cons_of_mem _ hy)) (fun y hy => hs y (List.mem_cons_of_mem _ hy)))
theorem x_lcMM {vs : List Nat} {t : Tg} {elt : En → Option M} {it : En → Option (List D)} {F : α → D} {xs : List α} {w : α → M} {e1 : α → En} (h : it env = some (xs.map F)) (hT : ∀ x ∈ xs, asT (lkOf vs) t (F x) (env.wipe vs) = some (e1 x)) (hE : ∀ x ∈ xs, elt (e1 x) = some (w x)) (hs : ∀ x ∈ xs, slotsL [w x] = []) (hl : xs.length ≤ sizeLine) : lcF vs t it cYes elt env = some (.ol (xs.map w)) :=
  lcF_of h (lcL_map xs hT hE hs) (by simpa using hl)
theorem x_lcMI {vs : List Nat} {t : Tg} {elt : En → Option M} {it : En → Option (List D)} {F : α → D} {xs : List α} {v : α → Int} {e1 : α → En} (h : it env = some (xs.map F)) (hT : ∀ x ∈ xs, asT (lkOf vs) t (F x) (env.wipe vs) = some (e1 x)) (hE : ∀ x ∈ xs, elt (e1 x) = some (.fz (.int (v x)))) (hl : xs.length ≤ sizeLine) : lcF vs t it cYes elt env = some (oI (xs.map v)) := by
  rw [x_lcMM (w := fun x => .fz (.int (v x))) h hT hE (fun _ _ => rfl) hl]
  show _ = some (M.ol (((xs.map v).map D.int).map M.fz))
  rw [List.map_map, List.map_map]
  rfl
theorem datL0_map {w : α → M} {v : α → D} : ∀ (xs : List α) (h : ∀ x ∈ xs, dat0 (w x) = some (v x)), datL0 (xs.map w) = some (xs.map v)
  | [], _ => datL0_n
  | x :: xs, h => datL0_c (h x (List.mem_cons_self ..)) (datL0_map xs fun y hy => h y (List.mem_cons_of_mem _ hy))
theorem dat0_map {w : α → M} {v : α → D} {xs : List α} (h : ∀ x ∈ xs, dat0 (w x) = some (v x)) : dat0 (.ol (xs.map w)) = some (.lst (xs.map v)) := dat0_l (datL0_map xs h)
theorem slotsL_map {w : α → M} : ∀ (xs : List α) (h : ∀ x ∈ xs, slotsL [w x] = []), slotsL (xs.map w) = []
  | [], _ => rfl
  | x :: xs, h => by
    show slots (w x) ++ slotsL (xs.map w) = []
    rw [slotsL_map xs fun y hy => h y (List.mem_cons_of_mem _ hy)]
    exact h x (List.mem_cons_self ..)
theorem slotsL_m {w : α → M} {xs : List α} {ms : List M} (h : ∀ x ∈ xs, slotsL [w x] = []) (h' : slotsL ms = []) : slotsL (.ol (xs.map w) :: ms) = [] := slotsL_cl (slotsL_map xs h) h'
theorem shutL_map {k : Nat} {w w' : α → M} : ∀ (xs : List α) (h : ∀ x ∈ xs, shut k (w x) = some (w' x)), shutL k (xs.map w) = some (xs.map w')
  | [], _ => shutL_n
  | x :: xs, h => shutL_c (h x (List.mem_cons_self ..)) (shutL_map xs fun y hy => h y (List.mem_cons_of_mem _ hy))
theorem shut_m {k : Nat} {w w' : α → M} {xs : List α} (h : ∀ x ∈ xs, shut k (w x) = some (w' x)) : shut (k + 1) (.ol (xs.map w)) = some (.ol (xs.map w')) := shut_ol (shutL_map xs h)
theorem shut_z {m : M} (h : dat0 m = some d) : shut 0 m = some (.fz d) := by
  have : shut 0 m = (dat0 m).map .fz := by cases m <;> rfl
  rw [this, h]
  rfl
/-- a call's argument as data -/
theorem shutZ_d {bs : List Bool} {ms cs : List M} (hd : dat0 m = some d) (h : shutZ bs ms = some cs) : shutZ (false :: bs) (m :: ms) = some (.fz d :: cs) := by
  show (match shut 0 m, shutZ bs ms with
    | some n, some ns => some (n :: ns)
    | _, _ => none) = _
  rw [h, shut_z hd]
theorem datWL_map {bp : Nat → List Pa → Option D} {w : α → M} {v : α → D} : ∀ (xs : List α) (h : ∀ x ∈ xs, datW bp (w x) = some (v x)), datWL bp (xs.map w) = some (xs.map v)
  | [], _ => rfl
  | x :: xs, h => by
    show (match datW bp (w x), datWL bp (xs.map w) with
      | some d, some ds => some (d :: ds)
      | _, _ => none) = _
    rw [h x (List.mem_cons_self ..), datWL_map xs fun y hy => h y (List.mem_cons_of_mem _ hy)]
    rfl
theorem x_extend {ms : List M} (h : ms.length + ds.length ≤ sizeLine) : mExtend ms [.fz (.lst ds)] = some (ms ++ ds.map .fz, .fz .non) := by
  unfold mExtend
  simp only [h, if_true]
theorem x_appD {es : List D} (h : (es.length : Int) < 16777216) : mAppend (es.map .fz) [.fz d] = some ((es ++ [d]).map .fz, .fz .non) := by
  rw [append_fz (by simp only [List.length_map, sizeLine]; omega), List.map_append]
  rfl
theorem k_tup2 {d e : D} : oTup env [.fz d, .fz e] = some (.fz (.tup [d, e])) := rfl
theorem k_tup3 {d e f : D} : oTup env [.fz d, .fz e, .fz f] = some (.fz (.tup [d, e, f])) := rfl
theorem k_tup4 {d e f g : D} : oTup env [.fz d, .fz e, .fz f, .fz g] = some (.fz (.tup [d, e, f, g])) := rfl
theorem k_tup1 {d : D} : oTup env [.fz d] = some (.fz (.tup [d])) := rfl
theorem k_tupOl2 {d : D} {ms : List M} : oTup env [.fz d, .ol ms] = some (.ot [.fz d, .ol ms]) := rfl
theorem k_tupOl2' {d : D} {ms : List M} : oTup env [.ol ms, .fz d] = some (.ot [.ol ms, .fz d]) := rfl
theorem pow2_pos {k : Nat} : (0 : Int) < 1 * 2 ^ k := by
  have : (0 : Int) < 2 ^ k := Int.pow_pos (by decide)
  omega
theorem pow2_log {k : Nat} (h : k < 9000) : ((1 : Int) * 2 ^ k).natAbs.log2 < 9000 := by
  rw [Int.one_mul, Int.natAbs_pow]
  show (2 ^ k).log2 < 9000
  rw [Nat.log2_two_pow]
  exact h
theorem x_lcG {vs : List Nat} {t : Tg} {elt : En → Option M} {it : En → Option (List D)} {F : α → D} {xs : List α} {w : α → M} {e1 : α → En} (h : it env = some (xs.map F)) (hT : ∀ x ∈ xs, asT (lkOf vs) t (F x) (env.wipe vs) = some (e1 x)) (hE : ∀ x ∈ xs, elt (e1 x) = some (w x)) (hs : ∀ x ∈ xs, slotsL [w x] = []) (hl : xs.length ≤ sizeLine) (hr : M.ol (xs.map w) = r) : lcF vs t it cYes elt env = some r := by
  subst hr
  exact x_lcMM h hT hE hs hl
theorem lcL_mapg {vs : List Nat} {t : Tg} {cond : En → Option Bool} {elt : En → Option M} {F : α → D} {c : α → Bool} {w : α → M} {e1 : α → En} : ∀ (xs : List α) (hT : ∀ x ∈ xs, asT (lkOf vs) t (F x) (env.wipe vs) = some (e1 x)) (hC : ∀ x ∈ xs, cond (e1 x) = some (c x)) (hE : ∀ x ∈ xs, c x = true → elt (e1 x) = some (w x)) (hs : ∀ x ∈ xs, slotsL [w x] = []), lcL vs t cond elt env (xs.map F) = some ((xs.filter c).map w)
  | [], _, _, _, _ => lcL_n
  | x :: xs, hT, hC, hE, hs => by
    have ih := lcL_mapg xs (fun y hy => hT y (List.mem_cons_of_mem _ hy)) (fun y hy => hC y (List.mem_cons_of_mem _ hy)) (fun y hy => hE y (List.mem_cons_of_mem _ hy)) (fun y hy => hs y (List.mem_cons_of_mem _ hy))
    cases hc : c x with
    | false =>
      rw [List.filter_cons_of_neg (by rw [hc]; simp)]
      exact lcL_s (hT x (List.mem_cons_self ..)) (hC x (List.mem_cons_self ..)) hc ih
    | true =>
      rw [List.filter_cons_of_pos hc]
      exact lcL_t (hT x (List.mem_cons_self ..)) (hC x (List.mem_cons_self ..)) hc (hE x (List.mem_cons_self ..) hc) (hs x (List.mem_cons_self ..)) ih
theorem x_lcGf {vs : List Nat} {t : Tg} {cond : En → Option Bool} {elt : En → Option M} {it : En → Option (List D)} {F : α → D} {xs : List α} {c : α → Bool} {w : α → M} {e1 : α → En} (h : it env = some (xs.map F)) (hT : ∀ x ∈ xs, asT (lkOf vs) t (F x) (env.wipe vs) = some (e1 x)) (hC : ∀ x ∈ xs, cond (e1 x) = some (c x)) (hE : ∀ x ∈ xs, c x = true → elt (e1 x) = some (w x)) (hs : ∀ x ∈ xs, slotsL [w x] = []) (hl : xs.length ≤ sizeLine) (hr : M.ol ((xs.filter c).map w) = r) : lcF vs t it cond elt env = some r := by
  subst hr
  exact lcF_of h (lcL_mapg xs hT hC hE hs) (by simp only [List.length_map]; exact Nat.le_trans (List.length_filter_le _ _) hl)
theorem nlc_I {xs : List α} {v : α → Int} : M.ol (xs.map fun x => .fz (.int (v x))) = oI (xs.map v) := by
  show _ = M.ol (((xs.map v).map D.int).map M.fz)
  rw [List.map_map, List.map_map]
  rfl
theorem nlc_B {xs : List α} {v : α → Bool} : M.ol (xs.map fun x => .fz (.bl (v x))) = oD ((xs.map v).map .bl) := by
  show _ = M.ol (((xs.map v).map D.bl).map M.fz)
  rw [List.map_map, List.map_map]
  rfl
theorem nlc_D {xs : List α} {v : α → D} : M.ol (xs.map fun x => .fz (v x)) = oD (xs.map v) := by
  show _ = M.ol ((xs.map v).map M.fz)
  rw [List.map_map]
  rfl
theorem zipIdx_en {F : α → D} : ∀ (xs : List α) (k : Nat), enD k (xs.map F) = (xs.zipIdx k).map fun p => D.tup [.int (p.2 : Nat), F p.1]
  | [], k => rfl
  | x :: xs, k => by
    show D.tup [.int (k : Nat), F x] :: enD (k + 1) (xs.map F) = _
    rw [zipIdx_en xs (k + 1)]
    rfl
theorem x_enP {F : α → D} {xs : List α} (h : fs env = some [a]) (ha : items env a = some (.lst (xs.map F))) : itEnP fs env = some (xs.zipIdx.map fun p => .tup [.int (p.2 : Nat), F p.1]) := by
  have e : itemsL env [a] = some [.lst (xs.map F)] := by
    show (match items env a, some [] with
      | some d, some ds => some (d :: ds)
      | _, _ => none : Option (List D)) = _
    rw [ha]
  unfold itEnP
  rw [h]
  simp only [e]
  show (some (enD 0 (xs.map F)) : Option (List D)) = _
  rw [zipIdx_en]
theorem zipD_map {F : α → D} {G : β → D} : ∀ (xs : List α) (ys : List β), zipD (xs.map F) (ys.map G) = (xs.zip ys).map fun p => D.tup [F p.1, G p.2]
  | [], ys => by cases ys <;> rfl
  | x :: xs, [] => rfl
  | x :: xs, y :: ys => by
    show D.tup [F x, G y] :: zipD (xs.map F) (ys.map G) = _
    rw [zipD_map xs ys]
    rfl
theorem x_zipP {F : α → D} {G : β → D} {xs : List α} {ys : List β} (h : fs env = some [a, b]) (ha : items env a = some (.lst (xs.map F))) (hb : items env b = some (.lst (ys.map G))) : itZipP fs env = some ((xs.zip ys).map fun p => .tup [F p.1, G p.2]) := by
  have e : itemsL env [a, b] = some [.lst (xs.map F), .lst (ys.map G)] := by
    show (match items env a, (match items env b, some [] with
      | some d, some ds => some (d :: ds)
      | _, _ => none : Option (List D)) with
      | some d, some ds => some (d :: ds)
      | _, _ => none) = _
    rw [ha, hb]
  unfold itZipP
  rw [h]
  simp only [e]
  show (some (zipD (xs.map F) (ys.map G)) : Option (List D)) = _
  rw [zipD_map]
theorem datW_m {bp : Nat → List Pa → Option D} {w : α → M} {v : α → D} {xs : List α} (h : ∀ x ∈ xs, datW bp (w x) = some (v x)) : datW bp (.ol (xs.map w)) = some (.lst (xs.map v)) := by
  show (datWL bp (xs.map w)).map D.lst = _
  rw [datWL_map xs h]
  rfl
theorem datW_f {bp : Nat → List Pa → Option D} : datW bp (.fz d) = some d := rfl
theorem dats_w {ms : List M} {cs : List D} (hx : datW (plD env) m = some d) (h : dats env ms = some cs) : dats env (m :: ms) = some (d :: cs) := by
  show (match datW (plD env) m, datWL (plD env) ms with
    | some d, some ds => some (d :: ds)
    | _, _ => none) = _
  rw [show datWL (plD env) ms = some cs from h, hx]
theorem datW_t {bp : Nat → List Pa → Option D} {ms : List M} {ds : List D} (h : datWL bp ms = some ds) : datW bp (.ot ms) = some (.tup ds) := by
  show (datWL bp ms).map D.tup = _
  rw [h]
  rfl
theorem datW_l {bp : Nat → List Pa → Option D} {ms : List M} {ds : List D} (h : datWL bp ms = some ds) : datW bp (.ol ms) = some (.lst ds) := by
  show (datWL bp ms).map D.lst = _
  rw [h]
  rfl
theorem datWL_n {bp : Nat → List Pa → Option D} : datWL bp [] = some [] := rfl
theorem datWL_c {bp : Nat → List Pa → Option D} {ms : List M} {ds : List D} (h : datW bp m = some d) (h' : datWL bp ms = some ds) : datWL bp (m :: ms) = some (d :: ds) := by
  show (match datW bp m, datWL bp ms with
    | some d, some ds => some (d :: ds)
    | _, _ => none) = _
  rw [h, h']
theorem rng_nat {n x : Int} {b : Nat} (h : x ∈ rngI n) (hn : n ≤ b) : x.toNat < b := by
  have := mem_rngI.mp h
  omega
theorem rng_nat2 {m n x : Int} {b : Nat} (h : x ∈ rngI2 m n) (h0 : 0 ≤ m) (hn : n ≤ b) : x.toNat < b := by
  have := mem_rngI2.mp h
  omega
theorem k_tupBp2 {i : Nat} {p : List Pa} : oTup env [.fz d, .bp i p] = some (.ot [.fz d, .bp i p]) := rfl
theorem retM_t1 {lk : Nat → Bool} {i : Nat} {d d' : D} (h : env.get i = some m) (hm : dat0 m = some d') : retM lk env (some (.ot [.fz d, .bp i []])) = some (.rt (.fz (.tup [d, d'])) (env.put i (.fz d'))) := by
  have h1 : dat env (.ot [.fz d, .bp i []]) = some (.tup [d, d']) := by
    show (datWL (plD env) [.fz d, .bp i []]).map D.tup = _
    rw [show datWL (plD env) [.fz d, .bp i []] = some [d, d'] from dats_f (dats_m h hm dats_n)]
    rfl
  have h2 : frS [i] env = some (env.put i (.fz d')) := by
    unfold frS
    rw [h]
    show (match dat0 m with
      | some d => frS [] (env.put i (.fz d))
      | none => none) = _
    rw [hm]
    rfl
  have h3 : stow 9 env (.ot [.fz d, .bp i []]) = some (.fz (.tup [d, d']), env.put i (.fz d')) := by
    unfold stow
    show (match dat env (.ot [.fz d, .bp i []]), frS [i] env with
      | some d, some env' => some (M.fz d, env')
      | _, _ => none) = _
    rw [h1, h2]
  unfold retM sRet
  show (match stow 9 env (.ot [.fz d, .bp i []]) with
    | some (m', e2) => some (Fl.rt m' e2)
    | none => none) = _
  rw [h3]
theorem retM_ol {lk : Nat → Bool} {ms ms' : List M} (h : slotsL ms = []) (h' : shutL 8 ms = some ms') : retM lk env (some (.ol ms)) = some (.rt (.ol ms') env) := by
  unfold retM sRet
  show (match stow 9 env (.ol ms) with
    | some (m', e2) => some (Fl.rt m' e2)
    | none => none) = _
  rw [stow_ol (k := 8) h h']
theorem retM_ot {lk : Nat → Bool} {ms ms' : List M} (h : slotsL ms = []) (h' : shutL 8 ms = some ms') : retM lk env (some (.ot ms)) = some (.rt (.ot ms') env) := by
  unfold retM sRet
  show (match stow 9 env (.ot ms) with
    | some (m', e2) => some (Fl.rt m' e2)
    | none => none) = _
  rw [stow_ot (k := 8) h h']
theorem slotsL_f {xs : List D} : slotsL (xs.map .fz) = [] := slotsL_fz xs
theorem shutL_f {k : Nat} {xs : List D} : shutL k (xs.map .fz) = some (xs.map .fz) := shutL_fz xs
theorem gd_str {k : Nat} {x : Str} (h : PyData.strOk x = true) : gd k (.str x) = true := by cases k <;> exact h
theorem idx_t {ds : List D} {i : Int} {d : D} (h : L2.atI ds i = some d) : oIdx env [.fz (.tup ds), .fz (.int i)] = some (.fz d) := by
  have h0 : oIx true env [.fz (.tup ds), .fz (.int i)] = none := rfl
  have h1 : oIx false env [.fz (.tup ds), .fz (.int i)] = some (.fz d) := by
    show L2.atI (ds.map M.fz) i = _
    exact atI_map h
  show oOr (oIx true) (oOr (oIx false) _) env _ = _
  unfold oOr
  rw [h0, h1]
theorem k_idxT0 {a0 : D} {ds : List D} : oIdx env [.fz (.tup (a0 :: ds)), .fz (.int 0)] = some (.fz a0) := idx_t (atI_nat (i := 0) rfl)
theorem k_idxL0 {a0 : D} {ds : List D} : oIdx env [.fz (.lst (a0 :: ds)), .fz (.int 0)] = some (.fz a0) := idx_f (atI_nat (i := 0) rfl)
theorem k_idxT1 {a0 a1 : D} {ds : List D} : oIdx env [.fz (.tup (a0 :: a1 :: ds)), .fz (.int 1)] = some (.fz a1) := idx_t (atI_nat (i := 1) rfl)
theorem k_idxL1 {a0 a1 : D} {ds : List D} : oIdx env [.fz (.lst (a0 :: a1 :: ds)), .fz (.int 1)] = some (.fz a1) := idx_f (atI_nat (i := 1) rfl)
theorem k_idxT2 {a0 a1 a2 : D} {ds : List D} : oIdx env [.fz (.tup (a0 :: a1 :: a2 :: ds)), .fz (.int 2)] = some (.fz a2) := idx_t (atI_nat (i := 2) rfl)
theorem k_idxL2 {a0 a1 a2 : D} {ds : List D} : oIdx env [.fz (.lst (a0 :: a1 :: a2 :: ds)), .fz (.int 2)] = some (.fz a2) := idx_f (atI_nat (i := 2) rfl)
theorem k_idxT3 {a0 a1 a2 a3 : D} {ds : List D} : oIdx env [.fz (.tup (a0 :: a1 :: a2 :: a3 :: ds)), .fz (.int 3)] = some (.fz a3) := idx_t (atI_nat (i := 3) rfl)
theorem k_idxL3 {a0 a1 a2 a3 : D} {ds : List D} : oIdx env [.fz (.lst (a0 :: a1 :: a2 :: a3 :: ds)), .fz (.int 3)] = some (.fz a3) := idx_f (atI_nat (i := 3) rfl)
theorem k_idxT4 {a0 a1 a2 a3 a4 : D} {ds : List D} : oIdx env [.fz (.tup (a0 :: a1 :: a2 :: a3 :: a4 :: ds)), .fz (.int 4)] = some (.fz a4) := idx_t (atI_nat (i := 4) rfl)
theorem k_idxL4 {a0 a1 a2 a3 a4 : D} {ds : List D} : oIdx env [.fz (.lst (a0 :: a1 :: a2 :: a3 :: a4 :: ds)), .fz (.int 4)] = some (.fz a4) := idx_f (atI_nat (i := 4) rfl)
theorem g_idxB {i : Nat} {p : List Pa} {j : Int} (h : oIdx env [.bp i p, .fz (.int j)] = some r) : oIdx env [.bp i p, .fz (.int j)] = some r := h
theorem g_lt {x y : Int} (h : x < y) : x < y := h
theorem g_le {x y : Int} (h : x ≤ y) : x ≤ y := h
theorem g_ltN {x y : Nat} (h : x < y) : x < y := h
theorem g_leN {x y : Nat} (h : x ≤ y) : x ≤ y := h
theorem x_extendD {es : List D} (h : es.length + ds.length ≤ sizeLine) : mExtend (es.map .fz) [.fz (.lst ds)] = some ((es ++ ds).map .fz, .fz .non) := by
  rw [x_extend (by simpa using h), List.map_append]
theorem k_min2 {i j : Int} : oMin env [.fz (.int i), .fz (.int j)] = some (.fz (.int (if j < i then j else i))) := rfl
theorem k_max2 {i j : Int} : oMax env [.fz (.int i), .fz (.int j)] = some (.fz (.int (if j > i then j else i))) := rfl
theorem k_xor {i j : Int} : sop iXor env [.fz (.int i), .fz (.int j)] = some (.fz (.int (Builtin.bitXor i j))) := rfl
theorem or_xor_and : ∀ (n a b : Nat), a < 2 ^ n → b < 2 ^ n → a ||| b = (a ^^^ b) + (a &&& b)
  | 0, a, b, ha, hb => by
    have : a = 0 := by simp at ha; exact ha
    have : b = 0 := by simp at hb; exact hb
    subst a b
    rfl
  | n + 1, a, b, ha, hb => by
    have ih := or_xor_and n (a / 2) (b / 2) (by rw [Nat.pow_succ] at ha; omega) (by rw [Nat.pow_succ] at hb; omega)
    have e1 : (a ||| b) / 2 = a / 2 ||| b / 2 := Nat.or_div_two ..
    have e2 : (a ^^^ b) / 2 = a / 2 ^^^ b / 2 := Nat.xor_div_two ..
    have e3 : (a &&& b) / 2 = a / 2 &&& b / 2 := Nat.and_div_two ..
    have m1 : (a ||| b) % 2 = 1 ↔ a % 2 = 1 ∨ b % 2 = 1 := Nat.or_mod_two_eq_one
    have m2 : (a ^^^ b) % 2 = 1 ↔ ¬ (a % 2 = 1 ↔ b % 2 = 1) := Nat.xor_mod_two_eq_one
    have m3 : (a &&& b) % 2 = 1 ↔ a % 2 = 1 ∧ b % 2 = 1 := Nat.and_mod_two_eq_one
    rw [← e1, ← e2, ← e3] at ih
    generalize a ||| b = p at *
    generalize a ^^^ b = q at *
    generalize a &&& b = r at *
    clear e1 e2 e3
    rcases Nat.mod_two_eq_zero_or_one a with h1 | h1 <;> rcases Nat.mod_two_eq_zero_or_one b with h2 | h2 <;> rw [h1, h2] at m1 m2 m3 <;> simp at m1 m2 m3 <;> omega
theorem bitXorN (a b : Nat) : Builtin.bitXor (a : Int) (b : Int) = ((a ^^^ b : Nat) : Int) := by
  have h : a ||| b = (a ^^^ b) + (a &&& b) := by
    have h1 := Nat.lt_two_pow_self (n := a)
    have h2 := Nat.lt_two_pow_self (n := b)
    refine or_xor_and (a + b) a b (Nat.lt_of_lt_of_le h1 (Nat.pow_le_pow_right (by decide) (by omega))) (Nat.lt_of_lt_of_le h2 (Nat.pow_le_pow_right (by decide) (by omega)))
  unfold Builtin.bitXor
  rw [bitOrN, bitAndN, h]
  omega
theorem k_xorN {a b : Nat} : sop iXor env [.fz (.int a), .fz (.int b)] = some (.fz (.int ((a ^^^ b : Nat) : Int))) := by rw [k_xor, bitXorN]
theorem k_minN {a b : Nat} : oMin env [.fz (.int a), .fz (.int b)] = some (.fz (.int ((min a b : Nat) : Int))) := by
  rw [k_min2]
  have : (if (b : Int) < (a : Int) then (b : Int) else (a : Int)) = ((min a b : Nat) : Int) := by
    split <;> omega
  rw [this]
theorem x_andF {f g : En → Option Bool} {c : Bool} (h : f env = some c) (hc : c = false) : dAnd f g env = some false := by
  subst hc
  unfold dAnd
  rw [h]
theorem x_orT {f g : En → Option Bool} {c : Bool} (h : f env = some c) (hc : c = true) : dOr f g env = some true := by
  subst hc
  unfold dOr
  rw [h]
theorem x_ifT {c : Bool} {x y R : Option Fl} (h : c = true) (h' : x = R) : (if c = true then x else y) = R := by rw [if_pos h]; exact h'
theorem x_ifF {c : Bool} {x y R : Option Fl} (h : c = false) (h' : y = R) : (if c = true then x else y) = R := by subst h; simpa using h'
theorem gInT_ints {neg : Bool} {x : Int} : ∀ L : List Int, gInT neg [.int x, .tup (L.map .int)] = some (.bl (if neg then !L.contains x else L.contains x)) := fun L => by
  have h1 : (L.map D.int).all scal = true := by
    rw [List.all_map]
    exact List.all_eq_true.mpr fun _ _ => rfl
  have h2 : ((L.map D.int).map toV).all L2.flatV = true := by
    rw [List.map_map, List.all_map]
    exact List.all_eq_true.mpr fun _ _ => rfl
  have h3 : L2.inV (.int x) ((L.map D.int).map toV) = L.contains x := by
    unfold L2.inV
    rw [List.map_map]
    induction L with
    | nil => rfl
    | cons y L ih =>
      rw [List.map_cons, List.any_cons, List.contains_cons, ih (by
        rw [List.all_map]
        exact List.all_eq_true.mpr fun _ _ => rfl) (by
        rw [List.map_map, List.all_map]
        exact List.all_eq_true.mpr fun _ _ => rfl)]
      show (y == x || _) = (x == y || _)
      rw [BEq.comm]
  have h4 : (scal (.int x) && (L.map D.int).all scal && L2.flatV (toV (.int x)) && ((L.map D.int).map toV).all L2.flatV) = true := by
    rw [h1, h2]
    rfl
  show (if (scal (.int x) && (L.map D.int).all scal && L2.flatV (toV (.int x)) && ((L.map D.int).map toV).all L2.flatV) = true then some (D.bl (if neg = true then !L2.inV (.int x) ((L.map D.int).map toV) else L2.inV (.int x) ((L.map D.int).map toV))) else none) = _
  rw [if_pos h4, h3]
theorem k_inTI {x : Int} {L : List Int} : oIn env [.fz (.int x), .fz (.tup (L.map .int))] = some (.fz (.bl (L.contains x))) := by
  show oOr (sop (gInL false)) (oOr (sop (gInT false)) (sop (gInS false))) env _ = _
  have h1 : sop (gInL false) env [.fz (.int x), .fz (.tup (L.map .int))] = none := rfl
  unfold oOr
  rw [h1]
  simp only
  rw [sop_of (dats_f (dats_f dats_n)) (gInT_ints L) rfl]
  rfl
theorem k_inT2 {x a b : Int} : oIn env [.fz (.int x), .fz (.tup [.int a, .int b])] = some (.fz (.bl ([a, b].contains x))) := k_inTI (L := [a, b])
theorem k_inT3 {x a b c : Int} : oIn env [.fz (.int x), .fz (.tup [.int a, .int b, .int c])] = some (.fz (.bl ([a, b, c].contains x))) := k_inTI (L := [a, b, c])
theorem k_inT4 {x a b c d : Int} : oIn env [.fz (.int x), .fz (.tup [.int a, .int b, .int c, .int d])] = some (.fz (.bl ([a, b, c, d].contains x))) := k_inTI (L := [a, b, c, d])
theorem x_minL {L : List Int} {i : Int} (h : f env = some a) (ha : dats env [a] = some [lI L]) (hm : lMin L = some i) : opr oMin (aCons f aNil) env = some (.fz (.int i)) := by
  refine opr_of (acons_of h e_anil) ?_
  have h1 : sop gMin2 env [a] = none := by
    unfold sop
    rw [ha]
    rfl
  have h2 : gMin [lI L] = some (.int i) := by
    show (match intsOf (L.map .int) with
      | some ns => (lMin ns).map D.int
      | none => none) = _
    rw [intsOf_ints]
    show (lMin L).map D.int = _
    rw [hm]
    rfl
  show oOr (sop gMin2) (sop gMin) env [a] = _
  unfold oOr
  rw [h1, sop_of ha h2 rfl]
theorem x_catOF {xs ys : List Int} (hl : xs.length + ys.length ≤ sizeLine) : oAdd env [oI xs, .fz (lI ys)] = some (oI (xs ++ ys)) := by
  have h1 : sop iAdd env [oI xs, .fz (lI ys)] = none := by
    unfold sop
    rw [dats_o (dats_f dats_n)]
    rfl
  have h2 : sop gStr env [oI xs, .fz (lI ys)] = none := by
    unfold sop
    rw [dats_o (dats_f dats_n)]
    rfl
  have h3 : oCat env [oI xs, .fz (lI ys)] = some (oI (xs ++ ys)) := by
    unfold oCat
    simp only [elems_f, elems_o, List.length_map]
    rw [if_pos hl]
    show some (M.ol _) = some (M.ol (((xs ++ ys).map D.int).map M.fz))
    rw [List.map_append, List.map_append]
  show oOr (sop iAdd) (oOr (sop gStr) oCat) env _ = _
  unfold oOr
  rw [h1, h2, h3]
end
end T2
end
section
set_option Elab.async false
set_option linter.all false
set_option maxRecDepth 100000
namespace T2
open PySem PySem.Spec PyProof.Rows L2
/-- where the text's classes stand -/
class ClsA where
  at_ : Nat → Addr
section
variable {K : PySem.W.Frag}
/-- the subtree at a path, and the tree with another one in its place -/
theorem Own.hole {F H : Hp} : ∀ {p : List Pa} {m : M} {w : V} {A : List Addr} {n : M} {v : V}, Own K noBr F H m w A → getP m p = some n → ValP H w p v →
    ∃ X Y B, A = X ++ B ++ Y ∧ Own K noBr F H n v B ∧
      ∀ F' H' n' B', Same F F' → (∀ x ∈ X ++ Y, F' x = none ∧ ∀ o, H x = some o → H' x = some o) → Own K noBr F' H' n' v B' → ∃ m', setP m p n' = some m' ∧ Own K noBr F' H' m' w (X ++ B' ++ Y)
  | [], m, w, A, n, v, h, e, q => by
    rw [getP_nil] at e
    cases e
    have q : v = w := q
    subst q
    refine ⟨[], [], A, by simp, h, fun F' H' n' B' s k o => ⟨_, setP_nil _ _, ?_⟩⟩
    rw [List.nil_append, List.append_nil]
    exact o
  | .ix kk :: r, m, w, A, n, v, h, e, q => by
    obtain ⟨b, us, u, rfl, q, g, q2⟩ := q
    cases m with
    | ol xs =>
      simp only [Own] at h
      obtain ⟨p, vs', B, e1, rfl, f, q3, h⟩ := h
      cases e1
      have : us = vs' := by rcases q with q | q <;> rw [q3] at q <;> cases q <;> rfl
      subst this
      simp only [getP] at e
      split at e
      · rename_i m' hm
        obtain ⟨X, Y, D, v', rfl, e1, e2, e3⟩ := OwnL.split h hm
        rw [g] at e1
        cases e1
        obtain ⟨X', Y', C, rfl, c2, c3⟩ := Own.hole e2 e q2
        refine ⟨b :: X ++ X', Y' ++ Y, C, by simp, c2, fun F' H' n' B' s k o => ?_⟩
        obtain ⟨n2, s1, s2⟩ := c3 F' H' n' B' s (fun x hx => k x (by
          rcases List.mem_append.mp hx with z | z <;> simp [z])) o
        refine ⟨.ol (xs.set kk n2), by simp only [setP, hm, s1, Option.map_some], ?_⟩
        simp only [Own]
        have kb := k b (by simp)
        exact ⟨b, us, X ++ (X' ++ B' ++ Y') ++ Y, rfl, by simp, kb.1, kb.2 _ q3, e3 F' H' n2 _ s (fun x hx => k x (by
          rcases List.mem_append.mp hx with z | z <;> simp [z])) s2⟩
      · cases e
    | ot xs =>
      simp only [Own] at h
      obtain ⟨p, vs', B, e1, rfl, f, q3, h⟩ := h
      cases e1
      have : us = vs' := by rcases q with q | q <;> rw [q3] at q <;> cases q <;> rfl
      subst this
      simp only [getP] at e
      split at e
      · rename_i m' hm
        obtain ⟨X, Y, D, v', rfl, e1, e2, e3⟩ := OwnL.split h hm
        rw [g] at e1
        cases e1
        obtain ⟨X', Y', C, rfl, c2, c3⟩ := Own.hole e2 e q2
        refine ⟨b :: X ++ X', Y' ++ Y, C, by simp, c2, fun F' H' n' B' s k o => ?_⟩
        obtain ⟨n2, s1, s2⟩ := c3 F' H' n' B' s (fun x hx => k x (by
          rcases List.mem_append.mp hx with z | z <;> simp [z])) o
        refine ⟨.ot (xs.set kk n2), by simp only [setP, hm, s1, Option.map_some], ?_⟩
        simp only [Own]
        have kb := k b (by simp)
        exact ⟨b, us, X ++ (X' ++ B' ++ Y') ++ Y, rfl, by simp, kb.1, kb.2 _ q3, e3 F' H' n2 _ s (fun x hx => k x (by
          rcases List.mem_append.mp hx with z | z <;> simp [z])) s2⟩
      · cases e
    | fz d => cases e
    | bp i p => cases e
    | oi C fs => cases e
    | od _ _ => cases e
    | odt _ => cases e
  | .fd f :: r, m, w, A, n, v, h, e, q => by
    obtain ⟨b, C0, dx0, gs0, u, rfl, q, g, q2⟩ := q
    cases m with
    | oi C xs =>
      simp only [Own] at h
      obtain ⟨p, dx, gs, B, e1, rfl, f1, f2, q3, q4, h⟩ := h
      cases e1
      rw [q3] at q
      cases q
      simp only [getP] at e
      split at e
      · rename_i m' hm
        obtain ⟨X, Y, D, v', rfl, e1, e2, e3⟩ := OwnF.split h hm
        rw [g] at e1
        cases e1
        obtain ⟨X', Y', C', rfl, c2, c3⟩ := Own.hole e2 e q2
        refine ⟨b :: dx0 :: X ++ X', Y' ++ Y, C', by simp, c2, fun F' H' n' B' s k o => ?_⟩
        obtain ⟨n2, s1, s2⟩ := c3 F' H' n' B' s (fun x hx => k x (by
          rcases List.mem_append.mp hx with z | z <;> simp [z])) o
        refine ⟨.oi C0 (setF xs f n2), by simp only [setP, hm, s1, Option.map_some], ?_⟩
        simp only [Own]
        have kb := k b (by simp)
        have kd := k dx0 (by simp)
        exact ⟨b, dx0, gs0, X ++ (X' ++ B' ++ Y') ++ Y, rfl, by simp, kb.1, kd.1, kb.2 _ q3, kd.2 _ q4, e3 F' H' n2 _ s (fun x hx => k x (by
          rcases List.mem_append.mp hx with z | z <;> simp [z])) s2⟩
      · cases e
    | fz d => cases e
    | bp i p => cases e
    | ol ms => cases e
    | ot ms => cases e
    | od _ _ => cases e
    | odt _ => cases e
end
section
variable {K : PySem.W.Frag} {F H F' H' : Hp} {σ σ' : L2.St} {env env' : En} {fp fp' : Nat → List Addr} {A B : List Addr}
/-- a slot's subtree changes: its nodes B become B', the heap changes at B alone -/
theorem hole_ok (ok : EnvOk K F H σ env fp) {i : Nat} {p : List Pa} {n : M} {v : V} (hpl : env.place i p = some n) (hv : plc H σ env i p v) :
    ∃ B, Own K noBr F H n v B ∧ B.Nodup ∧ (∀ c ∈ B, Ond env fp c) ∧
      ∀ H' n' B', Own K noBr F H' n' v B' → B'.Nodup → (∀ c ∈ B', c ∈ B ∨ ¬ Ond env fp c) → (∀ x o, x ∉ B → H x = some o → H' x = some o) → (∀ x, H' x = none → H x = none) → (∀ x od u, H x = some (.frz od u) → H' x = some (.frz od u)) → ∃ env' fp', setE env i p n' = some env' ∧ Go K B' σ env fp F H σ env' fp' F H' ∧ ∀ x, Ond env' fp' x → x ∈ B' ∨ (Ond env fp x ∧ x ∉ B) := by
  obtain ⟨w, hw, hval, _⟩ := hv
  unfold En.place at hpl
  split at hpl
  · rename_i m hm
    obtain ⟨w', k1, k2⟩ := ok.slot i m hm
    rw [hw] at k1
    cases k1
    obtain ⟨X, Y, C, eA, c2, c3⟩ := k2.hole hpl hval
    have nd := ok.nd i m hm
    rw [eA] at nd
    have hlt := En.get_lt hm
    have inA : ∀ x, x ∈ X ++ C ++ Y → x ∈ fp i := fun x hx => by rw [eA]; exact hx
    have nd1 := List.nodup_append.mp nd
    have nd2 := List.nodup_append.mp nd1.1
    have sep : ∀ x ∈ X ++ Y, x ∉ C := fun x hx => by
      rcases List.mem_append.mp hx with z | z
      · exact fun h => nd2.2.2 x z x h rfl
      · exact fun h => nd1.2.2 x (by simp [h]) x z rfl
    have F0 : ∀ x ∈ fp i, F x = none := fun x hx => (k2.at _ _ _ x hx).1
    refine ⟨C, c2, nd2.2.1, fun c hc => ⟨i, m, hm, inA c (by simp [hc])⟩, fun H' n' B' o n sC up stay lok => ?_⟩
    obtain ⟨m', s1, s2⟩ := c3 F H' n' B' (.refl _) (fun x hx => ⟨F0 x (inA x (by rcases List.mem_append.mp hx with z | z <;> simp [z])), fun o => up x o (sep x hx)⟩) o
    have inN : ∀ x, x ∈ X ++ B' ++ Y → x ∈ B' ∨ (x ∈ fp i ∧ x ∉ C) := fun x hx => by
      simp only [List.mem_append] at hx
      rcases hx with (z | z) | z
      · exact .inr ⟨inA x (by simp [z]), sep x (by simp [z])⟩
      · exact .inl z
      · exact .inr ⟨inA x (by simp [z]), sep x (by simp [z])⟩
    have onN : ∀ x, Ond (env.put i m') (fun j => if j = i then X ++ B' ++ Y else fp j) x → x ∈ B' ∨ (Ond env fp x ∧ x ∉ C) := fun x ⟨j, y, hj, hx⟩ => by
      by_cases h : j = i
      · simp only [if_pos h] at hx
        rcases inN x hx with z | z
        · exact .inl z
        · exact .inr ⟨⟨i, m, hm, z.1⟩, z.2⟩
      · simp only [if_neg h] at hx
        rw [En.get_put hlt, if_neg h] at hj
        exact .inr ⟨⟨j, y, hj, hx⟩, fun z => h (ok.dj j i y m x hj hm hx (inA x (by simp [z])))⟩
    have ne' : ∀ {j y x}, j ≠ i → env.get j = some y → x ∈ fp j → x ∉ C ∧ x ∉ B' := fun {j y x} hj hy hx => by
      refine ⟨fun z => hj (ok.dj j i y m x hy hm hx (inA x (by simp [z]))), fun z => ?_⟩
      rcases sC x z with w | w
      · exact hj (ok.dj j i y m x hy hm hx (inA x (by simp [w])))
      · exact w ⟨j, y, hy, hx⟩
    refine ⟨env.put i m', _, by unfold setE; simp only [hm, s1, Option.map_some], ⟨.refl _, fun x o e no _ => up x o (fun z => no ⟨i, m, hm, inA x (by simp [z])⟩) e, stay, fun x z => .inl z, fun x z => ?_, ?_, lok⟩, onN⟩
    · rcases onN x z with z | z
      · exact .inr (.inr z)
      · exact .inr (.inl z.1)
    · refine ⟨by unfold En.put; rw [List.length_set]; exact ok.len, fun x o e => ?_, fun j y hj => ?_, fun j y hj => ?_, fun j k y y' x hj hk hx hx' => ?_⟩
      · exact up x o (fun z => by rw [F0 x (inA x (by simp [z]))] at e; cases e) (ok.sub _ _ e)
      · rw [En.get_put hlt] at hj
        by_cases h : j = i
        · subst h
          rw [if_pos rfl] at hj
          cases hj
          refine ⟨w, hw, ?_⟩
          simp only [if_pos]
          exact s2
        · rw [if_neg h] at hj
          obtain ⟨w', z1, z2⟩ := ok.slot j y hj
          refine ⟨w', z1, ?_⟩
          simp only [if_neg h]
          exact z2.mono (.refl _) (fun _ _ _ z => z) _ _ _ fun x hx => ⟨(z2.at _ _ _ x hx).1, fun u => up x u (ne' h hj hx).1⟩
      · rw [En.get_put hlt] at hj
        by_cases h : j = i
        · simp only [if_pos h]
          have d1 : ∀ x ∈ B', x ∉ X ++ Y := fun x hx hz => by
            rcases sC x hx with w | w
            · exact sep x hz w
            · exact w ⟨i, m, hm, inA x (by rcases List.mem_append.mp hz with z | z <;> simp [z])⟩
          refine List.nodup_append.mpr ⟨List.nodup_append.mpr ⟨nd2.1, n, fun x hx y hy e => ?_⟩, nd1.2.1, fun x hx y hy e => ?_⟩
          · subst e
            exact d1 x hy (by simp [hx])
          · subst e
            simp only [List.mem_append] at hx
            rcases hx with z | z
            · exact nd1.2.2 x (by simp [z]) x hy rfl
            · exact d1 x z (by simp [hy])
        · rw [if_neg h] at hj
          simp only [if_neg h]
          exact ok.nd j y hj
      · have cross : ∀ k y, k ≠ i → env.get k = some y → ∀ x, x ∈ X ++ B' ++ Y → x ∈ fp k → False := fun k y hk hy x h1 h2 => by
          rcases inN x h1 with z | z
          · exact (ne' hk hy h2).2 z
          · exact hk (ok.dj k i y m x hy hm h2 z.1)
        rw [En.get_put hlt] at hj hk
        by_cases hj' : j = i
        · simp only [if_pos hj'] at hx
          by_cases hk' : k = i
          · rw [hj', hk']
          · rw [if_neg hk'] at hk
            simp only [if_neg hk'] at hx'
            exact (cross k y' hk' hk x hx hx').elim
        · rw [if_neg hj'] at hj
          simp only [if_neg hj'] at hx
          by_cases hk' : k = i
          · simp only [if_pos hk'] at hx'
            exact (cross j y hj' hj x hx' hx).elim
          · rw [if_neg hk'] at hk
            simp only [if_neg hk'] at hx'
            exact ok.dj j k y y' x hj hk hx hx'
  · cases hpl
end
end T2
end
section
set_option Elab.async false
set_option linter.all false
set_option maxRecDepth 100000
namespace T2
open PySem PySem.Spec PyProof.Rows L2
def keyD : D → Option Key
  | .int i => some (.inl i)
  | .str s => some (.inr s)
  | _ => none
def kD : Key → D
  | .inl i => .int i
  | .inr s => .str s
def getK (kvs : List (Key × D)) (k : Key) : Option D := (kvs.find? fun kv => decide (kv.1 = k)).map (·.2)
def putD (kvs : List (Key × D)) (k : Key) (d : D) : List (Key × D) := if (kvs.any fun kv => decide (kv.1 = k)) = true then kvs.map fun kv => if kv.1 = k then (kv.1, d) else kv else kvs ++ [(k, d)]
/-- a dict that is no part of a slot, or stands at a place -/
def dicO (env : En) : M → Option (List (Key × D))
  | .od _ kvs => some kvs
  | .fz (.dic ks ds) => some (ks.zip ds)
  | .bp i p => match env.place i p with
    | some (.od _ kvs) => some kvs
    | _ => none
  | _ => none
/-- .. that is not locked -/
def dicU (env : En) : M → Option (List (Key × D))
  | .od false kvs => some kvs
  | .bp i p => match env.place i p with
    | some (.od false kvs) => some kvs
    | _ => none
  | _ => none
section
variable {K : PySem.W.Frag} {F H F' H' : Hp} {σ : L2.St} {env : En} {fp : Nat → List Addr} {A B : List Addr}
theorem lkd.rd {lk : Bool} {p : Addr} {o : HO} (h : lkd lk H p o) : Rd H p o := by
  rcases h with ⟨h1, h2⟩ | ⟨h1, od, h2⟩
  · exact .inl h2
  · exact .inr ⟨od, h2⟩
/-- what stands at a place -/
theorem place_ok (ok : EnvOk K F H σ env fp) {i : Nat} {p : List Pa} {v : V} {n : M} (h : plc H σ env i p v) (hn : env.place i p = some n) : ∃ C, Own K noBr F H n v C := by
  obtain ⟨w, hw, hv, _⟩ := h
  unfold En.place at hn
  split at hn
  · rename_i m' hm
    obtain ⟨w', g1, g2⟩ := ok.slot i m' hm
    rw [hw] at g1
    cases g1
    obtain ⟨C, c1, _⟩ := g2.path hn hv
    exact ⟨C, c1⟩
  · cases hn
end
def oDG : En → List M → Option M := fun env ms => match ms with
  | [m, .fz kd] => match dicO env m, keyD kd with
    | some kvs, some k => (getK kvs k).map .fz
    | _, _ => none
  | _ => none
def oDLen : En → List M → Option M := fun env ms => match ms with
  | [m] => match dicU env m with
    | some kvs => some (.fz (.int kvs.length))
    | _ => none
  | _ => none
theorem ValP.snocF {H : Hp} {a C dx : Addr} {gs : List (Str × V)} {f : Str} {u : V} (q : H a = some (.ins C dx gs)) (g : gs.lookup f = some u) : ∀ {p : List Pa} {w : V}, ValP H w p (.ref a) → ValP H w (p ++ [.fd f]) u
  | [], w, h => by
    have h : V.ref a = w := h
    subst h
    exact ⟨a, C, dx, gs, u, rfl, q, g, rfl⟩
  | .ix j :: r, w, h => by
    obtain ⟨b, vs', u', e, q', g', h⟩ := h
    exact ⟨b, vs', u', e, q', g', ValP.snocF q g h⟩
  | .fd f :: r, w, h => by
    obtain ⟨b, C, dx, gs, u', e, q', g', h⟩ := h
    exact ⟨b, C, dx, gs, u', e, q', g', ValP.snocF q g h⟩
theorem getP_snocF {C : Addr} {fs : List (Str × M)} {f : Str} {n : M} (hn : getF fs f = some n) : ∀ {p : List Pa} {m : M}, getP m p = some (.oi C fs) → getP m (p ++ [.fd f]) = some n
  | [], m, h => by
    rw [getP_nil] at h
    cases h
    show getP (.oi C fs) [.fd f] = some n
    simp only [getP, hn]
  | .ix j :: r, m, h => by
    cases m with
    | ol xs =>
      simp only [List.cons_append, getP] at h ⊢
      cases e : xs[j]? with
      | none => rw [e] at h; simp at h
      | some x => rw [e] at h; exact getP_snocF hn h
    | ot xs =>
      simp only [List.cons_append, getP] at h ⊢
      cases e : xs[j]? with
      | none => rw [e] at h; simp at h
      | some x => rw [e] at h; exact getP_snocF hn h
    | fz d => cases h
    | bp i p => cases h
    | oi C fs => cases h
    | od _ _ => cases h
    | odt _ => cases h
  | .fd f :: r, m, h => by
    cases m with
    | oi C xs =>
      simp only [List.cons_append, getP] at h ⊢
      cases e : getF xs f with
      | none => rw [e] at h; simp at h
      | some x => rw [e] at h; exact getP_snocF hn h
    | fz d => cases h
    | bp i p => cases h
    | ol xs => cases h
    | ot xs => cases h
    | od _ _ => cases h
    | odt _ => cases h
def lookD : List (Str × D) → Str → Option D
  | [], _ => none
  | p :: r, f => if p.1 = f then some p.2 else lookD r f
theorem RepF.get {K : PySem.W.Frag} {F : Hp} {f : Str} : ∀ {fs : List (Str × D)} {gs : List (Str × V)} {d : D}, RepF K F fs gs → lookD fs f = some d → ∃ v, gs.lookup f = some v ∧ Rep K F d v
  | [], gs, d, h, e => by cases e
  | p :: fs, gs, d, h, e => by
    simp only [RepF] at h
    obtain ⟨v, r, rfl, q, q2⟩ := h
    unfold lookD at e
    split at e
    · rename_i hf
      cases e
      exact ⟨v, by rw [List.lookup_cons, hf]; simp, q⟩
    · rename_i hf
      obtain ⟨w, e1, e2⟩ := RepF.get q2 e
      refine ⟨w, ?_, e2⟩
      rw [List.lookup_cons]
      have : (f == p.1) = false := by simpa using fun z => hf z.symm
      simp only [this, e1]
section
variable [ca : ClsA]
/-- o.f, o an instance of the text's class number n -/
def oFld (n : Nat) (f : Str) : En → List M → Option M := fun env ms => match ms with
  | [.oi C fs] => if C = ca.at_ n then getF fs f else none
  | [.fz (.ins C fs)] => if C = ca.at_ n then (lookD fs f).map .fz else none
  | [.bp i p] => match env.place i p with
    | some (.oi C fs) => if C = ca.at_ n then (match getF fs f with
      | some (.fz d) => some (.fz d)
      | some _ => some (.bp i (p ++ [.fd f]))
      | none => none) else none
    | _ => none
  | _ => none
def rFld (K : PySem.W.Frag) (f : Str) : V → Hp → VK → Prop := fun x H Q => ∃ a C dx fs v, x = .ref a ∧ H a = some (.ins C dx fs) ∧ Cls K C ∧ NoAttr K C f ∧ fs.lookup f = some v ∧ Q v H
theorem s_fld {K : PySem.W.Frag} {n : Nat} {f : Str} (hc : Cls K (ca.at_ n)) (ha : NoAttr K (ca.at_ n) f) : OpS K (oFld n f) (r1L (rFld K f)) := by
  intro σ env F H fp ms vs A m Q ok hO hn dj e q
  unfold oFld at e
  split at e
  · rename_i C fs
    split at e
    · rename_i hC
      subst hC
      obtain ⟨v, rfl, o1⟩ := ownL1 hO
      simp only [Own] at o1
      obtain ⟨p, dx, gs, B, rfl, rfl, f1, f2, q3, q4, h⟩ := o1
      obtain ⟨u, B', e1, e2, e3⟩ := OwnF.get h e
      exact ⟨_, rfl, p, _, dx, gs, u, rfl, q3, hc, ha, e1, keepS ok e2 (e3.trans ((List.sublist_cons_self _ _).trans (List.sublist_cons_self _ _))) hn q⟩
    · cases e
  · rename_i C fs
    split at e
    · rename_i hC
      subst hC
      obtain ⟨d, hd, rfl⟩ := Option.map_eq_some_iff.mp e
      obtain ⟨v, rfl, o1⟩ := ownL1 hO
      simp only [Own, Rep] at o1
      obtain ⟨rfl, p, dx, gs, rfl, q3, q4, h⟩ := o1
      obtain ⟨u, e1, e2⟩ := h.get hd
      exact ⟨_, rfl, p, _, dx, gs, u, rfl, ok.sub _ _ q3, hc, ha, e1, keepS ok (B := []) (own_fz e2) (List.nil_sublist _) hn q⟩
    · cases e
  · rename_i i p
    obtain ⟨v, rfl, o1⟩ := ownL1 hO
    simp only [Own] at o1
    obtain ⟨rfl, w, hw, hv, nn, hnn⟩ := o1
    split at e
    · rename_i C fs hn'
      split at e
      · rename_i hC
        subst hC
        have hpl := hn'
        obtain ⟨CC, c⟩ := place_ok ok ⟨w, hw, hv, nn, hnn⟩ hn'
        simp only [Own] at c
        obtain ⟨pp, dx, gs, B, rfl, rfl, f1, f2, q3, q4, h⟩ := c
        unfold En.place at hn'
        split at hn'
        · rename_i m' hm
          have pl : ∀ x, getF fs f = some x → env.place i (p ++ [.fd f]) = some x := fun x hx => by
            unfold En.place
            rw [hm]
            exact getP_snocF hx hn'
          split at e
          · rename_i d hd
            cases e
            obtain ⟨u, B', e1, e2, e3⟩ := OwnF.get h hd
            simp only [Own] at e2
            exact ⟨_, rfl, pp, _, dx, gs, u, rfl, q3, hc, ha, e1, keepS ok (B := []) (own_fz e2.2) (List.nil_sublist _) hn q⟩
          · rename_i x hne hx
            cases e
            obtain ⟨u, B', e1, e2, e3⟩ := OwnF.get h hx
            exact ⟨_, rfl, pp, _, dx, gs, u, rfl, q3, hc, ha, e1, keepS ok (B := []) (own_bp ⟨w, hw, hv.snocF q3 e1, x, pl x hx⟩) (List.nil_sublist _) hn q⟩
          · cases e
        · cases hn'
      · cases e
    · cases e
  · cases e
theorem pd_fld {X : Cx} {e : Expr} {fe : En → Option M} {n : Nat} {f : Str} {pos : Pos} (hc : Cls X.K (ca.at_ n)) (ha : NoAttr X.K (ca.at_ n) f) (he : PD X e fe) (hb : attributeBase e f X.env (eval e X.env) = eval e X.env := by rfl) : PD X (.Attribute e f pos) (una (oFld n f) fe) := by
  refine PE.imp (pe_fld he hb) fun σ H Q q => ?_
  refine (tDA.op (s_fld hc ha) q).one.mono fun v H1 h1 => ?_
  obtain ⟨x, e, h1⟩ := h1
  cases e
  exact h1
end
/-- x.bit_length() -/
def iBits := gU fun i => (Builtin.Int.intBits i : Nat)
end T2
end
section
set_option Elab.async false
set_option linter.all false
set_option maxRecDepth 100000
namespace T2
open PySem PySem.Spec PyProof.Rows L2
section
variable {K : PySem.W.Frag} {F H F' H' : Hp} {σ : L2.St} {env : En} {fp : Nat → List Addr} {A B : List Addr} {br : Nat → List Pa → V → Prop}
theorem OwnF.len : ∀ {ms : List (Str × M)} {vs : List (Str × V)} {A : List Addr}, OwnF K br F H ms vs A → ms.length = vs.length
  | [], vs, A, h => by
    simp only [OwnF] at h
    rw [h.1]
    rfl
  | n :: ms, vs, A, h => by
    simp only [OwnF] at h
    obtain ⟨v, r, B, C, rfl, rfl, q, q2⟩ := h
    simp only [List.length_cons, OwnF.len q2]
theorem OwnF.put {f : Str} {m : M} {v : V} (hm : Own K br F H m v A) : ∀ {fs : List (Str × M)} {gs : List (Str × V)} {B : List Addr}, OwnF K br F H fs gs B → (B ++ A).Nodup → ∃ B2, OwnF K br F H (setF fs f m) (putF f v gs) B2 ∧ B2.Nodup ∧ ∀ x ∈ B2, x ∈ B ++ A
  | [], gs, B, h, n => by
    simp only [OwnF] at h
    obtain ⟨rfl, rfl⟩ := h
    refine ⟨A, ?_, by simpa using n, fun x hx => by simpa using hx⟩
    simp only [setF, OwnF]
    exact ⟨v, [], A, [], rfl, by simp, hm, rfl, rfl⟩
  | m0 :: fs, gs, B, h, n => by
    simp only [OwnF] at h
    obtain ⟨v0, r, B0, C, rfl, rfl, q, q2⟩ := h
    have n1 := List.nodup_append.mp n
    have n2 := List.nodup_append.mp n1.1
    by_cases hf : m0.1 = f
    · refine ⟨A ++ C, ?_, List.nodup_append.mpr ⟨n1.2.1, n2.2.1, fun x hx y hy e => n1.2.2 y (by simp [hy]) x hx e.symm⟩, fun x hx => ?_⟩
      · have e1 : setF (m0 :: fs) f m = (f, m) :: fs := by unfold setF; rw [if_pos hf]
        have e2 : putF f v ((m0.1, v0) :: r) = (f, v) :: r := by unfold putF; rw [if_pos hf, hf]
        rw [e1, e2]
        simp only [OwnF]
        exact ⟨v, r, A, C, rfl, rfl, hm, q2⟩
      · rcases List.mem_append.mp hx with z | z <;> simp [z]
    · have n3 : (C ++ A).Nodup := List.nodup_append.mpr ⟨n2.2.1, n1.2.1, fun x hx y hy => n1.2.2 x (by simp [hx]) y hy⟩
      obtain ⟨B2, h1, h2, h3⟩ := OwnF.put hm q2 n3
      refine ⟨B0 ++ B2, ?_, List.nodup_append.mpr ⟨n2.1, h2, fun x hx y hy e => ?_⟩, fun x hx => ?_⟩
      · have e1 : setF (m0 :: fs) f m = m0 :: setF fs f m := by
          show (if m0.1 = f then (f, m) :: fs else m0 :: setF fs f m) = _
          rw [if_neg hf]
        have e2 : putF f v ((m0.1, v0) :: r) = (m0.1, v0) :: putF f v r := by
          show (if m0.1 = f then (m0.1, v) :: r else (m0.1, v0) :: putF f v r) = _
          rw [if_neg hf]
        rw [e1, e2]
        simp only [OwnF]
        exact ⟨v0, _, B0, B2, rfl, rfl, q, h1⟩
      · subst e
        rcases List.mem_append.mp (h3 x hy) with z | z
        · exact n2.2.2 x hx x z rfl
        · exact n1.2.2 x (by simp [hx]) x z rfl
      · rcases List.mem_append.mp hx with z | z
        · simp [z]
        · rcases List.mem_append.mp (h3 x z) with w | w <;> simp [w]
/-- temporary nodes stay in a step -/
theorem Own.tmp {m : M} {v : V} (h : Own K noBr F H m v A) (s : Step [] F H F' H') : Own K noBr F' H' m v A := h.mono s.fr (fun _ _ _ z => z) _ _ _ fun c hc => by
  obtain ⟨z1, u, z2⟩ := h.at _ _ _ c hc
  refine ⟨?_, s.hp c⟩
  cases z : F' c with
  | none => rfl
  | some u' =>
    rcases s.nw c (by rw [z]; simp) with w | w | w
    · exact absurd z1 w
    · rw [z2] at w
      cases w
    · cases w
end
section
variable [ca : ClsA]
/-- o.f = e -/
def sFldS (n k : Nat) (f : Str) (fo : En → Option M) (g : En → Option (M × En)) : En → Option Fl := fun env => match g env with
  | some (m, e1) => match stow k e1 m with
    | some (m', e2) => match fo e2 with
      | some (.bp i p) => match e2.place i p with
        | some (.oi C fs) => if C = ca.at_ n ∧ fs.length < 1000 then (match setE e2 i p (.oi C (setF fs f m')) with
          | some e3 => some (.nx e3)
          | none => none) else none
        | _ => none
      | _ => none
    | none => none
  | none => none
theorem pds_fld {X : Cx} {lk : Nat → Bool} {o e : Expr} {fo : En → Option M} {g : En → Option (M × En)} {n : Nat} {f : Str} {pos pos' : Pos} (k : Nat) (hc : Cls X.K (ca.at_ n)) (ha : NoAttr X.K (ca.at_ n) f) (he : PX X e g) (ho : PD X o fo)
    (hs : swapsWith e (some (.Attribute o f pos')) pos.line X.env = pure false := by rfl) : PDS X lk (.Assign [.Attribute o f pos'] e pos) (sFldS n k f fo g) := by
  refine PS.imp (ps_fld ho he hs) fun D σ H h => ?_
  obtain ⟨env, r, F, fp, e, ok, q⟩ := h
  unfold sFldS at e
  split at e
  · rename_i m e1 h1
    split at e
    · rename_i m' e2 h2
      split at e
      · rename_i i p h3
        split at e
        · rename_i C fs h4
          split at e
          · rename_i hC
            split at e
            · rename_i e3 h5
              cases e
              obtain ⟨rfl, hl⟩ := hC
              refine ⟨env, m, e1, F, fp, h1, ok, fun v F1 H1 fp1 A g1 o1 n1 a1 b1 => ?_⟩
              obtain ⟨F2, fp2, A', g2, o2, n2, a2, b2⟩ := stow_go g1 o1 n1 a1 b1 h2
              refine ⟨e2, _, F2, fp2, h3, g2.ok, fun x F3 H3 A3 s3 o3 n3 a3 => ?_⟩
              simp only [Own] at o3
              obtain ⟨rfl, w, hw, hv, _⟩ := o3
              have g3 := g2.trans (s3.go g2.ok fun a z => by cases z) (fun a z => by cases z)
              have o2' : Own X.K noBr F3 H3 m' v A' := o2.tmp s3
              obtain ⟨B, o4, nB, onB, up⟩ := hole_ok g3.ok h4 ⟨w, hw, hv, _, h4⟩
              simp only [Own] at o4
              obtain ⟨a, dx, gs, B0, rfl, rfl, f1, f2, q3, q4, r4⟩ := o4
              refine ⟨a, _, dx, gs, rfl, q3, hc, ha, by rw [← r4.len]; exact hl, ?_⟩
              have nB1 := List.nodup_cons.mp nB
              have nB2 := List.nodup_cons.mp nB1.2
              have aA : ∀ c, c ∈ a :: dx :: B0 → c ∉ A' := fun c hc z => b2 c z (onB c hc)
              have nBA : (B0 ++ A').Nodup := List.nodup_append.mpr ⟨nB2.2, n2, fun x hx y hy e => aA x (by simp [hx]) (e ▸ hy)⟩
              obtain ⟨B2, p1, p2, p3⟩ := OwnF.put (f := f) o2' r4 nBA
              have ne : ∀ x ∈ B2, x ≠ a ∧ x ≠ dx := fun x hx => by
                rcases List.mem_append.mp (p3 x hx) with z | z
                · exact ⟨fun e => nB1.1 (by simp [← e, z]), fun e => nB2.1 (by simp [← e, z])⟩
                · exact ⟨fun e => aA a (by simp) (e ▸ z), fun e => aA dx (by simp) (e ▸ z)⟩
              have ndx : dx ≠ a := fun e => nB1.1 (by simp [e])
              obtain ⟨e4, fp4, t1, t2, t3⟩ := up (upd H3 a (.ins (ca.at_ n) dx (putF f v gs))) (.oi (ca.at_ n) (setF fs f m')) (a :: dx :: B2) (by
                simp only [Own]
                exact ⟨a, dx, _, B2, rfl, rfl, f1, f2, upd_same, by rw [upd_ne ndx]; exact q4, p1.mono (.refl _) (fun _ _ _ z => z) _ _ _ fun x hx => ⟨(p1.at _ _ _ x hx).1, fun o z => by rw [upd_ne (ne x hx).1]; exact z⟩⟩)
                (List.nodup_cons.mpr ⟨fun z => by
                  rcases List.mem_cons.mp z with z | z
                  · exact ndx z.symm
                  · exact (ne a z).1 rfl, List.nodup_cons.mpr ⟨fun z => (ne dx z).2 rfl, p2⟩⟩)
                (fun c hc => by
                  rcases List.mem_cons.mp hc with z | z
                  · exact .inl (by simp [z])
                  rcases List.mem_cons.mp z with z | z
                  · exact .inl (by simp [z])
                  rcases List.mem_append.mp (p3 c z) with z | z
                  · exact .inl (by simp [z])
                  · exact .inr (b2 c z))
                (fun x o hx z => by rw [upd_ne fun e => hx (by simp [e])]; exact z)
                (fun x z => by
                  by_cases hx : x = a
                  · subst hx
                    rw [upd_same] at z
                    cases z
                  · rw [upd_ne hx] at z
                    exact z)
                (fun x od u z => by rw [upd_ne fun e => by rw [e, q3] at z; cases z]; exact z)
              rw [h5] at t1
              cases t1
              refine q σ F3 _ fp4 (g3.trans t2 fun c hc => ?_) fun _ _ => rfl
              rcases List.mem_cons.mp hc with z | z
              · exact g3.ond (onB c (by simp [z]))
              rcases List.mem_cons.mp z with z | z
              · exact g3.ond (onB c (by simp [z]))
              rcases List.mem_append.mp (p3 c z) with z | z
              · exact g3.ond (onB c (by simp [z]))
              · exact a2 c z
            · cases e
          · cases e
        · cases e
      · cases e
    · cases e
  · cases e
end
/-- d[k] = e -/
def sDSet (fo fi : En → Option M) (g : En → Option (M × En)) : En → Option Fl := fun env => match g env with
  | some (m, e1) => match stow 0 e1 m with
    | some (.fz d, e2) => match fo e2, fi e2 with
      | some (.bp i p), some (.fz kd) => match e2.place i p, keyD kd with
        | some (.od false kvs), some k => if kvs.length < sizeLine then (match setE e2 i p (.od false (putD kvs k d)) with
          | some e3 => some (.nx e3)
          | none => none) else none
        | _, _ => none
      | _, _ => none
    | _ => none
  | none => none
end T2
end
section
set_option Elab.async false
set_option linter.all false
set_option maxRecDepth 100000
namespace T2
open PySem PySem.Spec PyProof.Rows L2
/-- list(d.keys()) -/
def oKeys : En → List M → Option M := fun env ms => match ms with
  | [m] => match dicO env m with
    | some kvs => some (oD (kvs.map fun kv => kD kv.1))
    | none => none
  | _ => none
end T2
end
section
set_option Elab.async false
set_option linter.all false
set_option maxRecDepth 100000
namespace T2
open PySem PySem.Spec PyProof.Rows L2
theorem ValP.inj {H : Hp} : ∀ {p : List Pa} {w v v' : V}, ValP H w p v → ValP H w p v' → v = v'
  | [], w, v, v', h, h' => Eq.trans h (Eq.symm h')
  | .ix k :: r, w, v, v', h, h' => by
    obtain ⟨a, vs, u, rfl, q, g, h⟩ := h
    obtain ⟨a', vs', u', e, q', g', h'⟩ := h'
    cases e
    have : vs = vs' := by rcases q with q | q <;> rcases q' with q' | q' <;> rw [q] at q' <;> cases q' <;> rfl
    subst this
    rw [g] at g'
    cases g'
    exact ValP.inj h h'
  | .fd f :: r, w, v, v', h, h' => by
    obtain ⟨a, C, dx, gs, u, rfl, q, g, h⟩ := h
    obtain ⟨a', C', dx', gs', u', e, q', g', h'⟩ := h'
    cases e
    rw [q] at q'
    cases q'
    rw [g] at g'
    cases g'
    exact ValP.inj h h'
section
variable {K : PySem.W.Frag} {F H : Hp}
theorem Own.val : ∀ {p : List Pa} {m n : M} {w : V} {A : List Addr}, Own K noBr F H m w A → getP m p = some n → ∃ v, ValP H w p v
  | [], m, n, w, A, h, e => ⟨w, rfl⟩
  | .ix k :: r, m, n, w, A, h, e => by
    cases m with
    | ol xs =>
      simp only [Own] at h
      obtain ⟨p, vs, B, rfl, rfl, f, q3, h⟩ := h
      simp only [getP] at e
      split at e
      · rename_i m' hm
        obtain ⟨u, B', e1, e2, e3⟩ := OwnL.get h hm
        obtain ⟨v, hv⟩ := Own.val e2 e
        exact ⟨v, p, vs, u, rfl, .inl q3, e1, hv⟩
      · cases e
    | ot xs =>
      simp only [Own] at h
      obtain ⟨p, vs, B, rfl, rfl, f, q3, h⟩ := h
      simp only [getP] at e
      split at e
      · rename_i m' hm
        obtain ⟨u, B', e1, e2, e3⟩ := OwnL.get h hm
        obtain ⟨v, hv⟩ := Own.val e2 e
        exact ⟨v, p, vs, u, rfl, .inr q3, e1, hv⟩
      · cases e
    | fz d => cases e
    | bp i p => cases e
    | oi C fs => cases e
    | od _ _ => cases e
    | odt _ => cases e
  | .fd f :: r, m, n, w, A, h, e => by
    cases m with
    | oi C xs =>
      simp only [Own] at h
      obtain ⟨p, dx, gs, B, rfl, rfl, f1, f2, q3, q4, h⟩ := h
      simp only [getP] at e
      split at e
      · rename_i m' hm
        obtain ⟨u, B', e1, e2, e3⟩ := OwnF.get h hm
        obtain ⟨v, hv⟩ := Own.val e2 e
        exact ⟨v, p, C, dx, gs, u, rfl, q3, e1, hv⟩
      · cases e
    | fz d => cases e
    | bp i p => cases e
    | ol ms => cases e
    | ot ms => cases e
    | od _ _ => cases e
    | odt _ => cases e
end
end T2
end
section
set_option Elab.async false
set_option linter.all false
set_option maxRecDepth 100000
namespace T2
open PySem PySem.Spec PyProof.Rows L2
section
variable [ca : ClsA]
/-- C(..): a new instance behind its __init__ -/
def oMake (n : Nat) (io : List Bool) (f : Fn) : En → List M → Option M := fun env ms => match slotsL ms with
  | [] => match shutZ io ms with
    | some cs => match f (.oi (ca.at_ n) [] :: cs) with
      | some (.fz .non, m' :: _) => some m'
      | _ => none
    | none => none
  | _ => none
/-- o.m(..), o in slot i -/
def callM (n : Nat) (mn : Str) (io : List Bool) (f : Fn) (i : Nat) (gs : En → Option (List M × En)) : En → Option (M × En) := fun env => match env.get i with
  | some (.oi C fs) => if C = ca.at_ n ∧ (getF fs mn).isNone = true then callI io f (xCons (lif (nam i)) gs) env else none
  | _ => none
section
variable {K : PySem.W.Frag}
theorem s_make {n : Nat} {io : List Bool} {f : Fn} {E : XK} : OpS K (oMake n io f) (fun vs H Q => ∀ x dx, H x = none → H dx = none → dx ≠ x → SpI K f (.ref x :: vs) (upd (upd H dx (.own x)) x (.ins (ca.at_ n) dx [])) (fun v H2 => v = .non ∧ Q (.ref x) H2) E) := by
  intro σ env F H fp ms vs A m Q ok hO hn dj e q
  unfold oMake at e
  split at e
  · split at e
    · rename_i cs hc
      split at e
      · rename_i m' tl hf
        cases e
        intro x dx hx hdx ne
        obtain ⟨A', h1, h2⟩ := shutZ_ok hO hn hc
        obtain ⟨f1, f2, f3⟩ := fr_frz2 (A := A) ok.sub fun a ha => (hO.at _ _ _ a (h1.subset ha)).1
        have sH : Same H (upd (upd H dx (.own x)) x (.ins (ca.at_ n) dx [])) := fun b o z => by
          rw [upd_ne (ne_of_none z hx), upd_ne (ne_of_none z hdx)]
          exact z
        have inH : ∀ a ∈ A, ∃ o, H a = some o := fun a ha => (hO.at _ _ _ a ha).2
        have nx : x ∉ A' := fun z => by
          obtain ⟨o, z⟩ := inH x (h1.subset z)
          rw [hx] at z
          cases z
        have nd : dx ∉ A' := fun z => by
          obtain ⟨o, z⟩ := inH dx (h1.subset z)
          rw [hdx] at z
          cases z
        have Fx : frz2 F H A A' x = none := by
          cases z : frz2 F H A A' x with
          | none => rfl
          | some u => rw [f2.free hx] at z; cases z
        have Fdx : frz2 F H A A' dx = none := by
          cases z : frz2 F H A A' dx with
          | none => rfl
          | some u => rw [f2.free hdx] at z; cases z
        have oc : OwnL K noBr (frz2 F H A A') (upd (upd H dx (.own x)) x (.ins (ca.at_ n) dx [])) (.oi (ca.at_ n) [] :: cs) (.ref x :: vs) (x :: dx :: A') := by
          simp only [OwnL, Own, OwnF]
          exact ⟨.ref x, vs, [x, dx], A', rfl, rfl, ⟨x, dx, [], [], rfl, rfl, Fx, Fdx, upd_same, by rw [upd_ne ne, upd_same], rfl, rfl⟩, (h2 _ f1).mono (.refl _) (fun _ _ _ z => z) _ _ _ fun a ha => ⟨((h2 _ f1).at _ _ _ a ha).1, sH a⟩⟩
        have ndc : (x :: dx :: A').Nodup := List.nodup_cons.mpr ⟨fun z => by
          rcases List.mem_cons.mp z with z | z
          · exact ne z.symm
          · exact nx z, List.nodup_cons.mpr ⟨nd, hn.sublist h1⟩⟩
        obtain ⟨fpc, okc, on⟩ := envOf (f2.trans sH) oc ndc
        have onc : ∀ a, Ond ((.oi (ca.at_ n) [] :: cs).map some) fpc a → H a = none ∨ a ∈ A := fun a z => by
          rcases List.mem_cons.mp (on a z) with z | z
          · exact .inl (by rw [z]; exact hx)
          rcases List.mem_cons.mp z with z | z
          · exact .inl (by rw [z]; exact hdx)
          · exact .inr (h1.subset z)
        refine ⟨_, _, _, _, fpc, hf, okc, fun v F' H' fp' B g o nb a b => ?_⟩
        simp only [Own, Rep] at o
        refine ⟨o.2, ?_⟩
        have h0 : En.get ((m :: tl).map some) 0 = some m := rfl
        obtain ⟨w, y1, y2⟩ := g.ok.slot 0 m h0
        simp only [List.map_cons, List.getElem?_cons_zero, Option.some.injEq] at y1
        subst y1
        refine q (.ref x) F' H' (fp' 0) ⟨f1.1.trans g.fr, fun c u z nc => g.keep c u (sH _ _ z) (fun w => ?_) (by simp), fun c z => sH.free (g.stay c z), g.ok.sub, fun c z => ?_, fun c od u z => g.lok _ _ _ (sH _ _ z)⟩ (y2.mono (.refl _) (fun _ _ _ z => z.elim) _ _ _ fun c hc => ⟨(y2.at _ _ _ c hc).1, fun _ z => z⟩) (g.ok.nd 0 m h0) fun c hc => ?_
        · rcases onc c w with y | y
          · rw [y] at z
            cases z
          · exact nc y
        · rcases g.nw c z with w | w | w | w
          · rcases f3 c w with w | w
            · exact .inl w
            · exact .inr (.inr w.1)
          · exact .inr (.inl (sH.free w))
          · exact .inr (onc c w)
          · cases w
        · rcases g.ond ⟨0, m, h0, hc⟩ with w | w
          · exact .inl (sH.free w)
          · exact onc c w
      · cases e
    · cases e
  · cases e
theorem OwnF.none {br : Nat → List Pa → V → Prop} {F H : Hp} {f : Str} : ∀ {fs : List (Str × M)} {gs : List (Str × V)} {A : List Addr}, OwnF K br F H fs gs A → getF fs f = none → gs.lookup f = none
  | [], gs, A, h, e => by
    simp only [OwnF] at h
    rw [h.1]
    rfl
  | p :: fs, gs, A, h, e => by
    simp only [OwnF] at h
    obtain ⟨v, r, B, C, rfl, rfl, q, q2⟩ := h
    unfold getF at e
    split at e
    · cases e
    · rename_i hf
      rw [List.lookup_cons]
      have : (f == p.1) = false := by simpa using fun z => hf z.symm
      simp only [this]
      exact OwnF.none q2 e
theorem tXA.nam {i : Nat} {gs : En → Option (List M × En)} {σ : L2.St} {H : Hp} {R : List V → Hp → Prop} {x : V} (h : tXA K (xCons (lif (nam i)) gs) σ H R) (hx : σ[i]? = some (some x)) : tXA K gs σ H fun vs H2 => R (x :: vs) H2 := by
  have h := tX.of h.cons
  obtain ⟨env, m, F, fp, e, ok, q⟩ := h
  unfold T2.nam at e
  split at e
  · rename_i d hm
    cases e
    obtain ⟨v, e1, e2⟩ := ok.slot i _ hm
    rw [hx] at e1
    cases e1
    simp only [Own] at e2
    exact q x F H [] (.refl ok.sub) (own_fz e2.2) .nil fun a z => by cases z
  · rename_i m' hne hm
    cases e
    obtain ⟨v, e1, e2⟩ := ok.slot i _ hm
    rw [hx] at e1
    cases e1
    refine q x F H [] (.refl ok.sub) (own_bp ⟨x, hx, rfl, m', ?_⟩) .nil fun a z => by cases z
    unfold En.place
    rw [hm]
    unfold getP
    cases m' <;> rfl
  · cases e
theorem tX.meth {n i : Nat} {mn : Str} {io : List Bool} {f : Fn} {gs : En → Option (List M × En)} {σ : L2.St} {H : Hp} {Q : VK} {E : XK} (h : tX K (callM n mn io f i gs) σ H Q) :
    ∃ v, σ[i]? = some (some v) ∧ ∃ a dx fs, v = .ref a ∧ H a = some (.ins (ca.at_ n) dx fs) ∧ fs.lookup mn = none ∧ tXA K gs σ H fun vs H2 => SpI K f (v :: vs) H2 Q E := by
  obtain ⟨env, m, env', F, fp, e, ok, q⟩ := h
  unfold callM at e
  split at e
  · rename_i C fs hm
    split at e
    · rename_i hC
      obtain ⟨rfl, hf⟩ := hC
      obtain ⟨v, e1, e2⟩ := ok.slot i _ hm
      simp only [Own] at e2
      obtain ⟨p, dx, gs', B, rfl, hfp, f1, f2, q3, q4, hh⟩ := e2
      refine ⟨_, e1, p, dx, gs', rfl, q3, hh.none (Option.isNone_iff_eq_none.mp hf), ?_⟩
      exact tXA.nam (tXA.mutc (E := E) ⟨env, m, env', F, fp, e, ok, q⟩) e1
    · cases e
  · cases e
end
section
variable {X : Cx} {k : Nat} {fa C : Addr} {fd : FuncData} {ps : List Str} {fn : Fn} {x : Str} {p pos apos : Pos} {e : Expr} {es : List Expr} {io : List Bool} {fs : En → Option (List M)} {gs : En → Option (List M × En)} {n : Nat}
theorem pd_make (io : List Bool) (M : Mk X.K (ca.at_ n) fa) (F : FnG X.prog X.w X.K X.mg X.base CX0 k fa fd ps (SpI X.K fn)) (hr : RoomG (k + 1) X.A) (hg : Gl X x) (hm : X.mg x = some (.ref (ca.at_ n))) (hb : Binds X.K fd ps [])
    (ha : PDA X (e :: es) fs) (hdb : (x == ("__debug__" : Str)) = false := by decide) (he : starEach (e :: es) X.env = (false, eval e X.env) :: starEach es X.env := by rfl) (hpl : (backTo pos (starEach es X.env)).any (·.1) = false := by rfl) :
    PD X (.Call (.Name x p) (e :: es) [] pos) (opr (oMake n io fn) fs) :=
  PE.imp (pe_makeG (dvs := []) (E := E0) M F hr hg hm hb .nil pass0 ha hdb he hpl) fun σ H Q q => by
    obtain ⟨env, ms, F, fp, e, ok, q'⟩ := tDA.op (s_make (E := E0)) q
    exact ⟨env, ms, F, fp, e, ok, fun vs F' H' A a b c d y dy h1 h2 h3 => by
      rw [List.append_nil]
      exact q' vs F' H' A a b c d y dy h1 h2 h3⟩
theorem px_meth (i : Nat) (io : List Bool) {mn : Str} {pl : Sem Bool} (hN : X.N[i]? = some x) (hv : Vis X.env.scope x) (hd : (x == ("__debug__" : Str)) = false) (hcd : (x == ("__classdict__" : Str)) = false) (hc : Cls X.K (ca.at_ n)) (hm : Meth X.K (ca.at_ n) mn fa)
    (F : FnG X.prog X.w X.K X.mg X.base CX0 k fa fd ps (SpI X.K fn)) (hr : RoomG k X.A) (hb : Binds X.K fd ps []) (ha : PXA X (e :: es) gs)
    (he : starEach (e :: es) X.env = (false, eval e X.env) :: starEach es X.env := by rfl) (hpl : (backTo pos (starEach es X.env)).any (·.1) = false := by rfl)
    (ht : eval (.Call (.Attribute (.Name x p) mn apos) (e :: es) [] pos) X.env = (do
      let ov ← eval (.Name x p) X.env
      standAt apos.atName
      let (f, first) ← holding [ov] (getMethod ov mn pl)
      callWith pos f first (backTo pos (starEach (e :: es) X.env)) (backToKw pos (keywordEach [] X.env))) := by rfl) :
    PX X (.Call (.Attribute (.Name x p) mn apos) (e :: es) [] pos) (callM n mn io fn i gs) :=
  PE.imp (pe_methG (dvs := []) (E := E0) (pl := pl) (pe_var hN hv hd hcd) hc hm F hr hb .nil pass0 ha he hpl ht) fun σ H Q q => by
    obtain ⟨v, h1, a, dx, fs, h2, h3, h4, h5⟩ := tX.meth (E := E0) q
    exact ⟨v, h1, a, dx, fs, h2, h3, h4, h5.mono fun vs H1 h => by rw [List.append_nil]; exact h⟩
end
end
end T2
end
section
set_option Elab.async false
set_option linter.all false
set_option maxRecDepth 100000
namespace T2
open PySem PySem.Spec PyProof.Rows L2
/-- a method of the class at C: where it stands, its promise -/
structure Dm (P : Program) (w : World) (K : PySem.W.Frag) (mg : Str → Option Value) (base : Heap) (C : Addr) (m : Str) (k : Nat) (ps : List Str) (fn : Fn) : Prop where
  ex : ∃ (f : Addr) (fd : FuncData), Meth K C m f ∧ Binds K fd ps [] ∧ FnG P w K mg base CX0 k f fd ps (SpI K fn)
/-- the __init__ of the class at C -/
structure Di (P : Program) (w : World) (K : PySem.W.Frag) (mg : Str → Option Value) (base : Heap) (C : Addr) (k : Nat) (ps : List Str) (fn : Fn) : Prop where
  ex : ∃ (f : Addr) (fd : FuncData), Mk K C f ∧ Binds K fd ps [] ∧ FnG P w K mg base CX0 k f fd ps (SpI K fn)
theorem fnOk_imp {P : Program} {w : World} {K : PySem.W.Frag} {mg : Str → Option Value} {base : Heap} {CX : CXT} {k : Nat} {f : Addr} {fd : FuncData} {ps : List Str} {sp sp' : Sp} (F : FnG P w K mg base CX k f fd ps sp) (i : ∀ vs H Q E, sp' vs H Q E → sp vs H Q E) : FnG P w K mg base CX k f fd ps sp' :=
  F.imp i
end T2
end
section
set_option Elab.async false
set_option linter.all false
set_option maxRecDepth 100000
namespace T2
open PySem PySem.Spec PyProof.Rows L2
theorem getF_1 {f : Str} {m : M} {fs : List (Str × M)} : getF ((f, m) :: fs) f = some m := if_pos rfl
theorem lookD_1 {f : Str} {d : D} {fs : List (Str × D)} : lookD ((f, d) :: fs) f = some d := if_pos rfl
def notFz : M → Bool
  | .fz _ => false
  | _ => true
section
variable [ca : ClsA] {n : Nat} {f : Str} {env e1 e2 e3 : En} {i : Nat} {p : List Pa} {fs : List (Str × M)} {m m' : M} {d : D}
theorem k_fldP (h : env.get i = some (.oi (ca.at_ n) fs)) (h' : getF fs f = some m) (hn : notFz m = true) : oFld n f env [.bp i []] = some (.bp i [.fd f]) := by
  have hp : env.place i [] = some (.oi (ca.at_ n) fs) := by
    unfold En.place
    rw [h]
    rfl
  unfold oFld
  simp only [hp, if_true, h']
  cases m with
  | fz d => cases hn
  | _ => rfl
theorem k_fldF {ds : List (Str × D)} (h : lookD ds f = some d) : oFld n f env [.fz (.ins (ca.at_ n) ds)] = some (.fz d) := by
  unfold oFld
  simp only [if_true, h, Option.map_some]
theorem k_fldO (h : getF fs f = some m) : oFld n f env [.oi (ca.at_ n) fs] = some m := by
  unfold oFld
  simp only [if_true, h]
theorem x_callM {mn : Str} {io : List Bool} {F : Fn} {gs : En → Option (List M × En)} {R : Option (M × En)} (h : env.get i = some (.oi (ca.at_ n) fs)) (hf : getF fs mn = none) (h' : callI io F (xCons (lif (nam i)) gs) env = R) : callM n mn io F i gs env = R := by
  unfold callM
  simp only [h, hf, Option.isNone_none, and_self, if_true]
  exact h'
theorem x_fldS {k : Nat} {fo : En → Option M} {g : En → Option (M × En)} (h1 : g env = some (m, e1)) (h2 : stow k e1 m = some (m', e2)) (h3 : fo e2 = some (.bp i [])) (h4 : e2.get i = some (.oi (ca.at_ n) fs)) (hl : Nat.ble (fs.length + 1) 1000 = true) (he : e2.put i (.oi (ca.at_ n) (setF fs f m')) = e3) : sFldS n k f fo g env = some (.nx e3) := by
  subst he
  have hp : e2.place i [] = some (.oi (ca.at_ n) fs) := by
    unfold En.place
    rw [h4]
    rfl
  have hs : setE e2 i [] (.oi (ca.at_ n) (setF fs f m')) = some (e2.put i (.oi (ca.at_ n) (setF fs f m'))) := by
    unfold setE
    rw [h4]
    rfl
  have hl := Nat.le_of_ble_eq_true hl
  unfold sFldS
  simp only [h1, h2, h3, hp, hs]
  rw [if_pos ⟨trivial, by omega⟩]
end
section
variable {env e1 e2 e3 : En} {i : Nat} {p : List Pa} {m m' : M} {d kd : D} {b : Bool} {kvs : List (Key × D)}
theorem k_dgP {k : Key} (h : env.place i p = some (.od b kvs)) (hk : keyD kd = some k) (h' : getK kvs k = some d) : oDG env [.bp i p, .fz kd] = some (.fz d) := by
  unfold oDG dicO
  simp only [h, hk, h', Option.map_some]
theorem k_dgF {ks : List Key} {ds : List D} {k : Key} (hk : keyD kd = some k) (h' : getK (ks.zip ds) k = some d) : oDG env [.fz (.dic ks ds), .fz kd] = some (.fz d) := by
  unfold oDG dicO
  simp only [hk, h', Option.map_some]
theorem k_keysP (h : env.place i p = some (.od b kvs)) : oKeys env [.bp i p] = some (oD (kvs.map fun kv => kD kv.1)) := by
  unfold oKeys dicO
  simp only [h]
theorem k_dlenO : oDLen env [.od false kvs] = some (.fz (.int kvs.length)) := rfl
theorem k_bits {j : Int} : sop iBits env [.fz (.int j)] = some (.fz (.int (Builtin.Int.intBits j : Nat))) := id rfl
theorem x_dset {fo fi : En → Option M} {g : En → Option (M × En)} {k : Key} (h1 : g env = some (m, e1)) (h2 : stow 0 e1 m = some (.fz d, e2)) (h3 : fo e2 = some (.bp i p)) (h4 : fi e2 = some (.fz kd)) (h5 : e2.place i p = some (.od false kvs)) (h6 : keyD kd = some k) (hl : kvs.length < sizeLine) (h7 : setE e2 i p (.od false (putD kvs k d)) = some e3) : sDSet fo fi g env = some (.nx e3) := by
  unfold sDSet
  simp only [h1, h2, h3, h4, h5, h6, h7]
  rw [if_pos hl]
end
end T2
end
section
set_option Elab.async false
set_option linter.all false
set_option maxRecDepth 100000
namespace T2
open PySem PySem.Spec PyProof.Rows L2
def gIsB (neg : Bool) : List D → Option D
  | [.bl a, .bl b] => some (.bl (if neg then !decide (a = b) else decide (a = b)))
  | _ => none
theorem k_isB {env : En} {a b : Bool} : sop (gIsB false) env [.fz (.bl a), .fz (.bl b)] = some (.fz (.bl (decide (a = b)))) := id rfl
theorem k_notB {env : En} {a b : Bool} : sop (gIsB true) env [.fz (.bl a), .fz (.bl b)] = some (.fz (.bl (!decide (a = b)))) := id rfl
end T2
end
section
set_option Elab.async false
set_option linter.all false
set_option maxRecDepth 100000
namespace T2
open PySem PySem.Spec PyProof.Rows L2
section
variable {env e1 : En} {m : M} {d : D}
theorem idx_ot {ms : List M} {i : Int} (h : L2.atI ms i = some m) : oIdx env [.ot ms, .fz (.int i)] = some m := by
  have h0 : oIx true env [.ot ms, .fz (.int i)] = none := rfl
  have h1 : oIx false env [.ot ms, .fz (.int i)] = some m := h
  show oOr (oIx true) (oOr (oIx false) _) env _ = _
  unfold oOr
  rw [h0, h1]
theorem k_idxO0 {ms : List M} : oIdx env [.ot (m :: ms), .fz (.int 0)] = some m := idx_ot (atI_nat (i := 0) rfl)
theorem k_idxO1 {ms : List M} {n : M} : oIdx env [.ot (n :: m :: ms), .fz (.int 1)] = some m := idx_ot (atI_nat (i := 1) rfl)
theorem k_idxO2 {ms : List M} {n o : M} : oIdx env [.ot (n :: o :: m :: ms), .fz (.int 2)] = some m := idx_ot (atI_nat (i := 2) rfl)
end
end T2
end
section
set_option Elab.async false
set_option linter.all false
set_option maxRecDepth 100000
namespace T2
open PySem PySem.Spec PyProof.Rows L2
/-- slots' trees go into a tuple -/
def movL (lk : Nat → Bool) : List M → En → Option (List M × En)
  | [], env => some ([], env)
  | m :: ms, env => match m with
    | .bp i p => match p, env.get i with
      | [], some n => if lk i = false then (match movL lk ms (env.kill i) with
        | some (ns, e2) => some (n :: ns, e2)
        | none => none) else none
      | _, _ => none
    | m => if slots m = [] then (match movL lk ms env with
      | some (ns, e2) => some (m :: ns, e2)
      | none => none) else none
/-- return of a tuple whose trees are the caller's -/
def sRetO (lk : Nat → Bool) (g : En → Option (M × En)) : En → Option Fl := fun env => match g env with
  | some (.ot ms, e1) => match movL lk ms e1 with
    | some (ns, e2) => some (.rt (.ot ns) e2)
    | none => none
  | some (.fz d, e1) => some (.rt (.fz d) e1)
  | _ => none
section
variable {lk : Nat → Bool} {env e1 e2 : En} {m n : M} {ms ns : List M} {d : D}
theorem movL_n : movL lk [] env = some ([], env) := rfl
theorem movL_f (h : movL lk ms env = some (ns, e2)) : movL lk (.fz d :: ms) env = some (.fz d :: ns, e2) := by
  unfold movL
  simp only [slots, if_true, h]
theorem movL_b {i : Nat} (hg : env.get i = some n) (hl : lk i = false) (hk : env.kill i = e1) (h : movL lk ms e1 = some (ns, e2)) : movL lk (.bp i [] :: ms) env = some (n :: ns, e2) := by
  subst hk
  unfold movL
  simp only [hg, hl, if_true, h]
theorem movL_l {xs : List M} (hs : slotsL [.ol xs] = []) (h : movL lk ms env = some (ns, e2)) : movL lk (.ol xs :: ms) env = some (.ol xs :: ns, e2) := by
  have hs : slots (.ol xs) = [] := by
    simp only [slotsL, List.append_nil] at hs
    exact hs
  unfold movL
  simp only [hs, if_true, h]
theorem x_retO {g : En → Option (M × En)} (h : g env = some (.ot ms, e1)) (h' : movL lk ms e1 = some (ns, e2)) : sRetO lk g env = some (.rt (.ot ns) e2) := by
  unfold sRetO
  rw [h]
  simp only [h']
end
end T2
end
section
set_option Elab.async false
set_option linter.all false
set_option maxRecDepth 100000
namespace T2
open PySem PySem.Spec PyProof.Rows L2
section
variable {env e1 e2 e3 : En} {m m' r r2 : M} {d : D} {ms ms' ns cs : List M} {ds : List D}
theorem callB_x {io : List Bool} {F : Fn} {i : Nat} {l : List Nat} (h : slotsL ms = i :: l) (h1 : dats env ms = some ds) (hm : ds.map .fz = ns) (h2 : F ns = some (r, cs)) (h3 : sLf r = true) : callP io F env ms = some r := by
  subst hm
  exact callB_of h h1 h2 h3
theorem slM_fD {l h : Option Int} : slM env l h (.fz (.lst ds)) = some (oD (cutM ds l h)) := by
  have key : slM env l h (.fz (.lst ds)) = some (.ol (cutM (ds.map .fz) l h)) := rfl
  rw [key]
  show _ = some (M.ol ((cutM ds l h).map .fz))
  unfold cutM
  rw [List.map_take, List.map_drop, List.length_map]
end
end T2
end
section
set_option Elab.async false
set_option linter.all false
set_option maxRecDepth 100000
namespace T2
open PySem PySem.Spec PyProof.Rows L2
end T2
end
section
set_option Elab.async false
set_option linter.all false
set_option maxRecDepth 100000
namespace T2
open PySem PySem.Spec PyProof.Rows L2
end T2
end
section
set_option Elab.async false
set_option linter.all false
set_option maxRecDepth 100000
namespace T2
open PySem PySem.Spec PyProof.Rows L2
end T2
end
section
set_option Elab.async false
set_option linter.all false
set_option maxRecDepth 100000
namespace T2
open PySem PySem.Spec PyProof.Rows L2
end T2
end
section
set_option Elab.async false
set_option linter.all false
set_option maxRecDepth 100000
namespace T2
open PySem PySem.Spec PyProof.Rows L2
end T2
end
section
set_option Elab.async false
set_option linter.all false
set_option maxRecDepth 100000
namespace T2
open PySem PySem.Spec PyProof.Rows L2
section
variable {a b c d e f x : M}
abbrev F1 (a : M) : List (Str × M) := [("many", a)]
abbrev F2 (a b : M) : List (Str × M) := [("many", a), ("signs", b)]
abbrev F3 (a b c : M) : List (Str × M) := [("many", a), ("signs", b), ("rows", c)]
abbrev F4 (a b c d : M) : List (Str × M) := [("many", a), ("signs", b), ("rows", c), ("basis", d)]
abbrev F5 (a b c d e : M) : List (Str × M) := [("many", a), ("signs", b), ("rows", c), ("basis", d), ("below", e)]
end
abbrev nI (L : List Nat) : List Int := L.map (fun k : Nat => (k : Int))
def gI (L : List Int) (k : Nat) : Int := L.getD k 0
end T2
end
section
set_option Elab.async false
set_option linter.all false
set_option maxRecDepth 100000
set_option maxHeartbeats 4000000
namespace T2
open PySem PySem.Spec PyProof.Rows L2
section
variable {X : Cx} {lk : Nat → Bool} {es : List Expr} {is : List Nat}
theorem Go.and {K : PySem.W.Frag} {σ σ1 σ2 : L2.St} {env e1 e2 : En} {fp fp1 fp2 : Nat → List Addr} {F H : Hp} {B C : List Addr} (g : Go K B σ env fp F H σ1 e1 fp1 F H) (h : Go K C σ1 e1 fp1 F H σ2 e2 fp2 F H) : Go K (B ++ C) σ env fp F H σ2 e2 fp2 F H :=
  ⟨.refl _, fun _ _ e _ _ => e, fun _ e => e, fun _ e => .inl e, fun a z => by
    rcases h.nf a z with u | u | u
    · exact .inl u
    · rcases g.nf a u with w | w | w
      · exact .inl w
      · exact .inr (.inl w)
      · exact .inr (.inr (List.mem_append_left _ w))
    · exact .inr (.inr (List.mem_append_right _ u)), h.ok, fun _ _ _ e => e⟩
end
end T2
end
section
set_option Elab.async false
set_option linter.all false
set_option maxRecDepth 100000
namespace T2
open PySem PySem.Spec PyProof.Rows L2
/-- slot i freezes -/
def sFz (i : Nat) (g : En → Option Fl) : En → Option Fl := fun env => match frS [i] env with
  | some e => g e
  | none => none
theorem pds_fz {X : Cx} {lk : Nat → Bool} {ss : List Stmt} {g : En → Option Fl} (i : Nat) (h : PDSs X lk ss g) : PDSs X lk ss (sFz i g) := by
  refine PSs.imp h fun D σ H q => ?_
  obtain ⟨env, r, F, fp, e, ok, q⟩ := q
  unfold sFz at e
  split at e
  · rename_i e1 h1
    obtain ⟨F', fp', go, _⟩ := frS_ok ok h1
    exact ⟨e1, r, F', fp', e, go.ok, q.after go fun _ _ => rfl⟩
  · cases e
theorem x_fz {i : Nat} {g : En → Option Fl} {env e1 : En} {m : M} {d : D} {r : Fl} (h : env.get i = some m) (hd : dat0 m = some d) (he : env.put i (.fz d) = e1) (h' : g e1 = some r) : sFz i g env = some r := by
  subst he
  have : frS [i] env = some (env.put i (.fz d)) := by
    unfold frS
    rw [h]
    simp only [hd]
    rfl
  unfold sFz
  rw [this]
  exact h'
end T2
end
section
set_option Elab.async false
set_option linter.all false
set_option maxRecDepth 100000
namespace T2
open PySem PySem.Spec PyProof.Rows L2
section
variable {X : Cx} {tg e a b : Expr} {f g : En → Option M} {p pos rp rpos apos : Pos}
def gIdxO : List D → Option D
  | [.lst ds, d] => match pyDL ds, pyD d with
    | some xs, some x => if SeqAt.shaped (.list xs) && SeqAt.shaped x && xs.any (fun z => PyData.eqv z x) then some (.int ((xs.findIdx fun z => PyData.eqv z x : Nat) : Int)) else none
    | _, _ => none
  | _ => none
theorem s_idxO {K : PySem.W.Frag} : OpS K (sop gIdxO) (r2L fun x y H Q => rIndexD K x [y] H Q) := scalS fun H ds vs d Q h e hs q => by
  unfold gIdxO at e
  split at e
  · rename_i ds d
    split at e
    · rename_i xs x e1 e2
      split at e
      · rename_i hh
        cases e
        simp only [Bool.and_eq_true] at hh
        obtain ⟨v, w, rfl, q1, q2⟩ := repL2 h
        have q1' := q1
        simp only [Rep] at q1'
        obtain ⟨p, us, rfl, z1, z2⟩ := q1'
        have hl : xs.findIdx (fun z => PyData.eqv z x) < xs.length := List.findIdx_lt_length.mpr (List.any_eq_true.mp hh.2)
        refine ⟨_, w, rfl, p, w, x, xs, _, xs[xs.findIdx fun z => PyData.eqv z x], rfl, rfl, pyD_ok (.lst ds) _ _ q1 (by simp only [pyD, e1, Option.map_some]), pyD_ok d w x q2 e2, hh.1.1, hh.1.2, List.getElem?_eq_getElem hl, List.findIdx_getElem (w := hl), fun m z' hm hz => ?_, q⟩
        obtain ⟨hml, rfl⟩ := List.getElem?_eq_some_iff.mp hz
        have := List.not_of_lt_findIdx hm
        simpa using this
      · cases e
    · cases e
  · cases e
theorem pd_idxO (hu : X.A.units + 65 < cLine) (ho : PD X a f) (hb : PD X b g) (hbase : attributeBase a "index" X.env (eval a X.env) = eval a X.env := by rfl)
    (hfew : ((backTo pos (starEach [b] X.env)).all (fun x => !x.1) && (backToKw pos (keywordEach [] X.env)).all (fun x => x.1.isSome)
      && decide (([b] : List Expr).length + ([] : List Keyword).length + (if ([] : List Keyword).isEmpty then 0 else 1) < 30)) = true := by rfl)
    (hline : (apos.endLine == pos.line) = true := by rfl) (hs : starEach [b] X.env = (false, eval b X.env) :: starEach [] X.env := by rfl) (hplain : (backTo pos (starEach [] X.env)).any (·.1) = false := by rfl) :
    PD X (.Call (.Attribute a "index" apos) [b] [] pos) (bin (sop gIdxO) f g) :=
  PE.imp (pe_bm PySem.F.plainAttrs_list PySem.F.slot_list_index PySem.F.type_list_index (mt_indexD hu) ho (pda_cons hb pda_nil hs) hbase hfew hline hs hplain) fun σ H Q q => by
    obtain ⟨env, m, F, fp, e, ok, q⟩ := q
    have e : (match (aCons f (aCons g aNil)) env with | some ms => sop gIdxO env ms | none => none) = some m := e
    split at e
    · rename_i ms hms
      unfold aCons at hms
      split at hms
      · rename_i m1 ms' e1 e2
        cases hms
        refine ⟨env, m1, F, fp, e1, ok, fun v F1 H1 A s1 o1 n1 a1 => ?_⟩
        have ok1 := ok.step s1 fun a z => by cases z
        refine ⟨?_, env, ms', F1, fp, e2, ok1, fun vs F2 H2 B s2 o2 n2 a2 => ?_⟩
        · have e' := e
          unfold sop at e'
          split at e'
          · rename_i ds hds
            split at e'
            · rename_i d hd
              unfold gIdxO at hd
              split at hd
              · rename_i l y
                have q1 : datW (plD env) m1 = some (.lst l) := by
                  unfold dats datWL at hds
                  split at hds
                  · cases hds
                    assumption
                  · cases hds
                have q1' : dats env [m1] = some [.lst l] := by
                  unfold dats datWL
                  rw [q1]
                  simp only [datWL]
                obtain ⟨w, hw, z⟩ := repL1 (ok1.dataL (ms := [m1]) (vs := [v]) (B := A ++ []) (by simp only [OwnL]; exact ⟨v, [], A, [], rfl, rfl, o1, rfl, rfl⟩) q1')
                cases hw
                simp only [Rep] at z
                obtain ⟨p, us, rfl, z1, z2⟩ := z
                exact .inl ⟨rfl, _, SqL.of z1⟩
              · cases hd
            · cases e'
          · cases e'
        · have no : ∀ a ∈ A, a ∉ B := fun a ha hb => by
            obtain ⟨_, o, z⟩ := o1.at _ _ _ a ha
            rw [a2 a hb] at z
            cases z
          have s12 := s1.trans s2 fun a z => by cases z
          have hA : ∀ a ∈ A ++ B, H a = none := fun a ha => by
            rcases List.mem_append.mp ha with z | z
            · exact a1 a z
            · exact s1.hp.free (a2 a z)
          have dj : ∀ a ∈ A ++ B, ∀ i n, env.get i = some n → a ∉ fp i := fun a ha i n hi hin => by
            obtain ⟨v, e1, e2⟩ := ok.slot i n hi
            obtain ⟨_, o, z⟩ := e2.at _ _ _ a hin
            rw [hA a ha] at z
            cases z
          have hO : OwnL X.K (plc H2 σ env) F2 H2 (m1 :: ms') (v :: vs) (A ++ B) := by
            simp only [OwnL]
            exact ⟨v, vs, A, B, rfl, rfl, o1.step s2, o2⟩
          obtain ⟨x, y, hxy, r⟩ := s_idxO σ env F2 H2 fp (m1 :: ms') (v :: vs) (A ++ B) m Q (ok.step s12 fun a z => by cases z) hO (List.nodup_append.mpr ⟨n1, n2, fun a ha b hb e => no a ha (e ▸ hb)⟩) dj e fun v F2 H2 B' s3 hB hnB hAB => by
            refine q v F2 H2 B' (s12.trans s3 hA) hB hnB fun a ha => ?_
            rcases hAB a ha with z | z
            · exact s12.hp.free z
            · exact hA a z
          cases hxy
          exact r
      · cases hms
    · cases e
def sRetF (n i : Nat) (f : Str) [ca : ClsA] : En → Option Fl := fun env => match env.get i with
  | some (.oi C fs) => if C = ca.at_ n then match getF fs f with
    | some m => some (.rt m (env.kill i))
    | none => none
    else none
  | _ => none
theorem pds_retF [ca : ClsA] {lk : Nat → Bool} {n i : Nat} {f : Str} (hc : Cls X.K (ca.at_ n)) (ha : NoAttr X.K (ca.at_ n) f) (he : PD X e (nam i)) (hb : attributeBase e f X.env (eval e X.env) = eval e X.env := by rfl) : PDS X lk (.Return (some (.Attribute e f apos)) pos) (sRetF n i f) := by
  refine PS.imp (ps_ret (pe_fld he hb)) fun D σ H h => ?_
  obtain ⟨env, r, F, fp, e, ok, q⟩ := h
  unfold sRetF at e
  split at e
  · rename_i C fs hi
    split at e
    · rename_i hC
      split at e
      · rename_i m hm
        cases e
        subst hC
        have hn : nam i env = some (.bp i []) := by
          unfold nam
          rw [hi]
        show tD X.K (nam i) σ H fun x H1 => _
        refine ⟨env, _, F, fp, hn, ok, fun v F1 H1 A s o nd a => ?_⟩
        simp only [Own] at o
        obtain ⟨rfl, w, hw, hv, _⟩ := o
        have hv : v = w := hv
        subst hv
        have ok1 := ok.step s fun a z => by cases z
        obtain ⟨u, k1, k2⟩ := ok1.slot i _ hi
        rw [hw] at k1
        cases k1
        have nd := ok1.nd i _ hi
        simp only [Own] at k2
        obtain ⟨p, dx, gs, B, rfl, eA, f1, f2, q3, q4, r⟩ := k2
        obtain ⟨Y, Z, B', w', rfl, e1, e2, e3⟩ := OwnF.split r hm
        have sub : ∀ a ∈ B', a ∈ fp i := fun a ha => by rw [eA]; simp [ha]
        rw [eA] at nd
        have nd1 := List.nodup_cons.mp nd
        have nd2 := List.nodup_cons.mp nd1.2
        have nd3 := List.nodup_append.mp nd2.2
        have nd4 := List.nodup_append.mp nd3.1
        refine ⟨p, _, dx, gs, w', rfl, q3, hc, ha, e1, ?_⟩
        refine q w' σ F1 H1 fp B' ((s.go ok fun a z => by cases z).trans (kill_ok ok1) fun a z => by cases z) (fun _ _ => rfl) e2 nd4.2.1 (fun c hc => .inr ⟨i, _, hi, sub c hc⟩) fun c hc ⟨j, n, hj, hc'⟩ => ?_
        rw [En.get_kill] at hj
        split at hj
        · cases hj
        · rename_i hne
          exact hne (ok1.dj j i n _ c hj hi hc' (sub c hc))
      · cases e
    · cases e
  · cases e
def encD (d : D) : PyData := (pyD d).getD .none
def tupC : PyData → Bool
  | .tuple (_ :: _) => true
  | _ => false
def othC : PyData → Bool
  | .none => false
  | .tuple _ => false
  | _ => true
def okS (ds : List D) : Bool := (ds.all fun d => (pyD d).isSome && decide ((encD d).depth ≤ 60)) && (ds.all fun d => ds.all fun e => PySem.W.alike (encD d) (encD e)) && (ds.all (fun d => tupC (encD d)) || ds.all fun d => othC (encD d)) && decide (ds.length ≤ sizeLine)
end
end T2
end
section
set_option Elab.async false
set_option linter.all false
set_option maxRecDepth 100000
namespace T2
open PySem PySem.Spec PyProof.Rows L2
end T2
end
section
set_option Elab.async false
set_option linter.all false
set_option maxRecDepth 100000
namespace T2
open PySem PySem.Spec PyProof.Rows L2
end T2
end
section
set_option Elab.async false
set_option linter.all false
set_option maxRecDepth 100000
namespace T2
open PySem PySem.Spec PyProof.Rows L2
end T2
end
section
set_option Elab.async false
set_option linter.all false
set_option maxRecDepth 100000
namespace T2
open PySem PySem.Spec PyProof.Rows L2
end T2
end
section
set_option Elab.async false
set_option linter.all false
set_option maxRecDepth 100000
namespace T2
open PySem PySem.Spec PyProof.Rows L2 PySem.W PySem.Calls
end T2
end
section
set_option Elab.async false
set_option linter.all false
set_option maxRecDepth 100000
namespace T2
open PySem PySem.Spec PyProof.Rows L2
/-- the done part of the list, with the rest of the tree -/
def PR (K : PySem.W.Frag) (AR : List Addr) (H1 : Hp) (F' H' : Hp) (ms : List M) (vs : List V) (A1 : List Addr) : Prop :=
  ∃ A0, A1 = AR ++ A0 ∧ OwnL K noBr F' H' ms vs A0 ∧ ∀ x ∈ AR, F' x = none ∧ (∃ o, H1 x = some o) ∧ ∀ o, H1 x = some o → H' x = some o
section
variable {K : PySem.W.Frag} {AR : List Addr} {H1 F H F' H' : Hp} {ms ms' : List M} {vs vs' : List V} {A B : List Addr}
theorem PR.at (h : PR K AR H1 F H ms vs A) : ∀ a ∈ A, F a = none ∧ ∃ o, H a = some o := by
  obtain ⟨A0, rfl, h1, h2⟩ := h
  intro a ha
  rcases List.mem_append.mp ha with ha | ha
  · obtain ⟨z1, ⟨o, z2⟩, z3⟩ := h2 a ha
    exact ⟨z1, o, z3 o z2⟩
  · exact h1.at _ _ _ a ha
theorem PR.mono (h : PR K AR H1 F H ms vs A) (s : Same F F') (k : ∀ a ∈ A, F' a = none ∧ ∀ o, H a = some o → H' a = some o) : PR K AR H1 F' H' ms vs A := by
  obtain ⟨A0, rfl, h1, h2⟩ := h
  exact ⟨A0, rfl, h1.mono s (fun _ _ _ z => z) _ _ _ fun a ha => k a (by simp [ha]), fun x hx => ⟨(k x (by simp [hx])).1, (h2 x hx).2.1, fun o e => (k x (by simp [hx])).2 o ((h2 x hx).2.2 o e)⟩⟩
end
end T2
end
section
set_option Elab.async false
set_option linter.all false
set_option maxRecDepth 100000
namespace T2
open PySem PySem.Spec PyProof.Rows L2
end T2
end
section
set_option Elab.async false
set_option linter.all false
set_option maxRecDepth 100000
namespace T2
open PySem PySem.Spec PyProof.Rows L2
end T2
end
section
set_option Elab.async false
set_option linter.all false
set_option maxRecDepth 100000
namespace T2
open PySem PySem.Spec PyProof.Rows L2
end T2
end
section
set_option Elab.async false
set_option linter.all false
set_option maxRecDepth 100000
namespace T2
open PySem PySem.Spec PyProof.Rows L2
end T2
end
section
set_option Elab.async false
set_option linter.all false
set_option maxRecDepth 100000
namespace T2
open PySem PySem.Spec PyProof.Rows L2
end T2
end
section
set_option Elab.async false
set_option linter.all false
set_option maxRecDepth 100000
namespace T2
open PySem PySem.Spec PyProof.Rows L2
end T2
end
section
set_option Elab.async false
set_option linter.all false
set_option maxRecDepth 100000
namespace T2
open PySem PySem.Spec PyProof.Rows L2
end T2
end
section
set_option Elab.async false
set_option linter.all false
set_option maxRecDepth 100000
namespace T2
open PySem PySem.Spec PyProof.Rows L2
end T2
end
section
set_option Elab.async false
set_option linter.all false
set_option maxRecDepth 100000
namespace T2
open PySem PySem.Spec PyProof.Rows L2
theorem roomG_of {k : Nat} (r : Room k callerA) : RoomG k callerA := ⟨r, rfl⟩
/-- the law's def is called on the script -/
theorem call_g {P : Program} {w : World} {K : PySem.W.Frag} {mg mb : Str → Option Value} {k : Nat} {fa a : Addr} {d : FuncData} {x : Str} {sp : Sp} {s : Shared} {us : List Value} {ns : List Int}
    (KX : K.In s.heap) (nm : s.heap.Ns mainGlobals mg) (nb : s.heap.Ns builtinsNs mb) (ob : ∀ x : Str, x ≠ "__name__" → mb x = bootBuiltins x) (lim : s.heap.NoLimit) (hg : s.gens = #[])
    (ha : s.heap.get? a = some { cls := .type "list", data := .seq us.toArray }) (hi : IntsAre us ns) (hl : ns.length ≤ sizeLine) (hr : Room k callerA)
    (F : ∀ base : Heap, K.In base → base.Ns mainGlobals mg → FnG P w K mg base CX0 k fa d [x] sp) (bd : ∀ (s : Shared) (u : Value), BindsTo s d ⟨[u], []⟩ [(x, u)])
    (hsp : ∀ H : Hp, SqL K H a (ns.map V.int) → sp [.ref a] H (fun v _ => v = .bl true) fun _ _ _ => False) :
    codeAny (model P w) callerA (.call (.ref fa) ⟨[.ref a], []⟩) (fun r t => r = .ok (.ret (.bool true)) ∧ OldK s.heap t.heap ∧ t.os = s.os ∧ AllBare t.gens) s := by
  have rv := vals_ints hi
  have go : ∀ H : Hp, Only H → SqL K H a (ns.map V.int) → HOk P w H s.heap → (∀ b, H b ≠ none → b = a ∧ K.lookup a = none) →
      codeAny (model P w) callerA (.call (.ref fa) ⟨[.ref a], []⟩) (fun r t => r = .ok (.ret (.bool true)) ∧ OldK s.heap t.heap ∧ t.os = s.os ∧ AllBare t.gens) s := by
    intro H hO hS hok hA
    have plain : ∀ {b : Addr} {o : Obj}, s.heap.get? b = some o → (∀ vs n, o.data ≠ .seq vs n) → H b = none := fun {b o} e h1 => by
      refine Classical.byContradiction fun h2 => ?_
      obtain ⟨rfl, _⟩ := hA b h2
      rw [ha] at e
      cases e
      exact h1 _ _ rfl
    have ns' : ∀ {b : Addr} {m : Str → Option Value}, s.heap.Ns b m → (hidT s.heap H).Ns b m := fun {b m} ⟨o, es, ep, e, dd, r⟩ => ⟨o, es, ep, hidT_get e (plain e fun vs n z => by rw [dd] at z; cases z), dd, r⟩
    have kin : K.In (hidT s.heap H) := fun b o e => hidT_get (KX b o e) (Classical.byContradiction fun h2 => by
      obtain ⟨rfl, h3⟩ := hA b h2
      rw [e] at h3
      cases h3)
    obtain ⟨mc, l1, l2⟩ := lim
    have e0 : Env0 P w K mg (hidT s.heap H) callerA [] s H :=
      ⟨rfl, ⟨kin, ns' nm, ⟨mb, ns' nb, ob⟩, mc, ns' l1, l2⟩, fun _ _ e => of_hidT e, Nat.le_of_eq (hidT_size _ _), trivial, (fun _ z => by cases z), hok, .of_eq hg⟩
    refine codeAny_mono ((F _ kin (ns' nm)).runs (us := [.ref a]) (zs := [.ref a]) (roomG_of hr) e0 (bd s (.ref a)) (.cons rfl .nil) (hsp H hS)) fun r t h => ?_
    rcases r with u | fl
    · exact (show False from h).elim
    · rcases fl with u | u | u | u
      all_goals first
      | exact (show False from h).elim
      | (obtain ⟨v, H', os, bare, un, hok', rr, q⟩ := h
         obtain rfl : v = .bl true := q
         obtain rfl : u = Value.bool true := rr
         refine ⟨rfl, OldK.of_keep fun b o e => ?_, os, bare⟩
         rcases hO b with z | ⟨o', xs, z⟩
         · exact un.keep b o e z (fun y => by cases y) (by simp)
         · obtain ⟨e1, _⟩ := hok b _ z
           obtain ⟨e2, _⟩ := hok' b _ (un.frzs b o' _ z)
           rw [e] at e1
           cases e1
           exact e2)
  by_cases hk : ∃ o, K.lookup a = some o
  · obtain ⟨o, hk⟩ := hk
    have e := KX a o hk
    rw [ha] at e
    cases e
    exact go (fun _ => none) (fun _ => .inl rfl) (.inr ⟨_, us.toArray, _, hk, rfl, rfl, rfl, by rw [List.size_toArray, hi.length]; exact hl, by simpa using rv⟩) (fun b u z => by cases z) fun b z => absurd rfl z
  · have hk' : K.lookup a = none := Option.eq_none_iff_forall_ne_some.mpr fun o z => hk ⟨o, z⟩
    obtain ⟨H, hH⟩ : ∃ H : Hp, H = fun b => if b = a then some (.frz { cls := .type "list", data := .seq us.toArray } (.lst (ns.map V.int))) else none := ⟨_, rfl⟩
    have at_a : H a = some (.frz { cls := .type "list", data := .seq us.toArray } (.lst (ns.map V.int))) := by rw [hH]; exact if_pos rfl
    have off : ∀ b, b ≠ a → H b = none := fun b hb => by rw [hH]; exact if_neg hb
    refine go H (fun b => ?_) (.inl (.inr ⟨_, at_a⟩)) (fun b u z => ?_) fun b z => ⟨Classical.byContradiction fun h => z (off b h), hk'⟩
    · by_cases h : b = a
      · exact .inr ⟨_, _, by rw [h]; exact at_a⟩
      · exact .inl (off b h)
    · by_cases h : b = a
      · subst h
        rw [at_a] at z
        cases z
        exact ⟨ha, by rw [List.length_map]; exact hl, us, _, rv, ha⟩
      · rw [off b h] at z
        cases z
theorem walk_g {l : PySem.W.OpenLaw} {n k : Nat} {q : Program} {loose : List Str} {XP : (Str → Option Value) → Heap → Prop} {YP : World → Heap → Prop} {r : DefRec} {K : Params → PySem.W.Frag} {sp : World → Sp} {x : Str}
    (hn : l.most = some n) (hz : n ≤ sizeLine) (hdf : r.params.defaults = []) (hr : Room k callerA) (hY : ∀ (w : World) (h : Heap), YP w h → (K w.params).In h)
    (F : ∀ (w : World) (mg : Str → Option Value) (fa : Addr) (h : Heap), (K w.params).In h → h.Ns mainGlobals mg → mg r.name = some (.ref fa) →
      ∃ d : FuncData, (∀ (s : Shared) (u : Value), BindsTo s d ⟨[u], []⟩ [(x, u)]) ∧ ∀ base : Heap, (K w.params).In base → base.Ns mainGlobals mg → FnG l.prog w (K w.params) mg base CX0 k fa d [x] (sp w))
    (hsp : ∀ (w : World) (H : Hp) (a : Addr) (ns : List Int), ns.length ≤ n → (∀ z ∈ ns, Builtin.Int.intBits z ≤ 1048576) → SqL (K w.params) H a (ns.map V.int) → sp w [.ref a] H (fun v _ => v = .bl true) fun _ _ _ => False) :
    PySem.W.WalkO q loose XP YP l.row.toRowW r [] (fun f vs => PySem.call f vs) :=
  Att.attach_callB hn hdf fun w _ s mg mb fa _ _ _ _ a us ns G Y _ _ _ hm ho hi hlen hbits hg => by
    obtain ⟨d, hb, hF⟩ := F w mg fa _ (hY w _ Y) G.T.g hm
    exact call_g (hY w _ Y) G.T.g G.T.b G.T.builtins G.T.nolimit hg ho hi (Nat.le_trans hlen hz) hr hF hb fun H hS => hsp w H a ns hlen hbits hS
end T2
end
section
namespace T2
open PySem PySem.Spec PyProof.Rows L2
set_option linter.all false
set_option maxHeartbeats 1000000
end T2
end
section
namespace T2
open PySem PySem.Spec PyProof.Rows L2
set_option linter.all false
set_option maxHeartbeats 1000000
section
variable {K : PySem.W.Frag} {F H F' H' : Hp} {σ σ' : L2.St} {env env' : En} {fp fp' : Nat → List Addr} {p : Addr} {o : HO}
theorem go_off (g : Go K [] σ env fp F H σ' env' fp' F' H') (h1 : H p = some o) (h2 : F p = none) (h3 : ¬ Ond env fp p) : H' p = some o ∧ F' p = none ∧ ¬ Ond env' fp' p := by
  refine ⟨g.keep p o h1 h3 (by simp), ?_, fun w => ?_⟩
  · cases z : F' p with
    | none => rfl
    | some w =>
      rcases g.nw p (by rw [z]; simp) with w | w | w | w
      · exact absurd h2 w
      · rw [h1] at w
        cases w
      · exact absurd w h3
      · cases w
  · rcases g.nf p w with z | z | z
    · rw [h1] at z
      cases z
    · exact h3 z
    · cases z
end
end T2
end
section
set_option Elab.async false
set_option linter.all false
set_option maxRecDepth 100000
namespace T2
open PySem PySem.Spec PyProof.Rows L2
set_option maxHeartbeats 1000000
end T2
end
section
set_option Elab.async false
set_option linter.all false
set_option maxRecDepth 100000
namespace T2
open PySem PySem.Spec PyProof.Rows L2
set_option maxHeartbeats 1000000
end T2
end
section
set_option Elab.async false
set_option linter.all false
set_option maxRecDepth 100000
namespace T2
open PySem PySem.Spec PyProof.Rows L2
set_option maxHeartbeats 1000000
end T2
end
section
set_option Elab.async false
set_option linter.all false
set_option maxRecDepth 100000
namespace T2
open PySem PySem.Spec PyProof.Rows L2
set_option maxHeartbeats 1000000
end T2
end
section
set_option Elab.async false
set_option linter.all false
set_option maxRecDepth 100000
namespace T2
open PySem PySem.Spec PyProof.Rows L2
end T2
end
section
namespace T2
open PySem PySem.Spec PyProof.Rows L2
set_option linter.all false
set_option maxHeartbeats 1000000
/-- the list as it stands: what is done, what is still to come -/
structure EF (K : PySem.W.Frag) (AR : List Addr) (Hs : Hp) (p : Addr) (vs : List V) (k j : Nat) (ms1 ms2 : List M) (A1 A2 : List Addr) (env : En) (fp : Nat → List Addr) (F H : Hp) : Prop where
  hp : H p = some (.lst vs)
  hf : F p = none
  o1 : PR K AR Hs F H ms1 (vs.take k) A1
  o2 : OwnL K noBr F H ms2 (vs.drop j) A2
  nd : (p :: (A1 ++ A2)).Nodup
  no : ∀ a ∈ p :: (A1 ++ A2), ¬ Ond env fp a
section
variable {K : PySem.W.Frag} {AR A1 A2 : List Addr} {Hs F H F' H' : Hp} {p : Addr} {vs : List V} {k j : Nat} {ms1 ms2 : List M} {env env' : En} {fp fp' : Nat → List Addr} {σ σ' : L2.St}
theorem EF.at (e : EF K AR Hs p vs k j ms1 ms2 A1 A2 env fp F H) : ∀ a ∈ p :: (A1 ++ A2), F a = none ∧ ∃ o, H a = some o := fun a ha => by
  rcases List.mem_cons.mp ha with h | h
  · subst h
    exact ⟨e.hf, _, e.hp⟩
  · rcases List.mem_append.mp h with h | h
    · exact e.o1.at a h
    · exact e.o2.at _ _ _ a h
theorem EF.go (e : EF K AR Hs p vs k j ms1 ms2 A1 A2 env fp F H) (g : Go K [] σ env fp F H σ' env' fp' F' H') : EF K AR Hs p vs k j ms1 ms2 A1 A2 env' fp' F' H' := by
  have off : ∀ a ∈ p :: (A1 ++ A2), F' a = none ∧ (∀ o, H a = some o → H' a = some o) ∧ ¬ Ond env' fp' a := fun a ha => by
    obtain ⟨h1, o, h2⟩ := e.at a ha
    obtain ⟨z1, z2, z3⟩ := go_off g h2 h1 (e.no a ha)
    refine ⟨z2, fun o' h => ?_, z3⟩
    rw [h2] at h
    cases h
    exact z1
  exact ⟨(off p (by simp)).2.1 _ e.hp, (off p (by simp)).1, e.o1.mono g.fr fun a ha => ⟨(off a (by simp [ha])).1, (off a (by simp [ha])).2.1⟩,
    e.o2.mono g.fr (fun _ _ _ z => z) _ _ _ fun a ha => ⟨(off a (by simp [ha])).1, (off a (by simp [ha])).2.1⟩, e.nd, fun a ha => (off a ha).2.2⟩
end
end T2
end
section
namespace T2
open PySem PySem.Spec PyProof.Rows L2
set_option linter.all false
set_option maxHeartbeats 1000000
end T2
end
section
namespace T2
open PySem PySem.Spec PyProof.Rows L2
set_option linter.all false
set_option maxHeartbeats 1000000
end T2
end
section
namespace T2
open PySem PySem.Spec PyProof.Rows L2
set_option linter.all false
set_option maxHeartbeats 2000000
section
variable {X : Cx} {pins : List (Addr × Obj)} {σ : L2.St} {H : Hp} {s : Shared}
/-- an object that is there and is not tracked: it is, from now on -/
theorem Inv.note {a C : Addr} {d : Option Addr} {oe : Obj} {vs : Array Value} (I : Inv X pins σ H s) (na : H a = none) (ha : s.heap.get? a = some oe) (hz : Zc (.ref C) d oe) (hd : oe.data = .fields vs) (n0 : X.s_0.heap.get? a = none) (nL : a ≠ X.env.locals) (nP : ∀ p ∈ X.pn ++ pins, p.1 ≠ a) :
    Inv X pins σ (upd H a (excV a C d)) s where
  ok := I.ok
  os := I.os
  bare := I.bare
  base := ⟨I.base.keep, I.base.slot, fun b o e n hx => by
      rw [upd_ne (fun z => by rw [z, n0] at e; cases e)]
      exact I.base.free b o e n hx, I.base.there, fun b xs e => by
      have h1 := I.base.tups b xs e
      rw [upd_ne (fun z => by rw [z, na] at h1; cases h1)]
      exact h1, fun b o xs e => by
      have h1 := I.base.frzs b o xs e
      rw [upd_ne (fun z => by rw [z, na] at h1; cases h1)]
      exact h1, fun b ps e => by
      obtain ⟨more, h1⟩ := I.base.tbls b ps e
      refine ⟨more, ?_⟩
      rw [upd_ne (fun z => by rw [z, na] at h1; cases h1)]
      exact h1⟩
  loc := I.loc
  cell := I.cell
  free := by rw [upd_ne (Ne.symm nL)]; exact I.free
  freeC := fun y c e => by
    obtain ⟨v, hv⟩ := I.cell y c e
    rw [upd_ne (fun z => ?_)]
    · exact I.freeC y c e
    · subst z
      unfold Heap.IsCell at hv
      first
      | (rw [ha] at hv; cases hv; cases hd; done)
      | (obtain ⟨o, h1, h2⟩ := hv; rw [ha] at h1; cases h1; rw [hd] at h2; cases h2; done)
  pin := fun p hp => by
    obtain ⟨h1, h2, h3⟩ := I.pin p hp
    refine ⟨h1, ?_, h3⟩
    rw [upd_ne (nP p hp)]
    exact h2
  hok := fun b o e => by
    by_cases hb : b = a
    · subst hb
      rw [upd_same] at e
      cases e
      refine ⟨⟨oe, vs, ha, hz.1, hz.2, hd⟩, ⟨oe, ha⟩, fun h1 h2 q k => ?_⟩
      obtain ⟨o1, v1, q1, q2⟩ := q
      exact ⟨o1, v1, k _ q1, q2⟩
    · rw [upd_ne hb] at e
      exact (I.hok b o e).stay (fun _ _ _ z => z) (fun c hc => by rw [upd_ne (ne_of_none hc na)]; exact hc) (fun c xs hc => by rw [upd_ne (ne_of_none hc na)]; exact hc)
  len := I.len
end
/-- what the clause asks: the exception is one of c's, and is in slot j from then on -/
def wKeep (K : PySem.W.Frag) (c : Value) (i j : Nat) (D : Ends) : WX := fun cls d σ H =>
  PySem.W.exmOne K cls c = some true ∧ ∃ C, cls = .ref C ∧ i < σ.length ∧ ∀ a, H a = none → D.nx (((σ.set i (some (.ref a))).set j (some (.ref a))).set i none) (upd H a (excV a C d))
section
variable {X : Cx} {x n y : Str} {c : Value} {i j : Nat} {body : List Stmt} {np pos pos' p2 p3 ap : Pos} {tb : WX → TS}
theorem ps_tryKeep (hstk : X.stack = X.env :: X.outer) (hfrm : X.env.frame = some X.env.locals) (hN : X.N.Nodup) (hi : X.N[i]? = some n) (hln : X.env.kindOf n = some .local) (hj : X.N[j]? = some y) (hy : Loc X.env.scope y) (hyf : X.fn y = true ∨ X.env.scope.names.lookup y = some .local)
    (hv : Vis X.env.scope n) (hdb : (n == ("__debug__" : Str)) = false) (hcd : (n == ("__classdict__" : Str)) = false) (hc : Names X x c) (hex : X.ex = [])
    (hb : ∀ (W : WX) (pn : List (Addr × Obj)) (xe : Value → Shared → Prop), Takes (X.tr pn xe) W → PassesOwn (model X.prog X.w) X.A X.env xe → PSs (X.tr pn xe) body (tb W))
    (hsw : swapsWith (.Name n p3) (some (.Name y p2)) ap.line X.env = pure false := by rfl) :
    PS X (.Try body [.ExceptHandler (some (.Name x np)) (some n) [.Assign [.Name y p2] (.Name n p3) ap] pos'] [] [] pos) (fun D σ H => tb (wKeep X.K c i j D) D σ H) := by
  refine ⟨fun pins s σ H D I h => ?_⟩
  have hOk := I.ok
  have hFr : X.A.frames = some (X.env :: X.outer) := by
    rw [hOk.frames, hstk]
  refine wpAny_Try_except ?_
  have body_run := (hb (wKeep X.K c i j D) (X.pn ++ pins)
    (fun ev s₁ => wpAny (model X.prog X.w) X.A (noteFrame ev X.env)
      (fun _ s₂ => wpAny (model X.prog X.w) X.A (setFlight ev none)
        (fun _ s₃ => wpAny (model X.prog X.w) X.A (handleBy ev X.env [.ExceptHandler (some (.Name x np)) (some n) [.Assign [.Name y p2] (.Name n p3) ap] pos']) (SP X pins D) X.xe s₃) X.xe s₂) X.xe s₁)
    (fun u s' caught => ?_) PassesOwn.looking).run [] s σ H D (I.toTry _) h
  · refine wpAny_mono body_run (fun f s1 hsp => ?_) (fun _ _ z => z)
    cases f with
    | next =>
      obtain ⟨σ', H', J', q⟩ := hsp
      exact wpAny_execs_nil ⟨σ', H', J'.ofTry hOk, q⟩
    | brk => exact Exists.elim hsp fun σ' ⟨H', J', q⟩ => ⟨σ', H', J'.ofTry hOk, q⟩
    | cont => exact Exists.elim hsp fun σ' ⟨H', J', q⟩ => ⟨σ', H', J'.ofTry hOk, q⟩
    | ret u => exact Exists.elim hsp fun v ⟨σ', H', J', r, q⟩ => ⟨v, σ', H', J'.ofTry hOk, r, q⟩
  · obtain ⟨a, B, sI, pins', σ', H', cls, d, rfl, J', nb, up, sky, na, os, ag, hmatch, C, rfl, hil, hD⟩ := caught
    have J : Inv X pins σ' H' sI := J'.ofTry hOk
    rw [show (X.tr (X.pn ++ pins) _).stack = X.env :: X.outer from hstk] at sky
    refine Sky.land Zc.steady hFr hfrm sky fun h3 fl3 up3 => ?_
    have J3 : Inv X pins σ' H' { s' with heap := h3 } := J.landed nb fl3.1 (up.trans up3) os ag
    obtain ⟨o3, v3, g3, z3, d3⟩ := fl3.there
    have offFr : a ∉ frs (X.env :: X.outer) := fun hm => by
      obtain ⟨_, o', e', hnf⟩ := fl3.2.2.1.mem hm
      rw [g3] at e'
      cases e'
      exact hnf _ d3
    have nL : a ≠ X.env.locals := fun z => offFr (List.mem_filterMap.mpr ⟨X.env, List.mem_cons_self, by rw [hfrm, z]⟩)
    have nF : a ∉ X.fs := fun hm => by
      obtain ⟨ev, hev, hq⟩ := List.mem_filterMap.mp hm
      exact offFr (List.mem_filterMap.mpr ⟨ev, List.mem_cons_of_mem _ hev, hq⟩)
    have gI : sI.heap.get? a = none := by
      cases z : sI.heap.get? a with
      | none => rfl
      | some o =>
        have hB := nb a o z (by rw [show (X.tr (X.pn ++ pins) _).stack = X.env :: X.outer from hstk]; exact offFr)
        rw [fl3.2.1] at hB
        cases hB
    have g0 : X.s_0.heap.get? a = none := by
      cases z : X.s_0.heap.get? a with
      | none => rfl
      | some o =>
        obtain ⟨o', h'⟩ := J.base.there a o z (by rw [hex]; simp)
        rw [gI] at h'
        cases h'
    have nPin : ∀ p ∈ X.pn ++ pins, p.1 ≠ a := fun p hp z => by
      have := (J.pin p hp).1
      rw [z, gI] at this
      cases this
    have S3 := J3.suite g3 d3 na nL nF
    refine wpAny_handleBy_cons (codeAny_handlers_test ?_) (by intro q; cases q)
    have LT : PySem.W.Looks (model X.prog X.w) h3 (typeOf (.ref a)) (.ref C) := fun A Q E s k q => wpAny_typeOf_ref (k _ _ g3) (by rw [z3.1]; exact q)
    have LM := PySem.W.exm_one (M := model X.prog X.w) (J3.kIn) LT hmatch
    have test : ∀ {Q E : Value → Shared → Prop}, Q c { s' with heap := h3 } → wpAny (model X.prog X.w) (X.A.mark (some (.ref a))) (eval (.Name x np) X.env) Q E { s' with heap := h3 } := fun {Q E} q => by
      obtain ⟨hg, hdbg, hm | ⟨hm, hbt, hnn⟩⟩ := hc
      · exact ld_glob (X := X.suite a ((a, o3) :: (X.pn ++ pins))) S3 hg hm q hdbg
      · exact ld_blt (X := X.suite a ((a, o3) :: (X.pn ++ pins))) S3 hg hm hbt q hnn hdbg
    refine test (LM.here ?_)
    refine codeAny_handlers_suite_as ?_
    refine HandSPX.lands_againZ fl3 fun h4 fl4 up4 => ?_
    have J4 : Inv X pins σ' H' { s' with heap := h4 } := J.landed nb fl4.1 ((up.trans up3).trans up4) os ag
    obtain ⟨o4, v4, g4, z4, d4⟩ := fl4.there
    have S4 := J4.suite g4 d4 na nL nF
    refine store_ok (X := X.suite a ((a, o4) :: (X.pn ++ pins))) (v := .ref a) S4 hN hi (.inl hln) rfl (fun s5 S5 => ?_) (.inr hln)
    have asg : PSs (X.suite a ((a, o4) :: (X.pn ++ pins))) [.Assign [.Name y p2] (.Name n p3) ap] _ := pss_one (ps_set hN hj hy (pe_var hi hv hdb hcd) hsw hyf)
    refine wpAny_mono (asg.run [] s5 _ H' { nx := fun σ6 H6 => σ6 = (σ'.set i (some (.ref a))).set j (some (.ref a)) ∧ H6 = H', rt := fun _ _ => False, bk := fun _ _ => False, ct := fun _ _ => False } S5 ?_) (fun f s6 hsp => ?_) (fun _ _ z => False.elim z)
    · exact ⟨.ref a, List.getElem?_set_self hil, rfl, rfl⟩
    · cases f with
      | next =>
        obtain ⟨σ6, H6, S6, rfl, rfl⟩ := hsp
        refine gone_ok (X := X.suite a ((a, o4) :: (X.pn ++ pins))) S6 hN hi hln fun s7 S7 => ?_
        have pin := S7.pin (a, o4) (List.mem_append_left _ List.mem_cons_self)
        have J7 : Inv X pins _ H6 s7 := S7.unsuite hOk
        exact ⟨_, _, Inv.note J7 na pin.1 z4 d4 g0 nL nPin, hD a na⟩
      | brk => exact Exists.elim hsp fun _ ⟨_, _, q⟩ => q.elim
      | cont => exact Exists.elim hsp fun _ ⟨_, _, q⟩ => q.elim
      | ret u => exact Exists.elim hsp fun _ ⟨_, _, _, _, q⟩ => q.elim
end
end T2
end
section
namespace T2
open PySem PySem.Spec PyProof.Rows L2
set_option linter.all false
set_option maxHeartbeats 2000000
/-- an exception: its number, its class, its fields -/
structure Exn where
  n : Nat
  C : Addr
  fs : List (Str × D)
def Exn.d (x : Exn) : D := .exc x.n x.C x.fs
/-- class and own dict are those of x; its dict is new over H -/
def ExA (K : PySem.W.Frag) (H F : Hp) (x : Exn) (cls : Value) (d : Option Addr) : Prop :=
  cls = .ref x.C ∧ ∃ gs, (d = none ∨ ∃ dx, d = some dx ∧ H dx = none ∧ F dx = some (.xd gs)) ∧ (d = none → gs = []) ∧ RepF K F x.fs gs
section
variable {K : PySem.W.Frag} {H H' F F' : Hp} {x : Exn} {cls : Value} {d : Option Addr}
theorem ExA.back (h : ExA K H F x cls d) (s : ∀ a, H a = none → H' a = none) : ExA K H' F x cls d := by
  obtain ⟨h1, gs, h2, h3, h4⟩ := h
  exact ⟨h1, gs, h2.imp id (fun ⟨dx, z1, z2, z3⟩ => ⟨dx, z1, s _ z2, z3⟩), h3, h4⟩
end
/-- an expression that lets x out -/
def tRE (K : PySem.W.Frag) (W : WX) (g : En → Option Exn) : TE := fun σ H _ => ∃ env x F fp, g env = some x ∧ EnvOk K F H σ env fp ∧ ∀ cls d F' H', Step [] F H F' H' → ExA K H F' x cls d → W cls d σ H'
def PRE (X : Cx) (W : WX) (e : Expr) (g : En → Option Exn) : Prop := PE X e (tRE X.K W g)
/-- a statement, a block that lets x out, the slots being env' then -/
def tR (K : PySem.W.Frag) (lk : Nat → Bool) (W : WX) (g : En → Option (Exn × En)) : TS := fun _ σ H => ∃ env x env' F fp, g env = some (x, env') ∧ EnvOk K F H σ env fp ∧
  ∀ cls d σ' F' H' fp', Go K [] σ env fp F H σ' env' fp' F' H' → Lk lk σ σ' → ExA K H F' x cls d → W cls d σ' H'
def PRS (X : Cx) (lk : Nat → Bool) (W : WX) (st : Stmt) (g : En → Option (Exn × En)) : Prop := PS X st (tR X.K lk W g)
def PRSs (X : Cx) (lk : Nat → Bool) (W : WX) (sts : List Stmt) (g : En → Option (Exn × En)) : Prop := PSs X sts (tR X.K lk W g)
theorem PS.or {X : Cx} {e : Stmt} {t u : TS} (h : PS X e t) (h' : PS X e u) : PS X e (fun D σ H => t D σ H ∨ u D σ H) := ⟨fun pins s σ H D I q => q.elim (h.run pins s σ H D I) (h'.run pins s σ H D I)⟩
theorem PSs.or {X : Cx} {e : List Stmt} {t u : TS} (h : PSs X e t) (h' : PSs X e u) : PSs X e (fun D σ H => t D σ H ∨ u D σ H) := ⟨fun pins s σ H D I q => q.elim (h.run pins s σ H D I) (h'.run pins s σ H D I)⟩
theorem pss_no {X : Cx} {sts : List Stmt} : PSs X sts (fun _ _ _ => False) := ⟨fun _ _ _ _ _ _ q => q.elim⟩
def sRE (g : En → Option Exn) : En → Option (Exn × En) := fun env => match g env with
  | some x => some (x, env)
  | none => none
section
variable {K : PySem.W.Frag} {lk : Nat → Bool} {W : WX} {F H F' H' F1 H1 : Hp} {σ σ' σ1 : L2.St} {env env' env1 : En} {fp fp' fp1 : Nat → List Addr} {x : Exn}
/-- further on: the promise of the rest -/
theorem tR.after {g : En → Option (Exn × En)} {D : Ends} (e : g env1 = some (x, env')) (q : ∀ cls d σ' F' H' fp', Go K [] σ env fp F H σ' env' fp' F' H' → Lk lk σ σ' → ExA K H F' x cls d → W cls d σ' H') (g1 : Go K [] σ env fp F H σ1 env1 fp1 F1 H1) (l1 : Lk lk σ σ1) : tR K lk W g D σ1 H1 :=
  ⟨env1, x, env', F1, fp1, e, g1.ok, fun cls d σ' F' H' fp' g2 l2 a => q cls d σ' F' H' fp' (g1.trans g2 fun a z => by cases z) (l1.trans l2) (a.back g1.stay)⟩
end
section
variable {X : Cx} {lk : Nat → Bool} {W : WX} {st : Stmt} {sts : List Stmt} {f : En → Option Fl} {g : En → Option Exn} {gs g2 : En → Option (Exn × En)} {pos : Pos} {e : Expr}
theorem tRE.tR {D : Ends} {σ : L2.St} {H : Hp} (h : tR X.K lk W (sRE g) D σ H) : ∀ Q, tRE X.K W g σ H Q := fun Q => by
  obtain ⟨env, x, env', F, fp, e, ok, q⟩ := h
  unfold sRE at e
  split at e
  · rename_i x' hx
    cases e
    exact ⟨env, x, F, fp, hx, ok, fun cls d F' H' s a => q cls d σ F' H' fp (s.go ok fun a z => by cases z) (fun _ _ => rfl) a⟩
  · cases e
theorem prs_expr (he : PRE X W e g) (hs : swapsWith e none pos.line X.env = pure false := by rfl) : PRS X lk W (.Expr e pos) (sRE g) := PS.imp (ps_expr he hs) fun D σ H h => tRE.tR h _
theorem prs_ret (he : PRE X W e g) : PRS X lk W (.Return (some e) pos) (sRE g) := PS.imp (ps_ret he) fun D σ H h => tRE.tR h _
theorem prs_set {x : Str} {i : Nat} {pos' : Pos} (hN : X.N.Nodup) (he : PRE X W e g) (hi : X.N[i]? = some x := by rfl) (hx : Loc X.env.scope x := by first | exact .inl rfl | exact .inr rfl) (hs : swapsWith e (some (.Name x pos')) pos.line X.env = pure false := by rfl)
    (hf : X.fn x = true ∨ X.env.scope.names.lookup x = some .local := by first | exact .inl rfl | exact .inr rfl | assumption) : PRS X lk W (.Assign [.Name x pos'] e pos) (sRE g) := PS.imp (ps_set hN hi hx he hs hf) fun D σ H h => tRE.tR h _
/-- the first of a block lets out, or a later one -/
def rSeq (gs : En → Option (Exn × En)) (f : En → Option Fl) (g2 : En → Option (Exn × En)) : En → Option (Exn × En) := fun env => match gs env with
  | some r => some r
  | none => match f env with
    | some (.nx e) => g2 e
    | _ => none
theorem prs_seq (hr : PRS X lk W st gs) (h1 : PDS X lk st f) (h2 : PRSs X lk W sts g2) : PRSs X lk W (st :: sts) (rSeq gs f g2) := by
  refine PSs.imp (PSs.or (pss_cons hr pss_no) (pss_cons h1 h2)) fun D σ H h => ?_
  obtain ⟨env, x, env', F, fp, e, ok, q⟩ := h
  unfold rSeq at e
  split at e
  · rename_i r hg
    cases e
    exact .inl ⟨env, x, env', F, fp, hg, ok, q⟩
  · split at e
    · rename_i e1 h1
      exact .inr ⟨env, _, F, fp, h1, ok, fun σ1 F1 H1 fp1 g1 l1 => tR.after (D := D) e q g1 l1⟩
    · cases e
theorem prs_one (hr : PRS X lk W st gs) : PRSs X lk W (st :: sts) gs := pss_cons hr pss_no
theorem prs_no : PRSs X lk W sts (fun _ => none) := PSs.imp pss_no fun D σ H h => by
  obtain ⟨env, x, env', F, fp, e, ok, q⟩ := h
  cases e
def rIf (t : En → Option Bool) (ga gb : En → Option (Exn × En)) : En → Option (Exn × En) := fun env => match t env with
  | some true => ga env
  | some false => gb env
  | none => none
theorem prs_if {c : Expr} {a b : List Stmt} {t : En → Option Bool} {ga gb : En → Option (Exn × En)} (hc : PDT X c t) (ha : PRSs X lk W a ga) (hb : PRSs X lk W b gb) : PRS X lk W (.If c a b pos) (rIf t ga gb) := by
  refine PS.imp (ps_if hc ha hb) fun D σ H h => ?_
  obtain ⟨env, x, env', F, fp, e, ok, q⟩ := h
  unfold rIf at e
  split at e
  · rename_i h1
    exact ⟨env, true, F, fp, h1, ok, fun F1 H1 s => iteT (tR.after e q (s.go ok fun a z => by cases z) fun _ _ => rfl)⟩
  · rename_i h1
    exact ⟨env, false, F, fp, h1, ok, fun F1 H1 s => iteF (tR.after e q (s.go ok fun a z => by cases z) fun _ _ => rfl)⟩
  · cases e
/-- a loop whose turn lets out -/
def rLp (lk : Nat → Bool) (t : Tg) (f : En → Option Fl) (g : En → Option (Exn × En)) : List D → En → Option (Exn × En)
  | [], _ => none
  | d :: ds, env => match asT lk t d env with
    | some e1 => (match g e1 with
      | some r => some r
      | none => (match f e1 with
        | some (.nx e2) => rLp lk t f g ds e2
        | _ => none))
    | none => none
def rFor (lk : Nat → Bool) (t : Tg) (it : En → Option (List D × En)) (f : En → Option Fl) (g : En → Option (Exn × En)) : En → Option (Exn × En) := fun env => match it env with
  | some (ds, e1) => rLp lk t f g ds e1
  | none => none
theorem prs_for {iter tg : Expr} {body : List Stmt} {t : Tg} {it : En → Option (List D × En)} (hp : PassesOwn (model X.prog X.w) X.A X.env X.xe) (hc : X.calm = true) (hi : PDI X tg iter it) (hg : PT' X lk tg t) (hb : PDSs X lk body f) (hr : PRSs X lk W body gs)
    (hs : ∀ x, foldedSetIterable iter X.env x = pure x := by intro _; rfl) : PRS X lk W (.For tg iter body [] pos) (rFor lk t it f gs) := by
  refine PS.imp (ps_for hp hc hi hg (PSs.or hr hb) hs) fun D σ H h => ?_
  obtain ⟨env, x, env', F, fp, e, ok, q⟩ := h
  unfold rFor at e
  split at e
  case h_2 => cases e
  rename_i ds e1 h1
  refine ⟨env, ds, e1, F, fp, h1, ok, fun J F1 H1 fp1 g1 ji => ?_⟩
  refine ⟨fun i m σ' H' => m = ds.length - i ∧ i ≤ ds.length ∧ ∃ en F' fp', rLp lk t f gs (ds.drop i) en = some (x, env') ∧ Go X.K [] σ env fp F H σ' en fp' F' H' ∧ Lk lk σ σ' ∧ Same F1 F',
    ⟨_, rfl, Nat.zero_le _, e1, F1, fp1, by rw [List.drop_zero]; exact e, g1, fun _ _ => rfl, .refl _⟩, fun i m σ' H' hW => ?_⟩
  obtain ⟨rfl, hi, en, F', fp', hl, g, l, s⟩ := hW
  by_cases hlt : i < ds.length
  · right
    obtain ⟨d, hd⟩ : ∃ d, ds[i]? = some d := ⟨_, List.getElem?_eq_getElem hlt⟩
    have hdrop : ds.drop i = d :: ds.drop (i + 1) := by
      rw [List.drop_eq_getElem_cons hlt]
      rw [List.getElem?_eq_getElem hlt] at hd
      cases hd
      rfl
    rw [hdrop] at hl
    simp only [rLp] at hl
    obtain ⟨j1, j2⟩ := ji.go i F' H' d s (s.trans g.ok.sub) g.ok.sub hd
    refine ⟨j1, fun σ2 H2 => ∃ env2 F2 fp2, rLp lk t f gs (ds.drop (i + 1)) env2 = some (x, env') ∧ Go X.K [] σ env fp F H σ2 env2 fp2 F2 H2 ∧ Lk lk σ σ2 ∧ Same F1 F2,
      fun σ2 H2 ⟨env2, F2, fp2, a, b, c, d'⟩ => ⟨ds.length - (i + 1), by omega, rfl, hlt, env2, F2, fp2, a, b, c, d'⟩, fun y H2 hy => ?_⟩
    obtain ⟨F2, s2, rx⟩ := j2 y H2 hy
    split at hl
    case h_2 => cases hl
    rename_i e3 h3
    have g2 := g.trans (s2.go g.ok fun a z => by cases z) (fun a z => by cases z)
    refine ⟨d, en, e3, F2, fp', rx, h3, g2.ok, fun σ3 fp3 g3 l3 => ?_⟩
    have g4 := g2.trans g3 (fun a z => by cases z)
    split at hl
    · rename_i r hr'
      cases hl
      exact .inl (tR.after hr' q g4 (l.trans l3))
    · split at hl
      · rename_i e4 h4
        exact .inr ⟨e3, _, F2, fp3, h4, g4.ok, fun σ5 F5 H5 fp5 g5 l5 => ⟨e4, F5, fp5, hl, g4.trans g5 (fun a z => by cases z), (l.trans l3).trans l5, (s.trans s2.fr).trans g5.fr⟩⟩
      · cases hl
  · have hi' : i = ds.length := by omega
    subst hi'
    rw [List.drop_length] at hl
    cases hl
end
def tMR (K : PySem.W.Frag) (g : En → Option Exn) : L2.St → Hp → XK → Prop := fun σ H Q => ∃ env x F fp, g env = some x ∧ EnvOk K F H σ env fp ∧ ∀ cls d F' H', Step [] F H F' H' → ExA K H F' x cls d → Q cls d H'
def PMR (X : Cx) (e : Expr) (g : En → Option Exn) : Prop := PMk X e (tMR X.K g)
section
variable {X : Cx} {lk : Nat → Bool} {W : WX} {g : En → Option Exn} {pos : Pos} {e : Expr}
theorem prs_raise (hc : X.calm = true) (tk : Takes X W) (he : PMR X e g) : PRS X lk W (.Raise (some e) none pos) (sRE g) := PS.imp (ps_raise hc tk he) fun D σ H h => by
  obtain ⟨env, x, env', F, fp, e, ok, q⟩ := h
  unfold sRE at e
  split at e
  · rename_i x' hx
    cases e
    exact ⟨env, x, F, fp, hx, ok, fun cls d F' H' s a => q cls d σ F' H' fp (s.go ok fun a z => by cases z) (fun _ _ => rfl) a⟩
  · cases e
end
/-- what a def promises that lets x out -/
def SpR (K : PySem.W.Frag) (g : List M → Option Exn) : Sp := fun vs H _ E => ∃ ms x F fp, g ms = some x ∧ EnvOk K F H (vs.map some) (ms.map some) fp ∧ ∀ cls d F' H', Step [] F H F' H' → ExA K H F' x cls d → E cls d H'
def runR (n p : Nat) (gS : En → Option (Exn × En)) : List M → Option Exn := fun ms => if ms.length = p ∧ okA (fun _ => false) 0 ms = true then (match gS (ms.map some ++ List.replicate (n - p) none) with
  | some (x, _) => some x
  | none => none) else none
theorem okA_ond {K : PySem.W.Frag} {F H : Hp} {σ : L2.St} {fp : Nat → List Addr} : ∀ {ms : List M} {i : Nat}, okA (fun _ => false) i ms = true → ∀ {k : Nat} {m : M}, ms[k]? = some m → ∃ d, m = M.fz d
  | [], i, h, k, m, e => by cases e
  | m' :: ms, i, h, k, m, e => by
    simp only [okA, Bool.false_or, Bool.and_eq_true] at h
    cases k with
    | zero =>
      cases e
      cases m' with
      | fz d => exact ⟨d, rfl⟩
      | _ => exact absurd h.1 (by simp [isFz])
    | succ k => exact okA_ond (K := K) (F := F) (H := H) (σ := σ) (fp := fp) h.2 e
theorem def_r {P : Program} {w : World} {K : PySem.W.Frag} {mg : Str → Option Value} {base : Heap} {x qual : Str} {st : Stmt} {f : Addr} {fd : FuncData} {N ps : List Str} {k : Nat} {lk : Nat → Bool} {gS : En → Option (Exn × En)} (F : Fun K x qual st f fd) (S : FnScope N ps (defScope st))
    (hb : ∀ (cdv : Value) (A : Around) (outer : List Env) (s : Shared) (H : Hp) (E : XK), RoomG k (A.deeper (envOfC qual (defScope st) s.heap.objs.size f cdv)) → PRSs (cxOf (L2.CX P w) P w K mg base N qual (defScope st) f cdv A outer s H E) lk (fun cls d _ H => E cls d H) (defBody st) gS) :
    FnG P w K mg base (L2.CX P w) (k + 1) f fd ps (SpR K (runR N.length ps.length gS)) := by
  have key : ∀ {ms : List M} {x : Exn}, runR N.length ps.length gS ms = some x → (ms.length = ps.length ∧ okA (fun _ => false) 0 ms = true) ∧ ∃ e, gS (ms.map some ++ List.replicate (N.length - ps.length) none) = some (x, e) := fun {ms x} e => by
    unfold runR at e
    split at e
    · rename_i h1
      split at e
      · rename_i x' e' h2
        cases e
        exact ⟨h1, _, h2⟩
      · cases e
    · cases e
  refine fun_g F S (fun vs H Q E h => ?_) (fun cdv A outer s H vs Q E hr h => ?_)
  · obtain ⟨ms, x, Fz, fp, e, ok, _⟩ := h
    rw [← (key e).1.1]
    have := ok.len
    simpa using this.symm
  · obtain ⟨ms, x, Fz, fp, e, ok, q⟩ := h
    obtain ⟨⟨hl, ha⟩, e', hg⟩ := key e
    have hv : ms.length = vs.length := by simpa using ok.len
    refine ⟨_, hb cdv A outer s H E hr, ?_⟩
    have hst : L2.start N vs = vs.map some ++ List.replicate (N.length - ps.length) none := by
      unfold L2.start
      rw [← hv, hl]
    rw [hst]
    refine ⟨_, x, e', Fz, fp, hg, ok.pad, fun cls d σ' F' H' fp' g l a => q cls d F' H' ?_ a⟩
    have noOnd : ∀ b, ¬ Ond (ms.map some ++ List.replicate (N.length - ps.length) none) fp b := fun b z => by
      obtain ⟨i, m, hm, hb⟩ := ond_pad.mp z
      obtain ⟨d', rfl⟩ := okA_ond (K := K) (F := Fz) (H := H) (σ := σ') (fp := fp) ha (by rw [get_map] at hm; exact hm)
      obtain ⟨v, _, h2⟩ := ok.slot i _ hm
      simp only [Own] at h2
      rw [h2.1] at hb
      cases hb
    refine ⟨g.fr, fun b o z _ => g.keep b o z (noOnd b) (by simp), g.stay, g.ok.sub, fun b z => ?_, g.lok⟩
    rcases g.nw b z with y | y | y | y
    · exact .inl y
    · exact .inr (.inl y)
    · exact absurd y (noOnd b)
    · cases y
/-- a call that lets out what the callee does -/
def rCall (io : List Bool) (g : List M → Option Exn) (fs : En → Option (List M)) : En → Option Exn := fun env => match fs env with
  | some ms => (match slotsL ms with
    | [] => (match shutZ io ms with
      | some cs => g cs
      | none => none)
    | _ => none)
  | none => none
section
variable {K : PySem.W.Frag}
theorem tDA.rc {io : List Bool} {g : List M → Option Exn} {fs : En → Option (List M)} {W : WX} {σ : L2.St} {H : Hp} {Q Q' : VK} (h : tRE K W (rCall io g fs) σ H Q) : tDA K fs σ H fun vs H1 => SpR K g vs H1 Q' (fun cls d H2 => W cls d σ H2) := by
  obtain ⟨env, x, F, fp, e, ok, q⟩ := h
  unfold rCall at e
  split at e
  case h_2 => cases e
  rename_i ms hms
  split at e
  case h_2 => cases e
  rename_i hsl
  split at e
  case h_2 => cases e
  rename_i cs hc
  refine ⟨env, ms, F, fp, hms, ok, fun vs F1 H1 A s hO hn hA => ?_⟩
  have ok1 := ok.step s fun a z => by cases z
  obtain ⟨A', h1, h2⟩ := shutZ_ok hO hn hc
  obtain ⟨f1, f2, f3⟩ := fr_frz2 (A := A) ok1.sub fun a ha => (hO.at _ _ _ a (h1.subset ha)).1
  obtain ⟨fpc, okc, on⟩ := envOf f2 (h2 _ f1) (hn.sublist h1)
  refine ⟨cs, x, _, fpc, e, okc, fun cls d F' H' s2 a => q cls d F' H' ?_ (a.back fun b z => s.stay b z)⟩
  refine s.trans (A := A) ⟨f1.1.trans s2.fr, fun b o z _ => s2.hp b o z, s2.stay, s2.sub, fun b z => ?_, s2.lok⟩ hA
  rcases s2.nw b z with y | y | y
  · rcases f3 b y with y | y
    · exact .inl y
    · exact .inr (.inr y.1)
  · exact .inr (.inl y)
  · cases y
end
section
variable {X : Cx} {k : Nat} {fa : Addr} {fd : FuncData} {ps : List Str} {gn : List M → Option Exn} {W : WX} {x : Str} {p pos : Pos} {e : Expr} {es : List Expr} {io : List Bool} {fs : En → Option (List M)}
theorem pre_call (io : List Bool) (F : FnG X.prog X.w X.K X.mg X.base (L2.CX X.prog X.w) k fa fd ps (SpR X.K gn)) (hr : RoomG k X.A) (tk : Takes X W) (hg : Gl X x) (hm : X.mg x = some (.ref fa)) (hk : PySem.W.keepIn X.K (.ref fa) = true) (hb : Binds X.K fd ps [])
    (ha : PDA X (e :: es) fs) (hdb : (x == ("__debug__" : Str)) = false := by decide) (he : starEach (e :: es) X.env = (false, eval e X.env) :: starEach es X.env := by rfl) (hpl : (backTo pos (starEach es X.env)).any (·.1) = false := by rfl) :
    PRE X W (.Call (.Name x p) (e :: es) [] pos) (rCall io gn fs) := by
  refine ⟨fun pins s σ H Q I h => ?_⟩
  refine wpAny_Call_Name_kw (ld_glob I hg hm ?_ hdb)
  refine PySem.W.callWith_K (h₀ := X.base) I.ok.mod.kin hk (thn (ha.run pos pins s σ H _ I (tDA.rc (Q' := fun _ _ => False) h)) fun us s1 ⟨zs, H1, I1, r, q⟩ => ⟨I1.kIn, ?_⟩) he hpl
  have hlen : us.length = ps.length := r.length.symm.trans (F.lens q)
  have hbind := hb s1 us I1.kIn (by rw [List.append_nil]; exact hlen)
  rw [List.append_nil] at hbind
  refine wpAny_call (codeAny_mono (F.runs hr I1.env0 hbind r q) fun res s' hq => ?_)
  rcases res with u | fl
  · exact passAt tk σ pins H1 s1 u s' I1 hq
  · rcases fl with _ | u | _ | _
    all_goals first
    | exact False.elim hq
    | (obtain ⟨v, H', _, _, _, _, _, z⟩ := hq; exact False.elim z)
/-- (e, ..): e lets out -/
theorem pre_tup1 {g : En → Option Exn} {x1 : Nat} {ta : TA} (he : PRE X W e g) (hes : PA X es ta) (hs : starEach (e :: es) X.env = (false, eval e X.env) :: starEach es X.env := by rfl) : PRE X W (.Tuple (e :: es) x1 pos) g := PE.imp (pe_tup (pa_cons he hes hs)) fun σ H Q h => h
end
/-- a def of the text that raises -/
structure Dr (P : Program) (w : World) (K : PySem.W.Frag) (mg : Str → Option Value) (base : Heap) (x : Str) (k : Nat) (ps : List Str) (gn : List M → Option Exn) : Prop where
  ex : ∃ (f : Addr) (fd : FuncData), mg x = some (.ref f) ∧ PySem.W.keepIn K (.ref f) = true ∧ Binds K fd ps [] ∧ FnG P w K mg base (L2.CX P w) k f fd ps (SpR K gn)
def sTry (okC : Exn → Bool) (lk : Nat → Bool) (i j : Nat) (gs : En → Option (Exn × En)) (f : En → Option Fl) : En → Option Fl := fun env => match gs env with
  | some (x, e) => if okC x = true ∧ lk i = false ∧ lk j = false ∧ i < e.length ∧ j < e.length ∧ i ≠ j then some (.nx ((e.kill i).put j (.fz x.d))) else none
  | none => (match f env with
    | some (.nx e) => some (.nx e)
    | _ => none)
theorem ExA.rep {K : PySem.W.Frag} {H F : Hp} {x : Exn} {C a : Addr} {d : Option Addr} (h : ExA K H F x (.ref C) d) (hn : F a = none) : Rep K (upd F a (excV a C d)) x.d (.ref a) := by
  obtain ⟨h1, gs, h2, h3, h4⟩ := h
  cases h1
  unfold Exn.d
  simp only [Rep]
  have sm : Same F (upd F a (excV a x.C d)) := fun b o e => by
    rw [upd_ne (ne_of_none e hn)]
    exact e
  exact ⟨a, d, gs, rfl, upd_same, h2.imp id (fun ⟨dx, z1, z2, z3⟩ => ⟨dx, z1, sm _ _ z3⟩), h3, h4.mono sm⟩
section
variable {X : Cx} {x n y : Str} {c : Value} {i j : Nat} {body : List Stmt} {np pos pos' p2 p3 ap : Pos} {lk : Nat → Bool} {okC : Exn → Bool} {gs : En → Option (Exn × En)} {f : En → Option Fl}
theorem pds_try (hstk : X.stack = X.env :: X.outer) (hfrm : X.env.frame = some X.env.locals) (hN : X.N.Nodup) (hi : X.N[i]? = some n) (hln : X.env.kindOf n = some .local) (hj : X.N[j]? = some y) (hy : Loc X.env.scope y) (hyf : X.fn y = true ∨ X.env.scope.names.lookup y = some .local)
    (hv : Vis X.env.scope n) (hdb : (n == ("__debug__" : Str)) = false) (hcd : (n == ("__classdict__" : Str)) = false) (hc : Names X x c) (hex : X.ex = []) (hok : ∀ z : Exn, okC z = true → PySem.W.exmOne X.K (.ref z.C) c = some true)
    (hr : ∀ (W : WX) (pn : List (Addr × Obj)) (xe : Value → Shared → Prop), Takes (X.tr pn xe) W → PassesOwn (model X.prog X.w) X.A X.env xe → PRSs (X.tr pn xe) lk W body gs)
    (hb : ∀ (pn : List (Addr × Obj)) (xe : Value → Shared → Prop), PassesOwn (model X.prog X.w) X.A X.env xe → PDSs (X.tr pn xe) lk body f)
    (hsw : swapsWith (.Name n p3) (some (.Name y p2)) ap.line X.env = pure false := by rfl) :
    PDS X lk (.Try body [.ExceptHandler (some (.Name x np)) (some n) [.Assign [.Name y p2] (.Name n p3) ap] pos'] [] [] pos) (sTry okC lk i j gs f) := by
  refine PS.imp (ps_tryKeep hstk hfrm hN hi hln hj hy hyf hv hdb hcd hc hex (tb := fun W D σ H => tR X.K lk W gs D σ H ∨ tS X.K lk f D σ H) (fun W pn xe tk po => PSs.or (hr W pn xe tk po) (hb pn xe po)) hsw) fun D σ H h => ?_
  obtain ⟨env, r, F, fp, e, ok, q⟩ := h
  unfold sTry at e
  split at e
  · rename_i z e1 hz
    split at e
    · rename_i hcond
      cases e
      obtain ⟨c1, c2, c3, c4, c5, c6⟩ := hcond
      refine .inl ⟨env, z, e1, F, fp, hz, ok, fun cls d σ' F' H' fp' g l a => ?_⟩
      have hcls := a.1
      subst hcls
      refine ⟨hok z c1, z.C, rfl, by rw [← g.ok.len]; exact c4, fun b hb' => ?_⟩
      have hF : F' b = none := g.ok.sub.free hb'
      have rep := a.rep hF
      -- the exception is there, frozen
      have st : Step [] F' H' (upd F' b (excV b z.C d)) (upd H' b (excV b z.C d)) := .mk' (fun w o e => by rw [upd_ne (ne_of_none e hF)]; exact e) (fun w o e => by rw [upd_ne (ne_of_none e hb')]; exact e) (fun w o e => by
          by_cases hw : w = b
          · subst hw
            rw [upd_same] at e ⊢
            exact e
          · rw [upd_ne hw] at e ⊢
            exact g.ok.sub _ _ e) fun w hw => by
          by_cases hw' : w = b
          · subst hw'
            exact .inr (.inl hb')
          · rw [upd_ne hw'] at hw
            exact .inl hw
      have g1 := g.trans (st.go g.ok fun a z => by cases z) (fun a z => by cases z)
      have g2 := kill_ok (i := i) g1.ok
      have ok2 : EnvOk X.K (upd F' b (excV b z.C d)) (upd H' b (excV b z.C d)) ((σ'.set i (some (.ref b))).set i none) (e1.kill i) fp' := by
        have k := g2.ok
        refine ⟨by rw [k.len, List.length_set, List.length_set], k.sub, fun w m hm => ?_, k.nd, k.dj⟩
        have hwi : w ≠ i := fun e => by
          rw [e, En.get_kill] at hm
          simp at hm
        obtain ⟨v, s1, s2⟩ := k.slot w m hm
        exact ⟨v, by rw [List.getElem?_set_ne (Ne.symm hwi), List.getElem?_set_ne (Ne.symm hwi)]; exact s1, s2⟩
      have g3 := set_ok (i := j) (v := .ref b) ok2 (own_fz (br := noBr) rep) .nil (fun a z => by cases z) (by unfold En.kill; rw [List.length_set]; exact c5)
      have eσ : ((σ'.set i (some (.ref b))).set j (some (.ref b))).set i none = ((σ'.set i (some (.ref b))).set i none).set j (some (.ref b)) := List.set_comm _ _ (Ne.symm c6)
      rw [eσ]
      have g23 : Go X.K [] σ' (e1) fp' (upd F' b (excV b z.C d)) (upd H' b (excV b z.C d)) ((σ'.set i (some (.ref b))).set i none) (e1.kill i) fp' (upd F' b (excV b z.C d)) (upd H' b (excV b z.C d)) := ⟨g2.fr, g2.keep, g2.stay, g2.nw, g2.nf, ok2, g2.lok⟩
      have gg := (g1.trans g23 fun a z => by cases z).trans g3 fun a z => by cases z
      refine q _ _ _ _ gg fun w hw => ?_
      have h1 : i ≠ w := fun e => by subst e; rw [c2] at hw; cases hw
      have h2 : j ≠ w := fun e => by subst e; rw [c3] at hw; cases hw
      rw [List.getElem?_set_ne h2, List.getElem?_set_ne h1, List.getElem?_set_ne h1]
      exact l w hw
    · cases e
  · split at e
    · rename_i e1 h1
      cases e
      exact .inr ⟨env, _, F, fp, h1, ok, q⟩
    · cases e
end
end T2
end
section
namespace T2
open PySem PySem.Spec PyProof.Rows L2
set_option linter.all false
set_option maxHeartbeats 2000000
section
variable {X : Cx} {e : Expr} {es : List Expr} {ta : TA} {p1 p2 pos : Pos} {x : Str}
/-- B.__init__(self, ..), B an own class over ValueError without an own __init__ -/
theorem pe_binit {B : Addr} {mc : Value} {pl : Sem Bool} (hg : Gl X x) (hm : X.mg x = some (.ref B)) (cr : ClX.CRead X.K B mc) (cf : PySem.W.findCls X.K (.ref B) mc "__init__" = some (.val (.builtin "ValueError.__init__"))) (ha : PA X (e :: es) ta)
    (hdb : (x == ("__debug__" : Str)) = false := by decide)
    (hc : eval (.Call (.Attribute (.Name x p1) "__init__" p2) (e :: es) [] pos) X.env = (do
      let ov ← eval (.Name x p1) X.env
      standAt p2.atName
      let (f, first) ← holding [ov] (getMethod ov "__init__" pl)
      callWith pos f first (backTo pos (starEach (e :: es) X.env)) (backToKw pos (keywordEach [] X.env))) := by rfl)
    (hst : starEach (e :: es) X.env = (false, eval e X.env) :: starEach es X.env := by rfl) (hpl : (backTo pos (starEach es X.env)).any (·.1) = false := by rfl) :
    PE X (.Call (.Attribute (.Name x p1) "__init__" p2) (e :: es) [] pos) (tVeI X.K ta) := by
  refine ⟨fun pins s σ H Q I h => ?_⟩
  refine PySem.W.methodCall_KW (ld_glob I hg hm ?_ hdb) hc
  refine PySem.W.method_cls I.kIn cr.ga (PySem.W.cls_value I.kIn cr.rd cf (by decide +kernel) ?_)
  have I0 : Inv X pins σ H { s with toks := s.toks + 1 } := I.tok _
  refine PyProof.Rows.callWith_method1 (thn (ha.run pos pins _ σ H _ I0 h) fun us s1 ⟨vs, H1, I1, r1, a, C, ws, ev, hl, T, ea, q⟩ => ?_) hst hpl
  subst ev
  cases r1 with
  | @cons _ u0 _ ur ra rw' =>
    obtain rfl : u0 = Value.ref a := ra
    have hlen : ur.length ≤ sizeLine := by
      rw [← Paired.length rw', sizeLine_eq]
      omega
    exact oinit_ok T I1 ea hlen fun s' J => ⟨.non, H1, J, rfl, q⟩
end
/-- what such an __init__ does: the field f -/
def spInit (K : PySem.W.Frag) (f : Str) : Sp := fun vs H Q _ => ∃ (a C : Addr) (v : V), vs = [.ref a, v] ∧ OexC K C ∧ PySem.W.findIn K (.ref C) f = some none ∧ H a = some (exo a C none) ∧
  ∀ dx, H dx = none → dx ≠ a → Q .non (upd (upd H dx (exd dx [(f, v)])) a (exo a C (some dx)))
section
variable {X : Cx}
/-- C(e), C with such an __init__ -/
def rMk (n : Nat) (C : Addr) (f : Str) (fe : En → Option M) : En → Option Exn := fun env => match fe env with
  | some (.fz d) => some ⟨n, C, [(f, d)]⟩
  | _ => none
theorem pmr_init {C fI : Addr} {k : Nat} {fd : FuncData} {ps : List Str} {x f : Str} {p pos : Pos} {e : Expr} {fe : En → Option M} (n : Nat) (T : OexC X.K C) (hno : PySem.W.findIn X.K (.ref C) f = some none) (iC : PySem.W.findIn X.K (.ref C) "__init__" = some (some (.ref fI))) (tI : PySem.W.typeIn X.K (.ref fI) = some (.type "function"))
    (F1 : FnOk X.prog X.w X.K X.mg X.base CX0 k fI fd ps (spInit X.K f)) (hr : RoomG (k + 1) X.A) (hb : Binds X.K fd ps []) (hg : Gl X x) (hm : X.mg x = some (.ref C)) (ha : PD X e fe)
    (hdb : (x == ("__debug__" : Str)) = false := by decide) (he : starEach [e] X.env = (false, eval e X.env) :: starEach [] X.env := by rfl) (hpl : (backTo pos (starEach [] X.env)).any (·.1) = false := by rfl) :
    PMR X (.Call (.Name x p) [e] [] pos) (rMk n C f fe) := by
  intro pins s σ H Q I h
  obtain ⟨env, z, F, fp, er, ok, q⟩ := h
  unfold rMk at er
  split at er
  case h_2 => cases er
  rename_i d hd
  cases er
  refine pmk_oex (dvs := []) (ds := []) (sp := spInit X.K f) T iC tI F1 hr.rm hb .nil pass0 hg hm (pa_cons ha pa_nil he) hdb he hpl pins s σ H Q I ?_
  refine ⟨env, _, F, fp, hd, ok, fun v F1 H1 A s1 o1 n1 a1 => ?_⟩
  simp only [Own] at o1
  obtain ⟨rfl, r1⟩ := o1
  refine ⟨by simp, fun a na => ⟨a, C, v, rfl, T, hno, upd_same, fun dx hdx hne => ⟨rfl, dx, [(f, v)], upd_same, ?_, ?_, ?_⟩⟩⟩
  · rw [upd_ne hne, upd_same]
  · rw [upd_ne hne] at hdx
    exact hdx
  · have hdx1 : H1 dx = none := by
      rw [upd_ne hne] at hdx
      exact hdx
    have eH : upd (del (upd (upd (upd H1 a (exo a C none)) dx (exd dx [(f, v)])) a (exo a C (some dx))) a) dx (.xd [(f, v)]) = upd H1 dx (.xd [(f, v)]) := by
      funext b
      by_cases h1 : b = dx
      · rw [h1, upd_same, upd_same]
      · rw [upd_ne h1, upd_ne h1]
        by_cases h2 : b = a
        · rw [h2, del_same, na]
        · rw [del_ne h2, upd_ne h2, upd_ne h1, upd_ne h2]
    rw [eH]
    have hF1 : F1 dx = none := s1.sub.free hdx1
    have s2 : Step [] F1 H1 (upd F1 dx (.xd [(f, v)])) (upd H1 dx (.xd [(f, v)])) := .mk' (fun w o e => by rw [upd_ne (ne_of_none e hF1)]; exact e) (fun w o e => by rw [upd_ne (ne_of_none e hdx1)]; exact e) (fun w o e => by
      by_cases hw : w = dx
      · subst hw
        rw [upd_same] at e ⊢
        exact e
      · rw [upd_ne hw] at e ⊢
        exact s1.sub _ _ e) fun w hw => by
      by_cases hw' : w = dx
      · subst hw'
        exact .inr (.inl hdx1)
      · rw [upd_ne hw'] at hw
        exact .inl hw
    refine q _ _ _ _ (s1.trans s2 fun b hb => by cases hb) ⟨rfl, [(f, v)], .inr ⟨dx, rfl, s1.stay dx hdx1, upd_same⟩, (fun z => by cases z), ?_⟩
    simp only [RepF]
    exact ⟨v, [], rfl, r1.mono s2.fr, rfl⟩
end
def rIsX (K : PySem.W.Frag) (cv : Value) : List V → Hp → VK → Prop := fun xs H Q => ∃ (x c : V) (b : Bool), xs = [x, c] ∧ (∀ u, RelV c u → u = cv) ∧
  ((x = .non ∧ PySem.W.kitOne K (.type "NoneType") cv = some b) ∨ ∃ a D d gs, x = .ref a ∧ H a = some (excV a D d) ∧ (d = none ∨ ∃ dx, d = some dx ∧ H dx = some (.xd gs)) ∧ ExcC K D ∧ PySem.W.kitOne K (.ref D) cv = some b) ∧ Q (.bl b) H
theorem exc_inst {X : Cx} {pins : List (Addr × Obj)} {σ : L2.St} {H : Hp} {s : Shared} {a D : Addr} {d : Option Addr} {gs : List (Str × V)} (I : Inv X pins σ H s) (ha : H a = some (excV a D d)) (hd : d = none ∨ ∃ dx, d = some dx ∧ H dx = some (.xd gs)) :
    ∃ oe od, PySem.W.InstAt s.heap a oe D od := by
  have h0 : ObjOk X.prog X.w H s.heap a (excV a D d) := I.hok a _ ha
  obtain ⟨⟨o, vs, e1, e2, e3, e4⟩, _⟩ := h0
  rcases hd with rfl | ⟨dx, rfl, hx⟩
  · refine ⟨o, none, e1, e2, by unfold PySem.W.notCls; rw [e4] <;> rfl, ?_⟩
    rw [e3]
    trivial
  · have h1 : ObjOk X.prog X.w H s.heap dx (.xd gs) := I.hok dx _ hx
    obtain ⟨mA, hns, hr⟩ := h1
    obtain ⟨od, ho, hl⟩ := lookIn_ns hns
    exact ⟨o, some od, e1, e2, by unfold PySem.W.notCls; rw [e4] <;> rfl, by rw [e3]; exact ho⟩
theorem call_isX {X : Cx} {cv : Value} : CallR X (.builtin "isinstance") (rIsX X.K cv) := by
  intro pins s σ H xs us Q I r h
  obtain ⟨x, c, b, rfl, hcv, hx, q⟩ := h
  cases r with
  | cons rx rr =>
    cases rr with
    | cons rt rr =>
      cases rr
      have ec := hcv _ rt
      subst ec
      rcases hx with ⟨rfl, e⟩ | ⟨a, D, d, gs, rfl, ha, hd, C, e⟩
      · cases rx
        exact PySem.W.kia_one PySem.W.kitx_none I.kIn True.intro e (fun z => nomatch z) fun tk => ⟨.bl b, H, I.kept (t' := tk) fun _ _ z => z, rfl, q⟩
      · cases rx
        obtain ⟨oe, od, J⟩ := exc_inst I ha hd
        have hcl : (PySem.W.clsIn X.K D).isSome = true := by
          obtain ⟨cd, hc, _⟩ := PySem.W.any_some C.hd
          rw [hc]
          rfl
        exact PySem.W.kia_one (PySem.W.kitx_exc hcl C.hg C.hk C.hs C.ha C.hn C.ht C.hm) I.kIn J e (fun z => nomatch z) fun tk => ⟨.bl b, H, I.kept (t' := tk) fun _ _ z => z, rfl, q⟩
def oIsC (at_ : Nat → Addr) (kN : Option Bool) (kE : Nat → Option Bool) (f : En → Option M) : En → Option M := fun env => match f env with
  | some (.fz .non) => kN.map fun b => .fz (.bl b)
  | some (.fz (.exc n C _)) => if C = at_ n then (kE n).map fun b => .fz (.bl b) else none
  | _ => none
section
variable {X : Cx} {a b : Expr} {f : En → Option M} {p pos rp : Pos} {x T : Str} {at_ : Nat → Addr} {kN : Option Bool} {kE : Nat → Option Bool} {c : V} {cv : Value}
theorem pd_isX (hcv : ∀ u, RelV c u → u = cv) (hN : ∀ b, kN = some b → PySem.W.kitOne X.K (.type "NoneType") cv = some b) (hE : ∀ n b, kE n = some b → ExcC X.K (at_ n) ∧ PySem.W.kitOne X.K (.ref (at_ n)) cv = some b)
    (hg : Gl X "isinstance") (hm : X.mg "isinstance" = none) (hc : PE X (.Name T rp) (tC c)) (ha : PD X a f) (hv : bootBuiltins "isinstance" = some (.builtin "isinstance"))
    (s1 : starEach [a, .Name T rp] X.env = (false, eval a X.env) :: starEach [.Name T rp] X.env := by rfl) (s2 : starEach [.Name T rp] X.env = (false, eval (.Name T rp) X.env) :: starEach [] X.env := by rfl) (hpl : (backTo pos (starEach [.Name T rp] X.env)).any (·.1) = false := by rfl) :
    PD X (.Call (.Name "isinstance" p) [a, .Name T rp] [] pos) (oIsC at_ kN kE f) :=
  PE.imp (pe_callB (call_isX (X := X) (cv := cv)) hg hm hv (pa_cons ha (pa_cons hc pa_nil s2) s1) (by decide) (by decide) s1 hpl) fun σ H Q h => by
    obtain ⟨env, m, F, fp, e, ok, q⟩ := h
    unfold oIsC at e
    split at e
    · rename_i hf
      cases hk : kN with
      | none => rw [hk] at e; cases e
      | some b =>
        rw [hk] at e
        cases e
        refine ⟨env, _, F, fp, hf, ok, fun v F' H' A s o nd aa => ?_⟩
        simp only [Own, Rep] at o
        obtain ⟨rfl, rfl⟩ := o
        exact ⟨.non, c, b, rfl, hcv, .inl ⟨rfl, hN b hk⟩, q _ F' H' [] s (own_fz (by simp only [Rep])) .nil fun a z => by cases z⟩
    · rename_i n C fs hf
      split at e
      · rename_i hC
        subst hC
        cases hk : kE n with
        | none => rw [hk] at e; cases e
        | some b =>
          rw [hk] at e
          cases e
          refine ⟨env, _, F, fp, hf, ok, fun v F' H' A s o nd aa => ?_⟩
          simp only [Own, Rep] at o
          obtain ⟨rfl, a, d, gs, rfl, e1, e2, e3, e4⟩ := o
          have sub := s.sub
          exact ⟨.ref a, c, b, rfl, hcv, .inr ⟨a, at_ n, d, gs, rfl, sub _ _ e1, e2.imp id (fun ⟨dx, z1, z2⟩ => ⟨dx, z1, sub _ _ z2⟩), (hE n b hk).1, (hE n b hk).2⟩, q _ F' H' [] s (own_fz (by simp only [Rep])) .nil fun a z => by cases z⟩
      · cases e
    · cases e
end
def lookF : List (Str × D) → Str → Option D
  | [], _ => none
  | p :: r, f => if f = p.1 then some p.2 else lookF r f
theorem RepF.look {K : PySem.W.Frag} {F : Hp} {f : Str} {d : D} : ∀ {fs : List (Str × D)} {gs : List (Str × V)}, RepF K F fs gs → lookF fs f = some d → ∃ v, gs.lookup f = some v ∧ Rep K F d v
  | [], gs, h, e => by cases e
  | p :: r, gs, h, e => by
    simp only [RepF] at h
    obtain ⟨v, r', rfl, h1, h2⟩ := h
    simp only [lookF] at e
    by_cases hp : f = p.1
    · rw [if_pos hp] at e
      cases e
      exact ⟨v, by rw [List.lookup_cons, hp]; simp, h1⟩
    · rw [if_neg hp] at e
      obtain ⟨w, h3, h4⟩ := RepF.look h2 e
      refine ⟨w, ?_, h4⟩
      rw [List.lookup_cons, show (f == p.1) = false by simpa using hp]
      exact h3
def oExF (at_ : Nat → Addr) (ns : List Nat) (nm : Str) (f : En → Option M) : En → Option M := fun env => match f env with
  | some (.fz (.exc n C fs)) => if C = at_ n ∧ n ∈ ns then (lookF fs nm).map .fz else none
  | _ => none
section
variable {X : Cx} {e : Expr} {f : En → Option M} {pos : Pos} {nm : Str} {at_ : Nat → Addr} {ns : List Nat}
theorem pd_exF (hT : ∀ n ∈ ns, XfC X.K (at_ n) ∧ PySem.W.findIn X.K (.ref (at_ n)) nm = some none) (he : PD X e f) (hb : attributeBase e nm X.env (eval e X.env) = eval e X.env := by rfl) : PD X (.Attribute e nm pos) (oExF at_ ns nm f) := by
  refine ⟨fun pins s σ H Q I h => ?_⟩
  obtain ⟨env, m, F, fp, er, ok, q⟩ := h
  unfold oExF at er
  split at er
  case h_2 => cases er
  rename_i n C fs hf
  split at er
  case isFalse => cases er
  rename_i hC
  obtain ⟨rfl, hn⟩ := hC
  cases hk : lookF fs nm with
  | none => rw [hk] at er; cases er
  | some d =>
    rw [hk] at er
    cases er
    have here : tD X.K f σ H fun v H1 => ∃ a dd gs w F1, v = .ref a ∧ H1 a = some (excV a (at_ n) (some dd)) ∧ H1 dd = some (.xd gs) ∧ gs.lookup nm = some w ∧ Q w H1 :=
      ⟨env, _, F, fp, hf, ok, fun v F' H' A s o nd aa => by
        simp only [Own, Rep] at o
        obtain ⟨rfl, a, d0, gs, rfl, e1, e2, e3, e4⟩ := o
        obtain ⟨w, h1, h2⟩ := RepF.look e4 hk
        rcases e2 with rfl | ⟨dx, rfl, hx⟩
        · rw [e3 rfl] at h1
          cases h1
        · exact ⟨a, dx, gs, w, F', rfl, s.sub _ _ e1, s.sub _ _ hx, h1, q w F' H' [] s (own_fz h2) .nil fun a z => by cases z⟩⟩
    refine attr_of hb (thn (he.run pins s σ H _ I here) fun u s1 hh => ?_)
    obtain ⟨y, H1, I1, ry, a, dd, gs, w, F1, rfl, ea, ed, l, q⟩ := hh
    obtain rfl : u = Value.ref a := ry
    have T := (hT n hn).1
    have h0 : ObjOk X.prog X.w H1 s1.heap a (excV a (at_ n) (some dd)) := I1.hok a _ ea
    obtain ⟨⟨o, vs, e1, e2, e3, e4⟩, _⟩ := h0
    have h1 : ObjOk X.prog X.w H1 s1.heap dd (.xd gs) := I1.hok dd _ ed
    obtain ⟨mA, hns, hr⟩ := h1
    obtain ⟨od, ho, hl⟩ := lookIn_ns hns
    obtain ⟨u, hu, ru⟩ := RelO.some_of (v := w) (o := mA nm) (by rw [← l]; exact hr nm)
    have J : PySem.W.InstAt s1.heap a o (at_ n) (some od) := ⟨e1, e2, by unfold PySem.W.notCls; rw [e4] <;> rfl, by rw [e3]; exact ho⟩
    exact HandSPX.exc_get I1.kIn J T.ga T.gg T.exC (PySem.W.findObj_own T.hdC (hT n hn).2 rfl (by rw [hl, hu])) (handed_of ru) ⟨w, H1, I1.tok _, ru, q⟩
end
end T2
end
section
namespace T2
open PySem PySem.Spec PyProof.Rows L2
set_option linter.all false
/-- what an own exception class with a field has in its __init__ -/
structure Dxi (P : Program) (w : World) (K : PySem.W.Frag) (mg : Str → Option Value) (base : Heap) (C : Addr) (f : Str) : Prop where
  ex : ∃ (fI : Addr) (fd : FuncData) (ps : List Str), PySem.W.findIn K (.ref C) "__init__" = some (some (.ref fI)) ∧ PySem.W.typeIn K (.ref fI) = some (.type "function") ∧ Binds K fd ps [] ∧ FnOk P w K mg base CX0 1 fI fd ps (spInit K f)
section
variable [ca : ClsA]
def okX (ns : List Nat) (z : Exn) : Bool := decide (z.C = ca.at_ z.n) && ns.contains z.n
theorem okX_ok {K : PySem.W.Frag} {c : Value} {ns : List Nat} (h : ∀ n ∈ ns, PySem.W.exmOne K (.ref (ca.at_ n)) c = some true) : ∀ z : Exn, okX ns z = true → PySem.W.exmOne K (.ref z.C) c = some true := fun z hz => by
  unfold okX at hz
  obtain ⟨h1, h2⟩ := Bool.and_eq_true_iff.mp hz
  rw [of_decide_eq_true h1]
  exact h _ (by simpa using h2)
theorem okX_of {ns : List Nat} {n : Nat} {fs : List (Str × D)} (h : ns.contains n = true) : okX ns ⟨n, ca.at_ n, fs⟩ = true := by
  unfold okX
  rw [decide_eq_true rfl, h]
  rfl
def kEL (l : List (Nat × Bool)) : Nat → Option Bool := fun n => l.lookup n
theorem kEL_ok {K : PySem.W.Frag} {cv : Value} {l : List (Nat × Bool)} (h : ∀ p ∈ l, ExcC K (ca.at_ p.1) ∧ PySem.W.kitOne K (.ref (ca.at_ p.1)) cv = some p.2) : ∀ n b, kEL l n = some b → ExcC K (ca.at_ n) ∧ PySem.W.kitOne K (.ref (ca.at_ n)) cv = some b := fun n b e => by
  have key : ∀ (l : List (Nat × Bool)), l.lookup n = some b → (n, b) ∈ l := fun l => by
    induction l with
    | nil => intro e; cases e
    | cons p l ih =>
      intro e
      rw [List.lookup_cons] at e
      by_cases hp : n = p.1
      · subst hp
        simp only [beq_self_eq_true, Option.some.injEq] at e
        subst e
        exact List.mem_cons_self ..
      · rw [show (n == p.1) = false by simpa using hp] at e
        exact List.mem_cons_of_mem _ (ih e)
  exact h _ (key l e)
end
theorem x_isC {at_ : Nat → Addr} {kN : Option Bool} {kE : Nat → Option Bool} {f : En → Option M} {env : En} {n : Nat} {fs : List (Str × D)} {b : Bool} (h : f env = some (.fz (.exc n (at_ n) fs))) (hk : kE n = some b) : oIsC at_ kN kE f env = some (.fz (.bl b)) := by
  unfold oIsC
  rw [h]
  simp only [if_true, hk]
  rfl
theorem x_isCN {at_ : Nat → Addr} {kN : Option Bool} {kE : Nat → Option Bool} {f : En → Option M} {env : En} {b : Bool} (h : f env = some (.fz .non)) (hk : kN = some b) : oIsC at_ kN kE f env = some (.fz (.bl b)) := by
  unfold oIsC
  rw [h]
  simp only [hk]
  rfl
theorem x_exF {at_ : Nat → Addr} {ns : List Nat} {nm : Str} {f : En → Option M} {env : En} {n : Nat} {fs : List (Str × D)} {d : D} (h : f env = some (.fz (.exc n (at_ n) fs))) (hn : n ∈ ns) (hk : lookF fs nm = some d) : oExF at_ ns nm f env = some (.fz d) := by
  unfold oExF
  rw [h]
  simp only [true_and, if_pos hn, hk]
  rfl
theorem x_try {okC : Exn → Bool} {lk : Nat → Bool} {i j : Nat} {gs : En → Option (Exn × En)} {f : En → Option Fl} {env e1 e2 : En} {x : Exn} (h : gs env = some (x, e1)) (hx : okC x = true) (hi : lk i = false) (hj : lk j = false) (hl : Nat.ble (i + 1) e1.length = true) (hl2 : Nat.ble (j + 1) e1.length = true) (hn : i ≠ j) (he : (e1.kill i).put j (.fz x.d) = e2) : sTry okC lk i j gs f env = some (.nx e2) := by
  subst he
  unfold sTry
  rw [h]
  simp only [if_pos (show okC x = true ∧ lk i = false ∧ lk j = false ∧ i < e1.length ∧ j < e1.length ∧ i ≠ j from ⟨hx, hi, hj, Nat.le_of_ble_eq_true hl, Nat.le_of_ble_eq_true hl2, hn⟩)]
theorem x_tryN {okC : Exn → Bool} {lk : Nat → Bool} {i j : Nat} {gs : En → Option (Exn × En)} {f : En → Option Fl} {env e1 : En} (h : gs env = none) (hf : f env = some (.nx e1)) : sTry okC lk i j gs f env = some (.nx e1) := by
  unfold sTry
  rw [h]
  simp only [hf]
theorem r_call {io : List Bool} {g : List M → Option Exn} {fs : En → Option (List M)} {env : En} {ms cs : List M} {r : Option Exn} (h : fs env = some ms) (h1 : slotsL ms = []) (h2 : shutZ io ms = some cs) (h3 : g cs = r) : rCall io g fs env = r := by
  unfold rCall
  rw [h]
  simp only [h1, h2, h3]
theorem r_sRE {g : En → Option Exn} {env : En} {x : Exn} (h : g env = some x) : sRE g env = some (x, env) := by
  unfold sRE
  rw [h]
theorem r_sREn {g : En → Option Exn} {env : En} (h : g env = none) : sRE g env = none := by
  unfold sRE
  rw [h]
theorem r_seq {gs g2 : En → Option (Exn × En)} {f : En → Option Fl} {env e1 : En} {r : Option (Exn × En)} (h : gs env = none) (hf : f env = some (.nx e1)) (h2 : g2 e1 = r) : rSeq gs f g2 env = r := by
  unfold rSeq
  rw [h]
  simp only [hf, h2]
theorem r_seq1 {gs g2 : En → Option (Exn × En)} {f : En → Option Fl} {env : En} {r : Exn × En} (h : gs env = some r) : rSeq gs f g2 env = some r := by
  unfold rSeq
  rw [h]
theorem r_ift {t : En → Option Bool} {ga gb : En → Option (Exn × En)} {env : En} {r : Option (Exn × En)} (h : t env = some true) (h2 : ga env = r) : rIf t ga gb env = r := by
  unfold rIf
  rw [h]
  exact h2
theorem r_iff {t : En → Option Bool} {ga gb : En → Option (Exn × En)} {env : En} {r : Option (Exn × En)} (h : t env = some false) (h2 : gb env = r) : rIf t ga gb env = r := by
  unfold rIf
  rw [h]
  exact h2
theorem r_for {lk : Nat → Bool} {t : Tg} {it : En → Option (List D × En)} {f : En → Option Fl} {g : En → Option (Exn × En)} {env e1 : En} {ds : List D} {r : Option (Exn × En)} (h : it env = some (ds, e1)) (h2 : rLp lk t f g ds e1 = r) : rFor lk t it f g env = r := by
  unfold rFor
  rw [h]
  exact h2
theorem r_run {n p : Nat} {gS : En → Option (Exn × En)} {ms : List M} {x : Exn} {e1 : En} (hl : ms.length = p) (ha : okA (fun _ => false) 0 ms = true) (h : gS (ms.map some ++ List.replicate (n - p) none) = some (x, e1)) : runR n p gS ms = some x := by
  unfold runR
  rw [if_pos ⟨hl, ha⟩, h]
theorem r_runN {n p : Nat} {gS : En → Option (Exn × En)} {ms : List M} (h : gS (ms.map some ++ List.replicate (n - p) none) = none) : runR n p gS ms = none := by
  unfold runR
  split
  · rw [h]
  · rfl
theorem r_mk {n : Nat} {C : Addr} {f : Str} {fe : En → Option M} {env : En} {d : D} (h : fe env = some (.fz d)) : rMk n C f fe env = some ⟨n, C, [(f, d)]⟩ := by
  unfold rMk
  rw [h]
/-- reading of such an __init__'s body -/
theorem init_sp {K : PySem.W.Frag} {f : Str} : ∀ (zs : List V) (H : Hp) (Q : VK) (E : XK), spInit K f zs H Q E → zs.length = 2 := fun zs H Q E h => by
  obtain ⟨a, C, v, rfl, _⟩ := h
  rfl
end T2
end
section
namespace G06
open PySem PySem.Spec PyProof.Rows L2 T2
set_option Elab.async false
set_option linter.all false
set_option maxRecDepth 100000
set_option maxHeartbeats 4000000
def top (i : Nat) : Stmt := PySem.Challenge.pw_telltight_k06_numbers_refused.main.body.getD i (.Pass ⟨0, 0, 0, 0⟩)
variable [ca : ClsA]
abbrev s_NoCount_init : Stmt := inClass (top 2) 0
theorem sc_NoCount_init : FnScope ["self", "count"] ["self", "count"] (defScope s_NoCount_init) := ⟨rfl, rfl, rfl, by decide +kernel, rfl, by decide +kernel, by decide +kernel⟩
abbrev s_NoGroup_init : Stmt := inClass (top 3) 0
theorem sc_NoGroup_init : FnScope ["self", "group"] ["self", "group"] (defScope s_NoGroup_init) := ⟨rfl, rfl, rfl, by decide +kernel, rfl, by decide +kernel, by decide +kernel⟩
abbrev s__law_draws : Stmt := top 29
abbrev N__law_draws : List Str := ["_law_script", "_law_turn", "_law_many", "_law_cells", "_law_found", "_law_left", "_law_k", "_law_at", "_law_place", "_law_number", "_law_cell"]
theorem sc__law_draws : FnScope N__law_draws ["_law_script", "_law_turn", "_law_many"] (defScope s__law_draws) := ⟨rfl, rfl, rfl, by decide +kernel, rfl, by decide +kernel, by decide +kernel⟩
def lk__law_draws : Nat → Bool := fun i => false
def B__law_draws_0 : En → Option Fl :=
  (sSeq (sAsg lk__law_draws 7 0 (lif (bin (sop iMod) (nam 6) (opr (sop gLen) (aCons (nam 5) aNil)))))
    (sSeq (sIf (lifT (tst (bin (sop iGe) (nam 6) (nam 1))))
    (sExp (xMutP 9 (nam 4) (aCons (bin (sop iMod) (bin oIdx (nam 5) (nam 7)) (cst (.int 2147483587))) aNil) mAppend))
    sNil)
    (sSet 0 (nam 5) (nam 7) (lif (bin (sop iDiv) (bin oIdx (nam 5) (nam 7)) (cst (.int 2147483587)))))))
def B__law_draws_1 : En → Option Fl :=
  (sSeq (sAsg lk__law_draws 8 0 (lif (bin oAdd (bin oMul (bin oMul (bin oAdd (nam 6) (nam 1)) (bin oAdd (nam 6) (nam 1))) (cst (.int 7919))) (cst (.int 104729)))))
    (sSeq (sAsg lk__law_draws 9 0 (lif (bin (sop iMod) (bin oMul (bin oAdd (bin (sop iMod) (bin oIdx (nam 3) (bin (sop iMod) (nam 6) (opr (sop gLen) (aCons (nam 3) aNil)))) (cst (.int 2147483647))) (nam 8)) (cst (.int 48271))) (cst (.int 2147483647)))))
    (sSeq (sAsg lk__law_draws 9 0 (lif (bin (sop iMod) (bin oAdd (bin oMul (nam 9) (nam 9)) (bin oMul (cst (.int 69621)) (nam 6))) (cst (.int 2147483629)))))
    (sExp (xMutP 9 (nam 4) (aCons (bin (sop iMod) (bin oMul (nam 9) (nam 9)) (cst (.int 2147483587))) aNil) mAppend)))))
def F__law_draws : En → Option Fl :=
  (sSeq (sAsg lk__law_draws 3 0 (lif (bin oAdd (oSl (nam 0) none (some (cst (.int 63)))) (opr oLst (aCons (nam 1) aNil)))))
    (sSeq (sAsg lk__law_draws 4 9 (lif (opr oLst aNil)))
    (sSeq (sIf (lifT (tst (bin (sop (gEq false)) (bin (sop iMod) (bin (sop iDiv) (bin oIdx (nam 3) (cst (.int 0))) (cst (.int 50000))) (cst (.int 2))) (cst (.int 1)))))
    (sSeq (sAsg lk__law_draws 5 1 (lif (lcF [10] (.nm 10) (itP true (nam 3)) cYes (bin (sop iDiv) (nam 10) (cst (.int 100000))))))
    (sSeq (sFor lk__law_draws (.nm 6) (lifI (itR1 (aCons (bin oAdd (nam 1) (nam 2)) aNil)))
    B__law_draws_0)
    (sRet lk__law_draws (lif (nam 4)))))
    sNil)
    (sSeq (sFor lk__law_draws (.nm 6) (lifI (itR1 (aCons (nam 2) aNil)))
    B__law_draws_1)
    (sRet lk__law_draws (lif (nam 4)))))))
def f__law_draws : Fn := runD 11 3 lk__law_draws F__law_draws
abbrev s__law_pop : Stmt := top 30
abbrev N__law_pop : List Str := ["_law_draws_here"]
theorem sc__law_pop : FnScope N__law_pop ["_law_draws_here"] (defScope s__law_pop) := ⟨rfl, rfl, rfl, by decide +kernel, rfl, by decide +kernel, by decide +kernel⟩
def lk__law_pop : Nat → Bool := fun i => i == 0
def F__law_pop : En → Option Fl :=
  (sSeq (sIf (lifT (tst (bin (sop (gEq false)) (nam 0) (opr oLst aNil))))
    (sRet lk__law_pop (lif (cst (.int 0))))
    sNil)
    (sRet lk__law_pop (xMutP 0 (nam 0) aNil mPop)))
def f__law_pop : Fn := runD 1 1 lk__law_pop F__law_pop
abbrev s__law_kind : Stmt := top 32
abbrev N__law_kind : List Str := ["_law_error", "_law_found"]
theorem sc__law_kind : FnScope N__law_kind ["_law_error"] (defScope s__law_kind) := ⟨rfl, rfl, rfl, by decide +kernel, rfl, by decide +kernel, by decide +kernel⟩
def lk__law_kind : Nat → Bool := fun i => false
def F__law_kind : En → Option Fl :=
  (sSeq (sAsg lk__law_kind 1 9 (lif (opr oLst aNil)))
    (sSeq (sIf (lifT (tst (oIsC ca.at_ (some false) (kEL [(1, true), (2, false)]) (nam 0))))
    (sAsg lk__law_kind 1 9 (lif (bin oAdd (nam 1) (opr oLst (aCons (cst (.str "count")) (aCons (oExF ca.at_ [1] "count" (nam 0)) aNil))))))
    sNil)
    (sSeq (sIf (lifT (tst (oIsC ca.at_ (some false) (kEL [(1, false), (2, true)]) (nam 0))))
    (sAsg lk__law_kind 1 9 (lif (bin oAdd (nam 1) (opr oLst (aCons (cst (.str "group")) (aCons (oExF ca.at_ [2] "group" (nam 0)) aNil))))))
    sNil)
    (sSeq (sIf (lifT (dOr (tst (oIsC ca.at_ (some false) (kEL [(1, false), (2, false)]) (nam 0))) (dOr (tst (oIsC ca.at_ (some false) (kEL [(1, false), (2, false)]) (nam 0))) (tst (oIsC ca.at_ (some false) (kEL [(1, false), (2, false)]) (nam 0))))))
    (sExp (xMutP 9 (nam 1) (aCons (cst (.str "other")) aNil) mAppend))
    sNil)
    (sSeq (sIf (lifT (dOr (tst (oIsC ca.at_ (some false) (kEL [(1, false), (2, false)]) (nam 0))) (dOr (tst (oIsC ca.at_ (some false) (kEL [(1, false), (2, false)]) (nam 0))) (tst (oIsC ca.at_ (some false) (kEL [(1, false), (2, false)]) (nam 0))))))
    (sExp (xMutP 9 (nam 1) (aCons (cst (.str "other")) aNil) mAppend))
    sNil)
    (sSeq (sIf (lifT (dAnd (tst (bin (sop (gIsN true)) (nam 0) (cst .non))) (dNot (tst (oIsC ca.at_ (some false) (kEL [(1, true), (2, true)]) (nam 0))))))
    (sExp (xMutP 9 (nam 1) (aCons (cst (.str "no value")) aNil) mAppend))
    sNil)
    (sSeq (sIf (lifT (dAnd (tst (bin (sop (gEq false)) (opr (sop gLen) (aCons (nam 1) aNil)) (cst (.int 2)))) (tst (oIsi (kitT "bool") (bin oIdx (nam 1) (cst (.int 1)))))))
    (sExp (xMutP 9 (nam 1) (aCons (cst (.str "truth")) aNil) mAppend))
    sNil)
    (sRet lk__law_kind (lif (nam 1))))))))))
def f__law_kind : Fn := runD 2 1 lk__law_kind F__law_kind
abbrev s_greatest : Stmt := top 12
abbrev N_greatest : List Str := ["n"]
theorem sc_greatest : FnScope N_greatest ["n"] (defScope s_greatest) := ⟨rfl, rfl, rfl, by decide +kernel, rfl, by decide +kernel, by decide +kernel⟩
def lk_greatest : Nat → Bool := fun i => false
def F_greatest : En → Option Fl :=
  (sSeq (sIf (lifT (dOr (tst (bin (sop iLt) (nam 0) (cst (.int 1)))) (tst (bin (sop iGt) (nam 0) (cst (.int 4))))))
    (fun _ => none)
    sNil)
    (sRet lk_greatest (lif (bin (sop iSub) (bin (sop iShl) (cst (.int 1)) (nam 0)) (cst (.int 1))))))
def f_greatest : Fn := runD 1 1 lk_greatest F_greatest
def r_greatest : En → Option (Exn × En) :=
  (rIf (dOr (tst (bin (sop iLt) (nam 0) (cst (.int 1)))) (tst (bin (sop iGt) (nam 0) (cst (.int 4)))))
    (sRE (rMk 1 (ca.at_ 1) "count" (nam 0)))
    (fun _ => none))
def g_greatest : List M → Option Exn := runR 1 1 r_greatest
abbrev s_look_at : Stmt := top 13
abbrev N_look_at : List Str := ["n", "some", "most", "group", "least"]
theorem sc_look_at : FnScope N_look_at ["n", "some"] (defScope s_look_at) := ⟨rfl, rfl, rfl, by decide +kernel, rfl, by decide +kernel, by decide +kernel⟩
def lk_look_at : Nat → Bool := fun i => false
def B_look_at_0 : En → Option Fl :=
  (sIf (lifT (dOr (tst (bin (sop iLt) (nam 3) (nam 4))) (tst (bin (sop iGt) (nam 3) (nam 2)))))
    (fun _ => none)
    sNil)
def F_look_at : En → Option Fl :=
  (sSeq (sAsg lk_look_at 2 0 (lif (opr (callP [false] f_greatest) (aCons (nam 0) aNil))))
    (sFor lk_look_at (.tp [(.nm 3), (.nm 4)]) (itX true (lif (nam 1)))
    B_look_at_0))
def f_look_at : Fn := runD 5 2 lk_look_at F_look_at
def B_look_at_1 : En → Option Fl :=
  (sIf (lifT (dOr (tst (bin (sop iLt) (nam 3) (nam 4))) (tst (bin (sop iGt) (nam 3) (nam 2)))))
    (fun _ => none)
    sNil)
def R_look_at_2 : En → Option (Exn × En) :=
  (rIf (dOr (tst (bin (sop iLt) (nam 3) (nam 4))) (tst (bin (sop iGt) (nam 3) (nam 2))))
    (sRE (rMk 2 (ca.at_ 2) "group" (nam 3)))
    (fun _ => none))
def r_look_at : En → Option (Exn × En) :=
  (rSeq (sRE (rCall [false] g_greatest (aCons (nam 0) aNil))) (sAsg lk_look_at 2 0 (lif (opr (callP [false] f_greatest) (aCons (nam 0) aNil))))
    (rFor lk_look_at (.tp [(.nm 3), (.nm 4)]) (itX true (lif (nam 1)))
    B_look_at_1 R_look_at_2))
def g_look_at : List M → Option Exn := runR 5 2 r_look_at
abbrev s_row_of : Stmt := top 14
abbrev N_row_of : List Str := ["n", "terms", "row", "group", "number"]
theorem sc_row_of : FnScope N_row_of ["n", "terms"] (defScope s_row_of) := ⟨rfl, rfl, rfl, by decide +kernel, rfl, by decide +kernel, by decide +kernel⟩
def lk_row_of : Nat → Bool := fun i => false
def B_row_of_0 : En → Option Fl :=
  (sIf (lifT (tst (bin (sop iGt) (nam 3) (cst (.int 0)))))
    (sAugI (fun i j => i + j) (nam 2) (bin (sop iSub) (nam 3) (cst (.int 1))) (nam 4))
    sNil)
def F_row_of : En → Option Fl :=
  (sSeq (sAsg lk_row_of 2 9 (lif (lcF [3] (.nm 3) (itR1 (aCons (opr (callP [false] f_greatest) (aCons (nam 0) aNil)) aNil)) cYes (cst (.int 0)))))
    (sSeq (sFor lk_row_of (.tp [(.nm 3), (.nm 4)]) (itX true (lif (nam 1)))
    B_row_of_0)
    (sRet lk_row_of (lif (nam 2)))))
def f_row_of : Fn := runD 5 2 lk_row_of F_row_of
abbrev s_shared : Stmt := top 17
abbrev N_shared : List Str := ["n", "a", "b", "c"]
theorem sc_shared : FnScope N_shared ["n", "a", "b", "c"] (defScope s_shared) := ⟨rfl, rfl, rfl, by decide +kernel, rfl, by decide +kernel, by decide +kernel⟩
def lk_shared : Nat → Bool := fun i => false
def F_shared : En → Option Fl :=
  (sSeq (sExp (lif (opr (callP [false, false] f_look_at) (aCons (nam 0) (aCons (opr oLst (aCons (opr oTup (aCons (nam 1) (aCons (cst (.int 1)) aNil))) (aCons (opr oTup (aCons (nam 2) (aCons (cst (.int 1)) aNil))) (aCons (opr oTup (aCons (nam 3) (aCons (cst (.int 0)) aNil))) aNil)))) aNil)))))
    (sRet lk_shared (lif (opr (callP [false, false] f_row_of) (aCons (nam 0) (aCons (opr oLst (aCons (opr oTup (aCons (bin (sop iOr) (nam 1) (nam 3)) (aCons (cst (.int 1)) aNil))) (aCons (opr oTup (aCons (bin (sop iOr) (nam 2) (nam 3)) (aCons (cst (.int 1)) aNil))) (aCons (opr oTup (aCons (bin (sop iOr) (bin (sop iOr) (nam 1) (nam 2)) (nam 3)) (aCons (una (sop (gU fun i => -i)) (cst (.int 1))) aNil))) (aCons (opr oTup (aCons (nam 3) (aCons (una (sop (gU fun i => -i)) (cst (.int 1))) aNil))) aNil))))) aNil))))))
def f_shared : Fn := runD 4 4 lk_shared F_shared
def r_shared : En → Option (Exn × En) :=
  (sRE (rCall [false, false] g_look_at (aCons (nam 0) (aCons (opr oLst (aCons (opr oTup (aCons (nam 1) (aCons (cst (.int 1)) aNil))) (aCons (opr oTup (aCons (nam 2) (aCons (cst (.int 1)) aNil))) (aCons (opr oTup (aCons (nam 3) (aCons (cst (.int 0)) aNil))) aNil)))) aNil))))
def g_shared : List M → Option Exn := runR 4 4 r_shared
abbrev s_silent : Stmt := top 22
abbrev N_silent : List Str := ["n", "a", "b", "c"]
theorem sc_silent : FnScope N_silent ["n", "a", "b", "c"] (defScope s_silent) := ⟨rfl, rfl, rfl, by decide +kernel, rfl, by decide +kernel, by decide +kernel⟩
def lk_silent : Nat → Bool := fun i => false
def F_silent : En → Option Fl :=
  (sRet lk_silent (lif (opr oTup (aCons (opr (callP [false, false, false, false] f_shared) (aCons (nam 0) (aCons (nam 1) (aCons (nam 2) (aCons (nam 3) aNil))))) (aCons (cst (.str "=")) (aCons (cst (.int 0)) aNil))))))
def f_silent : Fn := runD 4 4 lk_silent F_silent
def r_silent : En → Option (Exn × En) :=
  (sRE (rCall [false, false, false, false] g_shared (aCons (nam 0) (aCons (nam 1) (aCons (nam 2) (aCons (nam 3) aNil))))))
def g_silent : List M → Option Exn := runR 4 4 r_silent
abbrev s_unsure : Stmt := top 15
abbrev N_unsure : List Str := ["n", "a"]
theorem sc_unsure : FnScope N_unsure ["n", "a"] (defScope s_unsure) := ⟨rfl, rfl, rfl, by decide +kernel, rfl, by decide +kernel, by decide +kernel⟩
def lk_unsure : Nat → Bool := fun i => false
def F_unsure : En → Option Fl :=
  (sSeq (sExp (lif (opr (callP [false, false] f_look_at) (aCons (nam 0) (aCons (opr oLst (aCons (opr oTup (aCons (nam 1) (aCons (cst (.int 1)) aNil))) aNil)) aNil)))))
    (sRet lk_unsure (lif (opr (callP [false, false] f_row_of) (aCons (nam 0) (aCons (opr oLst (aCons (opr oTup (aCons (nam 1) (aCons (cst (.int 1)) aNil))) aNil)) aNil))))))
def f_unsure : Fn := runD 2 2 lk_unsure F_unsure
def r_unsure : En → Option (Exn × En) :=
  (sRE (rCall [false, false] g_look_at (aCons (nam 0) (aCons (opr oLst (aCons (opr oTup (aCons (nam 1) (aCons (cst (.int 1)) aNil))) aNil)) aNil))))
def g_unsure : List M → Option Exn := runR 2 2 r_unsure
abbrev s_rest : Stmt := top 16
abbrev N_rest : List Str := ["n", "a", "b"]
theorem sc_rest : FnScope N_rest ["n", "a", "b"] (defScope s_rest) := ⟨rfl, rfl, rfl, by decide +kernel, rfl, by decide +kernel, by decide +kernel⟩
def lk_rest : Nat → Bool := fun i => false
def F_rest : En → Option Fl :=
  (sSeq (sExp (lif (opr (callP [false, false] f_look_at) (aCons (nam 0) (aCons (opr oLst (aCons (opr oTup (aCons (nam 1) (aCons (cst (.int 1)) aNil))) (aCons (opr oTup (aCons (nam 2) (aCons (cst (.int 0)) aNil))) aNil))) aNil)))))
    (sRet lk_rest (lif (opr (callP [false, false] f_row_of) (aCons (nam 0) (aCons (opr oLst (aCons (opr oTup (aCons (bin (sop iOr) (nam 1) (nam 2)) (aCons (cst (.int 1)) aNil))) (aCons (opr oTup (aCons (nam 2) (aCons (una (sop (gU fun i => -i)) (cst (.int 1))) aNil))) aNil))) aNil))))))
def f_rest : Fn := runD 3 3 lk_rest F_rest
def r_rest : En → Option (Exn × En) :=
  (sRE (rCall [false, false] g_look_at (aCons (nam 0) (aCons (opr oLst (aCons (opr oTup (aCons (nam 1) (aCons (cst (.int 1)) aNil))) (aCons (opr oTup (aCons (nam 2) (aCons (cst (.int 0)) aNil))) aNil))) aNil))))
def g_rest : List M → Option Exn := runR 3 3 r_rest
abbrev s_rules : Stmt := top 19
abbrev N_rules : List Str := ["n", "whole", "found", "i", "j", "both", "k", "group"]
theorem sc_rules : FnScope N_rules ["n"] (defScope s_rules) := ⟨rfl, rfl, rfl, by decide +kernel, rfl, by decide +kernel, by decide +kernel⟩
def lk_rules : Nat → Bool := fun i => false
def B_rules_0 : En → Option Fl :=
  (sSeq (sAsg lk_rules 5 0 (lif (bin (sop iOr) (bin (sop iShl) (cst (.int 1)) (nam 3)) (bin (sop iShl) (cst (.int 1)) (nam 4)))))
    (sAsg lk_rules 2 9 (lif (bin oAdd (nam 2) (lcF [7] (.nm 7) (itR1 (aCons (bin oAdd (nam 1) (cst (.int 1))) aNil)) (tst (bin (sop (gEq false)) (bin (sop iAnd) (nam 7) (nam 5)) (cst (.int 0)))) (opr oTup (aCons (cst (.str "pair")) (aCons (nam 3) (aCons (nam 4) (aCons (nam 7) aNil))))))))))
def B_rules_1 : En → Option Fl :=
  (sFor lk_rules (.nm 4) (lifI (itR2 (aCons (bin oAdd (nam 3) (cst (.int 1))) (aCons (nam 0) aNil))))
    B_rules_0)
def F_rules : En → Option Fl :=
  (sSeq (sAsg lk_rules 1 0 (lif (opr (callP [false] f_greatest) (aCons (nam 0) aNil))))
    (sSeq (sAsg lk_rules 2 9 (lif (lcF [6] (.nm 6) (itR1 (aCons (nam 0) aNil)) cYes (opr oTup (aCons (cst (.str "last")) (aCons (nam 6) aNil))))))
    (sSeq (sFor lk_rules (.nm 3) (lifI (itR1 (aCons (nam 0) aNil)))
    B_rules_1)
    (sRet lk_rules (lif (nam 2))))))
def f_rules : Fn := runD 8 1 lk_rules F_rules
abbrev s_Tally_init : Stmt := inClass (top 25) 0
abbrev N_Tally_init : List Str := ["self", "n", "rule"]
theorem sc_Tally_init : FnScope N_Tally_init ["self", "n"] (defScope s_Tally_init) := ⟨rfl, rfl, rfl, by decide +kernel, rfl, by decide +kernel, by decide +kernel⟩
def lk_Tally_init : Nat → Bool := fun i => i == 0
def F_Tally_init : En → Option Fl :=
  (sSeq (sFldS 0 0 "n" (nam 0) (lif (nam 1)))
    (sSeq (sFldS 0 0 "whole" (nam 0) (lif (opr (callP [false] f_greatest) (aCons (nam 1) aNil))))
    (sSeq (sFldS 0 0 "rules" (nam 0) (lif (opr (callP [false] f_rules) (aCons (nam 1) aNil))))
    (sFldS 0 9 "times" (nam 0) (lif (lcF [2] (.nm 2) (itP true (una (oFld 0 "rules") (nam 0))) cYes (cst (.int 0))))))))
def f_Tally_init : Fn := runD 3 2 lk_Tally_init F_Tally_init
abbrev s_names_of : Stmt := top 24
abbrev N_names_of : List Str := ["group", "found", "name"]
theorem sc_names_of : FnScope N_names_of ["group"] (defScope s_names_of) := ⟨rfl, rfl, rfl, by decide +kernel, rfl, by decide +kernel, by decide +kernel⟩
def lk_names_of : Nat → Bool := fun i => false
def B_names_of_0 : En → Option Fl :=
  (sSeq (sIf (lifT (tst (bin (sop (gEq false)) (bin (sop iAnd) (bin (sop iShr) (nam 0) (nam 2)) (cst (.int 1))) (cst (.int 1)))))
    (sExp (xMutP 9 (nam 1) (aCons (nam 2) aNil) mAppend))
    sNil)
    (sAugN lk_names_of (fun i j => i + j) 2 (lif (cst (.int 1)))))
def C_names_of_1 : En → Option (Bool × En) :=
  (lifT (tst (bin (sop iGt) (bin (sop iShr) (nam 0) (nam 2)) (cst (.int 0)))))
def F_names_of : En → Option Fl :=
  (sSeq (sAsg lk_names_of 1 9 (lif (opr oLst aNil)))
    (sSeq (sAsg lk_names_of 2 0 (lif (cst (.int 0))))
    (sSeq (sWh 1000000 C_names_of_1
    B_names_of_0)
    (sRet lk_names_of (lif (nam 1))))))
def f_names_of : Fn := runD 3 1 lk_names_of F_names_of
abbrev s_Tally_once : Stmt := inClass (top 25) 1
abbrev N_Tally_once : List Str := ["self", "rule"]
theorem sc_Tally_once : FnScope N_Tally_once ["self", "rule"] (defScope s_Tally_once) := ⟨rfl, rfl, rfl, by decide +kernel, rfl, by decide +kernel, by decide +kernel⟩
def lk_Tally_once : Nat → Bool := fun i => i == 0
def F_Tally_once : En → Option Fl :=
  (sAugI (fun i j => i + j) (una (oFld 0 "times") (nam 0)) (bin (sop gIdxO) (una (oFld 0 "rules") (nam 0)) (nam 1)) (cst (.int 1)))
def f_Tally_once : Fn := runD 2 2 lk_Tally_once F_Tally_once
abbrev s_Tally_pair : Stmt := inClass (top 25) 2
abbrev N_Tally_pair : List Str := ["self", "one", "other", "known"]
theorem sc_Tally_pair : FnScope N_Tally_pair ["self", "one", "other", "known"] (defScope s_Tally_pair) := ⟨rfl, rfl, rfl, by decide +kernel, rfl, by decide +kernel, by decide +kernel⟩
def lk_Tally_pair : Nat → Bool := fun i => i == 0
def F_Tally_pair : En → Option Fl :=
  (sExp (callM 0 "once" [true, false] f_Tally_once 0 (lifA (aCons (opr oTup (aCons (cst (.str "pair")) (aCons (opr (oMin) (aCons (nam 1) (aCons (nam 2) aNil))) (aCons (opr (oMax) (aCons (nam 1) (aCons (nam 2) aNil))) (aCons (nam 3) aNil))))) aNil))))
def f_Tally_pair : Fn := runD 4 4 lk_Tally_pair F_Tally_pair
abbrev s_Tally_rest : Stmt := inClass (top 25) 3
abbrev N_Tally_rest : List Str := ["self", "name", "known", "other"]
theorem sc_Tally_rest : FnScope N_Tally_rest ["self", "name", "known"] (defScope s_Tally_rest) := ⟨rfl, rfl, rfl, by decide +kernel, rfl, by decide +kernel, by decide +kernel⟩
def lk_Tally_rest : Nat → Bool := fun i => i == 0
def B_Tally_rest_0 : En → Option Fl :=
  (sSeq (sExp (callM 0 "pair" [true, false, false, false] f_Tally_pair 0 (lifA (aCons (nam 1) (aCons (nam 3) (aCons (nam 2) aNil))))))
    (sAsg lk_Tally_rest 2 0 (lif (bin (sop iOr) (nam 2) (bin (sop iShl) (cst (.int 1)) (nam 3))))))
def F_Tally_rest : En → Option Fl :=
  (sSeq (sFor lk_Tally_rest (.nm 3) (itX true (lif (opr (callP [false] f_names_of) (aCons (bin (sop iSub) (bin (sop iSub) (una (oFld 0 "whole") (nam 0)) (nam 2)) (bin (sop iShl) (cst (.int 1)) (nam 1))) aNil))))
    B_Tally_rest_0)
    (sExp (callM 0 "once" [true, false] f_Tally_once 0 (lifA (aCons (opr oTup (aCons (cst (.str "last")) (aCons (nam 1) aNil))) aNil)))))
def f_Tally_rest : Fn := runD 4 3 lk_Tally_rest F_Tally_rest
abbrev s_Tally_rests : Stmt := inClass (top 25) 4
abbrev N_Tally_rests : List Str := ["self", "group", "known", "name"]
theorem sc_Tally_rests : FnScope N_Tally_rests ["self", "group", "known"] (defScope s_Tally_rests) := ⟨rfl, rfl, rfl, by decide +kernel, rfl, by decide +kernel, by decide +kernel⟩
def lk_Tally_rests : Nat → Bool := fun i => i == 0
def B_Tally_rests_0 : En → Option Fl :=
  (sIf (lifT (tst (bin (sop (gEq false)) (bin (sop iAnd) (bin (sop iShr) (nam 2) (nam 3)) (cst (.int 1))) (cst (.int 0)))))
    (sSeq (sExp (callM 0 "rest" [true, false, false] f_Tally_rest 0 (lifA (aCons (nam 3) (aCons (nam 2) aNil)))))
    (sAsg lk_Tally_rests 2 0 (lif (bin (sop iOr) (nam 2) (bin (sop iShl) (cst (.int 1)) (nam 3))))))
    sNil)
def F_Tally_rests : En → Option Fl :=
  (sFor lk_Tally_rests (.nm 3) (itX true (lif (opr (callP [false] f_names_of) (aCons (nam 1) aNil))))
    B_Tally_rests_0)
def f_Tally_rests : Fn := runD 4 3 lk_Tally_rests F_Tally_rests
abbrev s_split_rest : Stmt := top 26
abbrev N_split_rest : List Str := ["n", "a", "b", "tally"]
theorem sc_split_rest : FnScope N_split_rest ["n", "a", "b"] (defScope s_split_rest) := ⟨rfl, rfl, rfl, by decide +kernel, rfl, by decide +kernel, by decide +kernel⟩
def lk_split_rest : Nat → Bool := fun i => false
def F_split_rest : En → Option Fl :=
  (sSeq (sExp (lif (opr (callP [false, false] f_look_at) (aCons (nam 0) (aCons (opr oLst (aCons (opr oTup (aCons (nam 1) (aCons (cst (.int 1)) aNil))) (aCons (opr oTup (aCons (nam 2) (aCons (cst (.int 0)) aNil))) aNil))) aNil)))))
    (sSeq (sAsg lk_split_rest 3 9 (lif (opr (oMake 0 [false] f_Tally_init) (aCons (nam 0) aNil))))
    (sSeq (sExp (callM 0 "rests" [true, false, false] f_Tally_rests 3 (lifA (aCons (nam 1) (aCons (nam 2) aNil)))))
    (sRetF 0 3 "times"))))
def f_split_rest : Fn := runD 4 3 lk_split_rest F_split_rest
def r_split_rest : En → Option (Exn × En) :=
  (sRE (rCall [false, false] g_look_at (aCons (nam 0) (aCons (opr oLst (aCons (opr oTup (aCons (nam 1) (aCons (cst (.int 1)) aNil))) (aCons (opr oTup (aCons (nam 2) (aCons (cst (.int 0)) aNil))) aNil))) aNil))))
def g_split_rest : List M → Option Exn := runR 4 3 r_split_rest
abbrev s_Tally_against : Stmt := inClass (top 25) 6
abbrev N_Tally_against : List Str := ["self", "one", "group", "known", "name"]
theorem sc_Tally_against : FnScope N_Tally_against ["self", "one", "group", "known"] (defScope s_Tally_against) := ⟨rfl, rfl, rfl, by decide +kernel, rfl, by decide +kernel, by decide +kernel⟩
def lk_Tally_against : Nat → Bool := fun i => i == 0
def B_Tally_against_0 : En → Option Fl :=
  (sIf (lifT (tst (bin (sop (gEq false)) (bin (sop iAnd) (bin (sop iShr) (nam 3) (nam 4)) (cst (.int 1))) (cst (.int 0)))))
    (sSeq (sExp (callM 0 "pair" [true, false, false, false] f_Tally_pair 0 (lifA (aCons (nam 1) (aCons (nam 4) (aCons (nam 3) aNil))))))
    (sAsg lk_Tally_against 3 0 (lif (bin (sop iOr) (nam 3) (bin (sop iShl) (cst (.int 1)) (nam 4))))))
    sNil)
def F_Tally_against : En → Option Fl :=
  (sFor lk_Tally_against (.nm 4) (itX true (lif (opr (callP [false] f_names_of) (aCons (nam 2) aNil))))
    B_Tally_against_0)
def f_Tally_against : Fn := runD 5 4 lk_Tally_against F_Tally_against
abbrev s_Tally_shared : Stmt := inClass (top 25) 5
abbrev N_Tally_shared : List Str := ["self", "group", "other", "known", "one"]
theorem sc_Tally_shared : FnScope N_Tally_shared ["self", "group", "other", "known"] (defScope s_Tally_shared) := ⟨rfl, rfl, rfl, by decide +kernel, rfl, by decide +kernel, by decide +kernel⟩
def lk_Tally_shared : Nat → Bool := fun i => i == 0
def B_Tally_shared_0 : En → Option Fl :=
  (sIf (lifT (tst (bin (sop (gEq false)) (bin (sop iAnd) (bin (sop iShr) (nam 3) (nam 4)) (cst (.int 1))) (cst (.int 0)))))
    (sSeq (sExp (callM 0 "against" [true, false, false, false] f_Tally_against 0 (lifA (aCons (nam 4) (aCons (nam 2) (aCons (nam 3) aNil))))))
    (sAsg lk_Tally_shared 3 0 (lif (bin (sop iOr) (nam 3) (bin (sop iShl) (cst (.int 1)) (nam 4))))))
    sNil)
def F_Tally_shared : En → Option Fl :=
  (sSeq (sExp (callM 0 "rests" [true, false, false] f_Tally_rests 0 (lifA (aCons (bin (sop iAnd) (nam 1) (nam 2)) (aCons (nam 3) aNil)))))
    (sSeq (sAsg lk_Tally_shared 3 0 (lif (bin (sop iOr) (nam 3) (bin (sop iAnd) (nam 1) (nam 2)))))
    (sFor lk_Tally_shared (.nm 4) (itX true (lif (opr (callP [false] f_names_of) (aCons (nam 1) aNil))))
    B_Tally_shared_0)))
def f_Tally_shared : Fn := runD 5 4 lk_Tally_shared F_Tally_shared
abbrev s_split_shared : Stmt := top 27
abbrev N_split_shared : List Str := ["n", "a", "b", "c", "tally"]
theorem sc_split_shared : FnScope N_split_shared ["n", "a", "b", "c"] (defScope s_split_shared) := ⟨rfl, rfl, rfl, by decide +kernel, rfl, by decide +kernel, by decide +kernel⟩
def lk_split_shared : Nat → Bool := fun i => false
def F_split_shared : En → Option Fl :=
  (sSeq (sExp (lif (opr (callP [false, false] f_look_at) (aCons (nam 0) (aCons (opr oLst (aCons (opr oTup (aCons (nam 1) (aCons (cst (.int 1)) aNil))) (aCons (opr oTup (aCons (nam 2) (aCons (cst (.int 1)) aNil))) (aCons (opr oTup (aCons (nam 3) (aCons (cst (.int 0)) aNil))) aNil)))) aNil)))))
    (sSeq (sAsg lk_split_shared 4 9 (lif (opr (oMake 0 [false] f_Tally_init) (aCons (nam 0) aNil))))
    (sSeq (sExp (callM 0 "shared" [true, false, false, false] f_Tally_shared 4 (lifA (aCons (nam 1) (aCons (nam 2) (aCons (nam 3) aNil))))))
    (sRetF 0 4 "times"))))
def f_split_shared : Fn := runD 5 4 lk_split_shared F_split_shared
def r_split_shared : En → Option (Exn × En) :=
  (sRE (rCall [false, false] g_look_at (aCons (nam 0) (aCons (opr oLst (aCons (opr oTup (aCons (nam 1) (aCons (cst (.int 1)) aNil))) (aCons (opr oTup (aCons (nam 2) (aCons (cst (.int 1)) aNil))) (aCons (opr oTup (aCons (nam 3) (aCons (cst (.int 0)) aNil))) aNil)))) aNil))))
def g_split_shared : List M → Option Exn := runR 5 4 r_split_shared
abbrev s_tells : Stmt := top 21
abbrev N_tells : List Str := ["n", "a", "b"]
theorem sc_tells : FnScope N_tells ["n", "a", "b"] (defScope s_tells) := ⟨rfl, rfl, rfl, by decide +kernel, rfl, by decide +kernel, by decide +kernel⟩
def lk_tells : Nat → Bool := fun i => false
def F_tells : En → Option Fl :=
  (sSeq (sExp (lif (opr (callP [false, false] f_look_at) (aCons (nam 0) (aCons (opr oLst (aCons (opr oTup (aCons (nam 1) (aCons (cst (.int 0)) aNil))) (aCons (opr oTup (aCons (nam 2) (aCons (cst (.int 1)) aNil))) aNil))) aNil)))))
    (sRet lk_tells (lif (opr oTup (aCons (opr (callP [false, false, false] f_rest) (aCons (nam 0) (aCons (nam 2) (aCons (nam 1) aNil)))) (aCons (cst (.str "=")) (aCons (cst (.int 0)) aNil)))))))
def f_tells : Fn := runD 3 3 lk_tells F_tells
def r_tells : En → Option (Exn × En) :=
  (rSeq (sRE (rCall [false, false] g_look_at (aCons (nam 0) (aCons (opr oLst (aCons (opr oTup (aCons (nam 1) (aCons (cst (.int 0)) aNil))) (aCons (opr oTup (aCons (nam 2) (aCons (cst (.int 1)) aNil))) aNil))) aNil)))) (sExp (lif (opr (callP [false, false] f_look_at) (aCons (nam 0) (aCons (opr oLst (aCons (opr oTup (aCons (nam 1) (aCons (cst (.int 0)) aNil))) (aCons (opr oTup (aCons (nam 2) (aCons (cst (.int 1)) aNil))) aNil))) aNil)))))
    (sRE (rCall [false, false, false] g_rest (aCons (nam 0) (aCons (nam 2) (aCons (nam 1) aNil))))))
def g_tells : List M → Option Exn := runR 3 3 r_tells
abbrev s__law_asked : Stmt := top 31
abbrev N__law_asked : List Str := ["_law_turn", "_law_n", "_law_some"]
theorem sc__law_asked : FnScope N__law_asked ["_law_turn", "_law_n", "_law_some"] (defScope s__law_asked) := ⟨rfl, rfl, rfl, by decide +kernel, rfl, by decide +kernel, by decide +kernel⟩
def lk__law_asked : Nat → Bool := fun i => false
def F__law_asked : En → Option Fl :=
  (sSeq (sIf (lifT (tst (bin (sop (gEq false)) (nam 0) (cst (.int 0)))))
    (sRet lk__law_asked (lif (opr (callP [false] f_greatest) (aCons (nam 1) aNil))))
    sNil)
    (sSeq (sIf (lifT (tst (bin (sop (gEq false)) (nam 0) (cst (.int 1)))))
    (sRet lk__law_asked (lif (opr (callP [false, false] f_unsure) (aCons (nam 1) (aCons (bin oIdx (nam 2) (cst (.int 0))) aNil)))))
    sNil)
    (sSeq (sIf (lifT (tst (bin (sop (gEq false)) (nam 0) (cst (.int 2)))))
    (sRet lk__law_asked (lif (opr (callP [false, false, false] f_rest) (aCons (nam 1) (aCons (bin oIdx (nam 2) (cst (.int 0))) (aCons (bin oIdx (nam 2) (cst (.int 1))) aNil))))))
    sNil)
    (sSeq (sIf (lifT (tst (bin (sop (gEq false)) (nam 0) (cst (.int 3)))))
    (sRet lk__law_asked (lif (opr (callP [false, false, false, false] f_shared) (aCons (nam 1) (aCons (bin oIdx (nam 2) (cst (.int 0))) (aCons (bin oIdx (nam 2) (cst (.int 1))) (aCons (bin oIdx (nam 2) (cst (.int 2))) aNil)))))))
    sNil)
    (sSeq (sIf (lifT (tst (bin (sop (gEq false)) (nam 0) (cst (.int 4)))))
    (sRet lk__law_asked (lif (opr (callP [false, false, false] f_split_rest) (aCons (nam 1) (aCons (bin oIdx (nam 2) (cst (.int 0))) (aCons (bin oIdx (nam 2) (cst (.int 1))) aNil))))))
    sNil)
    (sSeq (sIf (lifT (tst (bin (sop (gEq false)) (nam 0) (cst (.int 5)))))
    (sRet lk__law_asked (lif (opr (callP [false, false, false, false] f_split_shared) (aCons (nam 1) (aCons (bin oIdx (nam 2) (cst (.int 0))) (aCons (bin oIdx (nam 2) (cst (.int 1))) (aCons (bin oIdx (nam 2) (cst (.int 2))) aNil)))))))
    sNil)
    (sSeq (sIf (lifT (tst (bin (sop (gEq false)) (nam 0) (cst (.int 6)))))
    (sRet lk__law_asked (lif (opr (callP [false, false, false] f_tells) (aCons (nam 1) (aCons (bin oIdx (nam 2) (cst (.int 0))) (aCons (bin oIdx (nam 2) (cst (.int 1))) aNil))))))
    sNil)
    (sRet lk__law_asked (lif (opr (callP [false, false, false, false] f_silent) (aCons (nam 1) (aCons (bin oIdx (nam 2) (cst (.int 0))) (aCons (bin oIdx (nam 2) (cst (.int 1))) (aCons (bin oIdx (nam 2) (cst (.int 2))) aNil))))))))))))))
def f__law_asked : Fn := runD 3 3 lk__law_asked F__law_asked
def r__law_asked : En → Option (Exn × En) :=
  (rSeq (rIf (tst (bin (sop (gEq false)) (nam 0) (cst (.int 0))))
    (sRE (rCall [false] g_greatest (aCons (nam 1) aNil)))
    (fun _ => none)) (sIf (lifT (tst (bin (sop (gEq false)) (nam 0) (cst (.int 0)))))
    (sRet lk__law_asked (lif (opr (callP [false] f_greatest) (aCons (nam 1) aNil))))
    sNil)
    (rSeq (rIf (tst (bin (sop (gEq false)) (nam 0) (cst (.int 1))))
    (sRE (rCall [false, false] g_unsure (aCons (nam 1) (aCons (bin oIdx (nam 2) (cst (.int 0))) aNil))))
    (fun _ => none)) (sIf (lifT (tst (bin (sop (gEq false)) (nam 0) (cst (.int 1)))))
    (sRet lk__law_asked (lif (opr (callP [false, false] f_unsure) (aCons (nam 1) (aCons (bin oIdx (nam 2) (cst (.int 0))) aNil)))))
    sNil)
    (rSeq (rIf (tst (bin (sop (gEq false)) (nam 0) (cst (.int 2))))
    (sRE (rCall [false, false, false] g_rest (aCons (nam 1) (aCons (bin oIdx (nam 2) (cst (.int 0))) (aCons (bin oIdx (nam 2) (cst (.int 1))) aNil)))))
    (fun _ => none)) (sIf (lifT (tst (bin (sop (gEq false)) (nam 0) (cst (.int 2)))))
    (sRet lk__law_asked (lif (opr (callP [false, false, false] f_rest) (aCons (nam 1) (aCons (bin oIdx (nam 2) (cst (.int 0))) (aCons (bin oIdx (nam 2) (cst (.int 1))) aNil))))))
    sNil)
    (rSeq (rIf (tst (bin (sop (gEq false)) (nam 0) (cst (.int 3))))
    (sRE (rCall [false, false, false, false] g_shared (aCons (nam 1) (aCons (bin oIdx (nam 2) (cst (.int 0))) (aCons (bin oIdx (nam 2) (cst (.int 1))) (aCons (bin oIdx (nam 2) (cst (.int 2))) aNil))))))
    (fun _ => none)) (sIf (lifT (tst (bin (sop (gEq false)) (nam 0) (cst (.int 3)))))
    (sRet lk__law_asked (lif (opr (callP [false, false, false, false] f_shared) (aCons (nam 1) (aCons (bin oIdx (nam 2) (cst (.int 0))) (aCons (bin oIdx (nam 2) (cst (.int 1))) (aCons (bin oIdx (nam 2) (cst (.int 2))) aNil)))))))
    sNil)
    (rSeq (rIf (tst (bin (sop (gEq false)) (nam 0) (cst (.int 4))))
    (sRE (rCall [false, false, false] g_split_rest (aCons (nam 1) (aCons (bin oIdx (nam 2) (cst (.int 0))) (aCons (bin oIdx (nam 2) (cst (.int 1))) aNil)))))
    (fun _ => none)) (sIf (lifT (tst (bin (sop (gEq false)) (nam 0) (cst (.int 4)))))
    (sRet lk__law_asked (lif (opr (callP [false, false, false] f_split_rest) (aCons (nam 1) (aCons (bin oIdx (nam 2) (cst (.int 0))) (aCons (bin oIdx (nam 2) (cst (.int 1))) aNil))))))
    sNil)
    (rSeq (rIf (tst (bin (sop (gEq false)) (nam 0) (cst (.int 5))))
    (sRE (rCall [false, false, false, false] g_split_shared (aCons (nam 1) (aCons (bin oIdx (nam 2) (cst (.int 0))) (aCons (bin oIdx (nam 2) (cst (.int 1))) (aCons (bin oIdx (nam 2) (cst (.int 2))) aNil))))))
    (fun _ => none)) (sIf (lifT (tst (bin (sop (gEq false)) (nam 0) (cst (.int 5)))))
    (sRet lk__law_asked (lif (opr (callP [false, false, false, false] f_split_shared) (aCons (nam 1) (aCons (bin oIdx (nam 2) (cst (.int 0))) (aCons (bin oIdx (nam 2) (cst (.int 1))) (aCons (bin oIdx (nam 2) (cst (.int 2))) aNil)))))))
    sNil)
    (rSeq (rIf (tst (bin (sop (gEq false)) (nam 0) (cst (.int 6))))
    (sRE (rCall [false, false, false] g_tells (aCons (nam 1) (aCons (bin oIdx (nam 2) (cst (.int 0))) (aCons (bin oIdx (nam 2) (cst (.int 1))) aNil)))))
    (fun _ => none)) (sIf (lifT (tst (bin (sop (gEq false)) (nam 0) (cst (.int 6)))))
    (sRet lk__law_asked (lif (opr (callP [false, false, false] f_tells) (aCons (nam 1) (aCons (bin oIdx (nam 2) (cst (.int 0))) (aCons (bin oIdx (nam 2) (cst (.int 1))) aNil))))))
    sNil)
    (sRE (rCall [false, false, false, false] g_silent (aCons (nam 1) (aCons (bin oIdx (nam 2) (cst (.int 0))) (aCons (bin oIdx (nam 2) (cst (.int 1))) (aCons (bin oIdx (nam 2) (cst (.int 2))) aNil)))))))))))))
def g__law_asked : List M → Option Exn := runR 3 3 r__law_asked
abbrev s__law_refused : Stmt := top 33
abbrev N__law_refused : List Str := ["_law_turn", "_law_n", "_law_some", "_law_caught", "_law_found", "e"]
theorem sc__law_refused : FnScope N__law_refused ["_law_turn", "_law_n", "_law_some"] (defScope s__law_refused) := ⟨rfl, rfl, rfl, by decide +kernel, rfl, by decide +kernel, by decide +kernel⟩
def lk__law_refused : Nat → Bool := fun i => false
def R__law_refused_0 : En → Option (Exn × En) :=
  (sRE (rCall [false, false, false] g__law_asked (aCons (nam 0) (aCons (nam 1) (aCons (nam 2) aNil)))))
def B__law_refused_1 : En → Option Fl :=
  (sAsg lk__law_refused 4 0 (lif (opr (callP [false, false, false] f__law_asked) (aCons (nam 0) (aCons (nam 1) (aCons (nam 2) aNil))))))
def F__law_refused : En → Option Fl :=
  (sSeq (sAsg lk__law_refused 3 0 (lif (cst .non)))
    (sSeq (sAsg lk__law_refused 4 0 (lif (cst .non)))
    (sSeq (sTry (okX [1, 2]) lk__law_refused 5 3 R__law_refused_0 B__law_refused_1)
    (sSeq (sIf (lifT (dAnd (tst (bin (sop (gIsN false)) (nam 3) (cst .non))) (dOr (tst (bin (sop iLt) (nam 1) (cst (.int 1)))) (dAnd (tst (bin (sop (gEq false)) (nam 0) (cst (.int 0)))) (tst (bin (sop (gEq true)) (nam 4) (bin (sop iSub) (bin (sop iShl) (cst (.int 1)) (nam 1)) (cst (.int 1)))))))))
    (sRet lk__law_refused (lif (opr oLst (aCons (cst (.str "told")) aNil))))
    sNil)
    (sRet lk__law_refused (lif (opr (callP [false] f__law_kind) (aCons (nam 3) aNil))))))))
def f__law_refused : Fn := runD 6 3 lk__law_refused F__law_refused
abbrev s__law_due : Stmt := top 34
abbrev N__law_due : List Str := ["_law_n", "_law_some", "_law_leasts", "_law_number", "_law_least"]
theorem sc__law_due : FnScope N__law_due ["_law_n", "_law_some", "_law_leasts"] (defScope s__law_due) := ⟨rfl, rfl, rfl, by decide +kernel, rfl, by decide +kernel, by decide +kernel⟩
def lk__law_due : Nat → Bool := fun i => false
def B__law_due_0 : En → Option Fl :=
  (sIf (lifT (dOr (tst (bin (sop iLt) (nam 3) (nam 4))) (tst (bin (sop iGe) (nam 3) (bin (sop iShl) (cst (.int 1)) (nam 0))))))
    (sRet lk__law_due (lif (opr oLst (aCons (cst (.str "group")) (aCons (nam 3) aNil)))))
    sNil)
def F__law_due : En → Option Fl :=
  (sSeq (sIf (lifT (dOr (tst (bin (sop iLt) (nam 0) (cst (.int 1)))) (tst (bin (sop iGt) (nam 0) (cst (.int 4))))))
    (sRet lk__law_due (lif (opr oLst (aCons (cst (.str "count")) (aCons (nam 0) aNil)))))
    sNil)
    (sSeq (sFor lk__law_due (.tp [(.nm 3), (.nm 4)]) (itZipX (lifA (aCons (nam 1) (aCons (nam 2) aNil))))
    B__law_due_0)
    (sRet lk__law_due (lif (opr oLst aNil)))))
def f__law_due : Fn := runD 5 3 lk__law_due F__law_due
abbrev s__law_odd : Stmt := top 35
abbrev N__law_odd : List Str := ["_law_number", "_law_whole", "_law_far"]
theorem sc__law_odd : FnScope N__law_odd ["_law_number", "_law_whole"] (defScope s__law_odd) := ⟨rfl, rfl, rfl, by decide +kernel, rfl, by decide +kernel, by decide +kernel⟩
def lk__law_odd : Nat → Bool := fun i => false
def F__law_odd : En → Option Fl :=
  (sSeq (sAsg lk__law_odd 2 0 (lif (bin (sop iMod) (bin (sop iDiv) (nam 0) (cst (.int 16))) (bin (sop iPow) (cst (.int 10)) (cst (.int 11))))))
    (sRet lk__law_odd (lif (bin oIdx (opr oLst (aCons (cst (.int 0)) (aCons (una (sop (gU fun i => -i)) (cst (.int 1))) (aCons (bin oAdd (nam 1) (cst (.int 1))) (aCons (bin oAdd (nam 1) (cst (.int 2))) (aCons (bin (sop iSub) (cst (.int 0)) (nam 2)) (aCons (bin oAdd (nam 1) (nam 2)) (aCons (cst (.int 16)) (aCons (una (sop (gU fun i => -i)) (cst (.int 2))) aNil))))))))) (bin (sop iMod) (nam 0) (cst (.int 8)))))))
def f__law_odd : Fn := runD 3 2 lk__law_odd F__law_odd
abbrev s_law : Stmt := top 36
abbrev N_law : List Str := ["_law_script", "_law_draws_here", "_law_k", "_law_number", "_law_turn", "_law_n", "_law_whole", "_law_leasts", "_law_some", "_law_least", "_law_one"]
theorem sc_law : FnScope N_law ["_law_script"] (defScope s_law) := ⟨rfl, rfl, rfl, by decide +kernel, rfl, by decide +kernel, by decide +kernel⟩
def lk_law : Nat → Bool := fun i => false
def B_law_0 : En → Option Fl :=
  (sSeq (sAsg lk_law 10 0 (callI [true] f__law_pop (lifA (aCons (nam 1) aNil))))
    (sIf (lifT (tst (bin (sop (gEq false)) (bin (sop iMod) (nam 10) (cst (.int 2))) (cst (.int 0)))))
    (sSet 0 (nam 8) (bin (sop iMod) (bin (sop iDiv) (nam 10) (cst (.int 2))) (opr (sop gLen) (aCons (nam 8) aNil))) (lif (opr (callP [false, false] f__law_odd) (aCons (bin (sop iDiv) (nam 10) (cst (.int 8))) (aCons (nam 6) aNil)))))
    sNil))
def B_law_1 : En → Option Fl :=
  (sSeq (sAsg lk_law 3 0 (callI [true] f__law_pop (lifA (aCons (nam 1) aNil))))
    (sSeq (sAsg lk_law 4 0 (lif (bin (sop iMod) (nam 3) (cst (.int 8)))))
    (sSeq (sAsg lk_law 5 0 (lif (bin oAdd (cst (.int 1)) (bin (sop iMod) (bin (sop iDiv) (nam 3) (cst (.int 8))) (cst (.int 4))))))
    (sSeq (sAsg lk_law 6 0 (lif (bin (sop iSub) (bin (sop iShl) (cst (.int 1)) (nam 5)) (cst (.int 1)))))
    (sSeq (sAsg lk_law 7 0 (lif (bin oIdx (opr oLst (aCons (opr oLst aNil) (aCons (opr oLst (aCons (cst (.int 1)) aNil)) (aCons (opr oLst (aCons (cst (.int 1)) (aCons (cst (.int 0)) aNil))) (aCons (opr oLst (aCons (cst (.int 1)) (aCons (cst (.int 1)) (aCons (cst (.int 0)) aNil)))) (aCons (opr oLst (aCons (cst (.int 1)) (aCons (cst (.int 0)) aNil))) (aCons (opr oLst (aCons (cst (.int 1)) (aCons (cst (.int 1)) (aCons (cst (.int 0)) aNil)))) (aCons (opr oLst (aCons (cst (.int 0)) (aCons (cst (.int 1)) aNil))) (aCons (opr oLst (aCons (cst (.int 1)) (aCons (cst (.int 1)) (aCons (cst (.int 0)) aNil)))) aNil))))))))) (nam 4))))
    (sSeq (sAsg lk_law 8 1 (lcX [9] (.nm 9) (itX true (lif (nam 7))) cYes (xbin oAdd (lif (nam 9)) (xbin (sop iMod) (callI [true] f__law_pop (lifA (aCons (nam 1) aNil))) (lif (bin (sop iSub) (bin oAdd (nam 6) (cst (.int 1))) (nam 9)))))))
    (sSeq (sFor lk_law (.nm 9) (lifI (itR1 (aCons (bin oMul (bin (sop iMod) (bin (sop iDiv) (nam 3) (cst (.int 32))) (cst (.int 4))) (opr (sop gInt) (aCons (bin (sop (gEq true)) (nam 8) (opr oLst aNil)) aNil))) aNil)))
    B_law_0)
    (sSeq (sIf (lifT (tst (bin (sop (gEq false)) (bin (sop iMod) (bin (sop iDiv) (nam 3) (cst (.int 128))) (cst (.int 5))) (cst (.int 0)))))
    (sAsg lk_law 5 0 (lif (bin oIdx (opr oLst (aCons (cst (.int 0)) (aCons (cst (.int 5)) (aCons (una (sop (gU fun i => -i)) (cst (.int 1))) (aCons (cst (.int 6)) (aCons (bin oAdd (bin (sop iPow) (cst (.int 10)) (cst (.int 11))) (nam 3)) (aCons (una (sop (gU fun i => -i)) (cst (.int 7))) aNil))))))) (bin (sop iMod) (bin (sop iDiv) (nam 3) (cst (.int 640))) (cst (.int 6))))))
    sNil)
    (sFz 8 (sIf (lifT (tst (bin (sop (gEq true)) (opr (callP [false, false, false] f__law_refused) (aCons (nam 4) (aCons (nam 5) (aCons (nam 8) aNil)))) (opr (callP [false, false, false] f__law_due) (aCons (nam 5) (aCons (nam 8) (aCons (nam 7) aNil)))))))
    (sRet lk_law (lif (cst (.bl false))))
    sNil))))))))))
def F_law : En → Option Fl :=
  (sSeq (sAsg lk_law 1 9 (lif (opr (callP [false, false, false] f__law_draws) (aCons (nam 0) (aCons (cst (.int 2)) (aCons (cst (.int 80)) aNil))))))
    (sSeq (sFor lk_law (.nm 2) (lifI (itR1 (aCons (cst (.int 10)) aNil)))
    B_law_1)
    (sRet lk_law (lif (cst (.bl true))))))
def f_law : Fn := runD 11 1 lk_law F_law
end G06
end
section
namespace G06
open PySem PySem.Spec PyProof.Rows L2 T2
set_option Elab.async false
set_option linter.all false
set_option maxRecDepth 100000
set_option maxHeartbeats 4000000
variable [ca : ClsA]
structure Txt (K : PySem.W.Frag) (mg : Str → Option Value) : Prop where
  cl_Tally : Cls K (ca.at_ 0)
  g_Tally : mg "Tally" = some (.ref (ca.at_ 0))
  na_Tally_n : NoAttr K (ca.at_ 0) "n"
  na_Tally_whole : NoAttr K (ca.at_ 0) "whole"
  na_Tally_rules : NoAttr K (ca.at_ 0) "rules"
  na_Tally_times : NoAttr K (ca.at_ 0) "times"
  b_range : mg "range" = none
  b_len : mg "len" = none
  b_isinstance : mg "isinstance" = none
  b_ValueError : mg "ValueError" = none
  b_bool : mg "bool" = none
  b_max : mg "max" = none
  b_min : mg "min" = none
  b_zip : mg "zip" = none
  b_int : mg "int" = none
  c_MOST : ∃ t, mg "MOST" = some (.int 4 t)
  g_NoCount : mg "NoCount" = some (.ref (ca.at_ 1))
  kn_NoCount : PySem.W.kitOne K (.type "NoneType") (.ref (ca.at_ 1)) = some false
  ex_NoGroup : ExcC K (ca.at_ 2)
  ki_NoGroup_NoCount : PySem.W.kitOne K (.ref (ca.at_ 2)) (.ref (ca.at_ 1)) = some false
  ex_NoCount : ExcC K (ca.at_ 1)
  ki_NoCount_NoCount : PySem.W.kitOne K (.ref (ca.at_ 1)) (.ref (ca.at_ 1)) = some true
  xf_NoCount : XfC K (ca.at_ 1)
  no_NoCount : PySem.W.findIn K (.ref (ca.at_ 1)) "count" = some none
  g_NoGroup : mg "NoGroup" = some (.ref (ca.at_ 2))
  kn_NoGroup : PySem.W.kitOne K (.type "NoneType") (.ref (ca.at_ 2)) = some false
  ki_NoGroup_NoGroup : PySem.W.kitOne K (.ref (ca.at_ 2)) (.ref (ca.at_ 2)) = some true
  ki_NoCount_NoGroup : PySem.W.kitOne K (.ref (ca.at_ 1)) (.ref (ca.at_ 2)) = some false
  xf_NoGroup : XfC K (ca.at_ 2)
  no_NoGroup : PySem.W.findIn K (.ref (ca.at_ 2)) "group" = some none
  g_NoTable : mg "NoTable" = some (.ref (ca.at_ 3))
  kn_NoTable : PySem.W.kitOne K (.type "NoneType") (.ref (ca.at_ 3)) = some false
  ki_NoGroup_NoTable : PySem.W.kitOne K (.ref (ca.at_ 2)) (.ref (ca.at_ 3)) = some false
  ki_NoCount_NoTable : PySem.W.kitOne K (.ref (ca.at_ 1)) (.ref (ca.at_ 3)) = some false
  g_TooMany : mg "TooMany" = some (.ref (ca.at_ 4))
  kn_TooMany : PySem.W.kitOne K (.type "NoneType") (.ref (ca.at_ 4)) = some false
  ki_NoGroup_TooMany : PySem.W.kitOne K (.ref (ca.at_ 2)) (.ref (ca.at_ 4)) = some false
  ki_NoCount_TooMany : PySem.W.kitOne K (.ref (ca.at_ 1)) (.ref (ca.at_ 4)) = some false
  g_NoText : mg "NoText" = some (.ref (ca.at_ 5))
  kn_NoText : PySem.W.kitOne K (.type "NoneType") (.ref (ca.at_ 5)) = some false
  ki_NoGroup_NoText : PySem.W.kitOne K (.ref (ca.at_ 2)) (.ref (ca.at_ 5)) = some false
  ki_NoCount_NoText : PySem.W.kitOne K (.ref (ca.at_ 1)) (.ref (ca.at_ 5)) = some false
  g_NoLine : mg "NoLine" = some (.ref (ca.at_ 6))
  kn_NoLine : PySem.W.kitOne K (.type "NoneType") (.ref (ca.at_ 6)) = some false
  ki_NoGroup_NoLine : PySem.W.kitOne K (.ref (ca.at_ 2)) (.ref (ca.at_ 6)) = some false
  ki_NoCount_NoLine : PySem.W.kitOne K (.ref (ca.at_ 1)) (.ref (ca.at_ 6)) = some false
  g_NoPlace : mg "NoPlace" = some (.ref (ca.at_ 7))
  kn_NoPlace : PySem.W.kitOne K (.type "NoneType") (.ref (ca.at_ 7)) = some false
  ki_NoGroup_NoPlace : PySem.W.kitOne K (.ref (ca.at_ 2)) (.ref (ca.at_ 7)) = some false
  ki_NoCount_NoPlace : PySem.W.kitOne K (.ref (ca.at_ 1)) (.ref (ca.at_ 7)) = some false
  g_NoHeap : mg "NoHeap" = some (.ref (ca.at_ 8))
  kn_NoHeap : PySem.W.kitOne K (.type "NoneType") (.ref (ca.at_ 8)) = some false
  ki_NoGroup_NoHeap : PySem.W.kitOne K (.ref (ca.at_ 2)) (.ref (ca.at_ 8)) = some false
  ki_NoCount_NoHeap : PySem.W.kitOne K (.ref (ca.at_ 1)) (.ref (ca.at_ 8)) = some false
  kn_ValueError : PySem.W.kitOne K (.type "NoneType") (.type "ValueError") = some false
  ki_NoGroup_ValueError : PySem.W.kitOne K (.ref (ca.at_ 2)) (.type "ValueError") = some true
  ki_NoCount_ValueError : PySem.W.kitOne K (.ref (ca.at_ 1)) (.type "ValueError") = some true
  o_NoCount : OexC K (ca.at_ 1)
  g_TellError : mg "TellError" = some (.ref (ca.at_ 9))
  cr_TellError : ClX.CRead K (ca.at_ 9) (.type "type")
  cf_TellError : PySem.W.findCls K (.ref (ca.at_ 9)) (.type "type") "__init__" = some (.val (.builtin "ValueError.__init__"))
  o_NoGroup : OexC K (ca.at_ 2)
  em_NoGroup_TellError : PySem.W.exmOne K (.ref (ca.at_ 2)) (.ref (ca.at_ 9)) = some true
  em_NoCount_TellError : PySem.W.exmOne K (.ref (ca.at_ 1)) (.ref (ca.at_ 9)) = some true
section
variable {P : Program} {w : World} {K : PySem.W.Frag} {mg : Str → Option Value} {base : Heap}
theorem ini_NoCount {f : Addr} {fd : FuncData} (T : Txt K mg) (F : Fun K "__init__" "NoCount.__init__" s_NoCount_init f fd) : FnOk P w K mg base CX0 1 f fd ["self", "count"] (spInit K "count") :=
  F.ok (k := 0) sc_NoCount_init (fun zs H Q E h => init_sp zs H Q E h) fun cdv A outer s H zs Q E hr h => ⟨_, pss_cons (ps_expr (pe_binit rfl T.g_TellError T.cr_TellError T.cf_TellError (pa_cons (pe_var (i := 0) rfl (by first | exact Or.inl rfl | exact Or.inr (Or.inl rfl) | exact Or.inr (Or.inr rfl)) (by decide) (by decide)) (pa_cons pe_str pa_nil)))) (pss_one (ps_ost (pe_var (i := 0) rfl (by first | exact Or.inl rfl | exact Or.inr (Or.inl rfl) | exact Or.inr (Or.inr rfl)) (by decide) (by decide)) (pe_var (i := 1) rfl (by first | exact Or.inl rfl | exact Or.inr (Or.inl rfl) | exact Or.inr (Or.inr rfl)) (by decide) (by decide)))), by
    obtain ⟨a, C, v, rfl, T1, hno, ha, q⟩ := h
    exact ⟨.ref a, rfl, a, C, _, rfl, by simp, T1, ha, v, rfl, .ref a, rfl, a, C, rfl, T1, hno, .inl ⟨ha, fun dx h1 h2 => q dx h1 h2⟩⟩⟩
theorem ini_NoGroup {f : Addr} {fd : FuncData} (T : Txt K mg) (F : Fun K "__init__" "NoGroup.__init__" s_NoGroup_init f fd) : FnOk P w K mg base CX0 1 f fd ["self", "group"] (spInit K "group") :=
  F.ok (k := 0) sc_NoGroup_init (fun zs H Q E h => init_sp zs H Q E h) fun cdv A outer s H zs Q E hr h => ⟨_, pss_cons (ps_expr (pe_binit rfl T.g_TellError T.cr_TellError T.cf_TellError (pa_cons (pe_var (i := 0) rfl (by first | exact Or.inl rfl | exact Or.inr (Or.inl rfl) | exact Or.inr (Or.inr rfl)) (by decide) (by decide)) (pa_cons pe_str pa_nil)))) (pss_one (ps_ost (pe_var (i := 0) rfl (by first | exact Or.inl rfl | exact Or.inr (Or.inl rfl) | exact Or.inr (Or.inr rfl)) (by decide) (by decide)) (pe_var (i := 1) rfl (by first | exact Or.inl rfl | exact Or.inr (Or.inl rfl) | exact Or.inr (Or.inr rfl)) (by decide) (by decide)))), by
    obtain ⟨a, C, v, rfl, T1, hno, ha, q⟩ := h
    exact ⟨.ref a, rfl, a, C, _, rfl, by simp, T1, ha, v, rfl, .ref a, rfl, a, C, rfl, T1, hno, .inl ⟨ha, fun dx h1 h2 => q dx h1 h2⟩⟩⟩
theorem ok__law_draws {f : Addr} {fd : FuncData} (T : Txt K mg) (F : Fun K "_law_draws" "_law_draws" s__law_draws f fd) : FnG P w K mg base CX0 1 f fd ["_law_script", "_law_turn", "_law_many"] (SpI K f__law_draws) := by
  refine def_ok (k := 0) (N := N__law_draws) (lk := lk__law_draws) (fS := F__law_draws) F sc__law_draws fun cdv A outer s H E hr => ?_
  exact (pds_cons (pds_set (i := 3) sc__law_draws.nd (px_of (pd_bin op_addA s_addA (pd_slice (pd_name 0) pdo_none (pdo_some pd_int)) (pd_lst (pda_cons (pd_name 1) pda_nil)))))
      (pds_cons (pds_set (i := 4) sc__law_draws.nd (px_of (pd_lst pda_nil)))
      (pds_cons (pds_if (pxt_of (pdt_cmp (op_eqD hr.units) s_eq (pd_bin op_mod s_mod (pd_bin op_fdivW s_div (pd_ixr ix_seq s_idx (pd_name 3) pd_int (fun _ _ => rfl)) pd_int) pd_int) pd_int (nomark _)))
      (pds_cons (pds_setLc (i := 5) (own := [("_law_cell", 10)]) rfl sc__law_draws.nd rfl rfl (sw_true rfl rfl rfl (by decide +kernel)) (pdp_lst (pd_name 3)) (blkOk_by (own := [("_law_cell", 10)]) (N := N__law_draws) (sc := defScope s__law_draws) (by decide +kernel)) (fun _ _ _ _ _ => (pt_nm sc__law_draws.nd)) (fun _ _ _ _ _ => pdt_yes) (fun _ _ _ _ _ => (pd_bin op_fdivW s_div (pd_name 10) pd_int)))
      (pds_cons (pds_for PassesOwn.never rfl (pdi_of (pdr_range1 rfl T.b_range (pda_cons (pd_bin op_addA s_addA (pd_name 1) (pd_name 2)) pda_nil))) (pt_nm sc__law_draws.nd)
      (pds_cons (pds_set (i := 7) sc__law_draws.nd (px_of (pd_bin op_mod s_mod (pd_name 6) (pd_callB call_len' s_len rfl T.b_len (by decide +kernel) (pda_cons (pd_name 5) pda_nil)))))
      (pds_cons (pds_if (pxt_of (pdt_cmp op_ge s_ge (pd_name 6) (pd_name 1) (nomark _)))
      (pds_one (pds_expr (px_mutP 9 PySem.F.slot_list_append PySem.F.type_list_append mt_append m_append (pd_name 4) (pda_cons (pd_bin op_mod s_mod (pd_ixr ix_seq s_idx (pd_name 5) (pd_name 7) (fun _ _ => rfl)) pd_int) pda_nil))))
      pds_nil)
      (pds_one (pds_setI 0 (px_of (pd_bin op_fdivW s_div (pd_ixr ix_seq s_idx (pd_name 5) (pd_name 7) (fun _ _ => rfl)) pd_int)) (pd_name 5) (pd_name 7))))))
      (pds_one (pds_ret (px_of (pd_name 4))))))
      pds_nil)
      (pds_cons (pds_for PassesOwn.never rfl (pdi_of (pdr_range1 rfl T.b_range (pda_cons (pd_name 2) pda_nil))) (pt_nm sc__law_draws.nd)
      (pds_cons (pds_set (i := 8) sc__law_draws.nd (px_of (pd_bin op_addA s_addA (pd_bin op_mulA s_mulA (pd_bin op_mulA s_mulA (pd_bin op_addA s_addA (pd_name 6) (pd_name 1)) (pd_bin op_addA s_addA (pd_name 6) (pd_name 1))) pd_int) pd_int)))
      (pds_cons (pds_set (i := 9) sc__law_draws.nd (px_of (pd_bin op_mod s_mod (pd_bin op_mulA s_mulA (pd_bin op_addA s_addA (pd_bin op_mod s_mod (pd_ixr ix_seq s_idx (pd_name 3) (pd_bin op_mod s_mod (pd_name 6) (pd_callB call_len' s_len rfl T.b_len (by decide +kernel) (pda_cons (pd_name 3) pda_nil))) (fun _ _ => rfl)) pd_int) (pd_name 8)) pd_int) pd_int)))
      (pds_cons (pds_set (i := 9) sc__law_draws.nd (px_of (pd_bin op_mod s_mod (pd_bin op_addA s_addA (pd_bin op_mulA s_mulA (pd_name 9) (pd_name 9)) (pd_bin op_mulA s_mulA pd_int (pd_name 6))) pd_int)))
      (pds_one (pds_expr (px_mutP 9 PySem.F.slot_list_append PySem.F.type_list_append mt_append m_append (pd_name 4) (pda_cons (pd_bin op_mod s_mod (pd_bin op_mulA s_mulA (pd_name 9) (pd_name 9)) pd_int) pda_nil))))))))
      (pds_one (pds_ret (px_of (pd_name 4))))))))
theorem ok__law_pop {f : Addr} {fd : FuncData} (T : Txt K mg) (F : Fun K "_law_pop" "_law_pop" s__law_pop f fd) : FnG P w K mg base CX0 1 f fd ["_law_draws_here"] (SpI K f__law_pop) := by
  refine def_ok (k := 0) (N := N__law_pop) (lk := lk__law_pop) (fS := F__law_pop) F sc__law_pop fun cdv A outer s H E hr => ?_
  exact (pds_cons (pds_if (pxt_of (pdt_cmp (op_eqD hr.units) s_eq (pd_name 0) (pd_lst pda_nil) (nomark _)))
      (pds_one (pds_ret (px_of pd_int)))
      pds_nil)
      (pds_one (pds_ret (px_mut0 0 PySem.F.slot_list_pop PySem.F.type_list_pop mt_pop m_pop (pd_name 0)))))
theorem ok__law_kind {f : Addr} {fd : FuncData} (T : Txt K mg) (F : Fun K "_law_kind" "_law_kind" s__law_kind f fd) : FnG P w K mg base CX0 1 f fd ["_law_error"] (SpI K f__law_kind) := by
  refine def_ok (k := 0) (N := N__law_kind) (lk := lk__law_kind) (fS := F__law_kind) F sc__law_kind fun cdv A outer s H E hr => ?_
  exact (pds_cons (pds_set (i := 1) sc__law_kind.nd (px_of (pd_lst pda_nil)))
      (pds_cons (pds_if (pxt_of (pdt_val (pd_isX (cv := (.ref (ca.at_ 1))) (c := (.ref (ca.at_ 1))) (fun u h => h) (fun b h => by cases h; exact T.kn_NoCount) (kEL_ok (l := [(1, true), (2, false)]) (List.forall_mem_cons.mpr ⟨⟨T.ex_NoCount, T.ki_NoCount_NoCount⟩, List.forall_mem_cons.mpr ⟨⟨T.ex_NoGroup, T.ki_NoGroup_NoCount⟩, fun _ h => by cases h⟩⟩)) rfl T.b_isinstance (pe_glob rfl T.g_NoCount (show RelV (.ref (ca.at_ 1)) (.ref (ca.at_ 1)) from rfl)) (pd_name 0) (by decide +kernel))))
      (pds_one (pds_set (i := 1) sc__law_kind.nd (px_of (pd_bin op_addA s_addA (pd_name 1) (pd_lst (pda_cons pd_str (pda_cons (pd_exF (List.forall_mem_cons.mpr ⟨⟨T.xf_NoCount, T.no_NoCount⟩, fun _ h => by cases h⟩) (pd_name 0)) pda_nil)))))))
      pds_nil)
      (pds_cons (pds_if (pxt_of (pdt_val (pd_isX (cv := (.ref (ca.at_ 2))) (c := (.ref (ca.at_ 2))) (fun u h => h) (fun b h => by cases h; exact T.kn_NoGroup) (kEL_ok (l := [(1, false), (2, true)]) (List.forall_mem_cons.mpr ⟨⟨T.ex_NoCount, T.ki_NoCount_NoGroup⟩, List.forall_mem_cons.mpr ⟨⟨T.ex_NoGroup, T.ki_NoGroup_NoGroup⟩, fun _ h => by cases h⟩⟩)) rfl T.b_isinstance (pe_glob rfl T.g_NoGroup (show RelV (.ref (ca.at_ 2)) (.ref (ca.at_ 2)) from rfl)) (pd_name 0) (by decide +kernel))))
      (pds_one (pds_set (i := 1) sc__law_kind.nd (px_of (pd_bin op_addA s_addA (pd_name 1) (pd_lst (pda_cons pd_str (pda_cons (pd_exF (List.forall_mem_cons.mpr ⟨⟨T.xf_NoGroup, T.no_NoGroup⟩, fun _ h => by cases h⟩) (pd_name 0)) pda_nil)))))))
      pds_nil)
      (pds_cons (pds_if (pxt_of (PDW.t (pdw_or (pdt_val (pd_isX (cv := (.ref (ca.at_ 3))) (c := (.ref (ca.at_ 3))) (fun u h => h) (fun b h => by cases h; exact T.kn_NoTable) (kEL_ok (l := [(1, false), (2, false)]) (List.forall_mem_cons.mpr ⟨⟨T.ex_NoCount, T.ki_NoCount_NoTable⟩, List.forall_mem_cons.mpr ⟨⟨T.ex_NoGroup, T.ki_NoGroup_NoTable⟩, fun _ h => by cases h⟩⟩)) rfl T.b_isinstance (pe_glob rfl T.g_NoTable (show RelV (.ref (ca.at_ 3)) (.ref (ca.at_ 3)) from rfl)) (pd_name 0) (by decide +kernel))) (pdw_or (pdt_val (pd_isX (cv := (.ref (ca.at_ 4))) (c := (.ref (ca.at_ 4))) (fun u h => h) (fun b h => by cases h; exact T.kn_TooMany) (kEL_ok (l := [(1, false), (2, false)]) (List.forall_mem_cons.mpr ⟨⟨T.ex_NoCount, T.ki_NoCount_TooMany⟩, List.forall_mem_cons.mpr ⟨⟨T.ex_NoGroup, T.ki_NoGroup_TooMany⟩, fun _ h => by cases h⟩⟩)) rfl T.b_isinstance (pe_glob rfl T.g_TooMany (show RelV (.ref (ca.at_ 4)) (.ref (ca.at_ 4)) from rfl)) (pd_name 0) (by decide +kernel))) (pdw_or1 (pdt_val (pd_isX (cv := (.ref (ca.at_ 5))) (c := (.ref (ca.at_ 5))) (fun u h => h) (fun b h => by cases h; exact T.kn_NoText) (kEL_ok (l := [(1, false), (2, false)]) (List.forall_mem_cons.mpr ⟨⟨T.ex_NoCount, T.ki_NoCount_NoText⟩, List.forall_mem_cons.mpr ⟨⟨T.ex_NoGroup, T.ki_NoGroup_NoText⟩, fun _ h => by cases h⟩⟩)) rfl T.b_isinstance (pe_glob rfl T.g_NoText (show RelV (.ref (ca.at_ 5)) (.ref (ca.at_ 5)) from rfl)) (pd_name 0) (by decide +kernel))))))))
      (pds_one (pds_expr (px_mutP 9 PySem.F.slot_list_append PySem.F.type_list_append mt_append m_append (pd_name 1) (pda_cons pd_str pda_nil))))
      pds_nil)
      (pds_cons (pds_if (pxt_of (PDW.t (pdw_or (pdt_val (pd_isX (cv := (.ref (ca.at_ 6))) (c := (.ref (ca.at_ 6))) (fun u h => h) (fun b h => by cases h; exact T.kn_NoLine) (kEL_ok (l := [(1, false), (2, false)]) (List.forall_mem_cons.mpr ⟨⟨T.ex_NoCount, T.ki_NoCount_NoLine⟩, List.forall_mem_cons.mpr ⟨⟨T.ex_NoGroup, T.ki_NoGroup_NoLine⟩, fun _ h => by cases h⟩⟩)) rfl T.b_isinstance (pe_glob rfl T.g_NoLine (show RelV (.ref (ca.at_ 6)) (.ref (ca.at_ 6)) from rfl)) (pd_name 0) (by decide +kernel))) (pdw_or (pdt_val (pd_isX (cv := (.ref (ca.at_ 7))) (c := (.ref (ca.at_ 7))) (fun u h => h) (fun b h => by cases h; exact T.kn_NoPlace) (kEL_ok (l := [(1, false), (2, false)]) (List.forall_mem_cons.mpr ⟨⟨T.ex_NoCount, T.ki_NoCount_NoPlace⟩, List.forall_mem_cons.mpr ⟨⟨T.ex_NoGroup, T.ki_NoGroup_NoPlace⟩, fun _ h => by cases h⟩⟩)) rfl T.b_isinstance (pe_glob rfl T.g_NoPlace (show RelV (.ref (ca.at_ 7)) (.ref (ca.at_ 7)) from rfl)) (pd_name 0) (by decide +kernel))) (pdw_or1 (pdt_val (pd_isX (cv := (.ref (ca.at_ 8))) (c := (.ref (ca.at_ 8))) (fun u h => h) (fun b h => by cases h; exact T.kn_NoHeap) (kEL_ok (l := [(1, false), (2, false)]) (List.forall_mem_cons.mpr ⟨⟨T.ex_NoCount, T.ki_NoCount_NoHeap⟩, List.forall_mem_cons.mpr ⟨⟨T.ex_NoGroup, T.ki_NoGroup_NoHeap⟩, fun _ h => by cases h⟩⟩)) rfl T.b_isinstance (pe_glob rfl T.g_NoHeap (show RelV (.ref (ca.at_ 8)) (.ref (ca.at_ 8)) from rfl)) (pd_name 0) (by decide +kernel))))))))
      (pds_one (pds_expr (px_mutP 9 PySem.F.slot_list_append PySem.F.type_list_append mt_append m_append (pd_name 1) (pda_cons pd_str pda_nil))))
      pds_nil)
      (pds_cons (pds_if (pxt_of (PDW.t (pdw_and (pdt_cmp op_notN s_notN (pd_name 0) pd_non (nomark _)) (pdw_and1 (pdt_not (pdt_val (pd_isX (cv := (.type "ValueError")) (c := (.ty "ValueError")) (fun u h => h) (fun b h => by cases h; exact T.kn_ValueError) (kEL_ok (l := [(1, true), (2, true)]) (List.forall_mem_cons.mpr ⟨⟨T.ex_NoCount, T.ki_NoCount_ValueError⟩, List.forall_mem_cons.mpr ⟨⟨T.ex_NoGroup, T.ki_NoGroup_ValueError⟩, fun _ h => by cases h⟩⟩)) rfl T.b_isinstance (pe_bltn (v := .ty "ValueError") rfl T.b_ValueError (by decide +kernel) rfl (by decide) (by decide)) (pd_name 0) (by decide +kernel))))))))
      (pds_one (pds_expr (px_mutP 9 PySem.F.slot_list_append PySem.F.type_list_append mt_append m_append (pd_name 1) (pda_cons pd_str pda_nil))))
      pds_nil)
      (pds_cons (pds_if (pxt_of (PDW.t (pdw_and (pdt_cmp (op_eqD hr.units) s_eq (pd_callB call_len' s_len rfl T.b_len (by decide +kernel) (pda_cons (pd_name 1) pda_nil)) pd_int (nomark _)) (pdw_and1 (pdt_val (pd_isi (kitT_ok (T := "bool") (by decide)) rfl T.b_isinstance rfl T.b_bool (by decide +kernel) (pd_ixr ix_seq s_idx (pd_name 1) pd_int (fun _ _ => rfl)) (by decide +kernel)))))))
      (pds_one (pds_expr (px_mutP 9 PySem.F.slot_list_append PySem.F.type_list_append mt_append m_append (pd_name 1) (pda_cons pd_str pda_nil))))
      pds_nil)
      (pds_one (pds_ret (px_of (pd_name 1)))))))))))
theorem ok_greatest {f : Addr} {fd : FuncData} (T : Txt K mg) (F : Fun K "greatest" "greatest" s_greatest f fd) : FnG P w K mg base CX0 1 f fd ["n"] (SpI K f_greatest) := by
  refine def_ok (k := 0) (N := N_greatest) (lk := lk_greatest) (fS := F_greatest) F sc_greatest fun cdv A outer s H E hr => ?_
  exact (pds_cons (pds_if (pxt_of (PDW.t (pdw_or (pdt_cmp op_lt s_lt (pd_name 0) pd_int (nomark _)) (pdw_or1 (pdt_cmp op_gt s_gt (pd_name 0) (pd_glob (d := (.int 4)) rfl T.c_MOST.choose_spec ⟨_, rfl⟩ rfl) (nomark _))))))
      (pds_one pds_never)
      pds_nil)
      (pds_one (pds_ret (px_of (pd_bin op_sub s_sub (pd_bin op_shl s_shl pd_int (pd_name 0)) pd_int)))))
theorem okr_greatest {f : Addr} {fd : FuncData} (T : Txt K mg) (F : Fun K "greatest" "greatest" s_greatest f fd) (DX_NoCount : Dxi P w K mg base (ca.at_ 1) "count") : FnG P w K mg base (L2.CX P w) 3 f fd ["n"] (SpR K g_greatest) := by
  obtain ⟨aX_NoCount, dX_NoCount, pX_NoCount, iX_NoCount, tX_NoCount, bX_NoCount, FX_NoCount⟩ := DX_NoCount.ex
  refine def_r (k := 2) (N := N_greatest) (lk := lk_greatest) (gS := r_greatest) F sc_greatest fun cdv A outer s H E hr => ?_
  exact (prs_one (prs_if (PDW.t (pdw_or (pdt_cmp op_lt s_lt (pd_name 0) pd_int (nomark _)) (pdw_or1 (pdt_cmp op_gt s_gt (pd_name 0) (pd_glob (d := (.int 4)) rfl T.c_MOST.choose_spec ⟨_, rfl⟩ rfl) (nomark _)))))
      (prs_one (prs_raise rfl (takes_of rfl rfl rfl rfl) (pmr_init 1 T.o_NoCount T.no_NoCount iX_NoCount tX_NoCount FX_NoCount (hr.mono (by decide)) bX_NoCount rfl T.g_NoCount (pd_name 0))))
      prs_no))
theorem ok_look_at {f : Addr} {fd : FuncData} (T : Txt K mg) (F : Fun K "look_at" "look_at" s_look_at f fd) (D_greatest : Df P w K mg base "greatest" 1 ["n"] f_greatest) : FnG P w K mg base CX0 2 f fd ["n", "some"] (SpI K f_look_at) := by
  obtain ⟨a_greatest, d_greatest, m_greatest, k_greatest, b_greatest, G_greatest⟩ := D_greatest.ex
  refine def_ok (k := 1) (N := N_look_at) (lk := lk_look_at) (fS := F_look_at) F sc_look_at fun cdv A outer s H E hr => ?_
  exact (pds_cons (pds_set (i := 2) sc_look_at.nd (px_of (pd_call [false] G_greatest (hr.mono (by decide)) rfl m_greatest k_greatest b_greatest (pda_cons (pd_name 0) pda_nil))))
      (pds_one (pds_for PassesOwn.never rfl (pdi_lst (px_of (pd_name 1))) (pt_tp rfl (pts_cons' (pt_nm sc_look_at.nd) (pts_cons' (pt_nm sc_look_at.nd) pts_nil')))
      (pds_one (pds_if (pxt_of (PDW.t (pdw_or (pdt_cmp op_lt s_lt (pd_name 3) (pd_name 4) (nomark _)) (pdw_or1 (pdt_cmp op_gt s_gt (pd_name 3) (pd_name 2) (nomark _))))))
      (pds_one pds_never)
      pds_nil)))))
theorem okr_look_at {f : Addr} {fd : FuncData} (T : Txt K mg) (F : Fun K "look_at" "look_at" s_look_at f fd) (D_greatest : Df P w K mg base "greatest" 1 ["n"] f_greatest) (DR_greatest : Dr P w K mg base "greatest" 3 ["n"] g_greatest) (DX_NoGroup : Dxi P w K mg base (ca.at_ 2) "group") : FnG P w K mg base (L2.CX P w) 4 f fd ["n", "some"] (SpR K g_look_at) := by
  obtain ⟨a_greatest, d_greatest, m_greatest, k_greatest, b_greatest, G_greatest⟩ := D_greatest.ex
  obtain ⟨aR_greatest, dR_greatest, mR_greatest, kR_greatest, bR_greatest, GR_greatest⟩ := DR_greatest.ex
  obtain ⟨aX_NoGroup, dX_NoGroup, pX_NoGroup, iX_NoGroup, tX_NoGroup, bX_NoGroup, FX_NoGroup⟩ := DX_NoGroup.ex
  refine def_r (k := 3) (N := N_look_at) (lk := lk_look_at) (gS := r_look_at) F sc_look_at fun cdv A outer s H E hr => ?_
  exact (prs_seq (prs_set (i := 2) sc_look_at.nd (pre_call [false] GR_greatest (hr.mono (by decide)) (takes_of rfl rfl rfl rfl) rfl mR_greatest kR_greatest bR_greatest (pda_cons (pd_name 0) pda_nil)))
      (pds_set (i := 2) sc_look_at.nd (px_of (pd_call [false] G_greatest (hr.mono (by decide)) rfl m_greatest k_greatest b_greatest (pda_cons (pd_name 0) pda_nil))))
      (prs_one (prs_for (passes_of rfl) rfl (pdi_lst (px_of (pd_name 1))) (pt_tp rfl (pts_cons' (pt_nm sc_look_at.nd) (pts_cons' (pt_nm sc_look_at.nd) pts_nil')))
      (pds_one (pds_if (pxt_of (PDW.t (pdw_or (pdt_cmp op_lt s_lt (pd_name 3) (pd_name 4) (nomark _)) (pdw_or1 (pdt_cmp op_gt s_gt (pd_name 3) (pd_name 2) (nomark _))))))
      (pds_one pds_never)
      pds_nil))
      (prs_one (prs_if (PDW.t (pdw_or (pdt_cmp op_lt s_lt (pd_name 3) (pd_name 4) (nomark _)) (pdw_or1 (pdt_cmp op_gt s_gt (pd_name 3) (pd_name 2) (nomark _)))))
      (prs_one (prs_raise rfl (takes_of rfl rfl rfl rfl) (pmr_init 2 T.o_NoGroup T.no_NoGroup iX_NoGroup tX_NoGroup FX_NoGroup (hr.mono (by decide)) bX_NoGroup rfl T.g_NoGroup (pd_name 3))))
      prs_no)))))
theorem ok_row_of {f : Addr} {fd : FuncData} (T : Txt K mg) (F : Fun K "row_of" "row_of" s_row_of f fd) (D_greatest : Df P w K mg base "greatest" 1 ["n"] f_greatest) : FnG P w K mg base CX0 2 f fd ["n", "terms"] (SpI K f_row_of) := by
  obtain ⟨a_greatest, d_greatest, m_greatest, k_greatest, b_greatest, G_greatest⟩ := D_greatest.ex
  refine def_ok (k := 1) (N := N_row_of) (lk := lk_row_of) (fS := F_row_of) F sc_row_of fun cdv A outer s H E hr => ?_
  exact (pds_cons (pds_setLc (i := 2) (own := [("group", 3)]) rfl sc_row_of.nd rfl rfl (sw_true rfl rfl rfl (by decide +kernel)) (pdp_of (pdr_range1 rfl T.b_range (pda_cons (pd_call [false] G_greatest (hr.mono (by decide)) rfl m_greatest k_greatest b_greatest (pda_cons (pd_name 0) pda_nil)) pda_nil))) (blkOk_by (own := [("group", 3)]) (N := N_row_of) (sc := defScope s_row_of) (by decide +kernel)) (fun _ _ _ _ _ => (pt_nm sc_row_of.nd)) (fun _ _ _ _ _ => pdt_yes) (fun _ _ _ _ _ => pd_int))
      (pds_cons (pds_for PassesOwn.never rfl (pdi_lst (px_of (pd_name 1))) (pt_tp rfl (pts_cons' (pt_nm sc_row_of.nd) (pts_cons' (pt_nm sc_row_of.nd) pts_nil')))
      (pds_one (pds_if (pxt_of (pdt_cmp op_gt s_gt (pd_name 3) pd_int (nomark _)))
      (pds_one (pds_augI ip_add (pd_name 2) (pd_bin op_sub s_sub (pd_name 3) pd_int) (pd_name 4)))
      pds_nil)))
      (pds_one (pds_ret (px_of (pd_name 2))))))
theorem ok_shared {f : Addr} {fd : FuncData} (T : Txt K mg) (F : Fun K "shared" "shared" s_shared f fd) (D_look_at : Df P w K mg base "look_at" 2 ["n", "some"] f_look_at) (D_row_of : Df P w K mg base "row_of" 2 ["n", "terms"] f_row_of) : FnG P w K mg base CX0 3 f fd ["n", "a", "b", "c"] (SpI K f_shared) := by
  obtain ⟨a_look_at, d_look_at, m_look_at, k_look_at, b_look_at, G_look_at⟩ := D_look_at.ex
  obtain ⟨a_row_of, d_row_of, m_row_of, k_row_of, b_row_of, G_row_of⟩ := D_row_of.ex
  refine def_ok (k := 2) (N := N_shared) (lk := lk_shared) (fS := F_shared) F sc_shared fun cdv A outer s H E hr => ?_
  exact (pds_cons (pds_expr (px_of (pd_call [false, false] G_look_at (hr.mono (by decide)) rfl m_look_at k_look_at b_look_at (pda_cons (pd_name 0) (pda_cons (pd_lst (pda_cons (pd_tup (pda_cons (pd_name 1) (pda_cons pd_int pda_nil))) (pda_cons (pd_tup (pda_cons (pd_name 2) (pda_cons pd_int pda_nil))) (pda_cons (pd_tup (pda_cons (pd_name 3) (pda_cons pd_int pda_nil))) pda_nil)))) pda_nil)))))
      (pds_one (pds_ret (px_of (pd_call [false, false] G_row_of (hr.mono (by decide)) rfl m_row_of k_row_of b_row_of (pda_cons (pd_name 0) (pda_cons (pd_lst (pda_cons (pd_tup (pda_cons (pd_bin op_or s_or (pd_name 1) (pd_name 3)) (pda_cons pd_int pda_nil))) (pda_cons (pd_tup (pda_cons (pd_bin op_or s_or (pd_name 2) (pd_name 3)) (pda_cons pd_int pda_nil))) (pda_cons (pd_tup (pda_cons (pd_bin op_or s_or (pd_bin op_or s_or (pd_name 1) (pd_name 2)) (pd_name 3)) (pda_cons (pd_un un_neg sU pd_int) pda_nil))) (pda_cons (pd_tup (pda_cons (pd_name 3) (pda_cons (pd_un un_neg sU pd_int) pda_nil))) pda_nil))))) pda_nil)))))))
theorem okr_shared {f : Addr} {fd : FuncData} (T : Txt K mg) (F : Fun K "shared" "shared" s_shared f fd) (DR_look_at : Dr P w K mg base "look_at" 4 ["n", "some"] g_look_at) : FnG P w K mg base (L2.CX P w) 5 f fd ["n", "a", "b", "c"] (SpR K g_shared) := by
  obtain ⟨aR_look_at, dR_look_at, mR_look_at, kR_look_at, bR_look_at, GR_look_at⟩ := DR_look_at.ex
  refine def_r (k := 4) (N := N_shared) (lk := lk_shared) (gS := r_shared) F sc_shared fun cdv A outer s H E hr => ?_
  exact (prs_one (prs_expr (pre_call [false, false] GR_look_at (hr.mono (by decide)) (takes_of rfl rfl rfl rfl) rfl mR_look_at kR_look_at bR_look_at (pda_cons (pd_name 0) (pda_cons (pd_lst (pda_cons (pd_tup (pda_cons (pd_name 1) (pda_cons pd_int pda_nil))) (pda_cons (pd_tup (pda_cons (pd_name 2) (pda_cons pd_int pda_nil))) (pda_cons (pd_tup (pda_cons (pd_name 3) (pda_cons pd_int pda_nil))) pda_nil)))) pda_nil)))))
theorem ok_silent {f : Addr} {fd : FuncData} (T : Txt K mg) (F : Fun K "silent" "silent" s_silent f fd) (D_shared : Df P w K mg base "shared" 3 ["n", "a", "b", "c"] f_shared) : FnG P w K mg base CX0 4 f fd ["n", "a", "b", "c"] (SpI K f_silent) := by
  obtain ⟨a_shared, d_shared, m_shared, k_shared, b_shared, G_shared⟩ := D_shared.ex
  refine def_ok (k := 3) (N := N_silent) (lk := lk_silent) (fS := F_silent) F sc_silent fun cdv A outer s H E hr => ?_
  exact (pds_one (pds_ret (px_of (pd_tup (pda_cons (pd_call [false, false, false, false] G_shared (hr.mono (by decide)) rfl m_shared k_shared b_shared (pda_cons (pd_name 0) (pda_cons (pd_name 1) (pda_cons (pd_name 2) (pda_cons (pd_name 3) pda_nil))))) (pda_cons pd_str (pda_cons pd_int pda_nil)))))))
theorem okr_silent {f : Addr} {fd : FuncData} (T : Txt K mg) (F : Fun K "silent" "silent" s_silent f fd) (DR_shared : Dr P w K mg base "shared" 5 ["n", "a", "b", "c"] g_shared) : FnG P w K mg base (L2.CX P w) 6 f fd ["n", "a", "b", "c"] (SpR K g_silent) := by
  obtain ⟨aR_shared, dR_shared, mR_shared, kR_shared, bR_shared, GR_shared⟩ := DR_shared.ex
  refine def_r (k := 5) (N := N_silent) (lk := lk_silent) (gS := r_silent) F sc_silent fun cdv A outer s H E hr => ?_
  exact (prs_one (prs_ret (pre_tup1 (pre_call [false, false, false, false] GR_shared (hr.mono (by decide)) (takes_of rfl rfl rfl rfl) rfl mR_shared kR_shared bR_shared (pda_cons (pd_name 0) (pda_cons (pd_name 1) (pda_cons (pd_name 2) (pda_cons (pd_name 3) pda_nil))))) (pda_cons pd_str (pda_cons pd_int pda_nil)))))
theorem ok_unsure {f : Addr} {fd : FuncData} (T : Txt K mg) (F : Fun K "unsure" "unsure" s_unsure f fd) (D_look_at : Df P w K mg base "look_at" 2 ["n", "some"] f_look_at) (D_row_of : Df P w K mg base "row_of" 2 ["n", "terms"] f_row_of) : FnG P w K mg base CX0 3 f fd ["n", "a"] (SpI K f_unsure) := by
  obtain ⟨a_look_at, d_look_at, m_look_at, k_look_at, b_look_at, G_look_at⟩ := D_look_at.ex
  obtain ⟨a_row_of, d_row_of, m_row_of, k_row_of, b_row_of, G_row_of⟩ := D_row_of.ex
  refine def_ok (k := 2) (N := N_unsure) (lk := lk_unsure) (fS := F_unsure) F sc_unsure fun cdv A outer s H E hr => ?_
  exact (pds_cons (pds_expr (px_of (pd_call [false, false] G_look_at (hr.mono (by decide)) rfl m_look_at k_look_at b_look_at (pda_cons (pd_name 0) (pda_cons (pd_lst (pda_cons (pd_tup (pda_cons (pd_name 1) (pda_cons pd_int pda_nil))) pda_nil)) pda_nil)))))
      (pds_one (pds_ret (px_of (pd_call [false, false] G_row_of (hr.mono (by decide)) rfl m_row_of k_row_of b_row_of (pda_cons (pd_name 0) (pda_cons (pd_lst (pda_cons (pd_tup (pda_cons (pd_name 1) (pda_cons pd_int pda_nil))) pda_nil)) pda_nil)))))))
theorem okr_unsure {f : Addr} {fd : FuncData} (T : Txt K mg) (F : Fun K "unsure" "unsure" s_unsure f fd) (DR_look_at : Dr P w K mg base "look_at" 4 ["n", "some"] g_look_at) : FnG P w K mg base (L2.CX P w) 5 f fd ["n", "a"] (SpR K g_unsure) := by
  obtain ⟨aR_look_at, dR_look_at, mR_look_at, kR_look_at, bR_look_at, GR_look_at⟩ := DR_look_at.ex
  refine def_r (k := 4) (N := N_unsure) (lk := lk_unsure) (gS := r_unsure) F sc_unsure fun cdv A outer s H E hr => ?_
  exact (prs_one (prs_expr (pre_call [false, false] GR_look_at (hr.mono (by decide)) (takes_of rfl rfl rfl rfl) rfl mR_look_at kR_look_at bR_look_at (pda_cons (pd_name 0) (pda_cons (pd_lst (pda_cons (pd_tup (pda_cons (pd_name 1) (pda_cons pd_int pda_nil))) pda_nil)) pda_nil)))))
theorem ok_rest {f : Addr} {fd : FuncData} (T : Txt K mg) (F : Fun K "rest" "rest" s_rest f fd) (D_look_at : Df P w K mg base "look_at" 2 ["n", "some"] f_look_at) (D_row_of : Df P w K mg base "row_of" 2 ["n", "terms"] f_row_of) : FnG P w K mg base CX0 3 f fd ["n", "a", "b"] (SpI K f_rest) := by
  obtain ⟨a_look_at, d_look_at, m_look_at, k_look_at, b_look_at, G_look_at⟩ := D_look_at.ex
  obtain ⟨a_row_of, d_row_of, m_row_of, k_row_of, b_row_of, G_row_of⟩ := D_row_of.ex
  refine def_ok (k := 2) (N := N_rest) (lk := lk_rest) (fS := F_rest) F sc_rest fun cdv A outer s H E hr => ?_
  exact (pds_cons (pds_expr (px_of (pd_call [false, false] G_look_at (hr.mono (by decide)) rfl m_look_at k_look_at b_look_at (pda_cons (pd_name 0) (pda_cons (pd_lst (pda_cons (pd_tup (pda_cons (pd_name 1) (pda_cons pd_int pda_nil))) (pda_cons (pd_tup (pda_cons (pd_name 2) (pda_cons pd_int pda_nil))) pda_nil))) pda_nil)))))
      (pds_one (pds_ret (px_of (pd_call [false, false] G_row_of (hr.mono (by decide)) rfl m_row_of k_row_of b_row_of (pda_cons (pd_name 0) (pda_cons (pd_lst (pda_cons (pd_tup (pda_cons (pd_bin op_or s_or (pd_name 1) (pd_name 2)) (pda_cons pd_int pda_nil))) (pda_cons (pd_tup (pda_cons (pd_name 2) (pda_cons (pd_un un_neg sU pd_int) pda_nil))) pda_nil))) pda_nil)))))))
theorem okr_rest {f : Addr} {fd : FuncData} (T : Txt K mg) (F : Fun K "rest" "rest" s_rest f fd) (DR_look_at : Dr P w K mg base "look_at" 4 ["n", "some"] g_look_at) : FnG P w K mg base (L2.CX P w) 5 f fd ["n", "a", "b"] (SpR K g_rest) := by
  obtain ⟨aR_look_at, dR_look_at, mR_look_at, kR_look_at, bR_look_at, GR_look_at⟩ := DR_look_at.ex
  refine def_r (k := 4) (N := N_rest) (lk := lk_rest) (gS := r_rest) F sc_rest fun cdv A outer s H E hr => ?_
  exact (prs_one (prs_expr (pre_call [false, false] GR_look_at (hr.mono (by decide)) (takes_of rfl rfl rfl rfl) rfl mR_look_at kR_look_at bR_look_at (pda_cons (pd_name 0) (pda_cons (pd_lst (pda_cons (pd_tup (pda_cons (pd_name 1) (pda_cons pd_int pda_nil))) (pda_cons (pd_tup (pda_cons (pd_name 2) (pda_cons pd_int pda_nil))) pda_nil))) pda_nil)))))
theorem ok_rules {f : Addr} {fd : FuncData} (T : Txt K mg) (F : Fun K "rules" "rules" s_rules f fd) (D_greatest : Df P w K mg base "greatest" 1 ["n"] f_greatest) : FnG P w K mg base CX0 2 f fd ["n"] (SpI K f_rules) := by
  obtain ⟨a_greatest, d_greatest, m_greatest, k_greatest, b_greatest, G_greatest⟩ := D_greatest.ex
  refine def_ok (k := 1) (N := N_rules) (lk := lk_rules) (fS := F_rules) F sc_rules fun cdv A outer s H E hr => ?_
  exact (pds_cons (pds_set (i := 1) sc_rules.nd (px_of (pd_call [false] G_greatest (hr.mono (by decide)) rfl m_greatest k_greatest b_greatest (pda_cons (pd_name 0) pda_nil))))
      (pds_cons (pds_setLc (i := 2) (own := [("k", 6)]) rfl sc_rules.nd rfl rfl (sw_true rfl rfl rfl (by decide +kernel)) (pdp_of (pdr_range1 rfl T.b_range (pda_cons (pd_name 0) pda_nil))) (blkOk_by (own := [("k", 6)]) (N := N_rules) (sc := defScope s_rules) (by decide +kernel)) (fun _ _ _ _ _ => (pt_nm sc_rules.nd)) (fun _ _ _ _ _ => pdt_yes) (fun _ _ _ _ _ => (pd_tup (pda_cons pd_str (pda_cons (pd_name 6) pda_nil)))))
      (pds_cons (pds_for PassesOwn.never rfl (pdi_of (pdr_range1 rfl T.b_range (pda_cons (pd_name 0) pda_nil))) (pt_nm sc_rules.nd)
      (pds_one (pds_for PassesOwn.never rfl (pdi_of (pdr_range2 rfl T.b_range (pda_cons (pd_bin op_addA s_addA (pd_name 3) pd_int) (pda_cons (pd_name 0) pda_nil)))) (pt_nm sc_rules.nd)
      (pds_cons (pds_set (i := 5) sc_rules.nd (px_of (pd_bin op_or s_or (pd_bin op_shl s_shl pd_int (pd_name 3)) (pd_bin op_shl s_shl pd_int (pd_name 4)))))
      (pds_one (pds_set (i := 2) sc_rules.nd (px_of (pd_bin op_addA s_addA (pd_name 2) (pd_lc (own := [("group", 7)]) rfl sc_rules.nd (pdp_of (pdr_range1 rfl T.b_range (pda_cons (pd_bin op_addA s_addA (pd_name 1) pd_int) pda_nil))) (blkOk_by (own := [("group", 7)]) (N := N_rules) (sc := defScope s_rules) (by decide +kernel)) (fun _ _ _ _ _ => (pt_nm sc_rules.nd)) (fun _ _ _ _ _ => pdt_one (pdt_cmp (op_eqD hr.units) s_eq (pd_bin op_and s_and (pd_name 7) (pd_name 5)) pd_int (nomark _))) (fun _ _ _ _ _ => (pd_tup (pda_cons pd_str (pda_cons (pd_name 3) (pda_cons (pd_name 4) (pda_cons (pd_name 7) pda_nil)))))))))))))))
      (pds_one (pds_ret (px_of (pd_name 2)))))))
theorem ok_Tally_init {f : Addr} {fd : FuncData} (T : Txt K mg) (F : Fun K "__init__" "Tally.__init__" s_Tally_init f fd) (D_greatest : Df P w K mg base "greatest" 1 ["n"] f_greatest) (D_rules : Df P w K mg base "rules" 2 ["n"] f_rules) : FnG P w K mg base CX0 3 f fd ["self", "n"] (SpI K f_Tally_init) := by
  obtain ⟨a_greatest, d_greatest, m_greatest, k_greatest, b_greatest, G_greatest⟩ := D_greatest.ex
  obtain ⟨a_rules, d_rules, m_rules, k_rules, b_rules, G_rules⟩ := D_rules.ex
  refine def_ok (k := 2) (N := N_Tally_init) (lk := lk_Tally_init) (fS := F_Tally_init) F sc_Tally_init fun cdv A outer s H E hr => ?_
  exact (pds_cons (pds_fld (n := 0) 0 T.cl_Tally T.na_Tally_n (px_of (pd_name 1)) (pd_name 0))
      (pds_cons (pds_fld (n := 0) 0 T.cl_Tally T.na_Tally_whole (px_of (pd_call [false] G_greatest (hr.mono (by decide)) rfl m_greatest k_greatest b_greatest (pda_cons (pd_name 1) pda_nil))) (pd_name 0))
      (pds_cons (pds_fld (n := 0) 0 T.cl_Tally T.na_Tally_rules (px_of (pd_call [false] G_rules (hr.mono (by decide)) rfl m_rules k_rules b_rules (pda_cons (pd_name 1) pda_nil))) (pd_name 0))
      (pds_one (pds_fld (n := 0) 9 T.cl_Tally T.na_Tally_times (px_of (pd_lc (own := [("rule", 2)]) rfl sc_Tally_init.nd (pdp_lst (pd_fld T.cl_Tally T.na_Tally_rules (pd_name 0))) (blkOk_by (own := [("rule", 2)]) (N := N_Tally_init) (sc := defScope s_Tally_init) (by decide +kernel)) (fun _ _ _ _ _ => (pt_nm sc_Tally_init.nd)) (fun _ _ _ _ _ => pdt_yes) (fun _ _ _ _ _ => pd_int))) (pd_name 0))))))
theorem ok_names_of {f : Addr} {fd : FuncData} (T : Txt K mg) (F : Fun K "names_of" "names_of" s_names_of f fd) : FnG P w K mg base CX0 1 f fd ["group"] (SpI K f_names_of) := by
  refine def_ok (k := 0) (N := N_names_of) (lk := lk_names_of) (fS := F_names_of) F sc_names_of fun cdv A outer s H E hr => ?_
  exact (pds_cons (pds_set (i := 1) sc_names_of.nd (px_of (pd_lst pda_nil)))
      (pds_cons (pds_set (i := 2) sc_names_of.nd (px_of pd_int))
      (pds_cons (pds_while (n := 1000000) PassesOwn.never (pxt_of (pdt_cmp op_gt s_gt (pd_bin op_shr s_shr (pd_name 0) (pd_name 2)) pd_int (nomark _)))
      (pds_cons (pds_if (pxt_of (pdt_cmp (op_eqD hr.units) s_eq (pd_bin op_and s_and (pd_bin op_shr s_shr (pd_name 0) (pd_name 2)) pd_int) pd_int (nomark _)))
      (pds_one (pds_expr (px_mutP 9 PySem.F.slot_list_append PySem.F.type_list_append mt_append m_append (pd_name 1) (pda_cons (pd_name 2) pda_nil))))
      pds_nil)
      (pds_one (pds_augN (i := 2) sc_names_of.nd ip_add (px_of pd_int)))))
      (pds_one (pds_ret (px_of (pd_name 1)))))))
theorem ok_Tally_once {f : Addr} {fd : FuncData} (T : Txt K mg) (F : Fun K "once" "Tally.once" s_Tally_once f fd) : FnG P w K mg base CX0 1 f fd ["self", "rule"] (SpI K f_Tally_once) := by
  refine def_ok (k := 0) (N := N_Tally_once) (lk := lk_Tally_once) (fS := F_Tally_once) F sc_Tally_once fun cdv A outer s H E hr => ?_
  exact (pds_one (pds_augI ip_add (pd_fld T.cl_Tally T.na_Tally_times (pd_name 0)) (pd_idxO (hu65 hr) (pd_fld T.cl_Tally T.na_Tally_rules (pd_name 0)) (pd_name 1)) pd_int))
theorem ok_Tally_pair {f : Addr} {fd : FuncData} (T : Txt K mg) (F : Fun K "pair" "Tally.pair" s_Tally_pair f fd) (D_Tally_once : Dm P w K mg base (ca.at_ 0) "once" 1 ["self", "rule"] f_Tally_once) : FnG P w K mg base CX0 2 f fd ["self", "one", "other", "known"] (SpI K f_Tally_pair) := by
  obtain ⟨a_Tally_once, d_Tally_once, m_Tally_once, b_Tally_once, G_Tally_once⟩ := D_Tally_once.ex
  refine def_ok (k := 1) (N := N_Tally_pair) (lk := lk_Tally_pair) (fS := F_Tally_pair) F sc_Tally_pair fun cdv A outer s H E hr => ?_
  exact (pds_one (pds_expr (px_meth (n := 0) 0 [true, false] rfl (by first | exact Or.inl rfl | exact Or.inr (Or.inl rfl) | exact Or.inr (Or.inr rfl)) (by decide) (by decide) T.cl_Tally m_Tally_once G_Tally_once (hr.mono (by decide)) b_Tally_once (pxa_of (pda_cons (pd_tup (pda_cons pd_str (pda_cons (pd_callB (call_minA rfl) s_minA rfl T.b_min (by decide +kernel) (pda_cons (pd_name 1) (pda_cons (pd_name 2) pda_nil))) (pda_cons (pd_callB (call_maxA rfl) s_maxA rfl T.b_max (by decide +kernel) (pda_cons (pd_name 1) (pda_cons (pd_name 2) pda_nil))) (pda_cons (pd_name 3) pda_nil))))) pda_nil)))))
theorem ok_Tally_rest {f : Addr} {fd : FuncData} (T : Txt K mg) (F : Fun K "rest" "Tally.rest" s_Tally_rest f fd) (D_names_of : Df P w K mg base "names_of" 1 ["group"] f_names_of) (D_Tally_pair : Dm P w K mg base (ca.at_ 0) "pair" 2 ["self", "one", "other", "known"] f_Tally_pair) (D_Tally_once : Dm P w K mg base (ca.at_ 0) "once" 1 ["self", "rule"] f_Tally_once) : FnG P w K mg base CX0 3 f fd ["self", "name", "known"] (SpI K f_Tally_rest) := by
  obtain ⟨a_names_of, d_names_of, m_names_of, k_names_of, b_names_of, G_names_of⟩ := D_names_of.ex
  obtain ⟨a_Tally_pair, d_Tally_pair, m_Tally_pair, b_Tally_pair, G_Tally_pair⟩ := D_Tally_pair.ex
  obtain ⟨a_Tally_once, d_Tally_once, m_Tally_once, b_Tally_once, G_Tally_once⟩ := D_Tally_once.ex
  refine def_ok (k := 2) (N := N_Tally_rest) (lk := lk_Tally_rest) (fS := F_Tally_rest) F sc_Tally_rest fun cdv A outer s H E hr => ?_
  exact (pds_cons (pds_for PassesOwn.never rfl (pdi_lst (px_of (pd_call [false] G_names_of (hr.mono (by decide)) rfl m_names_of k_names_of b_names_of (pda_cons (pd_bin op_sub s_sub (pd_bin op_sub s_sub (pd_fld T.cl_Tally T.na_Tally_whole (pd_name 0)) (pd_name 2)) (pd_bin op_shl s_shl pd_int (pd_name 1))) pda_nil)))) (pt_nm sc_Tally_rest.nd)
      (pds_cons (pds_expr (px_meth (n := 0) 0 [true, false, false, false] rfl (by first | exact Or.inl rfl | exact Or.inr (Or.inl rfl) | exact Or.inr (Or.inr rfl)) (by decide) (by decide) T.cl_Tally m_Tally_pair G_Tally_pair (hr.mono (by decide)) b_Tally_pair (pxa_of (pda_cons (pd_name 1) (pda_cons (pd_name 3) (pda_cons (pd_name 2) pda_nil))))))
      (pds_one (pds_set (i := 2) sc_Tally_rest.nd (px_of (pd_bin op_or s_or (pd_name 2) (pd_bin op_shl s_shl pd_int (pd_name 3))))))))
      (pds_one (pds_expr (px_meth (n := 0) 0 [true, false] rfl (by first | exact Or.inl rfl | exact Or.inr (Or.inl rfl) | exact Or.inr (Or.inr rfl)) (by decide) (by decide) T.cl_Tally m_Tally_once G_Tally_once (hr.mono (by decide)) b_Tally_once (pxa_of (pda_cons (pd_tup (pda_cons pd_str (pda_cons (pd_name 1) pda_nil))) pda_nil))))))
theorem ok_Tally_rests {f : Addr} {fd : FuncData} (T : Txt K mg) (F : Fun K "rests" "Tally.rests" s_Tally_rests f fd) (D_names_of : Df P w K mg base "names_of" 1 ["group"] f_names_of) (D_Tally_rest : Dm P w K mg base (ca.at_ 0) "rest" 3 ["self", "name", "known"] f_Tally_rest) : FnG P w K mg base CX0 4 f fd ["self", "group", "known"] (SpI K f_Tally_rests) := by
  obtain ⟨a_names_of, d_names_of, m_names_of, k_names_of, b_names_of, G_names_of⟩ := D_names_of.ex
  obtain ⟨a_Tally_rest, d_Tally_rest, m_Tally_rest, b_Tally_rest, G_Tally_rest⟩ := D_Tally_rest.ex
  refine def_ok (k := 3) (N := N_Tally_rests) (lk := lk_Tally_rests) (fS := F_Tally_rests) F sc_Tally_rests fun cdv A outer s H E hr => ?_
  exact (pds_one (pds_for PassesOwn.never rfl (pdi_lst (px_of (pd_call [false] G_names_of (hr.mono (by decide)) rfl m_names_of k_names_of b_names_of (pda_cons (pd_name 1) pda_nil)))) (pt_nm sc_Tally_rests.nd)
      (pds_one (pds_if (pxt_of (pdt_cmp (op_eqD hr.units) s_eq (pd_bin op_and s_and (pd_bin op_shr s_shr (pd_name 2) (pd_name 3)) pd_int) pd_int (nomark _)))
      (pds_cons (pds_expr (px_meth (n := 0) 0 [true, false, false] rfl (by first | exact Or.inl rfl | exact Or.inr (Or.inl rfl) | exact Or.inr (Or.inr rfl)) (by decide) (by decide) T.cl_Tally m_Tally_rest G_Tally_rest (hr.mono (by decide)) b_Tally_rest (pxa_of (pda_cons (pd_name 3) (pda_cons (pd_name 2) pda_nil)))))
      (pds_one (pds_set (i := 2) sc_Tally_rests.nd (px_of (pd_bin op_or s_or (pd_name 2) (pd_bin op_shl s_shl pd_int (pd_name 3)))))))
      pds_nil))))
theorem ok_split_rest {f : Addr} {fd : FuncData} (T : Txt K mg) (F : Fun K "split_rest" "split_rest" s_split_rest f fd) (D_look_at : Df P w K mg base "look_at" 2 ["n", "some"] f_look_at) (D_Tally_init : Di P w K mg base (ca.at_ 0) 3 ["self", "n"] f_Tally_init) (D_Tally_rests : Dm P w K mg base (ca.at_ 0) "rests" 4 ["self", "group", "known"] f_Tally_rests) : FnG P w K mg base CX0 5 f fd ["n", "a", "b"] (SpI K f_split_rest) := by
  obtain ⟨a_look_at, d_look_at, m_look_at, k_look_at, b_look_at, G_look_at⟩ := D_look_at.ex
  obtain ⟨a_Tally_init, d_Tally_init, M_Tally_init, b_Tally_init, G_Tally_init⟩ := D_Tally_init.ex
  obtain ⟨a_Tally_rests, d_Tally_rests, m_Tally_rests, b_Tally_rests, G_Tally_rests⟩ := D_Tally_rests.ex
  refine def_ok (k := 4) (N := N_split_rest) (lk := lk_split_rest) (fS := F_split_rest) F sc_split_rest fun cdv A outer s H E hr => ?_
  exact (pds_cons (pds_expr (px_of (pd_call [false, false] G_look_at (hr.mono (by decide)) rfl m_look_at k_look_at b_look_at (pda_cons (pd_name 0) (pda_cons (pd_lst (pda_cons (pd_tup (pda_cons (pd_name 1) (pda_cons pd_int pda_nil))) (pda_cons (pd_tup (pda_cons (pd_name 2) (pda_cons pd_int pda_nil))) pda_nil))) pda_nil)))))
      (pds_cons (pds_set (i := 3) sc_split_rest.nd (px_of (pd_make (n := 0) [false] M_Tally_init G_Tally_init (hr.mono (by decide)) rfl T.g_Tally b_Tally_init (pda_cons (pd_name 0) pda_nil))))
      (pds_cons (pds_expr (px_meth (n := 0) 3 [true, false, false] rfl (by first | exact Or.inl rfl | exact Or.inr (Or.inl rfl) | exact Or.inr (Or.inr rfl)) (by decide) (by decide) T.cl_Tally m_Tally_rests G_Tally_rests (hr.mono (by decide)) b_Tally_rests (pxa_of (pda_cons (pd_name 1) (pda_cons (pd_name 2) pda_nil)))))
      (pds_one (pds_retF (n := 0) T.cl_Tally T.na_Tally_times (pd_name 3))))))
theorem okr_split_rest {f : Addr} {fd : FuncData} (T : Txt K mg) (F : Fun K "split_rest" "split_rest" s_split_rest f fd) (DR_look_at : Dr P w K mg base "look_at" 4 ["n", "some"] g_look_at) : FnG P w K mg base (L2.CX P w) 5 f fd ["n", "a", "b"] (SpR K g_split_rest) := by
  obtain ⟨aR_look_at, dR_look_at, mR_look_at, kR_look_at, bR_look_at, GR_look_at⟩ := DR_look_at.ex
  refine def_r (k := 4) (N := N_split_rest) (lk := lk_split_rest) (gS := r_split_rest) F sc_split_rest fun cdv A outer s H E hr => ?_
  exact (prs_one (prs_expr (pre_call [false, false] GR_look_at (hr.mono (by decide)) (takes_of rfl rfl rfl rfl) rfl mR_look_at kR_look_at bR_look_at (pda_cons (pd_name 0) (pda_cons (pd_lst (pda_cons (pd_tup (pda_cons (pd_name 1) (pda_cons pd_int pda_nil))) (pda_cons (pd_tup (pda_cons (pd_name 2) (pda_cons pd_int pda_nil))) pda_nil))) pda_nil)))))
theorem ok_Tally_against {f : Addr} {fd : FuncData} (T : Txt K mg) (F : Fun K "against" "Tally.against" s_Tally_against f fd) (D_names_of : Df P w K mg base "names_of" 1 ["group"] f_names_of) (D_Tally_pair : Dm P w K mg base (ca.at_ 0) "pair" 2 ["self", "one", "other", "known"] f_Tally_pair) : FnG P w K mg base CX0 3 f fd ["self", "one", "group", "known"] (SpI K f_Tally_against) := by
  obtain ⟨a_names_of, d_names_of, m_names_of, k_names_of, b_names_of, G_names_of⟩ := D_names_of.ex
  obtain ⟨a_Tally_pair, d_Tally_pair, m_Tally_pair, b_Tally_pair, G_Tally_pair⟩ := D_Tally_pair.ex
  refine def_ok (k := 2) (N := N_Tally_against) (lk := lk_Tally_against) (fS := F_Tally_against) F sc_Tally_against fun cdv A outer s H E hr => ?_
  exact (pds_one (pds_for PassesOwn.never rfl (pdi_lst (px_of (pd_call [false] G_names_of (hr.mono (by decide)) rfl m_names_of k_names_of b_names_of (pda_cons (pd_name 2) pda_nil)))) (pt_nm sc_Tally_against.nd)
      (pds_one (pds_if (pxt_of (pdt_cmp (op_eqD hr.units) s_eq (pd_bin op_and s_and (pd_bin op_shr s_shr (pd_name 3) (pd_name 4)) pd_int) pd_int (nomark _)))
      (pds_cons (pds_expr (px_meth (n := 0) 0 [true, false, false, false] rfl (by first | exact Or.inl rfl | exact Or.inr (Or.inl rfl) | exact Or.inr (Or.inr rfl)) (by decide) (by decide) T.cl_Tally m_Tally_pair G_Tally_pair (hr.mono (by decide)) b_Tally_pair (pxa_of (pda_cons (pd_name 1) (pda_cons (pd_name 4) (pda_cons (pd_name 3) pda_nil))))))
      (pds_one (pds_set (i := 3) sc_Tally_against.nd (px_of (pd_bin op_or s_or (pd_name 3) (pd_bin op_shl s_shl pd_int (pd_name 4)))))))
      pds_nil))))
theorem ok_Tally_shared {f : Addr} {fd : FuncData} (T : Txt K mg) (F : Fun K "shared" "Tally.shared" s_Tally_shared f fd) (D_Tally_rests : Dm P w K mg base (ca.at_ 0) "rests" 4 ["self", "group", "known"] f_Tally_rests) (D_names_of : Df P w K mg base "names_of" 1 ["group"] f_names_of) (D_Tally_against : Dm P w K mg base (ca.at_ 0) "against" 3 ["self", "one", "group", "known"] f_Tally_against) : FnG P w K mg base CX0 5 f fd ["self", "group", "other", "known"] (SpI K f_Tally_shared) := by
  obtain ⟨a_Tally_rests, d_Tally_rests, m_Tally_rests, b_Tally_rests, G_Tally_rests⟩ := D_Tally_rests.ex
  obtain ⟨a_names_of, d_names_of, m_names_of, k_names_of, b_names_of, G_names_of⟩ := D_names_of.ex
  obtain ⟨a_Tally_against, d_Tally_against, m_Tally_against, b_Tally_against, G_Tally_against⟩ := D_Tally_against.ex
  refine def_ok (k := 4) (N := N_Tally_shared) (lk := lk_Tally_shared) (fS := F_Tally_shared) F sc_Tally_shared fun cdv A outer s H E hr => ?_
  exact (pds_cons (pds_expr (px_meth (n := 0) 0 [true, false, false] rfl (by first | exact Or.inl rfl | exact Or.inr (Or.inl rfl) | exact Or.inr (Or.inr rfl)) (by decide) (by decide) T.cl_Tally m_Tally_rests G_Tally_rests (hr.mono (by decide)) b_Tally_rests (pxa_of (pda_cons (pd_bin op_and s_and (pd_name 1) (pd_name 2)) (pda_cons (pd_name 3) pda_nil)))))
      (pds_cons (pds_set (i := 3) sc_Tally_shared.nd (px_of (pd_bin op_or s_or (pd_name 3) (pd_bin op_and s_and (pd_name 1) (pd_name 2)))))
      (pds_one (pds_for PassesOwn.never rfl (pdi_lst (px_of (pd_call [false] G_names_of (hr.mono (by decide)) rfl m_names_of k_names_of b_names_of (pda_cons (pd_name 1) pda_nil)))) (pt_nm sc_Tally_shared.nd)
      (pds_one (pds_if (pxt_of (pdt_cmp (op_eqD hr.units) s_eq (pd_bin op_and s_and (pd_bin op_shr s_shr (pd_name 3) (pd_name 4)) pd_int) pd_int (nomark _)))
      (pds_cons (pds_expr (px_meth (n := 0) 0 [true, false, false, false] rfl (by first | exact Or.inl rfl | exact Or.inr (Or.inl rfl) | exact Or.inr (Or.inr rfl)) (by decide) (by decide) T.cl_Tally m_Tally_against G_Tally_against (hr.mono (by decide)) b_Tally_against (pxa_of (pda_cons (pd_name 4) (pda_cons (pd_name 2) (pda_cons (pd_name 3) pda_nil))))))
      (pds_one (pds_set (i := 3) sc_Tally_shared.nd (px_of (pd_bin op_or s_or (pd_name 3) (pd_bin op_shl s_shl pd_int (pd_name 4)))))))
      pds_nil))))))
theorem ok_split_shared {f : Addr} {fd : FuncData} (T : Txt K mg) (F : Fun K "split_shared" "split_shared" s_split_shared f fd) (D_look_at : Df P w K mg base "look_at" 2 ["n", "some"] f_look_at) (D_Tally_init : Di P w K mg base (ca.at_ 0) 3 ["self", "n"] f_Tally_init) (D_Tally_shared : Dm P w K mg base (ca.at_ 0) "shared" 5 ["self", "group", "other", "known"] f_Tally_shared) : FnG P w K mg base CX0 6 f fd ["n", "a", "b", "c"] (SpI K f_split_shared) := by
  obtain ⟨a_look_at, d_look_at, m_look_at, k_look_at, b_look_at, G_look_at⟩ := D_look_at.ex
  obtain ⟨a_Tally_init, d_Tally_init, M_Tally_init, b_Tally_init, G_Tally_init⟩ := D_Tally_init.ex
  obtain ⟨a_Tally_shared, d_Tally_shared, m_Tally_shared, b_Tally_shared, G_Tally_shared⟩ := D_Tally_shared.ex
  refine def_ok (k := 5) (N := N_split_shared) (lk := lk_split_shared) (fS := F_split_shared) F sc_split_shared fun cdv A outer s H E hr => ?_
  exact (pds_cons (pds_expr (px_of (pd_call [false, false] G_look_at (hr.mono (by decide)) rfl m_look_at k_look_at b_look_at (pda_cons (pd_name 0) (pda_cons (pd_lst (pda_cons (pd_tup (pda_cons (pd_name 1) (pda_cons pd_int pda_nil))) (pda_cons (pd_tup (pda_cons (pd_name 2) (pda_cons pd_int pda_nil))) (pda_cons (pd_tup (pda_cons (pd_name 3) (pda_cons pd_int pda_nil))) pda_nil)))) pda_nil)))))
      (pds_cons (pds_set (i := 4) sc_split_shared.nd (px_of (pd_make (n := 0) [false] M_Tally_init G_Tally_init (hr.mono (by decide)) rfl T.g_Tally b_Tally_init (pda_cons (pd_name 0) pda_nil))))
      (pds_cons (pds_expr (px_meth (n := 0) 4 [true, false, false, false] rfl (by first | exact Or.inl rfl | exact Or.inr (Or.inl rfl) | exact Or.inr (Or.inr rfl)) (by decide) (by decide) T.cl_Tally m_Tally_shared G_Tally_shared (hr.mono (by decide)) b_Tally_shared (pxa_of (pda_cons (pd_name 1) (pda_cons (pd_name 2) (pda_cons (pd_name 3) pda_nil))))))
      (pds_one (pds_retF (n := 0) T.cl_Tally T.na_Tally_times (pd_name 4))))))
theorem okr_split_shared {f : Addr} {fd : FuncData} (T : Txt K mg) (F : Fun K "split_shared" "split_shared" s_split_shared f fd) (DR_look_at : Dr P w K mg base "look_at" 4 ["n", "some"] g_look_at) : FnG P w K mg base (L2.CX P w) 5 f fd ["n", "a", "b", "c"] (SpR K g_split_shared) := by
  obtain ⟨aR_look_at, dR_look_at, mR_look_at, kR_look_at, bR_look_at, GR_look_at⟩ := DR_look_at.ex
  refine def_r (k := 4) (N := N_split_shared) (lk := lk_split_shared) (gS := r_split_shared) F sc_split_shared fun cdv A outer s H E hr => ?_
  exact (prs_one (prs_expr (pre_call [false, false] GR_look_at (hr.mono (by decide)) (takes_of rfl rfl rfl rfl) rfl mR_look_at kR_look_at bR_look_at (pda_cons (pd_name 0) (pda_cons (pd_lst (pda_cons (pd_tup (pda_cons (pd_name 1) (pda_cons pd_int pda_nil))) (pda_cons (pd_tup (pda_cons (pd_name 2) (pda_cons pd_int pda_nil))) (pda_cons (pd_tup (pda_cons (pd_name 3) (pda_cons pd_int pda_nil))) pda_nil)))) pda_nil)))))
theorem ok_tells {f : Addr} {fd : FuncData} (T : Txt K mg) (F : Fun K "tells" "tells" s_tells f fd) (D_look_at : Df P w K mg base "look_at" 2 ["n", "some"] f_look_at) (D_rest : Df P w K mg base "rest" 3 ["n", "a", "b"] f_rest) : FnG P w K mg base CX0 4 f fd ["n", "a", "b"] (SpI K f_tells) := by
  obtain ⟨a_look_at, d_look_at, m_look_at, k_look_at, b_look_at, G_look_at⟩ := D_look_at.ex
  obtain ⟨a_rest, d_rest, m_rest, k_rest, b_rest, G_rest⟩ := D_rest.ex
  refine def_ok (k := 3) (N := N_tells) (lk := lk_tells) (fS := F_tells) F sc_tells fun cdv A outer s H E hr => ?_
  exact (pds_cons (pds_expr (px_of (pd_call [false, false] G_look_at (hr.mono (by decide)) rfl m_look_at k_look_at b_look_at (pda_cons (pd_name 0) (pda_cons (pd_lst (pda_cons (pd_tup (pda_cons (pd_name 1) (pda_cons pd_int pda_nil))) (pda_cons (pd_tup (pda_cons (pd_name 2) (pda_cons pd_int pda_nil))) pda_nil))) pda_nil)))))
      (pds_one (pds_ret (px_of (pd_tup (pda_cons (pd_call [false, false, false] G_rest (hr.mono (by decide)) rfl m_rest k_rest b_rest (pda_cons (pd_name 0) (pda_cons (pd_name 2) (pda_cons (pd_name 1) pda_nil)))) (pda_cons pd_str (pda_cons pd_int pda_nil))))))))
theorem okr_tells {f : Addr} {fd : FuncData} (T : Txt K mg) (F : Fun K "tells" "tells" s_tells f fd) (D_look_at : Df P w K mg base "look_at" 2 ["n", "some"] f_look_at) (DR_look_at : Dr P w K mg base "look_at" 4 ["n", "some"] g_look_at) (DR_rest : Dr P w K mg base "rest" 5 ["n", "a", "b"] g_rest) : FnG P w K mg base (L2.CX P w) 6 f fd ["n", "a", "b"] (SpR K g_tells) := by
  obtain ⟨a_look_at, d_look_at, m_look_at, k_look_at, b_look_at, G_look_at⟩ := D_look_at.ex
  obtain ⟨aR_look_at, dR_look_at, mR_look_at, kR_look_at, bR_look_at, GR_look_at⟩ := DR_look_at.ex
  obtain ⟨aR_rest, dR_rest, mR_rest, kR_rest, bR_rest, GR_rest⟩ := DR_rest.ex
  refine def_r (k := 5) (N := N_tells) (lk := lk_tells) (gS := r_tells) F sc_tells fun cdv A outer s H E hr => ?_
  exact (prs_seq (prs_expr (pre_call [false, false] GR_look_at (hr.mono (by decide)) (takes_of rfl rfl rfl rfl) rfl mR_look_at kR_look_at bR_look_at (pda_cons (pd_name 0) (pda_cons (pd_lst (pda_cons (pd_tup (pda_cons (pd_name 1) (pda_cons pd_int pda_nil))) (pda_cons (pd_tup (pda_cons (pd_name 2) (pda_cons pd_int pda_nil))) pda_nil))) pda_nil))))
      (pds_expr (px_of (pd_call [false, false] G_look_at (hr.mono (by decide)) rfl m_look_at k_look_at b_look_at (pda_cons (pd_name 0) (pda_cons (pd_lst (pda_cons (pd_tup (pda_cons (pd_name 1) (pda_cons pd_int pda_nil))) (pda_cons (pd_tup (pda_cons (pd_name 2) (pda_cons pd_int pda_nil))) pda_nil))) pda_nil)))))
      (prs_one (prs_ret (pre_tup1 (pre_call [false, false, false] GR_rest (hr.mono (by decide)) (takes_of rfl rfl rfl rfl) rfl mR_rest kR_rest bR_rest (pda_cons (pd_name 0) (pda_cons (pd_name 2) (pda_cons (pd_name 1) pda_nil)))) (pda_cons pd_str (pda_cons pd_int pda_nil))))))
theorem ok__law_asked {f : Addr} {fd : FuncData} (T : Txt K mg) (F : Fun K "_law_asked" "_law_asked" s__law_asked f fd) (D_greatest : Df P w K mg base "greatest" 1 ["n"] f_greatest) (D_unsure : Df P w K mg base "unsure" 3 ["n", "a"] f_unsure) (D_rest : Df P w K mg base "rest" 3 ["n", "a", "b"] f_rest) (D_shared : Df P w K mg base "shared" 3 ["n", "a", "b", "c"] f_shared) (D_split_rest : Df P w K mg base "split_rest" 5 ["n", "a", "b"] f_split_rest) (D_split_shared : Df P w K mg base "split_shared" 6 ["n", "a", "b", "c"] f_split_shared) (D_tells : Df P w K mg base "tells" 4 ["n", "a", "b"] f_tells) (D_silent : Df P w K mg base "silent" 4 ["n", "a", "b", "c"] f_silent) : FnG P w K mg base CX0 7 f fd ["_law_turn", "_law_n", "_law_some"] (SpI K f__law_asked) := by
  obtain ⟨a_greatest, d_greatest, m_greatest, k_greatest, b_greatest, G_greatest⟩ := D_greatest.ex
  obtain ⟨a_unsure, d_unsure, m_unsure, k_unsure, b_unsure, G_unsure⟩ := D_unsure.ex
  obtain ⟨a_rest, d_rest, m_rest, k_rest, b_rest, G_rest⟩ := D_rest.ex
  obtain ⟨a_shared, d_shared, m_shared, k_shared, b_shared, G_shared⟩ := D_shared.ex
  obtain ⟨a_split_rest, d_split_rest, m_split_rest, k_split_rest, b_split_rest, G_split_rest⟩ := D_split_rest.ex
  obtain ⟨a_split_shared, d_split_shared, m_split_shared, k_split_shared, b_split_shared, G_split_shared⟩ := D_split_shared.ex
  obtain ⟨a_tells, d_tells, m_tells, k_tells, b_tells, G_tells⟩ := D_tells.ex
  obtain ⟨a_silent, d_silent, m_silent, k_silent, b_silent, G_silent⟩ := D_silent.ex
  refine def_ok (k := 6) (N := N__law_asked) (lk := lk__law_asked) (fS := F__law_asked) F sc__law_asked fun cdv A outer s H E hr => ?_
  exact (pds_cons (pds_if (pxt_of (pdt_cmp (op_eqD hr.units) s_eq (pd_name 0) pd_int (nomark _)))
      (pds_one (pds_ret (px_of (pd_call [false] G_greatest (hr.mono (by decide)) rfl m_greatest k_greatest b_greatest (pda_cons (pd_name 1) pda_nil)))))
      pds_nil)
      (pds_cons (pds_if (pxt_of (pdt_cmp (op_eqD hr.units) s_eq (pd_name 0) pd_int (nomark _)))
      (pds_one (pds_ret (px_of (pd_call [false, false] G_unsure (hr.mono (by decide)) rfl m_unsure k_unsure b_unsure (pda_cons (pd_name 1) (pda_cons (pd_ixr ix_seq s_idx (pd_name 2) pd_int (fun _ _ => rfl)) pda_nil))))))
      pds_nil)
      (pds_cons (pds_if (pxt_of (pdt_cmp (op_eqD hr.units) s_eq (pd_name 0) pd_int (nomark _)))
      (pds_one (pds_ret (px_of (pd_call [false, false, false] G_rest (hr.mono (by decide)) rfl m_rest k_rest b_rest (pda_cons (pd_name 1) (pda_cons (pd_ixr ix_seq s_idx (pd_name 2) pd_int (fun _ _ => rfl)) (pda_cons (pd_ixr ix_seq s_idx (pd_name 2) pd_int (fun _ _ => rfl)) pda_nil)))))))
      pds_nil)
      (pds_cons (pds_if (pxt_of (pdt_cmp (op_eqD hr.units) s_eq (pd_name 0) pd_int (nomark _)))
      (pds_one (pds_ret (px_of (pd_call [false, false, false, false] G_shared (hr.mono (by decide)) rfl m_shared k_shared b_shared (pda_cons (pd_name 1) (pda_cons (pd_ixr ix_seq s_idx (pd_name 2) pd_int (fun _ _ => rfl)) (pda_cons (pd_ixr ix_seq s_idx (pd_name 2) pd_int (fun _ _ => rfl)) (pda_cons (pd_ixr ix_seq s_idx (pd_name 2) pd_int (fun _ _ => rfl)) pda_nil))))))))
      pds_nil)
      (pds_cons (pds_if (pxt_of (pdt_cmp (op_eqD hr.units) s_eq (pd_name 0) pd_int (nomark _)))
      (pds_one (pds_ret (px_of (pd_call [false, false, false] G_split_rest (hr.mono (by decide)) rfl m_split_rest k_split_rest b_split_rest (pda_cons (pd_name 1) (pda_cons (pd_ixr ix_seq s_idx (pd_name 2) pd_int (fun _ _ => rfl)) (pda_cons (pd_ixr ix_seq s_idx (pd_name 2) pd_int (fun _ _ => rfl)) pda_nil)))))))
      pds_nil)
      (pds_cons (pds_if (pxt_of (pdt_cmp (op_eqD hr.units) s_eq (pd_name 0) pd_int (nomark _)))
      (pds_one (pds_ret (px_of (pd_call [false, false, false, false] G_split_shared (hr.mono (by decide)) rfl m_split_shared k_split_shared b_split_shared (pda_cons (pd_name 1) (pda_cons (pd_ixr ix_seq s_idx (pd_name 2) pd_int (fun _ _ => rfl)) (pda_cons (pd_ixr ix_seq s_idx (pd_name 2) pd_int (fun _ _ => rfl)) (pda_cons (pd_ixr ix_seq s_idx (pd_name 2) pd_int (fun _ _ => rfl)) pda_nil))))))))
      pds_nil)
      (pds_cons (pds_if (pxt_of (pdt_cmp (op_eqD hr.units) s_eq (pd_name 0) pd_int (nomark _)))
      (pds_one (pds_ret (px_of (pd_call [false, false, false] G_tells (hr.mono (by decide)) rfl m_tells k_tells b_tells (pda_cons (pd_name 1) (pda_cons (pd_ixr ix_seq s_idx (pd_name 2) pd_int (fun _ _ => rfl)) (pda_cons (pd_ixr ix_seq s_idx (pd_name 2) pd_int (fun _ _ => rfl)) pda_nil)))))))
      pds_nil)
      (pds_one (pds_ret (px_of (pd_call [false, false, false, false] G_silent (hr.mono (by decide)) rfl m_silent k_silent b_silent (pda_cons (pd_name 1) (pda_cons (pd_ixr ix_seq s_idx (pd_name 2) pd_int (fun _ _ => rfl)) (pda_cons (pd_ixr ix_seq s_idx (pd_name 2) pd_int (fun _ _ => rfl)) (pda_cons (pd_ixr ix_seq s_idx (pd_name 2) pd_int (fun _ _ => rfl)) pda_nil)))))))))))))))
theorem okr__law_asked {f : Addr} {fd : FuncData} (T : Txt K mg) (F : Fun K "_law_asked" "_law_asked" s__law_asked f fd) (D_greatest : Df P w K mg base "greatest" 1 ["n"] f_greatest) (D_unsure : Df P w K mg base "unsure" 3 ["n", "a"] f_unsure) (D_rest : Df P w K mg base "rest" 3 ["n", "a", "b"] f_rest) (D_shared : Df P w K mg base "shared" 3 ["n", "a", "b", "c"] f_shared) (D_split_rest : Df P w K mg base "split_rest" 5 ["n", "a", "b"] f_split_rest) (D_split_shared : Df P w K mg base "split_shared" 6 ["n", "a", "b", "c"] f_split_shared) (D_tells : Df P w K mg base "tells" 4 ["n", "a", "b"] f_tells) (DR_greatest : Dr P w K mg base "greatest" 3 ["n"] g_greatest) (DR_unsure : Dr P w K mg base "unsure" 5 ["n", "a"] g_unsure) (DR_rest : Dr P w K mg base "rest" 5 ["n", "a", "b"] g_rest) (DR_shared : Dr P w K mg base "shared" 5 ["n", "a", "b", "c"] g_shared) (DR_split_rest : Dr P w K mg base "split_rest" 5 ["n", "a", "b"] g_split_rest) (DR_split_shared : Dr P w K mg base "split_shared" 5 ["n", "a", "b", "c"] g_split_shared) (DR_tells : Dr P w K mg base "tells" 6 ["n", "a", "b"] g_tells) (DR_silent : Dr P w K mg base "silent" 6 ["n", "a", "b", "c"] g_silent) : FnG P w K mg base (L2.CX P w) 7 f fd ["_law_turn", "_law_n", "_law_some"] (SpR K g__law_asked) := by
  obtain ⟨a_greatest, d_greatest, m_greatest, k_greatest, b_greatest, G_greatest⟩ := D_greatest.ex
  obtain ⟨a_unsure, d_unsure, m_unsure, k_unsure, b_unsure, G_unsure⟩ := D_unsure.ex
  obtain ⟨a_rest, d_rest, m_rest, k_rest, b_rest, G_rest⟩ := D_rest.ex
  obtain ⟨a_shared, d_shared, m_shared, k_shared, b_shared, G_shared⟩ := D_shared.ex
  obtain ⟨a_split_rest, d_split_rest, m_split_rest, k_split_rest, b_split_rest, G_split_rest⟩ := D_split_rest.ex
  obtain ⟨a_split_shared, d_split_shared, m_split_shared, k_split_shared, b_split_shared, G_split_shared⟩ := D_split_shared.ex
  obtain ⟨a_tells, d_tells, m_tells, k_tells, b_tells, G_tells⟩ := D_tells.ex
  obtain ⟨aR_greatest, dR_greatest, mR_greatest, kR_greatest, bR_greatest, GR_greatest⟩ := DR_greatest.ex
  obtain ⟨aR_unsure, dR_unsure, mR_unsure, kR_unsure, bR_unsure, GR_unsure⟩ := DR_unsure.ex
  obtain ⟨aR_rest, dR_rest, mR_rest, kR_rest, bR_rest, GR_rest⟩ := DR_rest.ex
  obtain ⟨aR_shared, dR_shared, mR_shared, kR_shared, bR_shared, GR_shared⟩ := DR_shared.ex
  obtain ⟨aR_split_rest, dR_split_rest, mR_split_rest, kR_split_rest, bR_split_rest, GR_split_rest⟩ := DR_split_rest.ex
  obtain ⟨aR_split_shared, dR_split_shared, mR_split_shared, kR_split_shared, bR_split_shared, GR_split_shared⟩ := DR_split_shared.ex
  obtain ⟨aR_tells, dR_tells, mR_tells, kR_tells, bR_tells, GR_tells⟩ := DR_tells.ex
  obtain ⟨aR_silent, dR_silent, mR_silent, kR_silent, bR_silent, GR_silent⟩ := DR_silent.ex
  refine def_r (k := 6) (N := N__law_asked) (lk := lk__law_asked) (gS := r__law_asked) F sc__law_asked fun cdv A outer s H E hr => ?_
  exact (prs_seq (prs_if (pdt_cmp (op_eqD hr.units) s_eq (pd_name 0) pd_int (nomark _))
      (prs_one (prs_ret (pre_call [false] GR_greatest (hr.mono (by decide)) (takes_of rfl rfl rfl rfl) rfl mR_greatest kR_greatest bR_greatest (pda_cons (pd_name 1) pda_nil))))
      prs_no)
      (pds_if (pxt_of (pdt_cmp (op_eqD hr.units) s_eq (pd_name 0) pd_int (nomark _)))
      (pds_one (pds_ret (px_of (pd_call [false] G_greatest (hr.mono (by decide)) rfl m_greatest k_greatest b_greatest (pda_cons (pd_name 1) pda_nil)))))
      pds_nil)
      (prs_seq (prs_if (pdt_cmp (op_eqD hr.units) s_eq (pd_name 0) pd_int (nomark _))
      (prs_one (prs_ret (pre_call [false, false] GR_unsure (hr.mono (by decide)) (takes_of rfl rfl rfl rfl) rfl mR_unsure kR_unsure bR_unsure (pda_cons (pd_name 1) (pda_cons (pd_ixr ix_seq s_idx (pd_name 2) pd_int (fun _ _ => rfl)) pda_nil)))))
      prs_no)
      (pds_if (pxt_of (pdt_cmp (op_eqD hr.units) s_eq (pd_name 0) pd_int (nomark _)))
      (pds_one (pds_ret (px_of (pd_call [false, false] G_unsure (hr.mono (by decide)) rfl m_unsure k_unsure b_unsure (pda_cons (pd_name 1) (pda_cons (pd_ixr ix_seq s_idx (pd_name 2) pd_int (fun _ _ => rfl)) pda_nil))))))
      pds_nil)
      (prs_seq (prs_if (pdt_cmp (op_eqD hr.units) s_eq (pd_name 0) pd_int (nomark _))
      (prs_one (prs_ret (pre_call [false, false, false] GR_rest (hr.mono (by decide)) (takes_of rfl rfl rfl rfl) rfl mR_rest kR_rest bR_rest (pda_cons (pd_name 1) (pda_cons (pd_ixr ix_seq s_idx (pd_name 2) pd_int (fun _ _ => rfl)) (pda_cons (pd_ixr ix_seq s_idx (pd_name 2) pd_int (fun _ _ => rfl)) pda_nil))))))
      prs_no)
      (pds_if (pxt_of (pdt_cmp (op_eqD hr.units) s_eq (pd_name 0) pd_int (nomark _)))
      (pds_one (pds_ret (px_of (pd_call [false, false, false] G_rest (hr.mono (by decide)) rfl m_rest k_rest b_rest (pda_cons (pd_name 1) (pda_cons (pd_ixr ix_seq s_idx (pd_name 2) pd_int (fun _ _ => rfl)) (pda_cons (pd_ixr ix_seq s_idx (pd_name 2) pd_int (fun _ _ => rfl)) pda_nil)))))))
      pds_nil)
      (prs_seq (prs_if (pdt_cmp (op_eqD hr.units) s_eq (pd_name 0) pd_int (nomark _))
      (prs_one (prs_ret (pre_call [false, false, false, false] GR_shared (hr.mono (by decide)) (takes_of rfl rfl rfl rfl) rfl mR_shared kR_shared bR_shared (pda_cons (pd_name 1) (pda_cons (pd_ixr ix_seq s_idx (pd_name 2) pd_int (fun _ _ => rfl)) (pda_cons (pd_ixr ix_seq s_idx (pd_name 2) pd_int (fun _ _ => rfl)) (pda_cons (pd_ixr ix_seq s_idx (pd_name 2) pd_int (fun _ _ => rfl)) pda_nil)))))))
      prs_no)
      (pds_if (pxt_of (pdt_cmp (op_eqD hr.units) s_eq (pd_name 0) pd_int (nomark _)))
      (pds_one (pds_ret (px_of (pd_call [false, false, false, false] G_shared (hr.mono (by decide)) rfl m_shared k_shared b_shared (pda_cons (pd_name 1) (pda_cons (pd_ixr ix_seq s_idx (pd_name 2) pd_int (fun _ _ => rfl)) (pda_cons (pd_ixr ix_seq s_idx (pd_name 2) pd_int (fun _ _ => rfl)) (pda_cons (pd_ixr ix_seq s_idx (pd_name 2) pd_int (fun _ _ => rfl)) pda_nil))))))))
      pds_nil)
      (prs_seq (prs_if (pdt_cmp (op_eqD hr.units) s_eq (pd_name 0) pd_int (nomark _))
      (prs_one (prs_ret (pre_call [false, false, false] GR_split_rest (hr.mono (by decide)) (takes_of rfl rfl rfl rfl) rfl mR_split_rest kR_split_rest bR_split_rest (pda_cons (pd_name 1) (pda_cons (pd_ixr ix_seq s_idx (pd_name 2) pd_int (fun _ _ => rfl)) (pda_cons (pd_ixr ix_seq s_idx (pd_name 2) pd_int (fun _ _ => rfl)) pda_nil))))))
      prs_no)
      (pds_if (pxt_of (pdt_cmp (op_eqD hr.units) s_eq (pd_name 0) pd_int (nomark _)))
      (pds_one (pds_ret (px_of (pd_call [false, false, false] G_split_rest (hr.mono (by decide)) rfl m_split_rest k_split_rest b_split_rest (pda_cons (pd_name 1) (pda_cons (pd_ixr ix_seq s_idx (pd_name 2) pd_int (fun _ _ => rfl)) (pda_cons (pd_ixr ix_seq s_idx (pd_name 2) pd_int (fun _ _ => rfl)) pda_nil)))))))
      pds_nil)
      (prs_seq (prs_if (pdt_cmp (op_eqD hr.units) s_eq (pd_name 0) pd_int (nomark _))
      (prs_one (prs_ret (pre_call [false, false, false, false] GR_split_shared (hr.mono (by decide)) (takes_of rfl rfl rfl rfl) rfl mR_split_shared kR_split_shared bR_split_shared (pda_cons (pd_name 1) (pda_cons (pd_ixr ix_seq s_idx (pd_name 2) pd_int (fun _ _ => rfl)) (pda_cons (pd_ixr ix_seq s_idx (pd_name 2) pd_int (fun _ _ => rfl)) (pda_cons (pd_ixr ix_seq s_idx (pd_name 2) pd_int (fun _ _ => rfl)) pda_nil)))))))
      prs_no)
      (pds_if (pxt_of (pdt_cmp (op_eqD hr.units) s_eq (pd_name 0) pd_int (nomark _)))
      (pds_one (pds_ret (px_of (pd_call [false, false, false, false] G_split_shared (hr.mono (by decide)) rfl m_split_shared k_split_shared b_split_shared (pda_cons (pd_name 1) (pda_cons (pd_ixr ix_seq s_idx (pd_name 2) pd_int (fun _ _ => rfl)) (pda_cons (pd_ixr ix_seq s_idx (pd_name 2) pd_int (fun _ _ => rfl)) (pda_cons (pd_ixr ix_seq s_idx (pd_name 2) pd_int (fun _ _ => rfl)) pda_nil))))))))
      pds_nil)
      (prs_seq (prs_if (pdt_cmp (op_eqD hr.units) s_eq (pd_name 0) pd_int (nomark _))
      (prs_one (prs_ret (pre_call [false, false, false] GR_tells (hr.mono (by decide)) (takes_of rfl rfl rfl rfl) rfl mR_tells kR_tells bR_tells (pda_cons (pd_name 1) (pda_cons (pd_ixr ix_seq s_idx (pd_name 2) pd_int (fun _ _ => rfl)) (pda_cons (pd_ixr ix_seq s_idx (pd_name 2) pd_int (fun _ _ => rfl)) pda_nil))))))
      prs_no)
      (pds_if (pxt_of (pdt_cmp (op_eqD hr.units) s_eq (pd_name 0) pd_int (nomark _)))
      (pds_one (pds_ret (px_of (pd_call [false, false, false] G_tells (hr.mono (by decide)) rfl m_tells k_tells b_tells (pda_cons (pd_name 1) (pda_cons (pd_ixr ix_seq s_idx (pd_name 2) pd_int (fun _ _ => rfl)) (pda_cons (pd_ixr ix_seq s_idx (pd_name 2) pd_int (fun _ _ => rfl)) pda_nil)))))))
      pds_nil)
      (prs_one (prs_ret (pre_call [false, false, false, false] GR_silent (hr.mono (by decide)) (takes_of rfl rfl rfl rfl) rfl mR_silent kR_silent bR_silent (pda_cons (pd_name 1) (pda_cons (pd_ixr ix_seq s_idx (pd_name 2) pd_int (fun _ _ => rfl)) (pda_cons (pd_ixr ix_seq s_idx (pd_name 2) pd_int (fun _ _ => rfl)) (pda_cons (pd_ixr ix_seq s_idx (pd_name 2) pd_int (fun _ _ => rfl)) pda_nil))))))))))))))
theorem ok__law_refused {f : Addr} {fd : FuncData} (T : Txt K mg) (F : Fun K "_law_refused" "_law_refused" s__law_refused f fd) (D__law_asked : Df P w K mg base "_law_asked" 7 ["_law_turn", "_law_n", "_law_some"] f__law_asked) (D__law_kind : Df P w K mg base "_law_kind" 1 ["_law_error"] f__law_kind) (DR__law_asked : Dr P w K mg base "_law_asked" 7 ["_law_turn", "_law_n", "_law_some"] g__law_asked) : FnG P w K mg base CX0 8 f fd ["_law_turn", "_law_n", "_law_some"] (SpI K f__law_refused) := by
  obtain ⟨a__law_asked, d__law_asked, m__law_asked, k__law_asked, b__law_asked, G__law_asked⟩ := D__law_asked.ex
  obtain ⟨a__law_kind, d__law_kind, m__law_kind, k__law_kind, b__law_kind, G__law_kind⟩ := D__law_kind.ex
  obtain ⟨aR__law_asked, dR__law_asked, mR__law_asked, kR__law_asked, bR__law_asked, GR__law_asked⟩ := DR__law_asked.ex
  refine def_ok (k := 7) (N := N__law_refused) (lk := lk__law_refused) (fS := F__law_refused) F sc__law_refused fun cdv A outer s H E hr => ?_
  exact (pds_cons (pds_set (i := 3) sc__law_refused.nd (px_of pd_non))
      (pds_cons (pds_set (i := 4) sc__law_refused.nd (px_of pd_non))
      (pds_cons (pds_try (lk := lk__law_refused) (okC := okX [1, 2]) (i := 5) (j := 3) (gs := R__law_refused_0) (f := B__law_refused_1) rfl rfl sc__law_refused.nd rfl rfl rfl (by first | exact .inl rfl | exact .inr rfl) (by first | exact .inl rfl | exact .inr rfl) (by first | exact Or.inl rfl | exact Or.inr (Or.inl rfl) | exact Or.inr (Or.inr rfl)) (by decide) (by decide) ⟨rfl, by decide, .inl T.g_TellError⟩ rfl (okX_ok (List.forall_mem_cons.mpr ⟨T.em_NoCount_TellError, List.forall_mem_cons.mpr ⟨T.em_NoGroup_TellError, fun _ h => by cases h⟩⟩))
      (fun W pn xe tk po => (prs_one (prs_set (i := 4) sc__law_refused.nd (pre_call [false, false, false] GR__law_asked (hr.mono (by decide)) tk rfl mR__law_asked kR__law_asked bR__law_asked (pda_cons (pd_name 0) (pda_cons (pd_name 1) (pda_cons (pd_name 2) pda_nil)))))))
      (fun pn xe po => (pds_one (pds_set (i := 4) sc__law_refused.nd (px_of (pd_call [false, false, false] G__law_asked (hr.mono (by decide)) rfl m__law_asked k__law_asked b__law_asked (pda_cons (pd_name 0) (pda_cons (pd_name 1) (pda_cons (pd_name 2) pda_nil)))))))))
      (pds_cons (pds_if (pxt_of (PDW.t (pdw_and (pdt_cmp op_isN s_isN (pd_name 3) pd_non (nomark _)) (pdw_and1 (PDW.t (pdw_or (pdt_cmp op_lt s_lt (pd_name 1) pd_int (nomark _)) (pdw_or1 (PDW.t (pdw_and (pdt_cmp (op_eqD hr.units) s_eq (pd_name 0) pd_int (nomark _)) (pdw_and1 (pdt_cmp (op_neD hr.units) s_ne (pd_name 4) (pd_bin op_sub s_sub (pd_bin op_shl s_shl pd_int (pd_name 1)) pd_int) (nomark _))))))))))))
      (pds_one (pds_ret (px_of (pd_lst (pda_cons pd_str pda_nil)))))
      pds_nil)
      (pds_one (pds_ret (px_of (pd_call [false] G__law_kind (hr.mono (by decide)) rfl m__law_kind k__law_kind b__law_kind (pda_cons (pd_name 3) pda_nil)))))))))
theorem ok__law_due {f : Addr} {fd : FuncData} (T : Txt K mg) (F : Fun K "_law_due" "_law_due" s__law_due f fd) : FnG P w K mg base CX0 1 f fd ["_law_n", "_law_some", "_law_leasts"] (SpI K f__law_due) := by
  refine def_ok (k := 0) (N := N__law_due) (lk := lk__law_due) (fS := F__law_due) F sc__law_due fun cdv A outer s H E hr => ?_
  exact (pds_cons (pds_if (pxt_of (PDW.t (pdw_or (pdt_cmp op_lt s_lt (pd_name 0) pd_int (nomark _)) (pdw_or1 (pdt_cmp op_gt s_gt (pd_name 0) pd_int (nomark _))))))
      (pds_one (pds_ret (px_of (pd_lst (pda_cons pd_str (pda_cons (pd_name 0) pda_nil))))))
      pds_nil)
      (pds_cons (pds_for PassesOwn.never rfl (pdi_zip rfl T.b_zip (pxa_of (pda_cons (pd_name 1) (pda_cons (pd_name 2) pda_nil)))) (pt_tp rfl (pts_cons' (pt_nm sc__law_due.nd) (pts_cons' (pt_nm sc__law_due.nd) pts_nil')))
      (pds_one (pds_if (pxt_of (PDW.t (pdw_or (pdt_cmp op_lt s_lt (pd_name 3) (pd_name 4) (nomark _)) (pdw_or1 (pdt_cmp op_ge s_ge (pd_name 3) (pd_bin op_shl s_shl pd_int (pd_name 0)) (nomark _))))))
      (pds_one (pds_ret (px_of (pd_lst (pda_cons pd_str (pda_cons (pd_name 3) pda_nil))))))
      pds_nil)))
      (pds_one (pds_ret (px_of (pd_lst pda_nil))))))
theorem ok__law_odd {f : Addr} {fd : FuncData} (T : Txt K mg) (F : Fun K "_law_odd" "_law_odd" s__law_odd f fd) : FnG P w K mg base CX0 1 f fd ["_law_number", "_law_whole"] (SpI K f__law_odd) := by
  refine def_ok (k := 0) (N := N__law_odd) (lk := lk__law_odd) (fS := F__law_odd) F sc__law_odd fun cdv A outer s H E hr => ?_
  exact (pds_cons (pds_set (i := 2) sc__law_odd.nd (px_of (pd_bin op_mod s_mod (pd_bin op_fdivW s_div (pd_name 0) pd_int) (pd_bin op_pow s_pow pd_int pd_int))))
      (pds_one (pds_ret (px_of (pd_ixr ix_seq s_idx (pd_lst (pda_cons pd_int (pda_cons (pd_un un_neg sU pd_int) (pda_cons (pd_bin op_addA s_addA (pd_name 1) pd_int) (pda_cons (pd_bin op_addA s_addA (pd_name 1) pd_int) (pda_cons (pd_bin op_sub s_sub pd_int (pd_name 2)) (pda_cons (pd_bin op_addA s_addA (pd_name 1) (pd_name 2)) (pda_cons pd_int (pda_cons (pd_un un_neg sU pd_int) pda_nil))))))))) (pd_bin op_mod s_mod (pd_name 0) pd_int) (fun _ _ => rfl))))))
theorem ok_law {f : Addr} {fd : FuncData} (T : Txt K mg) (F : Fun K "law" "law" s_law f fd) (D__law_draws : Df P w K mg base "_law_draws" 1 ["_law_script", "_law_turn", "_law_many"] f__law_draws) (D__law_pop : Df P w K mg base "_law_pop" 1 ["_law_draws_here"] f__law_pop) (D__law_odd : Df P w K mg base "_law_odd" 1 ["_law_number", "_law_whole"] f__law_odd) (D__law_refused : Df P w K mg base "_law_refused" 8 ["_law_turn", "_law_n", "_law_some"] f__law_refused) (D__law_due : Df P w K mg base "_law_due" 1 ["_law_n", "_law_some", "_law_leasts"] f__law_due) : FnG P w K mg base CX0 9 f fd ["_law_script"] (SpI K f_law) := by
  obtain ⟨a__law_draws, d__law_draws, m__law_draws, k__law_draws, b__law_draws, G__law_draws⟩ := D__law_draws.ex
  obtain ⟨a__law_pop, d__law_pop, m__law_pop, k__law_pop, b__law_pop, G__law_pop⟩ := D__law_pop.ex
  obtain ⟨a__law_odd, d__law_odd, m__law_odd, k__law_odd, b__law_odd, G__law_odd⟩ := D__law_odd.ex
  obtain ⟨a__law_refused, d__law_refused, m__law_refused, k__law_refused, b__law_refused, G__law_refused⟩ := D__law_refused.ex
  obtain ⟨a__law_due, d__law_due, m__law_due, k__law_due, b__law_due, G__law_due⟩ := D__law_due.ex
  refine def_ok (k := 8) (N := N_law) (lk := lk_law) (fS := F_law) F sc_law fun cdv A outer s H E hr => ?_
  exact (pds_cons (pds_set (i := 1) sc_law.nd (px_of (pd_call [false, false, false] G__law_draws (hr.mono (by decide)) rfl m__law_draws k__law_draws b__law_draws (pda_cons (pd_name 0) (pda_cons pd_int (pda_cons pd_int pda_nil))))))
      (pds_cons (pds_for PassesOwn.never rfl (pdi_of (pdr_range1 rfl T.b_range (pda_cons pd_int pda_nil))) (pt_nm sc_law.nd)
      (pds_cons (pds_set (i := 3) sc_law.nd (px_callI [true] G__law_pop (hr.mono (by decide)) rfl m__law_pop k__law_pop b__law_pop (pxa_of (pda_cons (pd_name 1) pda_nil))))
      (pds_cons (pds_set (i := 4) sc_law.nd (px_of (pd_bin op_mod s_mod (pd_name 3) pd_int)))
      (pds_cons (pds_set (i := 5) sc_law.nd (px_of (pd_bin op_addA s_addA pd_int (pd_bin op_mod s_mod (pd_bin op_fdivW s_div (pd_name 3) pd_int) pd_int))))
      (pds_cons (pds_set (i := 6) sc_law.nd (px_of (pd_bin op_sub s_sub (pd_bin op_shl s_shl pd_int (pd_name 5)) pd_int)))
      (pds_cons (pds_set (i := 7) sc_law.nd (px_of (pd_ixr ix_seq s_idx (pd_lst (pda_cons (pd_lst pda_nil) (pda_cons (pd_lst (pda_cons pd_int pda_nil)) (pda_cons (pd_lst (pda_cons pd_int (pda_cons pd_int pda_nil))) (pda_cons (pd_lst (pda_cons pd_int (pda_cons pd_int (pda_cons pd_int pda_nil)))) (pda_cons (pd_lst (pda_cons pd_int (pda_cons pd_int pda_nil))) (pda_cons (pd_lst (pda_cons pd_int (pda_cons pd_int (pda_cons pd_int pda_nil)))) (pda_cons (pd_lst (pda_cons pd_int (pda_cons pd_int pda_nil))) (pda_cons (pd_lst (pda_cons pd_int (pda_cons pd_int (pda_cons pd_int pda_nil)))) pda_nil))))))))) (pd_name 4) (fun _ _ => rfl))))
      (pds_cons (pds_setLcX (i := 8) (own := [("_law_least", 9)]) rfl sc_law.nd rfl rfl (sw_true rfl rfl rfl (by decide +kernel)) (pdi_lst (px_of (pd_name 7))) (blkOk_by (own := [("_law_least", 9)]) (N := N_law) (sc := defScope s_law) (by decide +kernel)) (fun _ _ _ _ _ => (pt_nm sc_law.nd)) (fun _ _ _ _ _ => pdt_yes) (fun _ _ _ _ _ => (px_bin op_addA s_addA (px_of (pd_name 9)) (px_bin op_mod s_mod (px_callI [true] G__law_pop (hr.mono (by decide)) rfl m__law_pop k__law_pop b__law_pop (pxa_of (pda_cons (pd_name 1) pda_nil))) (px_of (pd_bin op_sub s_sub (pd_bin op_addA s_addA (pd_name 6) pd_int) (pd_name 9)))))))
      (pds_cons (pds_for PassesOwn.never rfl (pdi_of (pdr_range1 rfl T.b_range (pda_cons (pd_bin op_mulA s_mulA (pd_bin op_mod s_mod (pd_bin op_fdivW s_div (pd_name 3) pd_int) pd_int) (pd_callT call_int1 s_int rfl T.b_int (by decide +kernel) (pda_cons (pd_cmp (op_neD hr.units) s_ne (pd_name 8) (pd_lst pda_nil) (nomark _)) pda_nil))) pda_nil))) (pt_nm sc_law.nd)
      (pds_cons (pds_set (i := 10) sc_law.nd (px_callI [true] G__law_pop (hr.mono (by decide)) rfl m__law_pop k__law_pop b__law_pop (pxa_of (pda_cons (pd_name 1) pda_nil))))
      (pds_one (pds_if (pxt_of (pdt_cmp (op_eqD hr.units) s_eq (pd_bin op_mod s_mod (pd_name 10) pd_int) pd_int (nomark _)))
      (pds_one (pds_setI 0 (px_of (pd_call [false, false] G__law_odd (hr.mono (by decide)) rfl m__law_odd k__law_odd b__law_odd (pda_cons (pd_bin op_fdivW s_div (pd_name 10) pd_int) (pda_cons (pd_name 6) pda_nil)))) (pd_name 8) (pd_bin op_mod s_mod (pd_bin op_fdivW s_div (pd_name 10) pd_int) (pd_callB call_len' s_len rfl T.b_len (by decide +kernel) (pda_cons (pd_name 8) pda_nil)))))
      pds_nil))))
      (pds_cons (pds_if (pxt_of (pdt_cmp (op_eqD hr.units) s_eq (pd_bin op_mod s_mod (pd_bin op_fdivW s_div (pd_name 3) pd_int) pd_int) pd_int (nomark _)))
      (pds_one (pds_set (i := 5) sc_law.nd (px_of (pd_ixr ix_seq s_idx (pd_lst (pda_cons pd_int (pda_cons pd_int (pda_cons (pd_un un_neg sU pd_int) (pda_cons pd_int (pda_cons (pd_bin op_addA s_addA (pd_bin op_pow s_pow pd_int pd_int) (pd_name 3)) (pda_cons (pd_un un_neg sU pd_int) pda_nil))))))) (pd_bin op_mod s_mod (pd_bin op_fdivW s_div (pd_name 3) pd_int) pd_int) (fun _ _ => rfl)))))
      pds_nil)
      (pds_fz 8 (pds_one (pds_if (pxt_of (pdt_cmp (op_neD hr.units) s_ne (pd_call [false, false, false] G__law_refused (hr.mono (by decide)) rfl m__law_refused k__law_refused b__law_refused (pda_cons (pd_name 4) (pda_cons (pd_name 5) (pda_cons (pd_name 8) pda_nil)))) (pd_call [false, false, false] G__law_due (hr.mono (by decide)) rfl m__law_due k__law_due b__law_due (pda_cons (pd_name 5) (pda_cons (pd_name 8) (pda_cons (pd_name 7) pda_nil)))) (nomark _)))
      (pds_one (pds_ret (px_of pd_bl)))
      pds_nil))))))))))))
      (pds_one (pds_ret (px_of pd_bl)))))
end
end G06
end
section
set_option Elab.async false
set_option linter.all false
set_option maxRecDepth 100000
set_option maxHeartbeats 4000000
namespace G06
open PySem T2
variable [ca : ClsA]
local macro_rules | `(tactic| wtm_at "fn") => `(tactic| ((with_reducible apply g_eq); (with_reducible assumption)))
local macro_rules | `(tactic| wtm_at "put") => `(tactic| (simp only [put_z, put_s]; try rfl))
local macro_rules | `(tactic| wtm_at "sd") => `(tactic| (decide))
local macro_rules | `(tactic| wtm_at "sd") => `(tactic| (solve_by_elim only [*]))
local macro_rules | `(tactic| wtm_at "sd") => `(tactic| (exact Int.lt_of_lt_of_le (mem_rngI2.mp (by (with_reducible assumption))).2 (by omega)))
local macro_rules | `(tactic| wtm_at "sd") => `(tactic| (exact Int.le_trans (by omega) (mem_rngI2.mp (by (with_reducible assumption))).1))
local macro_rules | `(tactic| wtm_at "sd") => `(tactic| (exact Int.lt_of_lt_of_le (mem_rngI.mp (by (with_reducible assumption))).2 (by omega)))
local macro_rules | `(tactic| wtm_at "sd") => `(tactic| (exact rng_nat2 (by (with_reducible assumption)) (by omega) (by omega)))
local macro_rules | `(tactic| wtm_at "sd") => `(tactic| (exact rng_nat (by (with_reducible assumption)) (by omega)))
local macro_rules | `(tactic| wtm_at "sd") => `(tactic| (exact Int.le_of_lt (Int.lt_of_lt_of_le (mem_rngI2.mp (by (with_reducible assumption))).2 (by omega))))
local macro_rules | `(tactic| wtm_at "sd") => `(tactic| (exact Int.le_of_lt (Int.lt_of_lt_of_le (mem_rngI.mp (by (with_reducible assumption))).2 (by omega))))
local macro_rules | `(tactic| wtm_at "sd") => `(tactic| (exact (mem_rngI.mp (by (with_reducible assumption))).1))
local macro_rules | `(tactic| wtm_at "sd") => `(tactic| ((simp only [List.length_map, List.length_replicate, List.length_range, List.length_append, List.length_cons, List.length_nil, List.length_set, rngI_len, rngI2_len, sizeLine]; omega)))
local macro_rules | `(tactic| wtm_at "sd") => `(tactic| (omega))
local macro_rules | `(tactic| wtm_at "sd") => `(tactic| (((with_reducible apply pow2_log); wtm_at "sd")))
local macro_rules | `(tactic| wtm_at "sd") => `(tactic| ((with_reducible exact pow2_pos)))
local macro_rules | `(tactic| wtm_at "sd") => `(tactic| (((with_reducible apply g_prop); (with_reducible assumption))))
local macro_rules | `(tactic| wtm_at "stow") => `(tactic| (rfl))
local macro_rules | `(tactic| wtm_at "stow") => `(tactic| ((with_reducible exact stow_s _)))
local macro_rules | `(tactic| wtm_at "stow") => `(tactic| ((with_reducible exact stow_z _)))
local macro_rules | `(tactic| wtm_at "stow") => `(tactic| ((with_reducible exact stow_f)))
local macro_rules | `(tactic| wtm_at "dats") => `(tactic| (((with_reducible apply dats_w); (focus wtm_at "datW"); wtm_at "dats")))
local macro_rules | `(tactic| wtm_at "dats") => `(tactic| (((with_reducible apply dats_m); (focus rfl); (focus wtm_at "dat0"); wtm_at "dats")))
local macro_rules | `(tactic| wtm_at "dats") => `(tactic| (((with_reducible apply dats_b); (focus (first | rfl | assumption)); wtm_at "dats")))
local macro_rules | `(tactic| wtm_at "dats") => `(tactic| (((with_reducible apply dats_o); wtm_at "dats")))
local macro_rules | `(tactic| wtm_at "dats") => `(tactic| (((with_reducible apply dats_e); wtm_at "dats")))
local macro_rules | `(tactic| wtm_at "dats") => `(tactic| (((with_reducible apply dats_f); wtm_at "dats")))
local macro_rules | `(tactic| wtm_at "dats") => `(tactic| ((with_reducible exact dats_n)))
local macro_rules | `(tactic| wtm_at "gd") => `(tactic| (((with_reducible apply gd_str); first | rfl | decide)))
local macro_rules | `(tactic| wtm_at "gd") => `(tactic| (((with_reducible apply gdL_map); intros; wtm_at "gd")))
local macro_rules | `(tactic| wtm_at "gd") => `(tactic| (((with_reducible apply gdL_c); (focus wtm_at "gd"); wtm_at "gd")))
local macro_rules | `(tactic| wtm_at "gd") => `(tactic| (((with_reducible apply gd_tup); wtm_at "gd")))
local macro_rules | `(tactic| wtm_at "gd") => `(tactic| (((with_reducible apply gd_lst); wtm_at "gd")))
local macro_rules | `(tactic| wtm_at "gd") => `(tactic| ((with_reducible assumption)))
local macro_rules | `(tactic| wtm_at "gd") => `(tactic| ((with_reducible exact gdL_n)))
local macro_rules | `(tactic| wtm_at "gd") => `(tactic| ((with_reducible exact gdL_ints)))
local macro_rules | `(tactic| wtm_at "gd") => `(tactic| ((with_reducible exact gd_lI)))
local macro_rules | `(tactic| wtm_at "gd") => `(tactic| ((with_reducible exact gd_non)))
local macro_rules | `(tactic| wtm_at "gd") => `(tactic| ((with_reducible exact gd_bl)))
local macro_rules | `(tactic| wtm_at "gd") => `(tactic| ((with_reducible exact gd_int)))
local macro_rules | `(tactic| wtm_at "tru0") => `(tactic| ((simp; omega)))
local macro_rules | `(tactic| wtm_at "tru0") => `(tactic| ((with_reducible exact beq_false_of_ne (by omega))))
local macro_rules | `(tactic| wtm_at "tru0") => `(tactic| ((with_reducible exact decide_eq_true (by omega))))
local macro_rules | `(tactic| wtm_at "tru0") => `(tactic| ((with_reducible exact decide_eq_false (by omega))))
local macro_rules | `(tactic| wtm_at "tru0") => `(tactic| ((with_reducible assumption)))
local macro_rules | `(tactic| wtm_at "tru0") => `(tactic| ((with_reducible rfl)))
local macro_rules | `(tactic| wtm_at "tru") => `(tactic| ((simp; omega)))
local macro_rules | `(tactic| wtm_at "tru") => `(tactic| ((simp; done)))
local macro_rules | `(tactic| wtm_at "tru") => `(tactic| ((with_reducible assumption)))
local macro_rules | `(tactic| wtm_at "tru") => `(tactic| (rfl))
local macro_rules | `(tactic| wtm_at "nlc") => `(tactic| (rfl))
local macro_rules | `(tactic| wtm_at "nlc") => `(tactic| ((with_reducible exact nlc_D)))
local macro_rules | `(tactic| wtm_at "nlc") => `(tactic| ((with_reducible exact nlc_B)))
local macro_rules | `(tactic| wtm_at "nlc") => `(tactic| ((with_reducible exact nlc_I)))
local macro_rules | `(tactic| wtm_at "asTm") => `(tactic| (intros; wtm_at "asT"))
local macro_rules | `(tactic| wtm_at "datW") => `(tactic| (intros; first | (with_reducible exact datW_f) | (with_reducible exact datW_oD _) | ((with_reducible apply datW_m); wtm_at "datW") | ((with_reducible apply datW_t); wtm_at "datW") | ((with_reducible apply datW_l); wtm_at "datW") | (with_reducible exact datWL_n) | ((with_reducible apply datWL_c); (focus wtm_at "datW"); wtm_at "datW")))
local macro_rules | `(tactic| wtm_at "lcL") => `(tactic| (skip))
local macro_rules | `(tactic| wtm_at "lcL") => `(tactic| (((with_reducible apply lcL_t); (focus wtm_at "asT"); (focus wtm_at "sx"); (focus wtm_at "tru"); (focus wtm_at "sx"); (focus wtm_at "sx"); wtm_at "lcL")))
local macro_rules | `(tactic| wtm_at "lcL") => `(tactic| (((with_reducible apply lcL_s); (focus wtm_at "asT"); (focus wtm_at "sx"); (focus wtm_at "tru"); wtm_at "lcL")))
local macro_rules | `(tactic| wtm_at "lcL") => `(tactic| ((with_reducible exact lcL_n)))
local macro_rules | `(tactic| wtm_at "mv") => `(tactic| (((with_reducible apply movL_l); (focus wtm_at "g"); wtm_at "mv")))
local macro_rules | `(tactic| wtm_at "mv") => `(tactic| (((with_reducible apply movL_b); (focus rfl); (focus rfl); (focus wtm_at "kill"); wtm_at "mv")))
local macro_rules | `(tactic| wtm_at "mv") => `(tactic| (((with_reducible apply movL_f); wtm_at "mv")))
local macro_rules | `(tactic| wtm_at "mv") => `(tactic| ((with_reducible exact movL_n)))
local macro_rules | `(tactic| wtm_at "asTs") => `(tactic| (((with_reducible apply asTs_c); (focus (wtm_at "asT")); wtm_at "asTs")))
local macro_rules | `(tactic| wtm_at "asTs") => `(tactic| ((with_reducible exact asTs_n)))
local macro_rules | `(tactic| wtm_at "asT") => `(tactic| (intros; first | ((with_reducible apply asT_tp); (focus rfl); wtm_at "asTs") | ((with_reducible apply asT_tl); (focus rfl); wtm_at "asTs") | ((with_reducible apply asT_nm); (focus rfl); (focus rfl); simp only [En.wipe, En.kill, List.set_cons_zero, List.set_cons_succ, put_z, put_s]; try rfl)))
local macro_rules | `(tactic| wtm_at "dat0") => `(tactic| (((with_reducible apply datL0_c); (focus wtm_at "dat0"); wtm_at "dat0")))
local macro_rules | `(tactic| wtm_at "dat0") => `(tactic| ((with_reducible exact datL0_n)))
local macro_rules | `(tactic| wtm_at "dat0") => `(tactic| (((with_reducible apply dat0_t); wtm_at "dat0")))
local macro_rules | `(tactic| wtm_at "dat0") => `(tactic| (((with_reducible apply dat0_l); wtm_at "dat0")))
local macro_rules | `(tactic| wtm_at "dat0") => `(tactic| (((with_reducible apply dat0_map); intros; wtm_at "dat0")))
local macro_rules | `(tactic| wtm_at "dat0") => `(tactic| ((with_reducible exact dat0_o)))
local macro_rules | `(tactic| wtm_at "dat0") => `(tactic| ((with_reducible exact dat0_f)))
local macro_rules | `(tactic| wtm_at "frz") => `(tactic| (rfl))
local macro_rules | `(tactic| wtm_at "frz") => `(tactic| (((with_reducible apply froz_m); wtm_at "dat0")))
local macro_rules | `(tactic| wtm_at "frz") => `(tactic| ((with_reducible exact froz_o)))
local macro_rules | `(tactic| wtm_at "frz") => `(tactic| ((with_reducible exact froz_f)))
local macro_rules | `(tactic| wtm_at "frz") => `(tactic| ((with_reducible exact froz_n)))
local macro_rules | `(tactic| wtm_at "frz") => `(tactic| (((with_reducible apply frozL_c); (focus wtm_at "frz"); wtm_at "frz")))
local macro_rules | `(tactic| wtm_at "frz") => `(tactic| ((with_reducible exact frozL_n)))
local macro_rules | `(tactic| wtm_at "kill") => `(tactic| (simp only [En.kill, En.wipe, En.back, List.set_cons_zero, List.set_cons_succ, get_z, get_s]; try rfl))
local macro_rules | `(tactic| wtm_at "lpO") => `(tactic| (((with_reducible apply lpO_c); (focus wtm_at "put"); (focus wtm_at "sx"); (focus rfl); (focus wtm_at "kill"); wtm_at "lpO")))
local macro_rules | `(tactic| wtm_at "lpO") => `(tactic| ((with_reducible exact lpO_n)))
local macro_rules | `(tactic| wtm_at "op") => `(tactic| (((with_reducible apply g_idxB); rfl)))
local macro_rules | `(tactic| wtm_at "op") => `(tactic| ((with_reducible exact k_idxL4)))
local macro_rules | `(tactic| wtm_at "op") => `(tactic| ((with_reducible exact k_idxT4)))
local macro_rules | `(tactic| wtm_at "op") => `(tactic| ((with_reducible exact k_idxL3)))
local macro_rules | `(tactic| wtm_at "op") => `(tactic| ((with_reducible exact k_idxT3)))
local macro_rules | `(tactic| wtm_at "op") => `(tactic| ((with_reducible exact k_idxL2)))
local macro_rules | `(tactic| wtm_at "op") => `(tactic| ((with_reducible exact k_idxT2)))
local macro_rules | `(tactic| wtm_at "op") => `(tactic| ((with_reducible exact k_idxL1)))
local macro_rules | `(tactic| wtm_at "op") => `(tactic| ((with_reducible exact k_idxT1)))
local macro_rules | `(tactic| wtm_at "op") => `(tactic| ((with_reducible exact k_idxL0)))
local macro_rules | `(tactic| wtm_at "op") => `(tactic| ((with_reducible exact k_idxT0)))
local macro_rules | `(tactic| wtm_at "op") => `(tactic| (wtm_at "fn"))
local macro_rules | `(tactic| wtm_at "op") => `(tactic| ((with_reducible assumption)))
local macro_rules | `(tactic| wtm_at "op") => `(tactic| ((with_reducible exact k_idxO2)))
local macro_rules | `(tactic| wtm_at "op") => `(tactic| ((with_reducible exact k_idxO1)))
local macro_rules | `(tactic| wtm_at "op") => `(tactic| ((with_reducible exact k_idxO0)))
local macro_rules | `(tactic| wtm_at "op") => `(tactic| (((with_reducible apply callB_x); (focus rfl); (focus wtm_at "dats"); (focus wtm_at "env"); (focus wtm_at "all"); (focus first | rfl | (with_reducible assumption) | (with_reducible exact sLf_oI _)))))
local macro_rules | `(tactic| wtm_at "op") => `(tactic| (((with_reducible apply callP_of); (focus wtm_at "g"); wtm_at "all")))
local macro_rules | `(tactic| wtm_at "op") => `(tactic| (((with_reducible apply k_eqGF); (focus wtm_at "dats"); (all_goals (try wtm_at "gd")))))
local macro_rules | `(tactic| wtm_at "op") => `(tactic| (((with_reducible apply k_eqGT); (focus wtm_at "dats"); (all_goals (try wtm_at "gd")))))
local macro_rules | `(tactic| wtm_at "op") => `(tactic| (((with_reducible apply k_eqSF); (focus wtm_at "dats"); (focus wtm_at "gd"); done)))
local macro_rules | `(tactic| wtm_at "op") => `(tactic| (((with_reducible apply k_eqST); (focus wtm_at "dats"); (focus wtm_at "gd"); done)))
local macro_rules | `(tactic| wtm_at "op") => `(tactic| (((with_reducible apply k_eqLF); (focus wtm_at "dats"); done)))
local macro_rules | `(tactic| wtm_at "op") => `(tactic| (((with_reducible apply k_eqLT); (focus wtm_at "dats"); done)))
local macro_rules | `(tactic| wtm_at "op") => `(tactic| (((with_reducible apply k_ninG); (focus wtm_at "dats"); (all_goals (try wtm_at "gd")))))
local macro_rules | `(tactic| wtm_at "op") => `(tactic| (((with_reducible apply k_inG); (focus wtm_at "dats"); (all_goals (try wtm_at "gd")))))
local macro_rules | `(tactic| wtm_at "op") => `(tactic| (((with_reducible apply k_ninB); (focus wtm_at "dats"); done)))
local macro_rules | `(tactic| wtm_at "op") => `(tactic| (((with_reducible apply k_inB); (focus wtm_at "dats"); done)))
local macro_rules | `(tactic| wtm_at "op") => `(tactic| (((with_reducible apply k_ninI); (focus wtm_at "dats"); done)))
local macro_rules | `(tactic| wtm_at "op") => `(tactic| (((with_reducible apply k_inI); (focus wtm_at "dats"); done)))
local macro_rules | `(tactic| wtm_at "op") => `(tactic| ((with_reducible exact k_inT4)))
local macro_rules | `(tactic| wtm_at "op") => `(tactic| ((with_reducible exact k_inT3)))
local macro_rules | `(tactic| wtm_at "op") => `(tactic| ((with_reducible exact k_inT2)))
local macro_rules | `(tactic| wtm_at "op") => `(tactic| (((with_reducible apply listOf_b); rfl)))
local macro_rules | `(tactic| wtm_at "op") => `(tactic| ((with_reducible exact listOf_s)))
local macro_rules | `(tactic| wtm_at "op") => `(tactic| ((with_reducible exact listOf_o)))
local macro_rules | `(tactic| wtm_at "op") => `(tactic| ((with_reducible exact listOf_f)))
local macro_rules | `(tactic| wtm_at "op") => `(tactic| ((with_reducible exact x_clear)))
local macro_rules | `(tactic| wtm_at "op") => `(tactic| (((with_reducible apply x_catFF); wtm_at "sd")))
local macro_rules | `(tactic| wtm_at "op") => `(tactic| (((with_reducible apply x_catOF); wtm_at "sd")))
local macro_rules | `(tactic| wtm_at "op") => `(tactic| (((with_reducible apply x_catFO); wtm_at "sd")))
local macro_rules | `(tactic| wtm_at "op") => `(tactic| (((with_reducible apply x_catBO); (focus rfl); wtm_at "sd")))
local macro_rules | `(tactic| wtm_at "op") => `(tactic| (((with_reducible apply x_catBB); (focus rfl); (focus rfl); wtm_at "sd")))
local macro_rules | `(tactic| wtm_at "op") => `(tactic| (((with_reducible apply x_cat); (all_goals (try wtm_at "sd")))))
local macro_rules | `(tactic| wtm_at "op") => `(tactic| (((with_reducible apply x_mset); (all_goals (try wtm_at "sd")))))
local macro_rules | `(tactic| wtm_at "op") => `(tactic| (((with_reducible apply x_extend); (all_goals (try wtm_at "sd")))))
local macro_rules | `(tactic| wtm_at "op") => `(tactic| (((with_reducible apply x_extendD); (all_goals (try wtm_at "sd")))))
local macro_rules | `(tactic| wtm_at "op") => `(tactic| (((with_reducible apply x_appD); (all_goals (try wtm_at "sd")))))
local macro_rules | `(tactic| wtm_at "op") => `(tactic| (((with_reducible apply x_append); (all_goals (try wtm_at "sd")))))
local macro_rules | `(tactic| wtm_at "op") => `(tactic| ((with_reducible exact k_tupOl2')))
local macro_rules | `(tactic| wtm_at "op") => `(tactic| ((with_reducible exact k_tupOl2)))
local macro_rules | `(tactic| wtm_at "op") => `(tactic| ((with_reducible exact k_tup4)))
local macro_rules | `(tactic| wtm_at "op") => `(tactic| ((with_reducible exact k_tup3)))
local macro_rules | `(tactic| wtm_at "op") => `(tactic| ((with_reducible exact k_tup2)))
local macro_rules | `(tactic| wtm_at "op") => `(tactic| ((with_reducible exact k_tup1)))
local macro_rules | `(tactic| wtm_at "op") => `(tactic| ((with_reducible exact k_tupBp2)))
local macro_rules | `(tactic| wtm_at "op") => `(tactic| (((with_reducible apply x_idxM); (all_goals (try wtm_at "sd")))))
local macro_rules | `(tactic| wtm_at "op") => `(tactic| (((with_reducible apply x_idxO); (all_goals (try wtm_at "sd")))))
local macro_rules | `(tactic| wtm_at "op") => `(tactic| (((with_reducible apply x_idxB); (focus (first | rfl | (with_reducible assumption))); (all_goals (try wtm_at "sd")))))
local macro_rules | `(tactic| wtm_at "op") => `(tactic| (((with_reducible apply x_idxF); (all_goals (try wtm_at "sd")))))
local macro_rules | `(tactic| wtm_at "op") => `(tactic| (((with_reducible apply k_lst); wtm_at "sd")))
local macro_rules | `(tactic| wtm_at "op") => `(tactic| ((with_reducible exact k_lstI6)))
local macro_rules | `(tactic| wtm_at "op") => `(tactic| ((with_reducible exact k_lstI5)))
local macro_rules | `(tactic| wtm_at "op") => `(tactic| ((with_reducible exact k_lstI4)))
local macro_rules | `(tactic| wtm_at "op") => `(tactic| ((with_reducible exact k_lstI3)))
local macro_rules | `(tactic| wtm_at "op") => `(tactic| ((with_reducible exact k_lstI2)))
local macro_rules | `(tactic| wtm_at "op") => `(tactic| ((with_reducible exact k_lstI1)))
local macro_rules | `(tactic| wtm_at "op") => `(tactic| ((with_reducible exact k_lstI0)))
local macro_rules | `(tactic| wtm_at "op") => `(tactic| (((with_reducible apply k_shr); wtm_at "sd")))
local macro_rules | `(tactic| wtm_at "op") => `(tactic| (((with_reducible apply k_shl); all_goals wtm_at "sd")))
local macro_rules | `(tactic| wtm_at "op") => `(tactic| (((with_reducible apply k_pow); all_goals wtm_at "sd")))
local macro_rules | `(tactic| wtm_at "op") => `(tactic| ((with_reducible exact k_inti)))
local macro_rules | `(tactic| wtm_at "op") => `(tactic| ((with_reducible exact k_intb)))
local macro_rules | `(tactic| wtm_at "op") => `(tactic| ((with_reducible exact k_abs)))
local macro_rules | `(tactic| wtm_at "op") => `(tactic| ((with_reducible exact k_neg)))
local macro_rules | `(tactic| wtm_at "op") => `(tactic| ((with_reducible exact k_ge)))
local macro_rules | `(tactic| wtm_at "op") => `(tactic| ((with_reducible exact k_gt)))
local macro_rules | `(tactic| wtm_at "op") => `(tactic| ((with_reducible exact k_le)))
local macro_rules | `(tactic| wtm_at "op") => `(tactic| ((with_reducible exact k_lt)))
local macro_rules | `(tactic| wtm_at "op") => `(tactic| ((with_reducible exact k_or)))
local macro_rules | `(tactic| wtm_at "op") => `(tactic| ((with_reducible exact k_and)))
local macro_rules | `(tactic| wtm_at "op") => `(tactic| ((with_reducible exact k_max2)))
local macro_rules | `(tactic| wtm_at "op") => `(tactic| ((with_reducible exact k_min2)))
local macro_rules | `(tactic| wtm_at "op") => `(tactic| ((with_reducible exact k_minN)))
local macro_rules | `(tactic| wtm_at "op") => `(tactic| ((with_reducible exact k_xor)))
local macro_rules | `(tactic| wtm_at "op") => `(tactic| ((with_reducible exact k_xorN)))
local macro_rules | `(tactic| wtm_at "op") => `(tactic| ((with_reducible exact k_orN)))
local macro_rules | `(tactic| wtm_at "op") => `(tactic| ((with_reducible exact k_andN)))
local macro_rules | `(tactic| wtm_at "op") => `(tactic| (((with_reducible apply k_mul); try wtm_at "mul")))
local macro_rules | `(tactic| wtm_at "op") => `(tactic| (((with_reducible apply k_div); all_goals wtm_at "sd")))
local macro_rules | `(tactic| wtm_at "op") => `(tactic| (((with_reducible apply k_mod); wtm_at "sd")))
local macro_rules | `(tactic| wtm_at "op") => `(tactic| ((with_reducible exact k_eqT)))
local macro_rules | `(tactic| wtm_at "op") => `(tactic| ((with_reducible exact k_eqF)))
local macro_rules | `(tactic| wtm_at "op") => `(tactic| ((with_reducible exact k_sub)))
local macro_rules | `(tactic| wtm_at "op") => `(tactic| ((with_reducible exact k_add)))
local macro_rules | `(tactic| wtm_at "mul") => `(tactic| (solve_by_elim only [*]))
local macro_rules | `(tactic| wtm_at "mul") => `(tactic| (exact cMul_ok 64 1000 (by omega) (by decide) (by decide)))
local macro_rules | `(tactic| wtm_at "mul") => `(tactic| (exact cMul_ok 1000 1000 (by decide) (by decide) (by decide)))
local macro_rules | `(tactic| wtm_at "mul") => `(tactic| (exact cMul_ok 64 64 (by omega) (by decide) (by decide)))
local macro_rules | `(tactic| wtm_at "mul") => `(tactic| (exact cMul_ok 64 64 (by decide) (by omega) (by decide)))
local macro_rules | `(tactic| wtm_at "mul") => `(tactic| (exact cMul_ok 64 64 (by omega) (by omega) (by decide)))
local macro_rules | `(tactic| wtm_at "mul") => `(tactic| ((with_reducible assumption)))
local macro_rules | `(tactic| wtm_at "all") => `(tactic| (skip))
local macro_rules | `(tactic| wtm_at "all") => `(tactic| ((wtm_at "sx"; wtm_at "all")))
local macro_rules | `(tactic| wtm_at "all") => `(tactic| (done))
local macro_rules | `(tactic| wtm_at "sx") => `(tactic| (focus (wtm_at "s1")))
local macro_rules | `(tactic| wtm_at "s1") => `(tactic| (((with_reducible apply g_leN); wtm_at "sd")))
local macro_rules | `(tactic| wtm_at "s1") => `(tactic| (((with_reducible apply g_ltN); wtm_at "sd")))
local macro_rules | `(tactic| wtm_at "s1") => `(tactic| (((with_reducible apply g_le); wtm_at "sd")))
local macro_rules | `(tactic| wtm_at "s1") => `(tactic| (((with_reducible apply g_lt); wtm_at "sd")))
local macro_rules | `(tactic| wtm_at "s1") => `(tactic| (wtm_at "op"))
local macro_rules | `(tactic| wtm_at "s1") => `(tactic| (wtm_at "g"))
local macro_rules | `(tactic| wtm_at "s1") => `(tactic| (((with_reducible apply g_meq); wtm_at "nrm")))
local macro_rules | `(tactic| wtm_at "s1") => `(tactic| (((with_reducible apply x_xop); wtm_at "all")))
local macro_rules | `(tactic| wtm_at "s1") => `(tactic| (((with_reducible apply xbin_of); wtm_at "all")))
local macro_rules | `(tactic| wtm_at "s1") => `(tactic| (((with_reducible apply xcons_of); wtm_at "all")))
local macro_rules | `(tactic| wtm_at "s1") => `(tactic| (((with_reducible apply g_set); (simp only [List.set_cons_zero, List.set_cons_succ]; try rfl))))
local macro_rules | `(tactic| wtm_at "s1") => `(tactic| (((with_reducible apply setE_p1); (focus rfl); (focus rfl); (focus rfl); wtm_at "all")))
local macro_rules | `(tactic| wtm_at "s1") => `(tactic| (((with_reducible apply setE_put); (focus rfl); (all_goals (try wtm_at "put")))))
local macro_rules | `(tactic| wtm_at "s1") => `(tactic| ((with_reducible exact x_yes)))
local macro_rules | `(tactic| wtm_at "s1") => `(tactic| (((with_reducible apply x_lc); (focus wtm_at "sx"); (focus wtm_at "lcL"); wtm_at "all")))
local macro_rules | `(tactic| wtm_at "s1") => `(tactic| (((with_reducible apply x_lcGf); (focus wtm_at "sx"); (focus wtm_at "asTm"); (focus (intros; wtm_at "sx")); (focus (intros; wtm_at "sx")); (focus (intros; wtm_at "g")); (focus wtm_at "sx"); (focus wtm_at "nlc"); done)))
local macro_rules | `(tactic| wtm_at "s1") => `(tactic| (((with_reducible apply x_lcG); (focus wtm_at "sx"); (focus wtm_at "asTm"); (focus (intros; wtm_at "sx")); (focus (intros; wtm_at "g")); (focus wtm_at "sx"); (focus wtm_at "nlc"); done)))
local macro_rules | `(tactic| wtm_at "s1") => `(tactic| ((with_reducible exact items_o)))
local macro_rules | `(tactic| wtm_at "s1") => `(tactic| (((with_reducible apply items_b); first | rfl | (with_reducible assumption))))
local macro_rules | `(tactic| wtm_at "s1") => `(tactic| ((with_reducible exact items_f)))
local macro_rules | `(tactic| wtm_at "s1") => `(tactic| (((with_reducible apply items_lst); wtm_at "all")))
local macro_rules | `(tactic| wtm_at "s1") => `(tactic| (((with_reducible apply inR_of); (all_goals (try wtm_at "sd")))))
local macro_rules | `(tactic| wtm_at "s1") => `(tactic| (((with_reducible apply x_rI2); wtm_at "all")))
local macro_rules | `(tactic| wtm_at "s1") => `(tactic| (((with_reducible apply x_rI1); wtm_at "all")))
local macro_rules | `(tactic| wtm_at "s1") => `(tactic| (((with_reducible apply lifI_of); wtm_at "all")))
local macro_rules | `(tactic| wtm_at "s1") => `(tactic| (((with_reducible apply itX_of); (focus (wtm_at "sx")); (focus (wtm_at "sx")); (focus rfl); (focus rfl))))
local macro_rules | `(tactic| wtm_at "s1") => `(tactic| (((with_reducible apply x_zipP); (focus (wtm_at "sx")); (focus (wtm_at "sx")); (focus (wtm_at "sx")); done)))
local macro_rules | `(tactic| wtm_at "s1") => `(tactic| (((with_reducible apply x_enP); (focus (wtm_at "sx")); (focus (wtm_at "sx")); done)))
local macro_rules | `(tactic| wtm_at "s1") => `(tactic| (((with_reducible apply x_for); wtm_at "all")))
local macro_rules | `(tactic| wtm_at "s1") => `(tactic| (((with_reducible apply x_wh); wtm_at "all")))
local macro_rules | `(tactic| wtm_at "s1") => `(tactic| (((with_reducible apply x_unp); (focus (wtm_at "sx")); (focus (wtm_at "sx")); wtm_at "asT")))
local macro_rules | `(tactic| wtm_at "s1") => `(tactic| ((with_reducible exact sLf_nil)))
local macro_rules | `(tactic| wtm_at "s1") => `(tactic| ((with_reducible exact sLf_ol)))
local macro_rules | `(tactic| wtm_at "s1") => `(tactic| (((with_reducible apply x_frzE); (focus wtm_at "frz"); wtm_at "all")))
local macro_rules | `(tactic| wtm_at "s1") => `(tactic| (((with_reducible apply x_frzT); (focus wtm_at "frz"); wtm_at "all")))
local macro_rules | `(tactic| wtm_at "s1") => `(tactic| (((with_reducible apply x_lcX); (focus wtm_at "sx"); (focus assumption); wtm_at "all")))
local macro_rules | `(tactic| wtm_at "s1") => `(tactic| (((with_reducible apply x_forO); (focus rfl); (focus rfl); (focus (first | decide | (intro h; cases h))); (focus rfl); (focus wtm_at "kill"); (focus wtm_at "lpO"); wtm_at "put")))
local macro_rules | `(tactic| wtm_at "s1") => `(tactic| (((with_reducible apply x_augI); wtm_at "all")))
local macro_rules | `(tactic| wtm_at "s1") => `(tactic| (((with_reducible apply x_augN); wtm_at "all")))
local macro_rules | `(tactic| wtm_at "s1") => `(tactic| (((with_reducible apply x_set); wtm_at "all")))
local macro_rules | `(tactic| wtm_at "s1") => `(tactic| (((with_reducible apply x_callI); wtm_at "all")))
local macro_rules | `(tactic| wtm_at "s1") => `(tactic| (((with_reducible apply x_mut); wtm_at "all")))
local macro_rules | `(tactic| wtm_at "s1") => `(tactic| (((with_reducible apply x_mutP); wtm_at "all")))
local macro_rules | `(tactic| wtm_at "s1") => `(tactic| (((with_reducible apply x_ifF); (focus (first | rfl | (with_reducible assumption) | (simp; done) | (simp; omega))); wtm_at "all")))
local macro_rules | `(tactic| wtm_at "s1") => `(tactic| (((with_reducible apply x_ifT); (focus (first | rfl | (with_reducible assumption) | (simp; done) | (simp; omega))); wtm_at "all")))
local macro_rules | `(tactic| wtm_at "s1") => `(tactic| (((with_reducible apply x_if); wtm_at "all")))
local macro_rules | `(tactic| wtm_at "s1") => `(tactic| (((with_reducible apply exp_of); wtm_at "all")))
local macro_rules | `(tactic| wtm_at "s1") => `(tactic| (((with_reducible apply x_retO); (focus wtm_at "sx"); wtm_at "mv")))
local macro_rules | `(tactic| wtm_at "s1") => `(tactic| (((with_reducible apply x_ret); wtm_at "all")))
local macro_rules | `(tactic| wtm_at "s1") => `(tactic| (((with_reducible apply x_asg); (focus rfl); wtm_at "all")))
local macro_rules | `(tactic| wtm_at "s1") => `(tactic| (((with_reducible apply x_val); wtm_at "all")))
local macro_rules | `(tactic| wtm_at "s1") => `(tactic| (((with_reducible apply x_dif); wtm_at "all")))
local macro_rules | `(tactic| wtm_at "s1") => `(tactic| (((with_reducible apply x_vor); wtm_at "all")))
local macro_rules | `(tactic| wtm_at "s1") => `(tactic| (((with_reducible apply x_vand); wtm_at "all")))
local macro_rules | `(tactic| wtm_at "s1") => `(tactic| (((with_reducible apply x_and); wtm_at "all")))
local macro_rules | `(tactic| wtm_at "s1") => `(tactic| (((with_reducible apply x_or); wtm_at "all")))
local macro_rules | `(tactic| wtm_at "s1") => `(tactic| (((with_reducible apply x_andF); (focus wtm_at "sx"); (focus wtm_at "tru0"); done)))
local macro_rules | `(tactic| wtm_at "s1") => `(tactic| (((with_reducible apply x_orT); (focus wtm_at "sx"); (focus wtm_at "tru0"); done)))
local macro_rules | `(tactic| wtm_at "s1") => `(tactic| (((with_reducible apply not_of); wtm_at "all")))
local macro_rules | `(tactic| wtm_at "s1") => `(tactic| (((with_reducible apply tst_of); wtm_at "all")))
local macro_rules | `(tactic| wtm_at "s1") => `(tactic| (((with_reducible apply x_lifT); wtm_at "all")))
local macro_rules | `(tactic| wtm_at "s1") => `(tactic| (((with_reducible apply lifA_of); wtm_at "all")))
local macro_rules | `(tactic| wtm_at "s1") => `(tactic| (((with_reducible apply lif_of); wtm_at "all")))
local macro_rules | `(tactic| wtm_at "s1") => `(tactic| (((with_reducible apply opr_of); wtm_at "all")))
local macro_rules | `(tactic| wtm_at "s1") => `(tactic| ((with_reducible exact slM_fD)))
local macro_rules | `(tactic| wtm_at "s1") => `(tactic| ((with_reducible exact slM_f)))
local macro_rules | `(tactic| wtm_at "s1") => `(tactic| ((with_reducible exact slM_s)))
local macro_rules | `(tactic| wtm_at "s1") => `(tactic| (((with_reducible apply slM_b); first | rfl | (with_reducible assumption))))
local macro_rules | `(tactic| wtm_at "s1") => `(tactic| (((with_reducible apply part_s); wtm_at "all")))
local macro_rules | `(tactic| wtm_at "s1") => `(tactic| ((with_reducible exact part_n)))
local macro_rules | `(tactic| wtm_at "s1") => `(tactic| (((with_reducible apply x_sl); wtm_at "all")))
local macro_rules | `(tactic| wtm_at "s1") => `(tactic| (((with_reducible apply acons_of); wtm_at "all")))
local macro_rules | `(tactic| wtm_at "s1") => `(tactic| (((with_reducible apply una_of); wtm_at "all")))
local macro_rules | `(tactic| wtm_at "s1") => `(tactic| (((with_reducible apply bin_of); wtm_at "all")))
local macro_rules | `(tactic| wtm_at "s1") => `(tactic| (((with_reducible apply seq_of); wtm_at "all")))
local macro_rules | `(tactic| wtm_at "s1") => `(tactic| (((with_reducible apply x_sumI); (focus (wtm_at "sx")); (all_goals (try wtm_at "dats")))))
local macro_rules | `(tactic| wtm_at "s1") => `(tactic| (((with_reducible apply x_ch); wtm_at "all")))
local macro_rules | `(tactic| wtm_at "s1") => `(tactic| (((with_reducible apply x_revF); (focus (wtm_at "sx")); done)))
local macro_rules | `(tactic| wtm_at "s1") => `(tactic| (((with_reducible apply x_revB); (focus (wtm_at "sx")); (focus rfl); done)))
local macro_rules | `(tactic| wtm_at "s1") => `(tactic| (((with_reducible apply x_rI3); wtm_at "all")))
local macro_rules | `(tactic| wtm_at "s1") => `(tactic| (((with_reducible apply x_listR3); wtm_at "all")))
local macro_rules | `(tactic| wtm_at "s1") => `(tactic| (((with_reducible apply x_minL); (focus (wtm_at "sx")); (focus wtm_at "dats"); (focus (with_reducible assumption)); done)))
local macro_rules | `(tactic| wtm_at "s1") => `(tactic| (((with_reducible apply x_allB); (focus (wtm_at "sx")); (all_goals (try wtm_at "dats")))))
local macro_rules | `(tactic| wtm_at "s1") => `(tactic| (((with_reducible apply x_anyB); (focus (wtm_at "sx")); (all_goals (try wtm_at "dats")))))
local macro_rules | `(tactic| wtm_at "s1") => `(tactic| (((with_reducible apply x_lenT); (focus (wtm_at "sx")); (focus wtm_at "dats"); done)))
local macro_rules | `(tactic| wtm_at "s1") => `(tactic| (((with_reducible apply x_lenG); (focus (wtm_at "sx")); (focus wtm_at "dats"); done)))
local macro_rules | `(tactic| wtm_at "s1") => `(tactic| (((with_reducible apply x_lenM); (focus (wtm_at "sx")); (focus wtm_at "dats"); done)))
local macro_rules | `(tactic| wtm_at "s1") => `(tactic| (((with_reducible apply x_lenI); (focus (wtm_at "sx")); (focus wtm_at "dats"); done)))
local macro_rules | `(tactic| wtm_at "s1") => `(tactic| (((with_reducible apply x_lenS); (focus (wtm_at "sx")); done)))
local macro_rules | `(tactic| wtm_at "s1") => `(tactic| (((with_reducible apply x_isi); (focus wtm_at "sx"); (focus wtm_at "dats"); (focus rfl); (focus (first | rfl | decide)))))
local macro_rules | `(tactic| wtm_at "s1") => `(tactic| (((with_reducible apply isi_nbool); wtm_at "all")))
local macro_rules | `(tactic| wtm_at "s1") => `(tactic| (((with_reducible apply isi_int); wtm_at "all")))
local macro_rules | `(tactic| wtm_at "s1") => `(tactic| (((with_reducible apply x_nam); (all_goals rfl))))
local macro_rules | `(tactic| wtm_at "s1") => `(tactic| ((with_reducible exact e_nil)))
local macro_rules | `(tactic| wtm_at "s1") => `(tactic| ((with_reducible exact e_xnil)))
local macro_rules | `(tactic| wtm_at "s1") => `(tactic| ((with_reducible exact e_anil)))
local macro_rules | `(tactic| wtm_at "s1") => `(tactic| ((with_reducible exact e_cst)))
local macro_rules | `(tactic| wtm_at "s1") => `(tactic| (((with_reducible apply g_eq); (with_reducible assumption))))
local macro_rules | `(tactic| wtm_at "nrm") => `(tactic| (rfl))
local macro_rules | `(tactic| wtm_at "nrm") => `(tactic| (((with_reducible apply nrm_L); (with_reducible assumption))))
local macro_rules | `(tactic| wtm_at "nrm") => `(tactic| (((with_reducible apply nrm_O); (with_reducible assumption))))
local macro_rules | `(tactic| wtm_at "nrm") => `(tactic| (((with_reducible apply nrm_B); (with_reducible assumption))))
local macro_rules | `(tactic| wtm_at "nrm") => `(tactic| (((with_reducible apply nrm_I); (with_reducible assumption))))
local macro_rules | `(tactic| wtm_at "g") => `(tactic| (((with_reducible apply g_retM); rfl)))
local macro_rules | `(tactic| wtm_at "g") => `(tactic| ((with_reducible exact shutL_f)))
local macro_rules | `(tactic| wtm_at "g") => `(tactic| ((with_reducible exact slotsL_f)))
local macro_rules | `(tactic| wtm_at "g") => `(tactic| (((with_reducible apply retM_ot); (focus wtm_at "g"); wtm_at "g")))
local macro_rules | `(tactic| wtm_at "g") => `(tactic| (((with_reducible apply retM_ol); (focus wtm_at "g"); wtm_at "g")))
local macro_rules | `(tactic| wtm_at "g") => `(tactic| (((with_reducible apply retM_Be); first | (with_reducible assumption) | rfl)))
local macro_rules | `(tactic| wtm_at "g") => `(tactic| (((with_reducible apply retM_Ie); first | (with_reducible assumption) | rfl)))
local macro_rules | `(tactic| wtm_at "g") => `(tactic| (((with_reducible apply retM_oIe); first | (with_reducible assumption) | rfl)))
local macro_rules | `(tactic| wtm_at "g") => `(tactic| (((with_reducible apply retM_bp); (all_goals rfl))))
local macro_rules | `(tactic| wtm_at "g") => `(tactic| ((with_reducible exact retM_oI _)))
local macro_rules | `(tactic| wtm_at "g") => `(tactic| (((with_reducible apply retM_t1); (focus rfl); wtm_at "dat0")))
local macro_rules | `(tactic| wtm_at "g") => `(tactic| ((with_reducible exact retM_fz)))
local macro_rules | `(tactic| wtm_at "g") => `(tactic| (((with_reducible apply g_put); wtm_at "put")))
local macro_rules | `(tactic| wtm_at "g") => `(tactic| (((with_reducible apply g_outs); rfl)))
local macro_rules | `(tactic| wtm_at "g") => `(tactic| (((with_reducible apply g_ble); rfl)))
local macro_rules | `(tactic| wtm_at "g") => `(tactic| (((with_reducible apply g_shut); (simp only [List.tail_cons]); wtm_at "g")))
local macro_rules | `(tactic| wtm_at "g") => `(tactic| (((with_reducible apply shutZ_d); (focus wtm_at "dat0"); wtm_at "g")))
local macro_rules | `(tactic| wtm_at "g") => `(tactic| (((with_reducible apply shutZ_s); wtm_at "g")))
local macro_rules | `(tactic| wtm_at "g") => `(tactic| (((with_reducible apply shutZ_z); wtm_at "g")))
local macro_rules | `(tactic| wtm_at "g") => `(tactic| (((with_reducible apply shutZ_f); wtm_at "g")))
local macro_rules | `(tactic| wtm_at "g") => `(tactic| ((with_reducible exact shutZ_n)))
local macro_rules | `(tactic| wtm_at "g") => `(tactic| (((with_reducible apply g_slots); rfl)))
local macro_rules | `(tactic| wtm_at "g") => `(tactic| (((with_reducible apply slotsL_ct); (focus wtm_at "g"); wtm_at "g")))
local macro_rules | `(tactic| wtm_at "g") => `(tactic| (((with_reducible apply slotsL_cl); (focus wtm_at "g"); wtm_at "g")))
local macro_rules | `(tactic| wtm_at "g") => `(tactic| (((with_reducible apply slotsL_m); (focus (intros; wtm_at "g")); wtm_at "g")))
local macro_rules | `(tactic| wtm_at "g") => `(tactic| (((with_reducible apply slotsL_co); wtm_at "g")))
local macro_rules | `(tactic| wtm_at "g") => `(tactic| (((with_reducible apply slotsL_cf); wtm_at "g")))
local macro_rules | `(tactic| wtm_at "g") => `(tactic| ((with_reducible exact slotsL_n)))
local macro_rules | `(tactic| wtm_at "g") => `(tactic| (((with_reducible apply stowA_2); wtm_at "g")))
local macro_rules | `(tactic| wtm_at "g") => `(tactic| (((with_reducible apply stowA_1); wtm_at "g")))
local macro_rules | `(tactic| wtm_at "g") => `(tactic| ((with_reducible exact stowA_n)))
local macro_rules | `(tactic| wtm_at "g") => `(tactic| (((with_reducible apply g_lw); assumption)))
local macro_rules | `(tactic| wtm_at "g") => `(tactic| (((with_reducible apply g_lp); assumption)))
local macro_rules | `(tactic| wtm_at "g") => `(tactic| (((with_reducible apply shutL_c); (focus wtm_at "g"); wtm_at "g")))
local macro_rules | `(tactic| wtm_at "g") => `(tactic| (((with_reducible apply slotsL_map); intros; wtm_at "g")))
local macro_rules | `(tactic| wtm_at "g") => `(tactic| (((with_reducible apply shutL_map); intros; wtm_at "g")))
local macro_rules | `(tactic| wtm_at "g") => `(tactic| ((with_reducible exact shutL_n)))
local macro_rules | `(tactic| wtm_at "g") => `(tactic| (((with_reducible apply shut_ot); wtm_at "g")))
local macro_rules | `(tactic| wtm_at "g") => `(tactic| (((with_reducible apply shut_ol); wtm_at "g")))
local macro_rules | `(tactic| wtm_at "g") => `(tactic| (((with_reducible apply shut_m); intros; wtm_at "g")))
local macro_rules | `(tactic| wtm_at "g") => `(tactic| ((with_reducible exact shut_s)))
local macro_rules | `(tactic| wtm_at "g") => `(tactic| ((with_reducible exact shut_f)))
local macro_rules | `(tactic| wtm_at "g") => `(tactic| (((with_reducible apply g_stow); rfl)))
local macro_rules | `(tactic| wtm_at "g") => `(tactic| (((with_reducible apply stow_zt); (focus wtm_at "g"); wtm_at "dat0")))
local macro_rules | `(tactic| wtm_at "g") => `(tactic| (((with_reducible apply stow_zl); (focus wtm_at "g"); wtm_at "dat0")))
local macro_rules | `(tactic| wtm_at "g") => `(tactic| (((with_reducible apply stow_ot); (focus wtm_at "g"); wtm_at "g")))
local macro_rules | `(tactic| wtm_at "g") => `(tactic| (((with_reducible apply stow_ol); (focus wtm_at "g"); wtm_at "g")))
local macro_rules | `(tactic| wtm_at "g") => `(tactic| (((with_reducible apply stow_bm); (focus rfl); (focus wtm_at "dat0"); wtm_at "put")))
local macro_rules | `(tactic| wtm_at "g") => `(tactic| (((with_reducible apply stow_b0); (focus rfl); wtm_at "put")))
local macro_rules | `(tactic| wtm_at "g") => `(tactic| ((with_reducible exact stow_s _)))
local macro_rules | `(tactic| wtm_at "g") => `(tactic| ((with_reducible exact stow_z _)))
local macro_rules | `(tactic| wtm_at "g") => `(tactic| ((with_reducible exact stow_f)))
local macro_rules | `(tactic| wtm_at "g") => `(tactic| (((with_reducible apply g_alv2); (focus rfl); (all_goals (try wtm_at "g")))))
local macro_rules | `(tactic| wtm_at "g") => `(tactic| (((with_reducible apply g_alv); rfl)))
local macro_rules | `(tactic| wtm_at "g") => `(tactic| (((with_reducible apply g_isOl); rfl)))
local macro_rules | `(tactic| wtm_at "g") => `(tactic| (((with_reducible apply g_place); rfl)))
local macro_rules | `(tactic| wtm_at "g") => `(tactic| (((with_reducible apply g_get); rfl)))
local macro_rules | `(tactic| wtm_at "env") => `(tactic| (simp only [List.map_cons, List.map_nil, Nat.reduceSub, Nat.sub_self, List.reduceReplicate, List.replicate_zero, List.append_nil, List.cons_append, List.nil_append]; try rfl))
local macro_rules | `(tactic| wtm_at "run") => `(tactic| (((with_reducible apply run_nx); (focus (first | rfl)); (focus (first | rfl)); (focus wtm_at "env"); wtm_at "all")))
local macro_rules | `(tactic| wtm_at "run") => `(tactic| (((with_reducible apply run_rt); (focus (first | rfl)); (focus (first | rfl)); (focus wtm_at "env"); wtm_at "all")))
local macro_rules | `(tactic| wtm_at "runN") => `(tactic| ((with_reducible apply run_nx); (focus (first | rfl)); (focus (first | rfl)); (focus wtm_at "env"); wtm_at "all"))
local macro_rules | `(tactic| wtm_at "op") => `(tactic| ((with_reducible exact k_notB)))
local macro_rules | `(tactic| wtm_at "op") => `(tactic| ((with_reducible exact k_isB)))
local macro_rules | `(tactic| wtm_at "op") => `(tactic| ((with_reducible exact k_dlenO)))
local macro_rules | `(tactic| wtm_at "op") => `(tactic| ((with_reducible exact k_bits)))
local macro_rules | `(tactic| wtm_at "op") => `(tactic| (((with_reducible apply k_keysP); (with_reducible assumption))))
local macro_rules | `(tactic| wtm_at "op") => `(tactic| (((with_reducible apply k_dgP); (focus (with_reducible assumption)); (focus rfl); (with_reducible assumption))))
local macro_rules | `(tactic| wtm_at "op") => `(tactic| (((with_reducible apply k_dgF); (focus rfl); (with_reducible assumption))))
local macro_rules | `(tactic| wtm_at "op") => `(tactic| (((with_reducible apply k_fldO); (with_reducible exact getF_1))))
local macro_rules | `(tactic| wtm_at "op") => `(tactic| (((with_reducible apply k_fldP); (focus rfl); (focus (with_reducible exact getF_1)); (focus rfl))))
local macro_rules | `(tactic| wtm_at "op") => `(tactic| (((with_reducible apply k_fldF); (with_reducible exact lookD_1))))
local macro_rules | `(tactic| wtm_at "s1") => `(tactic| ((with_reducible apply x_dset); (focus wtm_at "sx"); (focus wtm_at "g"); (focus wtm_at "sx"); (focus wtm_at "sx"); (focus (with_reducible assumption)); (focus rfl); (focus wtm_at "sd"); (with_reducible assumption)))
def okD (L : List Int) : Prop := ∀ x ∈ L, 0 ≤ x ∧ x < 2147483587
theorem okD_app {L : List Int} {x : Int} (h : okD L) (h0 : 0 ≤ x) (h1 : x < 2147483587) : okD (L ++ [x]) := fun y hy => by
  rcases List.mem_append.mp hy with hy | hy
  · exact h y hy
  · rw [List.mem_singleton.mp hy]
    exact ⟨h0, h1⟩
abbrev denv (s t m c : Option M) (found left : List Int) (k a p n : Option M) : En := [s, t, m, c, some (oI found), some (oI left), k, a, p, n, none]
theorem draw0 {s m c a p n : Option M} {t k : Nat} {found left : List Int} (hl : 0 < left.length) (hf : found.length < 1000) (ho : okD found) :
    ∃ found' left' a', B__law_draws_0 (denv s (some (I t)) m c found left (some (I k)) a p n) = some (.nx (denv s (some (I t)) m c found' left' (some (I k)) a' p n)) ∧ left'.length = left.length ∧ found'.length ≤ found.length + 1 ∧ okD found' := by
  have hlt : k % left.length < left.length := Nat.mod_lt _ hl
  have s1 : sAsg lk__law_draws 7 0 (lif (T2.bin (sop iMod) (nam 6) (opr (sop gLen) (aCons (nam 5) aNil)))) (denv s (some (I t)) m c found left (some (I k)) a p n) = some (.nx (denv s (some (I t)) m c found left (some (I k)) (some (I (k % left.length : Nat))) p n)) :=
    (asg_of (bin_of (nam_fz (d := .int k) rfl) (len_b (nam_oD (ds := left.map .int) rfl) (dats_b (ds := left.map .int) rfl dats_n)) (k_mod (by simp; omega))) rfl (Nat.le_of_ble_eq_true rfl)).trans (by simp; rfl)
  have ix : ∀ f, T2.bin oIdx (nam 5) (nam 7) (denv s (some (I t)) m c f left (some (I k)) (some (I (k % left.length : Nat))) p n) = some (I left[k % left.length]) := fun f =>
    bin_of (nam_oD (ds := left.map .int) rfl) (nam_fz (d := .int (k % left.length : Nat)) rfl) (idx_b (L := left) rfl hlt)
  have s3 : ∀ f, sSet 0 (nam 5) (nam 7) (lif (T2.bin (sop iDiv) (T2.bin oIdx (nam 5) (nam 7)) (cst (.int 2147483587)))) (denv s (some (I t)) m c f left (some (I k)) (some (I (k % left.length : Nat))) p n) = some (.nx (denv s (some (I t)) m c f (left.set (k % left.length) (left[k % left.length] / 2147483587)) (some (I k)) (some (I (k % left.length : Nat))) p n)) := fun f =>
    set_of (lif_of (bin_of (ix f) e_cst (k_div (by decide) (by decide)))) (m' := I (left[k % left.length] / 2147483587)) rfl (nam_oD (ds := left.map .int) rfl) (nam_fz (d := .int (k % left.length : Nat)) rfl) rfl (mSet_nat hlt)
  have cnd : lifT (tst (T2.bin (sop iGe) (nam 6) (nam 1))) (denv s (some (I t)) m c found left (some (I k)) (some (I (k % left.length : Nat))) p n) = some (decide ((t : Int) ≤ k), denv s (some (I t)) m c found left (some (I k)) (some (I (k % left.length : Nat))) p n) := by
    unfold lifT
    rw [tst_of (bin_of (nam_fz (d := .int k) rfl) (nam_fz (d := .int t) rfl) k_ge)]
  by_cases h : (t : Int) ≤ k
  · rw [decide_eq_true h] at cnd
    have s2 : sExp (xMutP 9 (nam 4) (aCons (T2.bin (sop iMod) (T2.bin oIdx (nam 5) (nam 7)) (cst (.int 2147483587))) aNil) mAppend) (denv s (some (I t)) m c found left (some (I k)) (some (I (k % left.length : Nat))) p n) = some (.nx (denv s (some (I t)) m c (found ++ [left[k % left.length] % 2147483587]) left (some (I k)) (some (I (k % left.length : Nat))) p n)) :=
      (exp_of (mutP_of (nam_oD (ds := found.map .int) rfl) (acons_of (bin_of (ix found) e_cst (k_mod (by decide))) e_anil) rfl (show stowA 9 _ [I _] = _ from rfl) rfl (append_ints (by simp [sizeLine]; omega))))
    exact ⟨found ++ [left[k % left.length] % 2147483587], left.set (k % left.length) (left[k % left.length] / 2147483587), some (I (k % left.length : Nat)), seq_of s1 (seq_of (ifX_t cnd s2) (s3 _)), by simp, by simp, okD_app ho (Int.emod_nonneg _ (by decide)) (Int.emod_lt_of_pos _ (by decide))⟩
  · rw [decide_eq_false h] at cnd
    exact ⟨found, _, _, seq_of s1 (seq_of (ifX_f cnd e_nil) (s3 found)), by simp, by omega, ho⟩
theorem draws0 {s m c p n : Option M} {t : Nat} : ∀ (ks : List Nat) (found left : List Int) (k a : Option M), 0 < left.length → found.length + ks.length < 1000 → okD found →
    ∃ found' left' k' a', lpF lk__law_draws (.nm 6) B__law_draws_0 (ks.map fun k : Nat => D.int k) (denv s (some (I t)) m c found left k a p n) = some (.nx (denv s (some (I t)) m c found' left' k' a' p n)) ∧ okD found'
  | [], found, left, k, a, _, _, ho => ⟨found, left, k, a, lp_nil, ho⟩
  | k0 :: ks, found, left, k, a, hl, hf, ho => by
    simp only [List.length_cons] at hf
    obtain ⟨f1, l1, a1, h1, h2, h3, h4⟩ := draw0 (s := s) (m := m) (c := c) (a := a) (p := p) (n := n) (t := t) (k := k0) hl (by omega) ho
    obtain ⟨f2, l2, k2, a2, h5, h6⟩ := draws0 (s := s) (m := m) (c := c) (p := p) (n := n) (t := t) ks f1 l1 (some (I k0)) a1 (by omega) (by omega) h4
    exact ⟨f2, l2, k2, a2, lp_cons (e1 := denv s (some (I t)) m c found left (some (I k0)) a p n) rfl h1 h5, h6⟩
abbrev eenv (s t m : Option M) (cells found : List Int) (k a p n : Option M) : En := [s, t, m, some (.fz (lI cells)), some (oI found), none, k, a, p, n, none]
theorem draw1 {s m a p n : Option M} {t k : Nat} {cells found : List Int} (hl : 0 < cells.length) (hf : found.length < 1000) (ho : okD found) (hk : k < 1000) (ht : t < 1000) :
    ∃ found' p' n', B__law_draws_1 (eenv s (some (I t)) m cells found (some (I k)) a p n) = some (.nx (eenv s (some (I t)) m cells found' (some (I k)) a p' n')) ∧ found'.length ≤ found.length + 1 ∧ okD found' := by
  have hlt : k % cells.length < cells.length := Nat.mod_lt _ hl
  have kt : ∀ p n, T2.bin oAdd (nam 6) (nam 1) (eenv s (some (I t)) m cells found (some (I k)) a p n) = some (I ((k + t : Nat) : Int)) := fun p n => (bin_of (nam_fz (d := .int k) rfl) (nam_fz (d := .int t) rfl) k_add).trans (by simp)
  have hkt : (k + t) * (k + t) ≤ 2000 * 2000 := Nat.mul_le_mul (by omega) (by omega)
  obtain ⟨q, hq⟩ : ∃ q : Nat, q = (k + t) * (k + t) * 7919 + 104729 := ⟨_, rfl⟩
  have s1 : sAsg lk__law_draws 8 0 (lif (T2.bin oAdd (T2.bin oMul (T2.bin oMul (T2.bin oAdd (nam 6) (nam 1)) (T2.bin oAdd (nam 6) (nam 1))) (cst (.int 7919))) (cst (.int 104729)))) (eenv s (some (I t)) m cells found (some (I k)) a p n) = some (.nx (eenv s (some (I t)) m cells found (some (I k)) a (some (I q)) n)) :=
    (asg_of (bin_of (bin_of (bin_of (kt _ _) (kt _ _) (k_mul (cMul_ok 11 11 (by omega) (by omega) (by decide)))) e_cst (k_mul (cMul_ok 22 13 (by rw [← Int.natCast_mul, Int.natAbs_natCast]; omega) (by decide) (by decide)))) e_cst k_add) rfl (Nat.le_of_ble_eq_true rfl)).trans (by rw [hq]; simp; rfl)
  have ci : T2.bin oIdx (nam 3) (T2.bin (sop iMod) (nam 6) (opr (sop gLen) (aCons (nam 3) aNil))) (eenv s (some (I t)) m cells found (some (I k)) a (some (I q)) n) = some (I cells[k % cells.length]) :=
    bin_of (nam_fz (d := lI cells) rfl) (bin_of (nam_fz (d := .int k) rfl) (len_b (nam_fz (d := lI cells) rfl) (dats_f dats_n)) (k_mod (by simp; omega))) (by
      simp only [List.length_map]
      exact idx_i (L := cells) (k := k % cells.length) hlt)
  obtain ⟨x, hx⟩ : ∃ x : Int, x = (cells[k % cells.length] % 2147483647 + q) * 48271 % 2147483647 := ⟨_, rfl⟩
  have s2 : sAsg lk__law_draws 9 0 (lif (T2.bin (sop iMod) (T2.bin oMul (T2.bin oAdd (T2.bin (sop iMod) (T2.bin oIdx (nam 3) (T2.bin (sop iMod) (nam 6) (opr (sop gLen) (aCons (nam 3) aNil)))) (cst (.int 2147483647))) (nam 8)) (cst (.int 48271))) (cst (.int 2147483647)))) (eenv s (some (I t)) m cells found (some (I k)) a (some (I q)) n) = some (.nx (eenv s (some (I t)) m cells found (some (I k)) a (some (I q)) (some (I x)))) := by
    rw [hx]
    exact asg_of (bin_of (bin_of (bin_of (bin_of ci e_cst (k_mod (by decide))) (nam_fz (d := .int q) rfl) k_add) e_cst (k_mul (cMul_ok 40 16 (by omega) (by decide) (by decide)))) e_cst (k_mod (by decide))) rfl (Nat.le_of_ble_eq_true rfl)
  have hx0 : 0 ≤ x ∧ x < 2147483647 := by omega
  obtain ⟨y, hy⟩ : ∃ y : Int, y = (x * x + 69621 * k) % 2147483629 := ⟨_, rfl⟩
  have s3 : sAsg lk__law_draws 9 0 (lif (T2.bin (sop iMod) (T2.bin oAdd (T2.bin oMul (nam 9) (nam 9)) (T2.bin oMul (cst (.int 69621)) (nam 6))) (cst (.int 2147483629)))) (eenv s (some (I t)) m cells found (some (I k)) a (some (I q)) (some (I x))) = some (.nx (eenv s (some (I t)) m cells found (some (I k)) a (some (I q)) (some (I y)))) := by
    rw [hy]
    exact asg_of (bin_of (bin_of (bin_of (nam_fz (d := .int x) rfl) (nam_fz (d := .int x) rfl) (k_mul (cMul_ok 31 31 (by omega) (by omega) (by decide)))) (bin_of e_cst (nam_fz (d := .int k) rfl) (k_mul (cMul_ok 17 10 (by decide) (by omega) (by decide)))) k_add) e_cst (k_mod (by decide))) rfl (Nat.le_of_ble_eq_true rfl)
  have hy0 : 0 ≤ y ∧ y < 2147483629 := by
    rw [hy]
    exact ⟨Int.emod_nonneg _ (by decide), Int.emod_lt_of_pos _ (by decide)⟩
  have s4 : sExp (xMutP 9 (nam 4) (aCons (T2.bin (sop iMod) (T2.bin oMul (nam 9) (nam 9)) (cst (.int 2147483587))) aNil) mAppend) (eenv s (some (I t)) m cells found (some (I k)) a (some (I q)) (some (I y))) = some (.nx (eenv s (some (I t)) m cells (found ++ [y * y % 2147483587]) (some (I k)) a (some (I q)) (some (I y)))) :=
    exp_of (mutP_of (nam_oD (ds := found.map .int) rfl) (acons_of (bin_of (bin_of (nam_fz (d := .int y) rfl) (nam_fz (d := .int y) rfl) (k_mul (cMul_ok 31 31 (by omega) (by omega) (by decide)))) e_cst (k_mod (by decide))) e_anil) rfl (show stowA 9 _ [I _] = _ from rfl) rfl (append_ints (by simp [sizeLine]; omega)))
  exact ⟨_, _, _, seq_of s1 (seq_of s2 (seq_of s3 s4)), by simp, okD_app ho (Int.emod_nonneg _ (by decide)) (Int.emod_lt_of_pos _ (by decide))⟩
theorem draws1 {s m : Option M} {t : Nat} {cells : List Int} (hl : 0 < cells.length) (ht : t < 1000) : ∀ (ks : List Nat) (found : List Int) (k a p n : Option M), found.length + ks.length < 1000 → (∀ k ∈ ks, k < 1000) → okD found →
    ∃ found' k' p' n', lpF lk__law_draws (.nm 6) B__law_draws_1 (ks.map fun k : Nat => D.int k) (eenv s (some (I t)) m cells found k a p n) = some (.nx (eenv s (some (I t)) m cells found' k' a p' n')) ∧ okD found'
  | [], found, k, a, p, n, _, _, ho => ⟨found, k, p, n, lp_nil, ho⟩
  | k0 :: ks, found, k, a, p, n, hf, hk, ho => by
    simp only [List.length_cons] at hf
    obtain ⟨f1, p1, n1, h1, h3, h4⟩ := draw1 (s := s) (m := m) (a := a) (p := p) (n := n) (t := t) (k := k0) (cells := cells) hl (by omega) ho (hk k0 (List.mem_cons_self ..)) ht
    obtain ⟨f2, k2, p2, n2, h5, h6⟩ := draws1 (s := s) (m := m) (t := t) (cells := cells) hl ht ks f1 (some (I k0)) a p1 n1 (by omega) (fun j hj => hk j (List.mem_cons_of_mem _ hj)) h4
    exact ⟨f2, k2, p2, n2, lp_cons (e1 := eenv s (some (I t)) m cells found (some (I k0)) a p n) rfl h1 h5, h6⟩
theorem rng0 {fs : En → Option (List M)} {env : En} {j : Nat} (h : fs env = some [I j]) (hj : j < 2 ^ 40) : itR1 fs env = some ((List.range j).map fun k : Nat => D.int k) := by
  unfold itR1
  rw [h]
  have hi : inR (j : Int) = true := by unfold inR; simp; omega
  simp only [hi, if_true]
  unfold rngD
  simp
theorem draws_ok {ns : List Int} (hn : ns.length ≤ 63) (t m : Nat) (ht : t + m < 900) : ∃ L, okD L ∧ f__law_draws [.fz (.scr ns), I t, I m] = some (oI L, [.fz (.scr ns), I t, I m]) := by
  obtain ⟨cells, hc⟩ : ∃ cells : List Int, cells = ns.take 63 ++ [(t : Int)] := ⟨_, rfl⟩
  have hcl : 0 < cells.length ∧ cells.length ≤ 64 := by rw [hc]; simp; omega
  have s1 : sAsg lk__law_draws 3 0 (lif (T2.bin oAdd (oSl (nam 0) none (some (cst (.int 63)))) (opr oLst (aCons (nam 1) aNil)))) [some (.fz (.scr ns)), some (I t), some (I m), none, none, none, none, none, none, none, none] = some (.nx [some (.fz (.scr ns)), some (I t), some (I m), some (.fz (lI cells)), none, none, none, none, none, none, none]) := by
    have e1 : oSl (nam 0) none (some (cst (.int 63))) [some (.fz (.scr ns)), some (I t), some (I m), none, none, none, none, none, none, none, none] = some (oI (ns.take 63)) :=
      (slice_s (nam_fz (d := .scr ns) rfl)).trans (by rw [show (63 : Int) = ((63 : Nat) : Int) from rfl, sub_cut])
    have e2 : opr oLst (aCons (nam 1) aNil) [some (.fz (.scr ns)), some (I t), some (I m), none, none, none, none, none, none, none, none] = some (oD [.int t]) :=
      opr_of (acons_of (nam_fz (d := .int t) rfl) e_anil) (k_lst (by simp [sizeLine]))
    refine (asgX_of (lif_of (bin_of e1 e2 (cat_oo (by simp [sizeLine]; omega)))) (stow_z _) rfl (Nat.le_of_ble_eq_true rfl)).trans ?_
    rw [show lI cells = D.lst ((ns.take 63).map D.int ++ [D.int t]) by rw [hc]; show D.lst _ = _; rw [List.map_append]; rfl]
    rfl
  have s2 : sAsg lk__law_draws 4 9 (lif (opr oLst aNil)) [some (.fz (.scr ns)), some (I t), some (I m), some (.fz (lI cells)), none, none, none, none, none, none, none] = some (.nx (eenv (some (.fz (.scr ns))) (some (I t)) (some (I m)) cells [] none none none none)) := by kernel_rfl
  have ci : T2.bin oIdx (nam 3) (cst (.int 0)) (eenv (some (.fz (.scr ns))) (some (I t)) (some (I m)) cells [] none none none none) = some (I cells[0]) :=
    bin_of (nam_fz (d := lI cells) rfl) e_cst (idx_i (L := cells) (k := 0) hcl.1)
  have cnd : tst (T2.bin (sop (gEq false)) (T2.bin (sop iMod) (T2.bin (sop iDiv) (T2.bin oIdx (nam 3) (cst (.int 0))) (cst (.int 50000))) (cst (.int 2))) (cst (.int 1))) (eenv (some (.fz (.scr ns))) (some (I t)) (some (I m)) cells [] none none none none) = some (cells[0] / 50000 % 2 == 1) :=
    tst_of (bin_of (bin_of (bin_of ci e_cst (k_div (by decide) (by decide))) e_cst (k_mod (by decide))) e_cst k_eqF)
  cases hcn : (cells[0] / 50000 % 2 == 1) with
  | true =>
    rw [hcn] at cnd
    have hl := lc_list (vs := [10]) (t := .nm 10) (elt := T2.bin (sop iDiv) (nam 10) (cst (.int 100000))) (env := eenv (some (.fz (.scr ns))) (some (I t)) (some (I m)) cells [] none none none none) (it := itP true (nam 3)) (ts := cells) (v := fun x => x / 100000) rfl
      (fun x hx => ⟨[some (.fz (.scr ns)), some (I t), some (I m), some (.fz (lI cells)), some (oI []), none, none, none, none, none, some (I x)], rfl, bin_of (nam_fz rfl) e_cst (k_div (by decide) (by decide))⟩) (by simp [sizeLine]; omega)
    obtain ⟨f', l', k', a', lp, ho⟩ := draws0 (s := some (.fz (.scr ns))) (m := some (I m)) (c := some (.fz (lI cells))) (p := none) (n := none) (t := t) (List.range (t + m)) [] (cells.map fun x => x / 100000) none none (by simpa using hcl.1) (by simp; omega) (fun x hx => by cases hx)
    have key : F__law_draws [some (.fz (.scr ns)), some (I t), some (I m), none, none, none, none, none, none, none, none] = some (.rt (oI f') [some (.fz (.scr ns)), some (I t), some (I m), some (.fz (lI cells)), none, some (oI l'), k', a', none, none, none]) :=
      seq_of s1 (seq_of s2 (seq_rt (if_t cnd (seq_of (asgX_of (lk := lk__law_draws) (i := 5) (lif_of hl) (stow_s (k := 0) _) rfl (Nat.le_of_ble_eq_true rfl)) (seq_of (for_of (ds := (List.range (t + m)).map fun k : Nat => D.int k) (e1 := denv (some (.fz (.scr ns))) (some (I t)) (some (I m)) (some (.fz (lI cells))) [] (cells.map fun x => x / 100000) none none none none) (lifI_of (rng0 (j := t + m) (acons_of ((bin_of (nam_fz (d := .int t) rfl) (nam_fz (d := .int m) rfl) k_add).trans (by simp)) e_anil) (by omega))) lp) (by
        rw [e_ret, nam_oD (ds := f'.map .int) rfl]
        exact retM_bp rfl rfl))))))
    exact ⟨f', ho, run_rt rfl rfl rfl key rfl⟩
  | false =>
    rw [hcn] at cnd
    obtain ⟨f', k', p', n', lp, ho⟩ := draws1 (s := some (.fz (.scr ns))) (m := some (I m)) (t := t) (cells := cells) hcl.1 (by omega) (List.range m) [] none none none none (by simp; omega) (fun k hk => by have := List.mem_range.mp hk; omega) (fun x hx => by cases hx)
    have key : F__law_draws [some (.fz (.scr ns)), some (I t), some (I m), none, none, none, none, none, none, none, none] = some (.rt (oI f') [some (.fz (.scr ns)), some (I t), some (I m), some (.fz (lI cells)), none, none, k', none, p', n', none]) :=
      seq_of s1 (seq_of s2 (seq_of (if_f cnd e_nil) (seq_of (for_of (ds := (List.range m).map fun k : Nat => D.int k) (e1 := eenv (some (.fz (.scr ns))) (some (I t)) (some (I m)) cells [] none none none none) (lifI_of (rng0 (j := m) (acons_of (nam_fz (d := .int m) rfl) e_anil) (by omega))) lp) (by
        rw [e_ret, nam_oD (ds := f'.map .int) rfl]
        exact retM_bp rfl rfl))))
    exact ⟨f', ho, run_rt rfl rfl rfl key rfl⟩
theorem pop_ok (L : List Int) (h : okD L) : ∃ (v : Int) (L' : List Int), f__law_pop [oI L] = some (I v, [oI L']) ∧ 0 ≤ v ∧ v < 2147483587 ∧ okD L' := by
  have e : ∀ b : Bool, (L == []) = b → tst (T2.bin (sop (gEq false)) (nam 0) (opr oLst aNil)) [some (oI L)] = some b := fun b hb => by
    refine (eqb_of (xs := L) (ys := []) (nam_oD (ds := L.map .int) rfl) (opr_of e_anil (k_lst (by simp [sizeLine]))) (dats_b (ds := L.map .int) rfl (dats_o (ds := []) dats_n))).trans ?_
    rw [hb]
    rfl
  rcases List.eq_nil_or_concat L with rfl | ⟨L', v, rfl⟩
  · have key : F__law_pop [some (oI [])] = some (.rt (I 0) [some (oI [])]) := seq_rt (if_t (e true rfl) (ret_of e_cst))
    exact ⟨0, [], run_rt rfl rfl rfl key rfl, by omega, by omega, h⟩
  · rw [List.concat_eq_append] at *
    have hv := h v (by simp)
    have hp : mPop (((L' ++ [v]).map D.int).map .fz) [] = some ((L'.map D.int).map .fz, I v) := by
      unfold mPop
      simp
    have key : F__law_pop [some (oI (L' ++ [v]))] = some (.rt (I v) [some (oI L')]) :=
      seq_of (if_f (e false (by cases L' <;> rfl)) e_nil) (retX_of (mutP_of (nam_oD (ds := (L' ++ [v]).map .int) rfl) e_anil rfl rfl rfl hp))
    exact ⟨v, L', run_rt rfl rfl rfl key rfl, hv.1, hv.2, fun x hx => h x (by simp [hx])⟩
theorem greatest_ok (n : Nat) (h1 : 1 ≤ n) (h4 : n ≤ 4) : f_greatest [I n] = some (I (2 ^ n - 1 : Nat), [I n]) := by
  have : n = 1 ∨ n = 2 ∨ n = 3 ∨ n = 4 := by omega
  rcases this with rfl | rfl | rfl | rfl <;> kernel_rfl
abbrev tupI (p : Int × Int) : D := .tup [.int p.1, .int p.2]
theorem look_loop (n : Int) (A : Option M) (W : Int) : ∀ (ps : List (Int × Int)) (_ : ∀ p ∈ ps, p.2 ≤ p.1 ∧ p.1 ≤ W) (x y : Option M), ∃ x' y', lpF lk_look_at (.tp [(.nm 3), (.nm 4)]) B_look_at_0 (ps.map tupI) [some (I n), A, some (I W), x, y] = some (.nx [some (I n), A, some (I W), x', y'])
  | [], _, x, y => ⟨x, y, lp_nil⟩
  | p :: ps, h, x, y => by
    obtain ⟨h1, h2⟩ := h p (List.mem_cons_self ..)
    obtain ⟨x', y', ih⟩ := look_loop n A W ps (fun q hq => h q (List.mem_cons_of_mem _ hq)) (some (I p.1)) (some (I p.2))
    have e1 : tst (T2.bin (sop iLt) (nam 3) (nam 4)) [some (I n), A, some (I W), some (I p.1), some (I p.2)] = some false :=
      (tst_of (bin_of (nam_fz rfl) (nam_fz rfl) k_lt)).trans (by rw [decide_eq_false (by omega)])
    have e2 : tst (T2.bin (sop iGt) (nam 3) (nam 2)) [some (I n), A, some (I W), some (I p.1), some (I p.2)] = some false :=
      (tst_of (bin_of (nam_fz rfl) (nam_fz rfl) k_gt)).trans (by rw [decide_eq_false (by omega)])
    exact ⟨x', y', lp_cons (e1 := [some (I n), A, some (I W), some (I p.1), some (I p.2)]) rfl (if_f (or_f e1 e2) e_nil) ih⟩
theorem look_ok (n : Nat) (h1 : 1 ≤ n) (h4 : n ≤ 4) (ps : List (Int × Int)) (h : ∀ p ∈ ps, p.2 ≤ p.1 ∧ p.1 ≤ (2 ^ n - 1 : Nat)) : f_look_at [I n, .fz (.lst (ps.map tupI))] = some (.fz .non, [I n, .fz (.lst (ps.map tupI))]) := by
  obtain ⟨x', y', lp⟩ := look_loop n (some (.fz (.lst (ps.map tupI)))) (2 ^ n - 1 : Nat) ps h none none
  have key : F_look_at [some (I n), some (.fz (.lst (ps.map tupI))), none, none, none] = some (.nx [some (I n), some (.fz (.lst (ps.map tupI))), some (I (2 ^ n - 1 : Nat)), x', y']) :=
    seq_of (asg_of (lk := lk_look_at) (i := 2) (opr_of (acons_of (nam_fz (d := .int n) rfl) e_anil) (callP_of rfl rfl (greatest_ok n h1 h4))) rfl (Nat.le_of_ble_eq_true rfl)) (for_of (e1 := [some (I n), some (.fz (.lst (ps.map tupI))), some (I (2 ^ n - 1 : Nat)), none, none]) (itX_of (lif_of (nam_fz (d := .lst (ps.map tupI)) rfl)) rfl rfl rfl) lp)
  exact run_nx rfl rfl rfl key rfl
abbrev tupN (p : Nat × Int) : D := .tup [.int p.1, .int p.2]
def addAt (R : List Int) (p : Nat × Int) : List Int := if p.1 = 0 then R else R.set (p.1 - 1) (R.getD (p.1 - 1) 0 + p.2)
theorem addAt_len (R : List Int) (p : Nat × Int) : (addAt R p).length = R.length := by
  unfold addAt
  split <;> simp
def rowT (W : Nat) (ps : List (Nat × Int)) : List Int := ps.foldl addAt (List.replicate W 0)
theorem row_loop (n : Int) (A : Option M) : ∀ (ps : List (Nat × Int)) (R : List Int) (_ : ∀ p ∈ ps, p.1 ≤ R.length) (x y : Option M), ∃ x' y', lpF lk_row_of (.tp [(.nm 3), (.nm 4)]) B_row_of_0 (ps.map tupN) [some (I n), A, some (oI R), x, y] = some (.nx [some (I n), A, some (oI (ps.foldl addAt R)), x', y'])
  | [], R, _, x, y => ⟨x, y, lp_nil⟩
  | p :: ps, R, h, x, y => by
    have h1 := h p (List.mem_cons_self ..)
    obtain ⟨x', y', ih⟩ := row_loop n A ps (addAt R p) (fun q hq => by rw [addAt_len]; exact h q (List.mem_cons_of_mem _ hq)) (some (I p.1)) (some (I p.2))
    refine ⟨x', y', lp_cons (e1 := [some (I n), A, some (oI R), some (I p.1), some (I p.2)]) rfl ?_ ih⟩
    by_cases h0 : p.1 = 0
    · have e : addAt R p = R := by unfold addAt; rw [if_pos h0]
      rw [e]
      exact if_f ((tst_of (bin_of (nam_fz (d := .int p.1) rfl) e_cst k_gt)).trans (by rw [decide_eq_false (by omega)])) e_nil
    · have hlt : p.1 - 1 < R.length := by omega
      have e : addAt R p = R.set (p.1 - 1) (R[p.1 - 1] + p.2) := by
        unfold addAt
        rw [if_neg h0]
        simp [List.getD, hlt]
      rw [e]
      have ei : T2.bin (sop iSub) (nam 3) (cst (.int 1)) [some (I n), A, some (oI R), some (I p.1), some (I p.2)] = some (I ((p.1 - 1 : Nat) : Int)) :=
        (bin_of (nam_fz (d := .int p.1) rfl) e_cst k_sub).trans (by rw [show (p.1 : Int) - 1 = ((p.1 - 1 : Nat) : Int) by omega])
      exact if_t ((tst_of (bin_of (nam_fz (d := .int p.1) rfl) e_cst k_gt)).trans (by rw [decide_eq_true (by omega)])) (augI_of (nam_oD (ds := R.map .int) rfl) ei (nam_fz rfl) rfl (atI_ints hlt) (mSet_nat hlt))
theorem row_of_ok (n : Nat) (h1 : 1 ≤ n) (h4 : n ≤ 4) (ps : List (Nat × Int)) (h : ∀ p ∈ ps, p.1 ≤ 2 ^ n - 1) : f_row_of [I n, .fz (.lst (ps.map tupN))] = some (oI (rowT (2 ^ n - 1) ps), [I n, .fz (.lst (ps.map tupN))]) := by
  obtain ⟨x', y', lp⟩ := row_loop n (some (.fz (.lst (ps.map tupN)))) ps (List.replicate (2 ^ n - 1) 0) (fun p hp => by simpa using h p hp) none none
  have hz : lcF [3] (.nm 3) (itR1 (aCons (opr (callP [false] f_greatest) (aCons (nam 0) aNil)) aNil)) cYes (cst (.int 0)) [some (I n), some (.fz (.lst (ps.map tupN))), none, none, none] = some (oI (List.replicate (2 ^ n - 1) 0)) := by
    have : n = 1 ∨ n = 2 ∨ n = 3 ∨ n = 4 := by omega
    rcases this with rfl | rfl | rfl | rfl <;> kernel_rfl
  have key : F_row_of [some (I n), some (.fz (.lst (ps.map tupN))), none, none, none] = some (.rt (oI (rowT (2 ^ n - 1) ps)) [some (I n), some (.fz (.lst (ps.map tupN))), none, x', y']) :=
    seq_of (asgX_of (lk := lk_row_of) (i := 2) (lif_of hz) (stow_s (k := 8) _) rfl (Nat.le_of_ble_eq_true rfl)) (seq_of (for_of (e1 := [some (I n), some (.fz (.lst (ps.map tupN))), some (oI (List.replicate (2 ^ n - 1) 0)), none, none]) (itX_of (lif_of (nam_fz (d := .lst (ps.map tupN)) rfl)) rfl rfl rfl) lp) (by
      rw [e_ret, nam_oD (ds := (rowT (2 ^ n - 1) ps).map .int) rfl]
      exact retM_bp rfl rfl))
  exact run_rt rfl rfl rfl key rfl
abbrev nI (L : List Nat) : List Int := L.map fun j : Nat => (j : Int)
def RC : Nat → List (List Nat)
  | 1 => [[0]]
  | 2 => [[0], [1], [0, 1, 0]]
  | 3 => [[0], [1], [2], [0, 1, 0], [0, 1, 4], [0, 2, 0], [0, 2, 2], [1, 2, 0], [1, 2, 1]]
  | 4 => [[0], [1], [2], [3], [0, 1, 0], [0, 1, 4], [0, 1, 8], [0, 1, 12], [0, 2, 0], [0, 2, 2], [0, 2, 8], [0, 2, 10], [0, 3, 0], [0, 3, 2], [0, 3, 4], [0, 3, 6], [1, 2, 0], [1, 2, 1], [1, 2, 8], [1, 2, 9], [1, 3, 0], [1, 3, 1], [1, 3, 4], [1, 3, 5], [2, 3, 0], [2, 3, 1], [2, 3, 2], [2, 3, 3]]
  | _ => []
def cD : List Nat → D
  | [k] => .tup [.str "last", .int k]
  | [i, j, g] => .tup [.str "pair", .int i, .int j, .int g]
  | _ => .non
abbrev RD (n : Nat) : List D := (RC n).map cD
def cIx (n : Nat) (c : List Nat) : Nat := (RC n).findIdx fun z => z == c
def onceP (n : Nat) (ts : List Nat) (c : List Nat) : Option (List Nat) := if Nat.blt (cIx n c) ts.length && Nat.beq ts.length (RC n).length then some (ts.set (cIx n c) (ts.getD (cIx n c) 0 + 1)) else none
def pairP (n : Nat) (ts : List Nat) (a b g : Nat) : Option (List Nat) := onceP n ts [min a b, max a b, g]
def namesN (g : Nat) : List Nat := (List.range 4).filter fun k => g.testBit k
def restL (n name : Nat) : List Nat → List Nat → Nat → Option (List Nat × Nat)
  | [], ts, kn => some (ts, kn)
  | o :: os, ts, kn => match pairP n ts name o kn with
    | some ts' => restL n name os ts' (kn ||| 2 ^ o)
    | none => none
def restP (n : Nat) (ts : List Nat) (name kn : Nat) : Option (List Nat) := if Nat.ble (kn + 2 ^ name) (2 ^ n - 1) && Nat.ble n 4 then match restL n name (namesN (2 ^ n - 1 - (kn + 2 ^ name))) ts kn with
    | some (ts', _) => onceP n ts' [name]
    | none => none
  else none
def restsL (n : Nat) : List Nat → List Nat → Nat → Option (List Nat × Nat)
  | [], ts, kn => some (ts, kn)
  | x :: xs, ts, kn => if kn.testBit x then restsL n xs ts kn else match restP n ts x kn with
    | some ts' => restsL n xs ts' (kn ||| 2 ^ x)
    | none => none
def restsP (n : Nat) (ts : List Nat) (g kn : Nat) : Option (List Nat) := if Nat.blt g 16 then (restsL n (namesN g) ts kn).map (·.1) else none
section
abbrev tM (n : Nat) (ts : List Nat) : M := .oi (ca.at_ 0) [("n", I n), ("whole", I ((2 ^ n - 1 : Nat) : Int)), ("rules", .fz (.lst (RD n))), ("times", oI (nI ts))]
theorem fld_f {env : En} {i : Nat} {C : Addr} {fs : List (Str × M)} {f : Str} {d : D} (h : env.get i = some (.oi (ca.at_ 0) fs)) (hf : getF fs f = some (.fz d)) : una (oFld 0 f) (nam i) env = some (.fz d) := by
  refine opr_of (acons_of (m := .bp i []) ?_ e_anil) ?_
  · unfold nam
    rw [h]
  · have hp : env.place i [] = some (.oi (ca.at_ 0) fs) := by
      unfold En.place
      rw [h]
      rfl
    unfold oFld
    simp only [hp, hf, if_true]
theorem fld_o {env : En} {i : Nat} {fs : List (Str × M)} {f : Str} {ms : List M} (h : env.get i = some (.oi (ca.at_ 0) fs)) (hf : getF fs f = some (.ol ms)) : una (oFld 0 f) (nam i) env = some (.bp i [.fd f]) := by
  refine opr_of (acons_of (m := .bp i []) ?_ e_anil) ?_
  · unfold nam
    rw [h]
  · have hp : env.place i [] = some (.oi (ca.at_ 0) fs) := by
      unfold En.place
      rw [h]
      rfl
    unfold oFld
    simp only [hp, hf, if_true]
    rfl
theorem augF_of {env : En} {op : Int → Int → Int} {fo fi fe : En → Option M} {i : Nat} {fs : List (Str × M)} {f : Str} {b : Int} {L : List Int} {j : Nat} (h1 : fo env = some (.bp i [.fd f])) (h2 : fi env = some (.fz (.int (j : Int)))) (h3 : fe env = some (.fz (.int b)))
    (h4 : env.get i = some (.oi (ca.at_ 0) fs)) (hf : getF fs f = some (oI L)) (h5 : j < L.length) : sAugI op fo fi fe env = some (.nx (env.put i (.oi (ca.at_ 0) (setF fs f (oI (L.set j (op L[j] b))))))) := by
  have hp : env.place i [.fd f] = some (oI L) := by
    unfold En.place
    rw [h4]
    show (match getF fs f with
      | some m => getP m []
      | none => none) = _
    rw [hf]
    rfl
  have hs : ∀ m, setE env i [.fd f] m = some (env.put i (.oi (ca.at_ 0) (setF fs f m))) := fun m => by
    unfold setE
    rw [h4]
    have : setP (.oi (ca.at_ 0) fs) [.fd f] m = some (.oi (ca.at_ 0) (setF fs f m)) := by
      show (match getF fs f with
        | some m' => (setP m' [] m).map fun m' => M.oi (ca.at_ 0) (setF fs f m')
        | none => none) = _
      simp only [hf, setP_nil, Option.map_some]
    simp only [this, Option.map_some]
  unfold sAugI
  rw [h1, h2, h3]
  have hp' : env.place i [.fd f] = some (.ol ((L.map D.int).map .fz)) := hp
  simp only [hp', atI_ints h5, mSet_nat h5, hs]
theorem idx_all {n : Nat} (h1 : 1 ≤ n) (h4 : n ≤ 4) : ∀ c ∈ RC n, gIdxO [.lst (RD n), cD c] = some (.int (cIx n c : Nat)) := by
  have key : ∀ n, ((RC n).all fun c => match gIdxO [.lst (RD n), cD c] with
    | some (.int i) => decide (i = ((cIx n c : Nat) : Int))
    | _ => false) = true → ∀ c ∈ RC n, gIdxO [.lst (RD n), cD c] = some (.int (cIx n c : Nat)) := fun n h c hc => by
    have := List.all_eq_true.mp h c hc
    revert this
    cases gIdxO [.lst (RD n), cD c] with
    | none => intro h; cases h
    | some d => cases d <;> intro h <;> first | exact (by rw [of_decide_eq_true h]) | cases h
  have : n = 1 ∨ n = 2 ∨ n = 3 ∨ n = 4 := by omega
  rcases this with rfl | rfl | rfl | rfl
  · exact key 1 (by kernel_rfl)
  · exact key 2 (by kernel_rfl)
  · exact key 3 (by kernel_rfl)
  · exact key 4 (by kernel_rfl)
theorem cIx_mem {n : Nat} {c : List Nat} (h : cIx n c < (RC n).length) : c ∈ RC n := by
  have a := List.findIdx_getElem (p := fun z => z == c) (xs := RC n) (w := h)
  have : (RC n)[cIx n c] = c := (by simpa using a : (RC n)[List.findIdx (fun z => z == c) (RC n)]'h = c)
  rw [← this]
  exact List.getElem_mem h
theorem nI_set (ts : List Nat) (i x : Nat) : (nI ts).set i (x : Int) = nI (ts.set i x) := by
  unfold nI
  rw [List.map_set]
theorem once_ok {n : Nat} {ts ts' : List Nat} {c : List Nat} (h1 : 1 ≤ n) (h4 : n ≤ 4) (h : onceP n ts c = some ts') : f_Tally_once [tM n ts, .fz (cD c)] = some (.fz .non, [tM n ts', .fz (cD c)]) := by
  unfold onceP at h
  split at h
  · rename_i hc
    rw [Bool.and_eq_true] at hc
    have hc1 : cIx n c < ts.length := by simpa using hc.1
    have hc2 : ts.length = (RC n).length := Nat.eq_of_beq_eq_true hc.2
    cases h
    have hi := idx_all h1 h4 c (cIx_mem (by omega))
    have ix : T2.bin (sop gIdxO) (una (oFld 0 "rules") (nam 0)) (nam 1) [some (tM n ts), some (.fz (cD c))] = some (.fz (.int (cIx n c : Nat))) := by
      refine bin_of (fld_f (C := 0) rfl rfl) (nam_fz rfl) ?_
      unfold sop
      rw [dats_f (dats_f dats_n)]
      simp only [hi]
      rfl
    have hl : cIx n c < (nI ts).length := by unfold nI; rw [List.length_map]; exact hc1
    have a := augF_of (op := fun i j => i + j) (env := [some (tM n ts), some (.fz (cD c))]) (fo := una (oFld 0 "times") (nam 0)) (fe := cst (.int 1)) (fld_o rfl rfl) ix e_cst rfl rfl hl
    have e : (nI ts)[cIx n c] + 1 = ((ts.getD (cIx n c) 0 + 1 : Nat) : Int) := by
      unfold nI
      simp [List.getD, hc1]
    have fin : F_Tally_once [some (tM n ts), some (.fz (cD c))] = some (.nx [some (tM n (ts.set (cIx n c) (ts.getD (cIx n c) 0 + 1))), some (.fz (cD c))]) := a.trans (by
      show some (Fl.nx [some (.oi (ca.at_ 0) [("n", I n), ("whole", I ((2 ^ n - 1 : Nat) : Int)), ("rules", .fz (.lst (RD n))), ("times", oI ((nI ts).set (cIx n c) ((nI ts)[cIx n c] + 1)))]), some (.fz (cD c))]) = _
      rw [e, nI_set])
    exact run_nx rfl rfl rfl fin rfl
  · cases h
end
section
theorem meth_of {env e2 : En} {i : Nat} {fs : List (Str × M)} {n' : M} {mn : Str} {io : List Bool} {F : Fn} {gs : En → Option (List M)} {rest cs tl : List M} {r : M} (h : env.get i = some (.oi (ca.at_ 0) fs)) (hf : getF fs mn = none) (hg : gs env = some rest) (hs : slotsL rest = []) (hz : shutZ io rest = some cs)
    (hF : F (.oi (ca.at_ 0) fs :: cs) = some (r, n' :: tl)) (he : env.put i n' = e2) : sExp (callM 0 mn (true :: io) F i (lifA gs)) env = some (.nx e2) := by
  have hn : nam i env = some (.bp i []) := by
    unfold nam
    rw [h]
  have ha : alv env (.bp i []) = true := by
    show (([] : List Pa).isEmpty && (env.get i).isSome) = true
    rw [h]
    rfl
  exact exp_of (x_callM h hf (x_callI (i := i) (xcons_of (lif_of hn) (lifA_of hg) ha) hs h hz hF he))
theorem pair_w {n : Nat} {ts ts' : List Nat} {a b g : Nat} (h1 : 1 ≤ n) (h4 : n ≤ 4) (h : pairP n ts a b g = some ts') : f_Tally_pair [tM n ts, I a, I b, I g] = some (.fz .non, [tM n ts', I a, I b, I g]) := by
  have q := once_ok h1 h4 h
  have e1 : (if (b : Int) < (a : Int) then (b : Int) else a) = ((min a b : Nat) : Int) := by split <;> omega
  have e2 : (if (b : Int) > (a : Int) then (b : Int) else a) = ((max a b : Nat) : Int) := by split <;> omega
  have g1 : aCons (opr oTup (aCons (cst (.str "pair")) (aCons (opr (oMin) (aCons (nam 1) (aCons (nam 2) aNil))) (aCons (opr (oMax) (aCons (nam 1) (aCons (nam 2) aNil))) (aCons (nam 3) aNil))))) aNil [some (tM n ts), some (I a), some (I b), some (I g)] = some [.fz (cD [min a b, max a b, g])] := by
    refine acons_of (opr_of (acons_of e_cst (acons_of (opr_of (acons_of (nam_fz rfl) (acons_of (nam_fz rfl) e_anil)) k_min2) (acons_of (opr_of (acons_of (nam_fz rfl) (acons_of (nam_fz rfl) e_anil)) k_max2) (acons_of (nam_fz rfl) e_anil)))) k_tup4) e_anil |>.trans ?_
    rw [e1, e2]
    rfl
  exact run_nx rfl rfl rfl (meth_of (e2 := [some (tM n ts'), some (I a), some (I b), some (I g)]) rfl rfl g1 rfl rfl q rfl) rfl
theorem nn_all : ∀ g : Nat, g < 16 → f_names_of [I g] = some (oI (nI (namesN g)), [I g]) := by
  intro g h
  have : g = 0 ∨ g = 1 ∨ g = 2 ∨ g = 3 ∨ g = 4 ∨ g = 5 ∨ g = 6 ∨ g = 7 ∨ g = 8 ∨ g = 9 ∨ g = 10 ∨ g = 11 ∨ g = 12 ∨ g = 13 ∨ g = 14 ∨ g = 15 := by omega
  rcases this with rfl | rfl | rfl | rfl | rfl | rfl | rfl | rfl | rfl | rfl | rfl | rfl | rfl | rfl | rfl | rfl <;> kernel_rfl
theorem nn_it {f : En → Option M} {env : En} {g : Nat} (h : g < 16) (hf : f env = some (I g)) : itX true (lif (opr (callP [false] f_names_of) (aCons f aNil))) env = some ((namesN g).map fun k : Nat => D.int (k : Int), env) := by
  refine itX_of (d := lI (nI (namesN g))) (lif_of (opr_of (acons_of hf e_anil) (callP_of rfl rfl (nn_all g h)))) (stow_z _) rfl ?_
  show some ((nI (namesN g)).map D.int) = _
  unfold nI
  rw [List.map_map]
  rfl
theorem or1 {env : En} {k j : Nat} {kn x : Nat} (h1 : env.get k = some (I kn)) (h2 : env.get j = some (I x)) (hx : x ≤ 1000) : T2.bin (sop iOr) (nam k) (T2.bin (sop iShl) (cst (.int 1)) (nam j)) env = some (I ((kn ||| 2 ^ x : Nat) : Int)) := by
  have e : (1 * 2 ^ ((x : Nat) : Int).toNat : Int) = ((2 ^ x : Nat) : Int) := by rw [Int.toNat_natCast, Int.one_mul]; exact (Int.natCast_pow 2 x).symm
  refine bin_of (nam_fz h1) ((bin_of e_cst (nam_fz h2) (k_shl (by omega) (by omega) (by decide))).trans (by rw [e])) k_orN
theorem shl1 {env : En} {j x : Nat} (h2 : env.get j = some (I x)) (hx : x ≤ 1000) : T2.bin (sop iShl) (cst (.int 1)) (nam j) env = some (I ((2 ^ x : Nat) : Int)) := by
  have e : (1 * 2 ^ ((x : Nat) : Int).toNat : Int) = ((2 ^ x : Nat) : Int) := by rw [Int.toNat_natCast, Int.one_mul]; exact (Int.natCast_pow 2 x).symm
  exact (bin_of e_cst (nam_fz h2) (k_shl (by omega) (by omega) (by decide))).trans (by rw [e])
theorem tb_eq0 (m k : Nat) : (Builtin.bitAnd ((m : Int) / 2 ^ ((k : Int)).toNat) 1 == 0) = !m.testBit k := by
  have h1 : ((m : Int) / 2 ^ ((k : Int)).toNat) = ((m / 2 ^ k : Nat) : Int) := by
    rw [Int.toNat_natCast]
    simp
  rw [h1, show (1 : Int) = ((1 : Nat) : Int) from rfl, bitAndN, Nat.and_one_is_mod, Nat.testBit_eq_decide_div_mod_eq]
  have h2 := Nat.mod_two_eq_zero_or_one (m / 2 ^ k)
  rcases h2 with h2 | h2 <;> rw [h2] <;> rfl
theorem tb0 {env : En} {k j : Nat} {kn x : Nat} (h1 : env.get k = some (I kn)) (h2 : env.get j = some (I x)) : tst (T2.bin (sop (gEq false)) (T2.bin (sop iAnd) (T2.bin (sop iShr) (nam k) (nam j)) (cst (.int 1))) (cst (.int 0))) env = some (!kn.testBit x) :=
  (tst_of (bin_of (bin_of (bin_of (nam_fz h1) (nam_fz h2) (k_shr (by omega))) e_cst k_and) e_cst k_eqF)).trans (by rw [tb_eq0])
theorem names_lt {g : Nat} : ∀ x ∈ namesN g, x < 4 := fun x h => List.mem_range.mp (List.mem_filter.mp h).1
theorem rest_loop {n name : Nat} (h1 : 1 ≤ n) (h4 : n ≤ 4) : ∀ (os : List Nat) (_ : ∀ x ∈ os, x < 4) (ts : List Nat) (kn : Nat) (ts' : List Nat) (kn' : Nat) (_ : restL n name os ts kn = some (ts', kn')) (x : Option M),
    ∃ x', lpF lk_Tally_rest (.nm 3) B_Tally_rest_0 (os.map fun k : Nat => D.int (k : Int)) [some (tM n ts), some (I name), some (I kn), x] = some (.nx [some (tM n ts'), some (I name), some (I kn'), x'])
  | [], _, ts, kn, ts', kn', h, x => by
    cases h
    exact ⟨x, lp_nil⟩
  | o :: os, ho, ts, kn, ts', kn', h, x => by
    have hl := ho o (List.mem_cons_self ..)
    unfold restL at h
    split at h
    · rename_i t1 hp
      have q := pair_w h1 h4 hp
      obtain ⟨x', ih⟩ := rest_loop h1 h4 os (fun z hz => ho z (List.mem_cons_of_mem _ hz)) t1 (kn ||| 2 ^ o) ts' kn' h (some (I o))
      refine ⟨x', lp_cons (e1 := [some (tM n ts), some (I name), some (I kn), some (I o)]) rfl (seq_of (meth_of (e2 := [some (tM n t1), some (I name), some (I kn), some (I o)]) rfl rfl (acons_of (nam_fz rfl) (acons_of (nam_fz rfl) (acons_of (nam_fz rfl) e_anil))) rfl rfl q rfl) ?_) ih⟩
      exact x_asg rfl (lif_of (or1 rfl rfl (by omega))) stow_f rfl rfl rfl
    · cases h
theorem rest_w {n name kn : Nat} {ts ts' : List Nat} (h1 : 1 ≤ n) (h : restP n ts name kn = some ts') : f_Tally_rest [tM n ts, I name, I kn] = some (.fz .non, [tM n ts', I name, I kn]) := by
  unfold restP at h
  split at h
  · rename_i hc
    rw [Bool.and_eq_true] at hc
    have hc1 := Nat.le_of_ble_eq_true hc.1
    have h4 := Nat.le_of_ble_eq_true hc.2
    have h16 : 2 ^ n ≤ 16 := by
      have : n = 1 ∨ n = 2 ∨ n = 3 ∨ n = 4 := by omega
      rcases this with rfl | rfl | rfl | rfl <;> decide
    have hn : name ≤ 1000 := by
      have : name < 2 ^ name := Nat.lt_two_pow_self
      omega
    split at h
    · rename_i t1 kn' hL
      obtain ⟨x', lp⟩ := rest_loop (name := name) h1 h4 _ names_lt ts kn t1 kn' hL none
      have hw : T2.bin (sop iSub) (T2.bin (sop iSub) (una (oFld 0 "whole") (nam 0)) (nam 2)) (T2.bin (sop iShl) (cst (.int 1)) (nam 1)) [some (tM n ts), some (I name), some (I kn), none] = some (I ((2 ^ n - 1 - (kn + 2 ^ name) : Nat) : Int)) := by
        refine (bin_of (bin_of (fld_f (C := 0) rfl rfl) (nam_fz rfl) k_sub) (shl1 rfl hn) k_sub).trans ?_
        have e : ∀ W P : Nat, kn + P ≤ W → ((W : Nat) : Int) - (kn : Int) - ((P : Nat) : Int) = ((W - (kn + P) : Nat) : Int) := fun W P h => by omega
        rw [e _ _ hc1]
      have lst : aCons (opr oTup (aCons (cst (.str "last")) (aCons (nam 1) aNil))) aNil [some (tM n t1), some (I name), some (I kn'), x'] = some [.fz (cD [name])] := acons_of (opr_of (acons_of e_cst (acons_of (nam_fz rfl) e_anil)) k_tup2) e_anil
      exact run_nx rfl rfl rfl (seq_of (for_of (nn_it (Nat.lt_of_le_of_lt (Nat.sub_le _ _) (show 2 ^ n - 1 < 16 by omega)) hw) lp) (meth_of (e2 := [some (tM n ts'), some (I name), some (I kn'), x']) rfl rfl lst rfl rfl (once_ok h1 h4 h) rfl)) rfl
    · cases h
  · cases h
theorem rests_loop {n : Nat} {G : Nat} (h1 : 1 ≤ n) : ∀ (os : List Nat) (_ : ∀ x ∈ os, x < 4) (ts : List Nat) (kn : Nat) (ts' : List Nat) (kn' : Nat) (_ : restsL n os ts kn = some (ts', kn')) (x : Option M),
    ∃ x', lpF lk_Tally_rests (.nm 3) B_Tally_rests_0 (os.map fun k : Nat => D.int (k : Int)) [some (tM n ts), some (I G), some (I kn), x] = some (.nx [some (tM n ts'), some (I G), some (I kn'), x'])
  | [], _, ts, kn, ts', kn', h, x => by
    cases h
    exact ⟨x, lp_nil⟩
  | o :: os, ho, ts, kn, ts', kn', h, x => by
    have hl := ho o (List.mem_cons_self ..)
    have tt := tb0 (env := [some (tM n ts), some (I G), some (I kn), some (I o)]) (k := 2) (j := 3) (kn := kn) (x := o) rfl rfl
    unfold restsL at h
    split at h
    · rename_i hb
      rw [hb] at tt
      obtain ⟨x', ih⟩ := rests_loop (G := G) h1 os (fun z hz => ho z (List.mem_cons_of_mem _ hz)) ts kn ts' kn' h (some (I o))
      exact ⟨x', lp_cons (e1 := [some (tM n ts), some (I G), some (I kn), some (I o)]) rfl (if_f tt e_nil) ih⟩
    · rename_i hb
      rw [Bool.not_eq_true] at hb
      rw [hb] at tt
      split at h
      · rename_i t1 hp
        have q := rest_w h1 hp
        obtain ⟨x', ih⟩ := rests_loop (G := G) h1 os (fun z hz => ho z (List.mem_cons_of_mem _ hz)) t1 (kn ||| 2 ^ o) ts' kn' h (some (I o))
        exact ⟨x', lp_cons (e1 := [some (tM n ts), some (I G), some (I kn), some (I o)]) rfl (if_t tt (seq_of (meth_of (e2 := [some (tM n t1), some (I G), some (I kn), some (I o)]) rfl rfl (acons_of (nam_fz rfl) (acons_of (nam_fz rfl) e_anil)) rfl rfl q rfl) (x_asg rfl (lif_of (or1 rfl rfl (by omega))) stow_f rfl rfl rfl))) ih⟩
      · cases h
theorem rests_w {n G kn : Nat} {ts ts' : List Nat} (h1 : 1 ≤ n) (h : restsP n ts G kn = some ts') : f_Tally_rests [tM n ts, I G, I kn] = some (.fz .non, [tM n ts', I G, I kn]) := by
  unfold restsP at h
  split at h
  · rename_i hc
    have hG : G < 16 := by simpa using hc
    obtain ⟨⟨t1, kn'⟩, hL, rfl⟩ := Option.map_eq_some_iff.mp h
    obtain ⟨x', lp⟩ := rests_loop (G := G) h1 _ names_lt ts kn t1 kn' hL none
    exact run_nx rfl rfl rfl (for_of (nn_it hG (nam_fz rfl)) lp) rfl
  · cases h
theorem rules_c {n : Nat} (h1 : 1 ≤ n) (h4 : n ≤ 4) : f_rules [I n] = some (oD (RD n), [I n]) := by
  have : n = 1 ∨ n = 2 ∨ n = 3 ∨ n = 4 := by omega
  rcases this with rfl | rfl | rfl | rfl <;> kernel_rfl
theorem RC_len {n : Nat} (h1 : 1 ≤ n) (h4 : n ≤ 4) : (RC n).length ≤ 28 := by
  have : n = 1 ∨ n = 2 ∨ n = 3 ∨ n = 4 := by omega
  rcases this with rfl | rfl | rfl | rfl <;> decide
abbrev zerN (n : Nat) : List Nat := (RC n).map fun _ => 0
theorem init_w {n : Nat} (h1 : 1 ≤ n) (h4 : n ≤ 4) : f_Tally_init [.oi (ca.at_ 0) [], I n] = some (.fz .non, [tM n (zerN n), I n]) := by
  have rl := RC_len h1 h4
  obtain ⟨R, hR⟩ : ∃ R, RC n = R := ⟨_, rfl⟩
  have hru := rules_c h1 h4
  have s1 : sFldS 0 0 "n" (nam 0) (lif (nam 1)) [some (.oi (ca.at_ 0) []), some (I n), none] = some (.nx [some (.oi (ca.at_ 0) [("n", I n)]), some (I n), none]) := x_fldS (lif_of (nam_fz rfl)) stow_f (by rfl) rfl rfl rfl
  have s2 : sFldS 0 0 "whole" (nam 0) (lif (opr (callP [false] f_greatest) (aCons (nam 1) aNil))) [some (.oi (ca.at_ 0) [("n", I n)]), some (I n), none] = some (.nx [some (.oi (ca.at_ 0) [("n", I n), ("whole", I ((2 ^ n - 1 : Nat) : Int))]), some (I n), none]) :=
    x_fldS (lif_of (opr_of (acons_of (nam_fz rfl) e_anil) (callP_of rfl rfl (greatest_ok n h1 h4)))) stow_f (by rfl) rfl rfl rfl
  have s3 : sFldS 0 0 "rules" (nam 0) (lif (opr (callP [false] f_rules) (aCons (nam 1) aNil))) [some (.oi (ca.at_ 0) [("n", I n), ("whole", I ((2 ^ n - 1 : Nat) : Int))]), some (I n), none] = some (.nx [some (.oi (ca.at_ 0) [("n", I n), ("whole", I ((2 ^ n - 1 : Nat) : Int)), ("rules", .fz (.lst (RD n)))]), some (I n), none]) :=
    x_fldS (lif_of (opr_of (acons_of (nam_fz rfl) e_anil) (callP_of rfl rfl hru))) (stow_z _) (by rfl) rfl rfl rfl
  have lc : lcF [2] (.nm 2) (itP true (una (oFld 0 "rules") (nam 0))) cYes (cst (.int 0)) [some (.oi (ca.at_ 0) [("n", I n), ("whole", I ((2 ^ n - 1 : Nat) : Int)), ("rules", .fz (.lst (RD n)))]), some (I n), none] = some (oI ((RC n).map fun _ => (0 : Int))) :=
    x_lcMI (F := cD) (xs := RC n) (v := fun _ => 0) (e1 := fun c => [some (.oi (ca.at_ 0) [("n", I n), ("whole", I ((2 ^ n - 1 : Nat) : Int)), ("rules", .fz (.lst (RD n)))]), some (I n), some (.fz (cD c))]) (items_lst (fld_f (C := 0) rfl rfl) items_f) (fun _ _ => rfl) (fun _ _ => e_cst) (by simp only [sizeLine]; omega)
  have ez : ((RC n).map fun _ => (0 : Int)) = nI (zerN n) := by
    unfold nI zerN
    rw [List.map_map]
    rfl
  rw [ez] at lc
  have s4 : sFldS 0 9 "times" (nam 0) (lif (lcF [2] (.nm 2) (itP true (una (oFld 0 "rules") (nam 0))) cYes (cst (.int 0)))) [some (.oi (ca.at_ 0) [("n", I n), ("whole", I ((2 ^ n - 1 : Nat) : Int)), ("rules", .fz (.lst (RD n)))]), some (I n), none] = some (.nx [some (tM n (zerN n)), some (I n), none]) :=
    x_fldS (lif_of lc) (stow_s (k := 8) _) (by rfl) rfl rfl rfl
  exact run_nx rfl rfl rfl (seq_of s1 (seq_of s2 (seq_of s3 s4))) rfl
theorem make_w {n : Nat} (h1 : 1 ≤ n) (h4 : n ≤ 4) {env : En} (h : env.get 0 = some (I n)) : opr (oMake 0 [false] f_Tally_init) (aCons (nam 0) aNil) env = some (tM n (zerN n)) := by
  refine opr_of (acons_of (nam_fz h) e_anil) ?_
  have h1' : slotsL [I n] = [] := rfl
  have h2 : shutZ [false] [I n] = some [I n] := rfl
  unfold oMake
  simp only [h1', h2, init_w h1 h4]
end
theorem look2 {n : Nat} (h1 : 1 ≤ n) (h4 : n ≤ 4) {a b : Nat} (ha : 1 ≤ a) (ha2 : a ≤ 2 ^ n - 1) (hb : b ≤ 2 ^ n - 1) {env : En} {x y z : Nat} (ex : env.get x = some (I n)) (ey : env.get y = some (I a)) (ez : env.get z = some (I b)) :
    sExp (lif (opr (callP [false, false] f_look_at) (aCons (nam x) (aCons (opr oLst (aCons (opr oTup (aCons (nam y) (aCons (cst (.int 1)) aNil))) (aCons (opr oTup (aCons (nam z) (aCons (cst (.int 0)) aNil))) aNil))) aNil)))) env = some (.nx env) := by
  have q := look_ok n h1 h4 [((a : Int), 1), ((b : Int), 0)] (fun p hp => by
    rcases List.mem_cons.mp hp with rfl | hp
    · exact ⟨by simp; omega, by simp; omega⟩
    · rcases List.mem_cons.mp hp with rfl | hp
      · exact ⟨by simp, by simp; omega⟩
      · cases hp)
  have el : opr oLst (aCons (opr oTup (aCons (nam y) (aCons (cst (.int 1)) aNil))) (aCons (opr oTup (aCons (nam z) (aCons (cst (.int 0)) aNil))) aNil)) env = some (oD [tupI ((a : Int), 1), tupI ((b : Int), 0)]) :=
    opr_of (acons_of (opr_of (acons_of (nam_fz ey) (acons_of e_cst e_anil)) k_tup2) (acons_of (opr_of (acons_of (nam_fz ez) (acons_of e_cst e_anil)) k_tup2) e_anil)) rfl
  exact exp_of (lif_of (opr_of (acons_of (nam_fz ex) (acons_of el e_anil)) (callP_of (slotsL_cf (slotsL_co slotsL_n)) (shutZ_f (shutZ_z shutZ_n)) q)))
theorem tM_shut (n : Nat) (ts : List Nat) (env : En) : (shut 9 (tM n ts)).map (fun m => (m, env)) = some (tM n ts, env) := by
  have e2 : shut 8 (oI (nI (ts))) = some (oI (nI (ts))) := by
    have := stow_s (k := 7) (env := []) ((nI (ts)).map .int)
    unfold stow at this
    have e : slots (oI (nI (ts))) = [] := by
      have := slotsL_co (ms := []) (ds := (nI (ts)).map .int) slotsL_n
      have e : slotsL [oI (nI (ts))] = slots (oI (nI (ts))) ++ [] := rfl
      rw [e, List.append_nil] at this
      exact this
    rw [e] at this
    simp only [Option.map_eq_some_iff, Prod.mk.injEq] at this
    obtain ⟨m, hm, rfl, _⟩ := this
    exact hm
  have : shut 9 (tM n (ts)) = some (tM n (ts)) := by
    show (match shut 8 (I n), (match shut 8 (I ((2 ^ n - 1 : Nat) : Int)), (match shut 8 (.fz (.lst (RD n))), (match shut 8 (oI (nI (ts))), some [] with
      | some m, some ms => some ((("times" : Str), m) :: ms)
      | _, _ => none) with
      | some m, some ms => some ((("rules" : Str), m) :: ms)
      | _, _ => none) with
      | some m, some ms => some ((("whole" : Str), m) :: ms)
      | _, _ => none) with
      | some m, some ms => some ((("n" : Str), m) :: ms)
      | _, _ => none).map (M.oi (ca.at_ 0)) = _
    rw [e2]
    rfl
  rw [this]
  rfl
theorem split_rest_w {n : Nat} (h1 : 1 ≤ n) (h4 : n ≤ 4) {a b : Nat} (ha : 1 ≤ a) (ha2 : a ≤ 2 ^ n - 1) (hb : b ≤ 2 ^ n - 1) {ts : List Nat} (h : restsP n (zerN n) a b = some ts) : f_split_rest [I n, I a, I b] = some (oI (nI ts), [I n, I a, I b]) := by
  have s1 := look2 h1 h4 ha ha2 hb (env := [some (I n), some (I a), some (I b), none]) (x := 0) (y := 1) (z := 2) rfl rfl rfl
  have sl : slots (tM n (zerN n)) = [] := by
    show slots (I n) ++ (slots (I ((2 ^ n - 1 : Nat) : Int)) ++ (slots (.fz (.lst (RD n))) ++ (slots (oI (nI (zerN n))) ++ []))) = []
    have : slots (oI (nI (zerN n))) = [] := by
      have := slotsL_co (ms := []) (ds := (nI (zerN n)).map .int) slotsL_n
      have e : slotsL [oI (nI (zerN n))] = slots (oI (nI (zerN n))) ++ [] := rfl
      rw [e, List.append_nil] at this
      exact this
    rw [this]
    rfl
  have s2 : sAsg lk_split_rest 3 9 (lif (opr (oMake 0 [false] f_Tally_init) (aCons (nam 0) aNil))) [some (I n), some (I a), some (I b), none] = some (.nx [some (I n), some (I a), some (I b), some (tM n (zerN n))]) := by
    have st : ∀ env, stow 9 env (tM n (zerN n)) = some (tM n (zerN n), env) := fun env => by
     unfold stow
     rw [sl]
     exact tM_shut n _ env
    exact x_asg rfl (lif_of (make_w h1 h4 rfl)) (st _) rfl rfl rfl
  have s3 : sExp (callM 0 "rests" [true, false, false] f_Tally_rests 3 (lifA (aCons (nam 1) (aCons (nam 2) aNil)))) [some (I n), some (I a), some (I b), some (tM n (zerN n))] = some (.nx [some (I n), some (I a), some (I b), some (tM n ts)]) :=
    meth_of rfl rfl (acons_of (nam_fz rfl) (acons_of (nam_fz rfl) e_anil)) rfl rfl (rests_w h1 h) rfl
  have s4 : sRetF 0 3 "times" [some (I n), some (I a), some (I b), some (tM n ts)] = some (.rt (oI (nI ts)) [some (I n), some (I a), some (I b), none]) := by
    unfold sRetF
    show (if ca.at_ 0 = ca.at_ 0 then _ else _) = _
    rw [if_pos rfl]
    rfl
  exact run_rt rfl rfl rfl (seq_of s1 (seq_of s2 (seq_of s3 s4))) rfl
def againstL (n one : Nat) : List Nat → List Nat → Nat → Option (List Nat × Nat)
  | [], ts, kn => some (ts, kn)
  | x :: xs, ts, kn => if kn.testBit x then againstL n one xs ts kn else match pairP n ts one x kn with
    | some ts' => againstL n one xs ts' (kn ||| 2 ^ x)
    | none => none
def againstP (n : Nat) (ts : List Nat) (one g kn : Nat) : Option (List Nat) := if Nat.blt g 16 then (againstL n one (namesN g) ts kn).map (·.1) else none
def sharedL (n h : Nat) : List Nat → List Nat → Nat → Option (List Nat × Nat)
  | [], ts, kn => some (ts, kn)
  | x :: xs, ts, kn => if kn.testBit x then sharedL n h xs ts kn else match againstP n ts x h kn with
    | some ts' => sharedL n h xs ts' (kn ||| 2 ^ x)
    | none => none
def sharedP (n : Nat) (ts : List Nat) (g h kn : Nat) : Option (List Nat) := if Nat.blt g 16 then match restsP n ts (g &&& h) kn with
    | some t1 => (sharedL n h (namesN g) t1 (kn ||| (g &&& h))).map (·.1)
    | none => none
  else none
section
theorem against_loop {n one G : Nat} (h1 : 1 ≤ n) (h4 : n ≤ 4) : ∀ (os : List Nat) (_ : ∀ x ∈ os, x < 4) (ts : List Nat) (kn : Nat) (ts' : List Nat) (kn' : Nat) (_ : againstL n one os ts kn = some (ts', kn')) (x : Option M),
    ∃ x', lpF lk_Tally_against (.nm 4) B_Tally_against_0 (os.map fun k : Nat => D.int (k : Int)) [some (tM n ts), some (I one), some (I G), some (I kn), x] = some (.nx [some (tM n ts'), some (I one), some (I G), some (I kn'), x'])
  | [], _, ts, kn, ts', kn', h, x => by
    cases h
    exact ⟨x, lp_nil⟩
  | o :: os, ho, ts, kn, ts', kn', h, x => by
    have hl := ho o (List.mem_cons_self ..)
    have tt := tb0 (env := [some (tM n ts), some (I one), some (I G), some (I kn), some (I o)]) (k := 3) (j := 4) (kn := kn) (x := o) rfl rfl
    unfold againstL at h
    split at h
    · rename_i hb
      rw [hb] at tt
      obtain ⟨x', ih⟩ := against_loop (G := G) h1 h4 os (fun z hz => ho z (List.mem_cons_of_mem _ hz)) ts kn ts' kn' h (some (I o))
      exact ⟨x', lp_cons (e1 := [some (tM n ts), some (I one), some (I G), some (I kn), some (I o)]) rfl (if_f tt e_nil) ih⟩
    · rename_i hb
      rw [Bool.not_eq_true] at hb
      rw [hb] at tt
      split at h
      · rename_i t1 hp
        have q := pair_w h1 h4 hp
        obtain ⟨x', ih⟩ := against_loop (G := G) h1 h4 os (fun z hz => ho z (List.mem_cons_of_mem _ hz)) t1 (kn ||| 2 ^ o) ts' kn' h (some (I o))
        exact ⟨x', lp_cons (e1 := [some (tM n ts), some (I one), some (I G), some (I kn), some (I o)]) rfl (if_t tt (seq_of (meth_of (e2 := [some (tM n t1), some (I one), some (I G), some (I kn), some (I o)]) rfl rfl (acons_of (nam_fz rfl) (acons_of (nam_fz rfl) (acons_of (nam_fz rfl) e_anil))) rfl rfl q rfl) (x_asg rfl (lif_of (or1 rfl rfl (by omega))) stow_f rfl rfl rfl))) ih⟩
      · cases h
theorem against_w {n one G kn : Nat} {ts ts' : List Nat} (h1 : 1 ≤ n) (h4 : n ≤ 4) (h : againstP n ts one G kn = some ts') : f_Tally_against [tM n ts, I one, I G, I kn] = some (.fz .non, [tM n ts', I one, I G, I kn]) := by
  unfold againstP at h
  split at h
  · rename_i hc
    have hG : G < 16 := by simpa using hc
    obtain ⟨⟨t1, kn'⟩, hL, rfl⟩ := Option.map_eq_some_iff.mp h
    obtain ⟨x', lp⟩ := against_loop (G := G) h1 h4 _ names_lt ts kn t1 kn' hL none
    exact run_nx rfl rfl rfl (for_of (nn_it hG (nam_fz rfl)) lp) rfl
  · cases h
theorem shared_loop {n Hh G : Nat} (h1 : 1 ≤ n) (h4 : n ≤ 4) : ∀ (os : List Nat) (_ : ∀ x ∈ os, x < 4) (ts : List Nat) (kn : Nat) (ts' : List Nat) (kn' : Nat) (_ : sharedL n Hh os ts kn = some (ts', kn')) (x : Option M),
    ∃ x', lpF lk_Tally_shared (.nm 4) B_Tally_shared_0 (os.map fun k : Nat => D.int (k : Int)) [some (tM n ts), some (I G), some (I Hh), some (I kn), x] = some (.nx [some (tM n ts'), some (I G), some (I Hh), some (I kn'), x'])
  | [], _, ts, kn, ts', kn', h, x => by
    cases h
    exact ⟨x, lp_nil⟩
  | o :: os, ho, ts, kn, ts', kn', h, x => by
    have hl := ho o (List.mem_cons_self ..)
    have tt := tb0 (env := [some (tM n ts), some (I G), some (I Hh), some (I kn), some (I o)]) (k := 3) (j := 4) (kn := kn) (x := o) rfl rfl
    unfold sharedL at h
    split at h
    · rename_i hb
      rw [hb] at tt
      obtain ⟨x', ih⟩ := shared_loop (G := G) h1 h4 os (fun z hz => ho z (List.mem_cons_of_mem _ hz)) ts kn ts' kn' h (some (I o))
      exact ⟨x', lp_cons (e1 := [some (tM n ts), some (I G), some (I Hh), some (I kn), some (I o)]) rfl (if_f tt e_nil) ih⟩
    · rename_i hb
      rw [Bool.not_eq_true] at hb
      rw [hb] at tt
      split at h
      · rename_i t1 hp
        have q := against_w h1 h4 hp
        obtain ⟨x', ih⟩ := shared_loop (G := G) h1 h4 os (fun z hz => ho z (List.mem_cons_of_mem _ hz)) t1 (kn ||| 2 ^ o) ts' kn' h (some (I o))
        exact ⟨x', lp_cons (e1 := [some (tM n ts), some (I G), some (I Hh), some (I kn), some (I o)]) rfl (if_t tt (seq_of (meth_of (e2 := [some (tM n t1), some (I G), some (I Hh), some (I kn), some (I o)]) rfl rfl (acons_of (nam_fz rfl) (acons_of (nam_fz rfl) (acons_of (nam_fz rfl) e_anil))) rfl rfl q rfl) (x_asg rfl (lif_of (or1 rfl rfl (by omega))) stow_f rfl rfl rfl))) ih⟩
      · cases h
theorem and_ij {env : En} {i j a b : Nat} (h : env.get i = some (I a)) (h' : env.get j = some (I b)) : T2.bin (sop iAnd) (nam i) (nam j) env = some (I ((a &&& b : Nat) : Int)) := (bin_of (nam_fz h) (nam_fz h') k_and).trans (by rw [bitAndN])
theorem shared_w {n G Hh kn : Nat} {ts ts' : List Nat} (h1 : 1 ≤ n) (h4 : n ≤ 4) (h : sharedP n ts G Hh kn = some ts') : f_Tally_shared [tM n ts, I G, I Hh, I kn] = some (.fz .non, [tM n ts', I G, I Hh, I kn]) := by
  unfold sharedP at h
  split at h
  · rename_i hc
    have hG : G < 16 := by simpa using hc
    split at h
    · rename_i t1 hr
      obtain ⟨⟨t2, kn'⟩, hL, rfl⟩ := Option.map_eq_some_iff.mp h
      obtain ⟨x', lp⟩ := shared_loop (G := G) h1 h4 _ names_lt t1 (kn ||| (G &&& Hh)) t2 kn' hL none
      have s1 : sExp (callM 0 "rests" [true, false, false] f_Tally_rests 0 (lifA (aCons (T2.bin (sop iAnd) (nam 1) (nam 2)) (aCons (nam 3) aNil)))) [some (tM n ts), some (I G), some (I Hh), some (I kn), none] = some (.nx [some (tM n t1), some (I G), some (I Hh), some (I kn), none]) :=
        meth_of rfl rfl (acons_of (and_ij rfl rfl) (acons_of (nam_fz rfl) e_anil)) rfl rfl (rests_w h1 hr) rfl
      have s2 : sAsg lk_Tally_shared 3 0 (lif (T2.bin (sop iOr) (nam 3) (T2.bin (sop iAnd) (nam 1) (nam 2)))) [some (tM n t1), some (I G), some (I Hh), some (I kn), none] = some (.nx [some (tM n t1), some (I G), some (I Hh), some (I ((kn ||| (G &&& Hh) : Nat) : Int)), none]) :=
        x_asg rfl (lif_of (bin_of (nam_fz rfl) (and_ij rfl rfl) k_orN)) stow_f rfl rfl rfl
      exact run_nx rfl rfl rfl (seq_of s1 (seq_of s2 (for_of (nn_it hG (nam_fz rfl)) lp))) rfl
    · cases h
  · cases h
theorem look3 {n : Nat} (h1 : 1 ≤ n) (h4 : n ≤ 4) {a b c : Nat} (ha : 1 ≤ a) (ha2 : a ≤ 2 ^ n - 1) (hb : 1 ≤ b) (hb2 : b ≤ 2 ^ n - 1) (hc : c ≤ 2 ^ n - 1) {env : En} {x y z u : Nat} (ex : env.get x = some (I n)) (ey : env.get y = some (I a)) (ez : env.get z = some (I b)) (eu : env.get u = some (I c)) :
    sExp (lif (opr (callP [false, false] f_look_at) (aCons (nam x) (aCons (opr oLst (aCons (opr oTup (aCons (nam y) (aCons (cst (.int 1)) aNil))) (aCons (opr oTup (aCons (nam z) (aCons (cst (.int 1)) aNil))) (aCons (opr oTup (aCons (nam u) (aCons (cst (.int 0)) aNil))) aNil)))) aNil)))) env = some (.nx env) := by
  have q := look_ok n h1 h4 [((a : Int), 1), ((b : Int), 1), ((c : Int), 0)] (fun p hp => by
    rcases List.mem_cons.mp hp with rfl | hp
    · exact ⟨by simp; omega, by simp; omega⟩
    · rcases List.mem_cons.mp hp with rfl | hp
      · exact ⟨by simp; omega, by simp; omega⟩
      · rcases List.mem_cons.mp hp with rfl | hp
        · exact ⟨by simp, by simp; omega⟩
        · cases hp)
  have el : opr oLst (aCons (opr oTup (aCons (nam y) (aCons (cst (.int 1)) aNil))) (aCons (opr oTup (aCons (nam z) (aCons (cst (.int 1)) aNil))) (aCons (opr oTup (aCons (nam u) (aCons (cst (.int 0)) aNil))) aNil))) env = some (oD [tupI ((a : Int), 1), tupI ((b : Int), 1), tupI ((c : Int), 0)]) :=
    opr_of (acons_of (opr_of (acons_of (nam_fz ey) (acons_of e_cst e_anil)) k_tup2) (acons_of (opr_of (acons_of (nam_fz ez) (acons_of e_cst e_anil)) k_tup2) (acons_of (opr_of (acons_of (nam_fz eu) (acons_of e_cst e_anil)) k_tup2) e_anil))) rfl
  exact exp_of (lif_of (opr_of (acons_of (nam_fz ex) (acons_of el e_anil)) (callP_of (slotsL_cf (slotsL_co slotsL_n)) (shutZ_f (shutZ_z shutZ_n)) q)))
theorem tM_stow (n : Nat) (ts : List Nat) (env : En) : stow 9 env (tM n ts) = some (tM n ts, env) := by
  have sl : slots (tM n ts) = [] := by
    show slots (I n) ++ (slots (I ((2 ^ n - 1 : Nat) : Int)) ++ (slots (.fz (.lst (RD n))) ++ (slots (oI (nI ts)) ++ []))) = []
    have : slots (oI (nI ts)) = [] := by
      have := slotsL_co (ms := []) (ds := (nI ts).map .int) slotsL_n
      have e : slotsL [oI (nI ts)] = slots (oI (nI ts)) ++ [] := rfl
      rw [e, List.append_nil] at this
      exact this
    rw [this]
    rfl
  unfold stow
  rw [sl]
  exact tM_shut n ts env
theorem split_shared_w {n : Nat} (h1 : 1 ≤ n) (h4 : n ≤ 4) {a b c : Nat} (ha : 1 ≤ a) (ha2 : a ≤ 2 ^ n - 1) (hb : 1 ≤ b) (hb2 : b ≤ 2 ^ n - 1) (hc : c ≤ 2 ^ n - 1) {ts : List Nat} (h : sharedP n (zerN n) a b c = some ts) : f_split_shared [I n, I a, I b, I c] = some (oI (nI ts), [I n, I a, I b, I c]) := by
  have s1 := look3 h1 h4 ha ha2 hb hb2 hc (env := [some (I n), some (I a), some (I b), some (I c), none]) (x := 0) (y := 1) (z := 2) (u := 3) rfl rfl rfl rfl
  have s2 : sAsg lk_split_shared 4 9 (lif (opr (oMake 0 [false] f_Tally_init) (aCons (nam 0) aNil))) [some (I n), some (I a), some (I b), some (I c), none] = some (.nx [some (I n), some (I a), some (I b), some (I c), some (tM n (zerN n))]) :=
    x_asg rfl (lif_of (make_w h1 h4 rfl)) (tM_stow n _ _) rfl rfl rfl
  have s3 : sExp (callM 0 "shared" [true, false, false, false] f_Tally_shared 4 (lifA (aCons (nam 1) (aCons (nam 2) (aCons (nam 3) aNil))))) [some (I n), some (I a), some (I b), some (I c), some (tM n (zerN n))] = some (.nx [some (I n), some (I a), some (I b), some (I c), some (tM n ts)]) :=
    meth_of rfl rfl (acons_of (nam_fz rfl) (acons_of (nam_fz rfl) (acons_of (nam_fz rfl) e_anil))) rfl rfl (shared_w h1 h4 h) rfl
  have s4 : sRetF 0 4 "times" [some (I n), some (I a), some (I b), some (I c), some (tM n ts)] = some (.rt (oI (nI ts)) [some (I n), some (I a), some (I b), some (I c), none]) := by
    unfold sRetF
    show (if ca.at_ 0 = ca.at_ 0 then _ else _) = _
    rw [if_pos rfl]
    rfl
  exact run_rt rfl rfl rfl (seq_of s1 (seq_of s2 (seq_of s3 s4))) rfl
end
theorem pop_in {env : En} {i : Nat} {L : List Int} (h0 : env.get i = some (oI L)) (h : okD L) : ∃ (v : Nat) (L' : List Int), callI [true] f__law_pop (lifA (aCons (nam i) aNil)) env = some (I v, env.put i (oI L')) ∧ v < 2147483587 ∧ okD L' := by
  obtain ⟨v, L', e, h1, h2, h3⟩ := pop_ok L h
  refine ⟨v.toNat, L', ?_, by omega, h3⟩
  rw [show ((v.toNat : Nat) : Int) = v by omega]
  exact callI_of (io := [true]) (i := i) (lifA_of (acons_of (nam_oD (ds := L.map .int) h0) e_anil)) rfl h0 rfl e
theorem lor_le {n a b : Nat} (ha : a ≤ 2 ^ n - 1) (hb : b ≤ 2 ^ n - 1) : a ||| b ≤ 2 ^ n - 1 := by
  have hp : 0 < 2 ^ n := Nat.pow_pos (by decide)
  have := Nat.or_lt_two_pow (x := a) (y := b) (n := n) (by omega) (by omega)
  omega
theorem rest_ok (n a b : Nat) (h1 : 1 ≤ n) (h4 : n ≤ 4) (a1 : 1 ≤ a) (a2 : a ≤ 2 ^ n - 1) (b2 : b ≤ 2 ^ n - 1) : f_rest [I n, I a, I b] = some (oI (rowT (2 ^ n - 1) [(a ||| b, 1), (b, -1)]), [I n, I a, I b]) := by
  have lk := look_ok n h1 h4 [((a : Int), 1), ((b : Int), 0)] (by simp; omega)
  have hab := lor_le a2 b2
  have ro := row_of_ok n h1 h4 [(a ||| b, 1), (b, -1)] (by simp; omega)
  have n0 : nam 0 [some (I n), some (I a), some (I b)] = some (I n) := nam_fz rfl
  have n1 : nam 1 [some (I n), some (I a), some (I b)] = some (I a) := nam_fz rfl
  have n2 : nam 2 [some (I n), some (I a), some (I b)] = some (I b) := nam_fz rfl
  have tu : ∀ (e f : En → Option M) (x y : Int) (env : En), e env = some (I x) → f env = some (I y) → opr oTup (aCons e (aCons f aNil)) env = some (.fz (.tup [.int x, .int y])) := fun e f x y env h h' => opr_of (acons_of h (acons_of h' e_anil)) rfl
  have key : F_rest [some (I n), some (I a), some (I b)] = some (.rt (oI (rowT (2 ^ n - 1) [(a ||| b, 1), (b, -1)])) [some (I n), some (I a), some (I b)]) :=
    seq_of (exp_of (lif_of (opr_of (acons_of n0 (acons_of (opr_of (acons_of (tu _ _ _ _ _ n1 e_cst) (acons_of (tu _ _ _ _ _ n2 e_cst) e_anil)) (k_lst (by simp [sizeLine]))) e_anil)) (callP_of rfl rfl lk)))) (by
      rw [e_ret, opr_of (acons_of n0 (acons_of (opr_of (acons_of (tu _ _ _ _ _ (bin_of n1 n2 k_orN) e_cst) (acons_of (tu _ _ _ _ _ n2 (una_of e_cst k_neg)) e_anil)) (k_lst (by simp [sizeLine]))) e_anil)) (callP_of rfl rfl ro)]
      exact retM_oI _)
  exact run_rt rfl rfl rfl key rfl
theorem shared_ok (n a b c : Nat) (h1 : 1 ≤ n) (h4 : n ≤ 4) (a1 : 1 ≤ a) (a2 : a ≤ 2 ^ n - 1) (b1 : 1 ≤ b) (b2 : b ≤ 2 ^ n - 1) (c2 : c ≤ 2 ^ n - 1) : f_shared [I n, I a, I b, I c] = some (oI (rowT (2 ^ n - 1) [(a ||| c, 1), (b ||| c, 1), (a ||| b ||| c, -1), (c, -1)]), [I n, I a, I b, I c]) := by
  have lk := look_ok n h1 h4 [((a : Int), 1), ((b : Int), 1), ((c : Int), 0)] (by simp; omega)
  have hac := lor_le a2 c2
  have hbc := lor_le b2 c2
  have habc := lor_le (lor_le a2 b2) c2
  have ro := row_of_ok n h1 h4 [(a ||| c, 1), (b ||| c, 1), (a ||| b ||| c, -1), (c, -1)] (by simp; omega)
  have n0 : nam 0 [some (I n), some (I a), some (I b), some (I c)] = some (I n) := nam_fz rfl
  have n1 : nam 1 [some (I n), some (I a), some (I b), some (I c)] = some (I a) := nam_fz rfl
  have n2 : nam 2 [some (I n), some (I a), some (I b), some (I c)] = some (I b) := nam_fz rfl
  have n3 : nam 3 [some (I n), some (I a), some (I b), some (I c)] = some (I c) := nam_fz rfl
  have tu : ∀ (e f : En → Option M) (x y : Int) (env : En), e env = some (I x) → f env = some (I y) → opr oTup (aCons e (aCons f aNil)) env = some (.fz (.tup [.int x, .int y])) := fun e f x y env h h' => opr_of (acons_of h (acons_of h' e_anil)) rfl
  have key : F_shared [some (I n), some (I a), some (I b), some (I c)] = some (.rt (oI (rowT (2 ^ n - 1) [(a ||| c, 1), (b ||| c, 1), (a ||| b ||| c, -1), (c, -1)])) [some (I n), some (I a), some (I b), some (I c)]) :=
    seq_of (exp_of (lif_of (opr_of (acons_of n0 (acons_of (opr_of (acons_of (tu _ _ _ _ _ n1 e_cst) (acons_of (tu _ _ _ _ _ n2 e_cst) (acons_of (tu _ _ _ _ _ n3 e_cst) e_anil))) (k_lst (by simp [sizeLine]))) e_anil)) (callP_of rfl rfl lk)))) (by
      rw [e_ret, opr_of (acons_of n0 (acons_of (opr_of (acons_of (tu _ _ _ _ _ (bin_of n1 n3 k_orN) e_cst) (acons_of (tu _ _ _ _ _ (bin_of n2 n3 k_orN) e_cst) (acons_of (tu _ _ _ _ _ (bin_of (bin_of n1 n2 k_orN) n3 k_orN) (una_of e_cst k_neg)) (acons_of (tu _ _ _ _ _ n3 (una_of e_cst k_neg)) e_anil)))) (k_lst (by simp [sizeLine]))) e_anil)) (callP_of rfl rfl ro)]
      exact retM_oI _)
  exact run_rt rfl rfl rfl key rfl
theorem unsure_ok (n a : Nat) (h1 : 1 ≤ n) (h4 : n ≤ 4) (a1 : 1 ≤ a) (a2 : a ≤ 2 ^ n - 1) : f_unsure [I n, I a] = some (oI (rowT (2 ^ n - 1) [(a, 1)]), [I n, I a]) := by
  have lk := look_ok n h1 h4 [((a : Int), 1)] (by simp; omega)
  have ro := row_of_ok n h1 h4 [(a, 1)] (by simp; omega)
  have n0 : nam 0 [some (I n), some (I a)] = some (I n) := nam_fz rfl
  have n1 : nam 1 [some (I n), some (I a)] = some (I a) := nam_fz rfl
  have tu : ∀ (e f : En → Option M) (x y : Int) (env : En), e env = some (I x) → f env = some (I y) → opr oTup (aCons e (aCons f aNil)) env = some (.fz (.tup [.int x, .int y])) := fun e f x y env h h' => opr_of (acons_of h (acons_of h' e_anil)) rfl
  have key : F_unsure [some (I n), some (I a)] = some (.rt (oI (rowT (2 ^ n - 1) [(a, 1)])) [some (I n), some (I a)]) :=
    seq_of (exp_of (lif_of (opr_of (acons_of n0 (acons_of (opr_of (acons_of (tu _ _ _ _ _ n1 e_cst) e_anil) (k_lst (by simp [sizeLine]))) e_anil)) (callP_of rfl rfl lk)))) (by
      rw [e_ret, opr_of (acons_of n0 (acons_of (opr_of (acons_of (tu _ _ _ _ _ n1 e_cst) e_anil) (k_lst (by simp [sizeLine]))) e_anil)) (callP_of rfl rfl ro)]
      exact retM_oI _)
  exact run_rt rfl rfl rfl key rfl
theorem tells_ok (n a b : Nat) (h1 : 1 ≤ n) (h4 : n ≤ 4) (a2 : a ≤ 2 ^ n - 1) (b1 : 1 ≤ b) (b2 : b ≤ 2 ^ n - 1) : f_tells [I n, I a, I b] = some (sayM (rowT (2 ^ n - 1) [(b ||| a, 1), (a, -1)]) "=" 0, [I n, I a, I b]) := by
  have lk := look_ok n h1 h4 [((a : Int), 0), ((b : Int), 1)] (by simp; omega)
  have ro := rest_ok n b a h1 h4 b1 b2 a2
  have n0 : nam 0 [some (I n), some (I a), some (I b)] = some (I n) := nam_fz rfl
  have n1 : nam 1 [some (I n), some (I a), some (I b)] = some (I a) := nam_fz rfl
  have n2 : nam 2 [some (I n), some (I a), some (I b)] = some (I b) := nam_fz rfl
  have tu : ∀ (e f : En → Option M) (x y : Int) (env : En), e env = some (I x) → f env = some (I y) → opr oTup (aCons e (aCons f aNil)) env = some (.fz (.tup [.int x, .int y])) := fun e f x y env h h' => opr_of (acons_of h (acons_of h' e_anil)) rfl
  have key : F_tells [some (I n), some (I a), some (I b)] = some (.rt (sayM (rowT (2 ^ n - 1) [(b ||| a, 1), (a, -1)]) "=" 0) [some (I n), some (I a), some (I b)]) :=
    seq_of (exp_of (lif_of (opr_of (acons_of n0 (acons_of (opr_of (acons_of (tu _ _ _ _ _ n1 e_cst) (acons_of (tu _ _ _ _ _ n2 e_cst) e_anil)) (k_lst (by simp [sizeLine]))) e_anil)) (callP_of rfl rfl lk)))) (by
      rw [e_ret, opr_of (acons_of (opr_of (acons_of n0 (acons_of n2 (acons_of n1 e_anil))) (callP_of rfl rfl ro)) (acons_of e_cst (acons_of e_cst e_anil))) (show oTup _ [oI _, .fz (.str "="), .fz (.int 0)] = some (sayM _ "=" 0) from rfl)]
      exact retM_say _ _ _)
  exact run_rt rfl rfl rfl key rfl
theorem silent_ok (n a b c : Nat) (h1 : 1 ≤ n) (h4 : n ≤ 4) (a1 : 1 ≤ a) (a2 : a ≤ 2 ^ n - 1) (b1 : 1 ≤ b) (b2 : b ≤ 2 ^ n - 1) (c2 : c ≤ 2 ^ n - 1) : f_silent [I n, I a, I b, I c] = some (sayM (rowT (2 ^ n - 1) [(a ||| c, 1), (b ||| c, 1), (a ||| b ||| c, -1), (c, -1)]) "=" 0, [I n, I a, I b, I c]) := by
  have ro := shared_ok n a b c h1 h4 a1 a2 b1 b2 c2
  have n0 : nam 0 [some (I n), some (I a), some (I b), some (I c)] = some (I n) := nam_fz rfl
  have n1 : nam 1 [some (I n), some (I a), some (I b), some (I c)] = some (I a) := nam_fz rfl
  have n2 : nam 2 [some (I n), some (I a), some (I b), some (I c)] = some (I b) := nam_fz rfl
  have n3 : nam 3 [some (I n), some (I a), some (I b), some (I c)] = some (I c) := nam_fz rfl
  have key : F_silent [some (I n), some (I a), some (I b), some (I c)] = some (.rt (sayM (rowT (2 ^ n - 1) [(a ||| c, 1), (b ||| c, 1), (a ||| b ||| c, -1), (c, -1)]) "=" 0) [some (I n), some (I a), some (I b), some (I c)]) := by
    show sRet _ _ _ = _
    rw [e_ret, opr_of (acons_of (opr_of (acons_of n0 (acons_of n1 (acons_of n2 (acons_of n3 e_anil)))) (callP_of rfl rfl ro)) (acons_of e_cst (acons_of e_cst e_anil))) (show oTup _ [oI _, .fz (.str "="), .fz (.int 0)] = some (sayM _ "=" 0) from rfl)]
    exact retM_say _ _ _
  exact run_rt rfl rfl rfl key rfl
abbrev xC (n : Int) : Exn := ⟨1, ca.at_ 1, [("count", .int n)]⟩
abbrev xG (g : Int) : Exn := ⟨2, ca.at_ 2, [("group", .int g)]⟩
def badG (n : Int) (p : Int × Int) : Bool := decide (p.1 < p.2) || decide ((2 : Int) ^ n.toNat - 1 < p.1)
def due (n : Int) (ps : List (Int × Int)) : Option Exn := if n < 1 ∨ 4 < n then some (xC n) else (ps.find? (badG n)).map fun p => xG p.1
theorem due_ok {n : Int} (h : ¬ (n < 1 ∨ 4 < n)) (ps : List (Int × Int)) : due n ps = (ps.find? (badG n)).map fun p => xG p.1 := if_neg h
theorem due_none {n : Int} {ps : List (Int × Int)} (h : due n ps = none) : (1 ≤ n ∧ n ≤ 4) ∧ ∀ p ∈ ps, p.2 ≤ p.1 ∧ p.1 ≤ (2 : Int) ^ n.toNat - 1 := by
  unfold due at h
  split at h
  · cases h
  · rename_i hn
    refine ⟨by omega, fun p hp => ?_⟩
    have h2 : ps.find? (badG n) = none := by simpa using h
    have := List.find?_eq_none.mp h2 p hp
    unfold badG at this
    simp only [Bool.or_eq_true, decide_eq_true_eq, not_or] at this
    omega
theorem due_of {n : Int} {ps : List (Int × Int)} (hn : 1 ≤ n ∧ n ≤ 4) (h : ∀ p ∈ ps, p.2 ≤ p.1 ∧ p.1 ≤ (2 : Int) ^ n.toNat - 1) : due n ps = none := by
  rw [due_ok (by omega)]
  rw [List.find?_eq_none.mpr fun p hp => ?_]
  · rfl
  · have := h p hp
    unfold badG
    simp only [Bool.or_eq_true, decide_eq_true_eq, not_or]
    omega
theorem run_sRE {n p : Nat} {g : En → Option Exn} {ms : List M} (hl : ms.length = p) (ha : okA (fun _ => false) 0 ms = true) : runR n p (sRE g) ms = g (ms.map some ++ List.replicate (n - p) none) := by
  unfold runR
  rw [if_pos ⟨hl, ha⟩]
  unfold sRE
  cases g (ms.map some ++ List.replicate (n - p) none) <;> rfl
theorem bad_n {env : En} {i : Nat} {n : Int} (h : env.get i = some (I n)) : dOr (tst (T2.bin (sop iLt) (nam i) (cst (.int 1)))) (tst (T2.bin (sop iGt) (nam i) (cst (.int 4)))) env = some (decide (n < 1) || decide (4 < n)) :=
  x_or (tst_of (bin_of (nam_fz h) e_cst k_lt)) (tst_of (bin_of (nam_fz h) e_cst k_gt))
theorem greatest_g (n : Int) : g_greatest [I n] = if n < 1 ∨ 4 < n then some (xC n) else none := by
  have t := bad_n (env := [some (I n)]) (i := 0) (n := n) rfl
  by_cases h : n < 1 ∨ 4 < n
  · rw [if_pos h]
    rw [show (decide (n < 1) || decide (4 < n)) = true by simpa using h] at t
    exact r_run (e1 := [some (I n)]) rfl rfl (r_ift t (r_sRE (r_mk (d := .int n) (nam_fz rfl))))
  · rw [if_neg h]
    rw [show (decide (n < 1) || decide (4 < n)) = false by simpa using h] at t
    exact r_runN (r_iff t rfl)
theorem look_R (n W : Int) (hW : W = (2 : Int) ^ n.toNat - 1) (A : Option M) : ∀ (ps : List (Int × Int)) (x y : Option M),
    (match ps.find? (badG n) with
      | some p => ∃ e, rLp lk_look_at (.tp [(.nm 3), (.nm 4)]) B_look_at_1 R_look_at_2 (ps.map tupI) [some (I n), A, some (I W), x, y] = some (xG p.1, e)
      | none => rLp lk_look_at (.tp [(.nm 3), (.nm 4)]) B_look_at_1 R_look_at_2 (ps.map tupI) [some (I n), A, some (I W), x, y] = none)
  | [], x, y => rfl
  | p :: ps, x, y => by
    have ih := look_R n W hW A ps (some (I p.1)) (some (I p.2))
    have e1 : dOr (tst (T2.bin (sop iLt) (nam 3) (nam 4))) (tst (T2.bin (sop iGt) (nam 3) (nam 2))) [some (I n), A, some (I W), some (I p.1), some (I p.2)] = some (badG n p) := by
      unfold badG
      rw [← hW]
      exact x_or (tst_of (bin_of (nam_fz rfl) (nam_fz rfl) k_lt)) (tst_of (bin_of (nam_fz rfl) (nam_fz rfl) k_gt))
    have as : asT lk_look_at (.tp [(.nm 3), (.nm 4)]) (tupI p) [some (I n), A, some (I W), x, y] = some [some (I n), A, some (I W), some (I p.1), some (I p.2)] := rfl
    rw [List.find?_cons]
    cases hb : badG n p with
    | true =>
      rw [hb] at e1
      refine ⟨[some (I n), A, some (I W), some (I p.1), some (I p.2)], ?_⟩
      rw [List.map_cons]
      unfold rLp
      rw [as]
      have : R_look_at_2 [some (I n), A, some (I W), some (I p.1), some (I p.2)] = some (xG p.1, [some (I n), A, some (I W), some (I p.1), some (I p.2)]) := r_ift e1 (r_sRE (r_mk (d := .int p.1) (nam_fz rfl)))
      simp only [this]
    | false =>
      rw [hb] at e1
      have h1 : R_look_at_2 [some (I n), A, some (I W), some (I p.1), some (I p.2)] = none := r_iff e1 rfl
      have h2 : B_look_at_1 [some (I n), A, some (I W), some (I p.1), some (I p.2)] = some (.nx [some (I n), A, some (I W), some (I p.1), some (I p.2)]) := if_f e1 e_nil
      have key : rLp lk_look_at (.tp [(.nm 3), (.nm 4)]) B_look_at_1 R_look_at_2 ((p :: ps).map tupI) [some (I n), A, some (I W), x, y] = rLp lk_look_at (.tp [(.nm 3), (.nm 4)]) B_look_at_1 R_look_at_2 (ps.map tupI) [some (I n), A, some (I W), some (I p.1), some (I p.2)] := by
        rw [List.map_cons]
        show (match asT lk_look_at (.tp [(.nm 3), (.nm 4)]) (tupI p) [some (I n), A, some (I W), x, y] with
          | some e1 => (match R_look_at_2 e1 with
            | some r => some r
            | none => (match B_look_at_1 e1 with
              | some (.nx e2) => rLp lk_look_at (.tp [(.nm 3), (.nm 4)]) B_look_at_1 R_look_at_2 (ps.map tupI) e2
              | _ => none))
          | none => none) = _
        rw [as]
        simp only [h1, h2]
      rw [key]
      exact ih
theorem pow_nat {n : Nat} : ((2 : Int) ^ ((n : Int)).toNat - 1) = ((2 ^ n - 1 : Nat) : Int) := by
  have : 1 ≤ 2 ^ n := Nat.one_le_two_pow
  rw [Int.toNat_natCast, Int.ofNat_sub this]
  simp
theorem look_g (n : Int) (ps : List (Int × Int)) : g_look_at [I n, .fz (.lst (ps.map tupI))] = due n ps := by
  have hc := r_call (g := g_greatest) (io := [false]) (fs := aCons (nam 0) aNil) (env := [some (I n), some (.fz (.lst (ps.map tupI))), none, none, none]) (ms := [I n]) (cs := [I n]) (acons_of (nam_fz (d := .int n) rfl) e_anil) rfl rfl (greatest_g n)
  by_cases h : n < 1 ∨ 4 < n
  · rw [if_pos h] at hc
    have c1 := r_sRE hc
    unfold due
    rw [if_pos h]
    exact r_run (e1 := [some (I n), some (.fz (.lst (ps.map tupI))), none, none, none]) rfl rfl (r_seq1 c1)
  · rw [if_neg h] at hc
    have c1 := r_sREn hc
    rw [due_ok h]
    obtain ⟨m, rfl⟩ : ∃ m : Nat, n = m := ⟨n.toNat, by omega⟩
    have s1 : sAsg lk_look_at 2 0 (lif (opr (callP [false] f_greatest) (aCons (nam 0) aNil))) [some (I (m : Int)), some (.fz (.lst (ps.map tupI))), none, none, none] = some (.nx [some (I (m : Int)), some (.fz (.lst (ps.map tupI))), some (I (2 ^ m - 1 : Nat)), none, none]) :=
      asg_of (lk := lk_look_at) (i := 2) (opr_of (acons_of (nam_fz (d := .int m) rfl) e_anil) (callP_of rfl rfl (greatest_ok m (by omega) (by omega)))) rfl (Nat.le_of_ble_eq_true rfl)
    have it : itX true (lif (nam 1)) [some (I (m : Int)), some (.fz (.lst (ps.map tupI))), some (I (2 ^ m - 1 : Nat)), none, none] = some (ps.map tupI, [some (I (m : Int)), some (.fz (.lst (ps.map tupI))), some (I (2 ^ m - 1 : Nat)), none, none]) := itX_of (lif_of (nam_fz (d := .lst (ps.map tupI)) rfl)) rfl rfl rfl
    have lp := look_R (m : Int) (2 ^ m - 1 : Nat) pow_nat.symm (some (.fz (.lst (ps.map tupI)))) ps none none
    have key : ∀ r, rLp lk_look_at (.tp [(.nm 3), (.nm 4)]) B_look_at_1 R_look_at_2 (ps.map tupI) [some (I (m : Int)), some (.fz (.lst (ps.map tupI))), some (I (2 ^ m - 1 : Nat)), none, none] = r → r_look_at [some (I (m : Int)), some (.fz (.lst (ps.map tupI))), none, none, none] = r := fun r hr => r_seq c1 s1 (r_for it hr)
    cases hf : ps.find? (badG m) with
    | none =>
      rw [hf] at lp
      exact r_runN (key _ lp)
    | some p =>
      rw [hf] at lp
      obtain ⟨e, lp⟩ := lp
      exact r_run rfl rfl (key _ lp)
theorem look_call {env : En} {xs : En → Option (List M)} {n : Int} {ps : List (Int × Int)} (h : xs env = some [I n, oD (ps.map tupI)]) : rCall [false, false] g_look_at xs env = due n ps :=
  r_call (cs := [I n, .fz (.lst (ps.map tupI))]) h (slotsL_cf (slotsL_co slotsL_n)) (shutZ_f (shutZ_z shutZ_n)) (look_g n ps)
theorem pr_of {env : En} {i : Nat} {a l : Int} (h : env.get i = some (I a)) : opr oTup (aCons (nam i) (aCons (cst (.int l)) aNil)) env = some (.fz (tupI (a, l))) := opr_of (acons_of (nam_fz h) (acons_of e_cst e_anil)) k_tup2
theorem look1 {env : En} {n a l : Int} (h0 : env.get 0 = some (I n)) (h1 : env.get 1 = some (I a)) : rCall [false, false] g_look_at (aCons (nam 0) (aCons (opr oLst (aCons (opr oTup (aCons (nam 1) (aCons (cst (.int l)) aNil))) aNil)) aNil)) env = due n [(a, l)] :=
  look_call (acons_of (nam_fz h0) (acons_of (opr_of (acons_of (pr_of h1) e_anil) rfl) e_anil))
theorem look2g {env : En} {n a b l m : Int} (h0 : env.get 0 = some (I n)) (h1 : env.get 1 = some (I a)) (h2 : env.get 2 = some (I b)) : rCall [false, false] g_look_at (aCons (nam 0) (aCons (opr oLst (aCons (opr oTup (aCons (nam 1) (aCons (cst (.int l)) aNil))) (aCons (opr oTup (aCons (nam 2) (aCons (cst (.int m)) aNil))) aNil))) aNil)) env = due n [(a, l), (b, m)] :=
  look_call (acons_of (nam_fz h0) (acons_of (opr_of (acons_of (pr_of h1) (acons_of (pr_of h2) e_anil)) rfl) e_anil))
theorem look3g {env : En} {n a b c l m k : Int} (h0 : env.get 0 = some (I n)) (h1 : env.get 1 = some (I a)) (h2 : env.get 2 = some (I b)) (h3 : env.get 3 = some (I c)) : rCall [false, false] g_look_at (aCons (nam 0) (aCons (opr oLst (aCons (opr oTup (aCons (nam 1) (aCons (cst (.int l)) aNil))) (aCons (opr oTup (aCons (nam 2) (aCons (cst (.int m)) aNil))) (aCons (opr oTup (aCons (nam 3) (aCons (cst (.int k)) aNil))) aNil)))) aNil)) env = due n [(a, l), (b, m), (c, k)] :=
  look_call (acons_of (nam_fz h0) (acons_of (opr_of (acons_of (pr_of h1) (acons_of (pr_of h2) (acons_of (pr_of h3) e_anil))) rfl) e_anil))
theorem unsure_g (n a : Int) : g_unsure [I n, I a] = due n [(a, 1)] := (run_sRE rfl rfl).trans (look1 rfl rfl)
theorem rest_g (n a b : Int) : g_rest [I n, I a, I b] = due n [(a, 1), (b, 0)] := (run_sRE rfl rfl).trans (look2g rfl rfl rfl)
theorem shared_g (n a b c : Int) : g_shared [I n, I a, I b, I c] = due n [(a, 1), (b, 1), (c, 0)] := (run_sRE rfl rfl).trans (look3g rfl rfl rfl rfl)
theorem split_rest_g (n a b : Int) : g_split_rest [I n, I a, I b] = due n [(a, 1), (b, 0)] := (run_sRE rfl rfl).trans (look2g rfl rfl rfl)
theorem split_shared_g (n a b c : Int) : g_split_shared [I n, I a, I b, I c] = due n [(a, 1), (b, 1), (c, 0)] := (run_sRE rfl rfl).trans (look3g rfl rfl rfl rfl)
theorem silent_g (n a b c : Int) : g_silent [I n, I a, I b, I c] = due n [(a, 1), (b, 1), (c, 0)] :=
  (run_sRE rfl rfl).trans (r_call (ms := [I n, I a, I b, I c]) (cs := [I n, I a, I b, I c]) (acons_of (nam_fz rfl) (acons_of (nam_fz rfl) (acons_of (nam_fz rfl) (acons_of (nam_fz rfl) e_anil)))) rfl rfl (shared_g n a b c))
theorem tells_g (n a b : Int) : g_tells [I n, I a, I b] = due n [(a, 0), (b, 1)] := by
  have h1 : rCall [false, false] g_look_at (aCons (nam 0) (aCons (opr oLst (aCons (opr oTup (aCons (nam 1) (aCons (cst (.int 0)) aNil))) (aCons (opr oTup (aCons (nam 2) (aCons (cst (.int 1)) aNil))) aNil))) aNil)) [some (I n), some (I a), some (I b)] = due n [(a, 0), (b, 1)] := look2g rfl rfl rfl
  cases hd : due n [(a, 0), (b, 1)] with
  | some x =>
    rw [hd] at h1
    exact r_run (e1 := [some (I n), some (I a), some (I b)]) rfl rfl (r_seq1 (r_sRE h1))
  | none =>
    rw [hd] at h1
    obtain ⟨hn, hp⟩ := due_none hd
    obtain ⟨m, rfl⟩ : ∃ m : Nat, n = m := ⟨n.toNat, by omega⟩
    have ha := hp (a, 0) (by simp)
    have hb := hp (b, 1) (by simp)
    have lk := look_ok m (by omega) (by omega) [(a, 0), (b, 1)] fun p hp' => by
      have := hp p hp'
      rw [pow_nat] at this
      exact this
    have el : opr oLst (aCons (opr oTup (aCons (nam 1) (aCons (cst (.int 0)) aNil))) (aCons (opr oTup (aCons (nam 2) (aCons (cst (.int 1)) aNil))) aNil)) [some (I (m : Int)), some (I a), some (I b)] = some (oD [tupI (a, 0), tupI (b, 1)]) := opr_of (acons_of (pr_of rfl) (acons_of (pr_of rfl) e_anil)) rfl
    have s1 : sExp (lif (opr (callP [false, false] f_look_at) (aCons (nam 0) (aCons (opr oLst (aCons (opr oTup (aCons (nam 1) (aCons (cst (.int 0)) aNil))) (aCons (opr oTup (aCons (nam 2) (aCons (cst (.int 1)) aNil))) aNil))) aNil)))) [some (I (m : Int)), some (I a), some (I b)] = some (.nx [some (I (m : Int)), some (I a), some (I b)]) :=
      exp_of (lif_of (opr_of (acons_of (nam_fz rfl) (acons_of el e_anil)) (callP_of (slotsL_cf (slotsL_co slotsL_n)) (shutZ_f (shutZ_z shutZ_n)) lk)))
    have d2 : due (m : Int) [(b, 1), (a, 0)] = none := due_of hn fun p hp' => by
      rcases List.mem_cons.mp hp' with rfl | hp'
      · exact hb
      · rcases List.mem_cons.mp hp' with rfl | hp'
        · exact ha
        · cases hp'
    have c2 : rCall [false, false, false] g_rest (aCons (nam 0) (aCons (nam 2) (aCons (nam 1) aNil))) [some (I (m : Int)), some (I a), some (I b)] = none :=
      r_call (ms := [I (m : Int), I b, I a]) (cs := [I (m : Int), I b, I a]) (acons_of (nam_fz rfl) (acons_of (nam_fz rfl) (acons_of (nam_fz rfl) e_anil))) rfl rfl ((rest_g m b a).trans d2)
    exact r_runN (r_seq (r_sREn h1) s1 (r_sREn c2))
def lsts : Nat → List Int
  | 1 => [1] | 2 => [1, 0] | 3 => [1, 1, 0] | 4 => [1, 0] | 5 => [1, 1, 0] | 6 => [0, 1] | 7 => [1, 1, 0] | _ => []
def chR (n : Nat) : Bool := (List.range (2 ^ n)).all fun a => (List.range (2 ^ n)).all fun b => Nat.beq a 0 || (restsP n (zerN n) a b).isSome
def chS (n : Nat) : Bool := (List.range (2 ^ n)).all fun a => (List.range (2 ^ n)).all fun b => (List.range (2 ^ n)).all fun c => Nat.beq a 0 || Nat.beq b 0 || (sharedP n (zerN n) a b c).isSome
theorem chS4 : chS 4 = true := by kernel_rfl
theorem chS3 : chS 3 = true := by kernel_rfl
theorem chR_all {n : Nat} (h1 : 1 ≤ n) (h4 : n ≤ 4) : chR n = true ∧ chS n = true := by
  have : n = 1 ∨ n = 2 ∨ n = 3 ∨ n = 4 := by omega
  rcases this with rfl | rfl | rfl | rfl
  · exact ⟨by kernel_rfl, by kernel_rfl⟩
  · exact ⟨by kernel_rfl, by kernel_rfl⟩
  · exact ⟨by kernel_rfl, chS3⟩
  · exact ⟨by kernel_rfl, chS4⟩
theorem bne0 {a : Nat} (h : 1 ≤ a) : Nat.beq a 0 = false := by
  cases a with
  | zero => omega
  | succ a => rfl
theorem split_rest_s {n a b : Nat} (h1 : 1 ≤ n) (h4 : n ≤ 4) (ha : 1 ≤ a) (ha2 : a ≤ 2 ^ n - 1) (hb : b ≤ 2 ^ n - 1) : ∃ ts : List Nat, f_split_rest [I n, I a, I b] = some (oI (nI ts), [I n, I a, I b]) := by
  have hp : 1 ≤ 2 ^ n := Nat.one_le_two_pow
  have z := List.all_eq_true.mp (List.all_eq_true.mp (chR_all h1 h4).1 a (List.mem_range.mpr (by omega))) b (List.mem_range.mpr (by omega))
  rw [bne0 ha, Bool.false_or, Option.isSome_iff_exists] at z
  obtain ⟨ts, z⟩ := z
  exact ⟨ts, split_rest_w h1 h4 ha ha2 hb z⟩
theorem split_shared_s {n a b c : Nat} (h1 : 1 ≤ n) (h4 : n ≤ 4) (ha : 1 ≤ a) (ha2 : a ≤ 2 ^ n - 1) (hb : 1 ≤ b) (hb2 : b ≤ 2 ^ n - 1) (hc : c ≤ 2 ^ n - 1) : ∃ ts : List Nat, f_split_shared [I n, I a, I b, I c] = some (oI (nI ts), [I n, I a, I b, I c]) := by
  have hp : 1 ≤ 2 ^ n := Nat.one_le_two_pow
  have z := List.all_eq_true.mp (List.all_eq_true.mp (List.all_eq_true.mp (chR_all h1 h4).2 a (List.mem_range.mpr (by omega))) b (List.mem_range.mpr (by omega))) c (List.mem_range.mpr (by omega))
  rw [bne0 ha, bne0 hb, Bool.false_or, Bool.false_or, Option.isSome_iff_exists] at z
  obtain ⟨ts, z⟩ := z
  exact ⟨ts, split_shared_w h1 h4 ha ha2 hb hb2 hc z⟩
theorem ret_nx {lk : Nat → Bool} {g : En → Option (M × En)} {env e : En} : sRet lk g env ≠ some (.nx e) := by
  intro h
  unfold sRet at h
  split at h
  · split at h
    · split at h <;> cases h
    · cases h
  · split at h <;> cases h
  · cases h
theorem r_cf {t : En → Option Bool} {ga g2 : En → Option (Exn × En)} {S : En → Option Fl} {env : En} {r : Option (Exn × En)} (h : t env = some false) (h2 : g2 env = r) : rSeq (rIf t ga (fun _ => none)) (sIf (lifT t) S sNil) g2 env = r := r_seq (r_iff h rfl) (if_f h e_nil) h2
theorem sRE_map {g : En → Option Exn} {env : En} {r : Option Exn} (h : g env = r) : sRE g env = r.map fun x => (x, env) := by
  cases r with
  | none => exact r_sREn h
  | some x => exact r_sRE h
theorem r_ct {t : En → Option Bool} {g : En → Option Exn} {f : En → Option (M × En)} {lk : Nat → Bool} {g2 : En → Option (Exn × En)} {env : En} {r : Option Exn} (h : t env = some true) (hc : g env = r) : rSeq (rIf t (sRE g) (fun _ => none)) (sIf (lifT t) (sRet lk f) sNil) g2 env = r.map fun x => (x, env) := by
  cases r with
  | some x => exact r_seq1 (r_ift h (r_sRE hc))
  | none =>
    unfold rSeq
    rw [r_ift h (r_sREn hc), if_t h rfl]
    cases hr : sRet lk f env with
    | none => rfl
    | some x =>
      cases x with
      | nx e => exact absurd hr ret_nx
      | _ => rfl
theorem run_map {n p : Nat} {gS : En → Option (Exn × En)} {ms : List M} {env : En} {r : Option Exn} (hl : ms.length = p) (ha : okA (fun _ => false) 0 ms = true) (he : ms.map some ++ List.replicate (n - p) none = env) (h : gS env = r.map fun x => (x, env)) : runR n p gS ms = r := by
  subst he
  cases r with
  | none => exact r_runN h
  | some x => exact r_run hl ha h
theorem eqt {env : En} {i : Nat} {x y : Int} {b : Bool} (h : env.get i = some (I x)) (hb : (x == y) = b) : tst (T2.bin (sop (gEq false)) (nam i) (cst (.int y))) env = some b := by
  subst hb
  exact tst_of (bin_of (nam_fz h) e_cst k_eqF)
theorem ixn {env : En} {i : Nat} {L : List Int} {k : Nat} {x : Int} (h : env.get i = some (.fz (lI L))) (hx : L[k]? = some x) : T2.bin oIdx (nam i) (cst (.int k)) env = some (I x) := by
  have hk : k < L.length := by
    rcases Nat.lt_or_ge k L.length with h | h
    · exact h
    · rw [List.getElem?_eq_none h] at hx
      cases hx
  refine bin_of (nam_fz h) e_cst ?_
  have e := x_idxF (env := env) (L := L) (j := (k : Int)) (by omega) (by omega)
  rw [e]
  unfold at1
  simp [hx]
theorem asked_g {t : Nat} {n : Int} {L : List Int} (ht : t < 8) (hl : L.length = (lsts t).length) : g__law_asked [I t, I n, .fz (lI L)] = due n (L.zip (lsts t)) := by
  have g1 : ∀ {k : Nat} {x : Int}, L[k]? = some x → T2.bin oIdx (nam 2) (cst (.int k)) [some (I t), some (I n), some (.fz (lI L))] = some (I x) := fun h => ixn rfl h
  have gn : nam 1 [some (I t), some (I n), some (.fz (lI L))] = some (I n) := nam_fz rfl
  have hts : t = 0 ∨ t = 1 ∨ t = 2 ∨ t = 3 ∨ t = 4 ∨ t = 5 ∨ t = 6 ∨ t = 7 := by omega
  have a2 : ∀ {a b : Int}, L = [a, b] → aCons (nam 1) (aCons (T2.bin oIdx (nam 2) (cst (.int 0))) (aCons (T2.bin oIdx (nam 2) (cst (.int 1))) aNil)) [some (I t), some (I n), some (.fz (lI L))] = some [I n, I a, I b] := fun h => acons_of gn (acons_of (g1 (k := 0) (by rw [h]; rfl)) (acons_of (g1 (k := 1) (by rw [h]; rfl)) e_anil))
  have a3 : ∀ {a b c : Int}, L = [a, b, c] → aCons (nam 1) (aCons (T2.bin oIdx (nam 2) (cst (.int 0))) (aCons (T2.bin oIdx (nam 2) (cst (.int 1))) (aCons (T2.bin oIdx (nam 2) (cst (.int 2))) aNil))) [some (I t), some (I n), some (.fz (lI L))] = some [I n, I a, I b, I c] := fun h => acons_of gn (acons_of (g1 (k := 0) (by rw [h]; rfl)) (acons_of (g1 (k := 1) (by rw [h]; rfl)) (acons_of (g1 (k := 2) (by rw [h]; rfl)) e_anil)))
  rcases hts with rfl | rfl | rfl | rfl | rfl | rfl | rfl | rfl
  · match L, hl with
    | [], _ => exact run_map rfl rfl rfl (r_ct (eqt rfl rfl) (r_call (acons_of gn e_anil) rfl rfl ((greatest_g n).trans (by unfold due; simp))))
  · match L, hl with
    | [a], _ => exact run_map rfl rfl rfl (r_cf (eqt rfl rfl) (r_ct (eqt rfl rfl) (r_call (acons_of gn (acons_of (g1 (k := 0) rfl) e_anil)) rfl rfl (unsure_g n a))))
  · match L, hl with
    | [a, b], _ => exact run_map rfl rfl rfl (r_cf (eqt rfl rfl) (r_cf (eqt rfl rfl) (r_ct (eqt rfl rfl) (r_call (a2 rfl) rfl rfl (rest_g n a b)))))
  · match L, hl with
    | [a, b, c], _ => exact run_map rfl rfl rfl (r_cf (eqt rfl rfl) (r_cf (eqt rfl rfl) (r_cf (eqt rfl rfl) (r_ct (eqt rfl rfl) (r_call (a3 rfl) rfl rfl (shared_g n a b c))))))
  · match L, hl with
    | [a, b], _ => exact run_map rfl rfl rfl (r_cf (eqt rfl rfl) (r_cf (eqt rfl rfl) (r_cf (eqt rfl rfl) (r_cf (eqt rfl rfl) (r_ct (eqt rfl rfl) (r_call (a2 rfl) rfl rfl (split_rest_g n a b)))))))
  · match L, hl with
    | [a, b, c], _ => exact run_map rfl rfl rfl (r_cf (eqt rfl rfl) (r_cf (eqt rfl rfl) (r_cf (eqt rfl rfl) (r_cf (eqt rfl rfl) (r_cf (eqt rfl rfl) (r_ct (eqt rfl rfl) (r_call (a3 rfl) rfl rfl (split_shared_g n a b c))))))))
  · match L, hl with
    | [a, b], _ => exact run_map rfl rfl rfl (r_cf (eqt rfl rfl) (r_cf (eqt rfl rfl) (r_cf (eqt rfl rfl) (r_cf (eqt rfl rfl) (r_cf (eqt rfl rfl) (r_cf (eqt rfl rfl) (r_ct (eqt rfl rfl) (r_call (a2 rfl) rfl rfl (tells_g n a b)))))))))
  · match L, hl with
    | [a, b, c], _ => exact run_map rfl rfl rfl (r_cf (eqt rfl rfl) (r_cf (eqt rfl rfl) (r_cf (eqt rfl rfl) (r_cf (eqt rfl rfl) (r_cf (eqt rfl rfl) (r_cf (eqt rfl rfl) (r_cf (eqt rfl rfl) (sRE_map (r_call (a3 rfl) rfl rfl (silent_g n a b c))))))))))
theorem c_f {t : En → Option Bool} {S T : En → Option Fl} {env : En} {r : Option Fl} (h : t env = some false) (h2 : T env = r) : sSeq (sIf (lifT t) S sNil) T env = r := seq_of (if_f h e_nil) h2
theorem c_t {t : En → Option Bool} {S T : En → Option Fl} {env e1 : En} {m : M} (h : t env = some true) (h2 : S env = some (.rt m e1)) : sSeq (sIf (lifT t) S sNil) T env = some (.rt m e1) := seq_rt (if_t h h2)
theorem nat_of {a : Int} (h : 0 ≤ a) : ∃ k : Nat, a = k := ⟨a.toNat, by omega⟩
/-- what is told where nothing is refused -/
theorem asked_f {t : Nat} {n : Int} {L : List Int} (ht : t < 8) (hl : L.length = (lsts t).length) (hd : due n (L.zip (lsts t)) = none) : ∃ m d, f__law_asked [I t, I n, .fz (lI L)] = some (m, [I t, I n, .fz (lI L)]) ∧ slotsL [m] = [] ∧ (∀ env, stow 0 env m = some (.fz d, env)) ∧ (t = 0 → d = .int (2 ^ n.toNat - 1)) := by
  obtain ⟨⟨n1, n4⟩, hp⟩ := due_none hd
  obtain ⟨m, rfl⟩ := nat_of (show 0 ≤ n by omega)
  have h1 : 1 ≤ m := by omega
  have h4 : m ≤ 4 := by omega
  rw [pow_nat] at hp
  have hts : t = 0 ∨ t = 1 ∨ t = 2 ∨ t = 3 ∨ t = 4 ∨ t = 5 ∨ t = 6 ∨ t = 7 := by omega
  have gn : nam 1 [some (I t), some (I (m : Int)), some (.fz (lI L))] = some (I (m : Int)) := nam_fz rfl
  have g1 : ∀ {k : Nat} {x : Int}, L[k]? = some x → T2.bin oIdx (nam 2) (cst (.int k)) [some (I t), some (I (m : Int)), some (.fz (lI L))] = some (I x) := fun h => ixn rfl h
  have a2 : ∀ {a b : Int}, L = [a, b] → aCons (nam 1) (aCons (T2.bin oIdx (nam 2) (cst (.int 0))) (aCons (T2.bin oIdx (nam 2) (cst (.int 1))) aNil)) [some (I t), some (I (m : Int)), some (.fz (lI L))] = some [I (m : Int), I a, I b] := fun h => acons_of gn (acons_of (g1 (k := 0) (by rw [h]; rfl)) (acons_of (g1 (k := 1) (by rw [h]; rfl)) e_anil))
  have a3 : ∀ {a b c : Int}, L = [a, b, c] → aCons (nam 1) (aCons (T2.bin oIdx (nam 2) (cst (.int 0))) (aCons (T2.bin oIdx (nam 2) (cst (.int 1))) (aCons (T2.bin oIdx (nam 2) (cst (.int 2))) aNil))) [some (I t), some (I (m : Int)), some (.fz (lI L))] = some [I (m : Int), I a, I b, I c] := fun h => acons_of gn (acons_of (g1 (k := 0) (by rw [h]; rfl)) (acons_of (g1 (k := 1) (by rw [h]; rfl)) (acons_of (g1 (k := 2) (by rw [h]; rfl)) e_anil)))
  have rt : ∀ {f : En → Option M} {R : List Int}, f [some (I t), some (I (m : Int)), some (.fz (lI L))] = some (oI R) → sRet lk__law_asked (lif f) [some (I t), some (I (m : Int)), some (.fz (lI L))] = some (.rt (oI R) [some (I t), some (I (m : Int)), some (.fz (lI L))]) := fun h => by
    rw [e_ret, h]
    exact retM_oI _
  have fin : ∀ {m' : M} {d : D}, F__law_asked [some (I t), some (I (m : Int)), some (.fz (lI L))] = some (.rt m' [some (I t), some (I (m : Int)), some (.fz (lI L))]) → slotsL [m'] = [] → (∀ env, stow 0 env m' = some (.fz d, env)) → (t = 0 → d = .int (2 ^ ((m : Int)).toNat - 1)) → ∃ m' d, f__law_asked [I t, I (m : Int), .fz (lI L)] = some (m', [I t, I (m : Int), .fz (lI L)]) ∧ slotsL [m'] = [] ∧ (∀ env, stow 0 env m' = some (.fz d, env)) ∧ (t = 0 → d = .int (2 ^ ((m : Int)).toNat - 1)) := fun h h2 h3 h5 => ⟨_, _, run_rt rfl rfl rfl h rfl, h2, h3, h5⟩
  rcases hts with rfl | rfl | rfl | rfl | rfl | rfl | rfl | rfl
  · match L, hl with
    | [], _ =>
      refine fin (c_t (eqt rfl rfl) (ret_of (opr_of (acons_of gn e_anil) (callP_of rfl rfl (greatest_ok m h1 h4))))) rfl (fun _ => rfl) fun _ => ?_
      rw [pow_nat]
  · match L, hl with
    | [a], _ =>
      have ha := hp (a, 1) (by simp [lsts])
      obtain ⟨a, rfl⟩ := nat_of (show 0 ≤ a by simp at ha; omega)
      simp only at ha
      exact fin (c_f (eqt rfl rfl) (c_t (eqt rfl rfl) (rt (opr_of (acons_of gn (acons_of (g1 (k := 0) rfl) e_anil)) (callP_of rfl rfl (unsure_ok m a h1 h4 (by omega) (by omega))))))) (slotsL_co slotsL_n) (fun _ => stow_z _) (fun h => by cases h)
  · match L, hl with
    | [a, b], _ =>
      have ha := hp (a, 1) (by simp [lsts])
      have hb := hp (b, 0) (by simp [lsts])
      obtain ⟨a, rfl⟩ := nat_of (show 0 ≤ a by simp at ha; omega)
      obtain ⟨b, rfl⟩ := nat_of (show 0 ≤ b by simp at hb; omega)
      simp only at ha hb
      exact fin (c_f (eqt rfl rfl) (c_f (eqt rfl rfl) (c_t (eqt rfl rfl) (rt (opr_of (a2 rfl) (callP_of rfl rfl (rest_ok m a b h1 h4 (by omega) (by omega) (by omega)))))))) (slotsL_co slotsL_n) (fun _ => stow_z _) (fun h => by cases h)
  · match L, hl with
    | [a, b, c], _ =>
      have ha := hp (a, 1) (by simp [lsts])
      have hb := hp (b, 1) (by simp [lsts])
      have hc := hp (c, 0) (by simp [lsts])
      obtain ⟨a, rfl⟩ := nat_of (show 0 ≤ a by simp at ha; omega)
      obtain ⟨b, rfl⟩ := nat_of (show 0 ≤ b by simp at hb; omega)
      obtain ⟨c, rfl⟩ := nat_of (show 0 ≤ c by simp at hc; omega)
      simp only at ha hb hc
      exact fin (c_f (eqt rfl rfl) (c_f (eqt rfl rfl) (c_f (eqt rfl rfl) (c_t (eqt rfl rfl) (rt (opr_of (a3 rfl) (callP_of rfl rfl (shared_ok m a b c h1 h4 (by omega) (by omega) (by omega) (by omega) (by omega))))))))) (slotsL_co slotsL_n) (fun _ => stow_z _) (fun h => by cases h)
  · match L, hl with
    | [a, b], _ =>
      have ha := hp (a, 1) (by simp [lsts])
      have hb := hp (b, 0) (by simp [lsts])
      obtain ⟨a, rfl⟩ := nat_of (show 0 ≤ a by simp at ha; omega)
      obtain ⟨b, rfl⟩ := nat_of (show 0 ≤ b by simp at hb; omega)
      simp only at ha hb
      obtain ⟨ts, hs⟩ := split_rest_s (n := m) (a := a) (b := b) h1 h4 (by omega) (by omega) (by omega)
      exact fin (c_f (eqt rfl rfl) (c_f (eqt rfl rfl) (c_f (eqt rfl rfl) (c_f (eqt rfl rfl) (c_t (eqt rfl rfl) (rt (opr_of (a2 rfl) (callP_of rfl rfl hs)))))))) (slotsL_co slotsL_n) (fun _ => stow_z _) (fun h => by cases h)
  · match L, hl with
    | [a, b, c], _ =>
      have ha := hp (a, 1) (by simp [lsts])
      have hb := hp (b, 1) (by simp [lsts])
      have hc := hp (c, 0) (by simp [lsts])
      obtain ⟨a, rfl⟩ := nat_of (show 0 ≤ a by simp at ha; omega)
      obtain ⟨b, rfl⟩ := nat_of (show 0 ≤ b by simp at hb; omega)
      obtain ⟨c, rfl⟩ := nat_of (show 0 ≤ c by simp at hc; omega)
      simp only at ha hb hc
      obtain ⟨ts, hs⟩ := split_shared_s (n := m) (a := a) (b := b) (c := c) h1 h4 (by omega) (by omega) (by omega) (by omega) (by omega)
      exact fin (c_f (eqt rfl rfl) (c_f (eqt rfl rfl) (c_f (eqt rfl rfl) (c_f (eqt rfl rfl) (c_f (eqt rfl rfl) (c_t (eqt rfl rfl) (rt (opr_of (a3 rfl) (callP_of rfl rfl hs))))))))) (slotsL_co slotsL_n) (fun _ => stow_z _) (fun h => by cases h)
  · match L, hl with
    | [a, b], _ =>
      have ha := hp (a, 0) (by simp [lsts])
      have hb := hp (b, 1) (by simp [lsts])
      obtain ⟨a, rfl⟩ := nat_of (show 0 ≤ a by simp at ha; omega)
      obtain ⟨b, rfl⟩ := nat_of (show 0 ≤ b by simp at hb; omega)
      simp only at ha hb
      obtain ⟨R, hR⟩ : ∃ R, rowT (2 ^ m - 1) [(b ||| a, 1), (a, -1)] = R := ⟨_, rfl⟩
      have hs := tells_ok m a b h1 h4 (by omega) (by omega) (by omega)
      rw [hR] at hs
      refine fin (m' := sayM R "=" 0) (d := .tup [lI R, .str "=", .int 0]) (c_f (eqt rfl rfl) (c_f (eqt rfl rfl) (c_f (eqt rfl rfl) (c_f (eqt rfl rfl) (c_f (eqt rfl rfl) (c_f (eqt rfl rfl) (c_t (eqt rfl rfl) ?_))))))) (slotsL_ct (slotsL_co slotsL_n) slotsL_n) (fun _ => stow_zt (slotsL_co slotsL_n) (datL0_c dat0_o (datL0_c dat0_f (datL0_c dat0_f datL0_n)))) (fun h => by cases h)
      rw [e_ret, opr_of (a2 rfl) (callP_of rfl rfl hs)]
      exact retM_ot (slotsL_co slotsL_n) (shutL_c shut_s (shutL_c shut_f (shutL_c shut_f shutL_n)))
  · match L, hl with
    | [a, b, c], _ =>
      have ha := hp (a, 1) (by simp [lsts])
      have hb := hp (b, 1) (by simp [lsts])
      have hc := hp (c, 0) (by simp [lsts])
      obtain ⟨a, rfl⟩ := nat_of (show 0 ≤ a by simp at ha; omega)
      obtain ⟨b, rfl⟩ := nat_of (show 0 ≤ b by simp at hb; omega)
      obtain ⟨c, rfl⟩ := nat_of (show 0 ≤ c by simp at hc; omega)
      simp only at ha hb hc
      obtain ⟨R, hR⟩ : ∃ R, rowT (2 ^ m - 1) [(a ||| c, 1), (b ||| c, 1), (a ||| b ||| c, -1), (c, -1)] = R := ⟨_, rfl⟩
      have hs := silent_ok m a b c h1 h4 (by omega) (by omega) (by omega) (by omega) (by omega)
      rw [hR] at hs
      refine fin (m' := sayM R "=" 0) (d := .tup [lI R, .str "=", .int 0]) (c_f (eqt rfl rfl) (c_f (eqt rfl rfl) (c_f (eqt rfl rfl) (c_f (eqt rfl rfl) (c_f (eqt rfl rfl) (c_f (eqt rfl rfl) (c_f (eqt rfl rfl) ?_))))))) (slotsL_ct (slotsL_co slotsL_n) slotsL_n) (fun _ => stow_zt (slotsL_co slotsL_n) (datL0_c dat0_o (datL0_c dat0_f (datL0_c dat0_f datL0_n)))) (fun h => by cases h)
      rw [e_ret, opr_of (a3 rfl) (callP_of rfl rfl hs)]
      exact retM_ot (slotsL_co slotsL_n) (shutL_c shut_s (shutL_c shut_f (shutL_c shut_f shutL_n)))
theorem ret_ds {lk : Nat → Bool} {env : En} {ds : List D} : retM lk env (some (oD ds)) = some (.rt (oD ds) env) := retM_ol (slotsL_f (xs := ds)) (shutL_f (xs := ds))
theorem zipD_map' {α β : Type} {F : α → D} {G : β → D} : ∀ (xs : List α) (ys : List β), zipD (xs.map F) (ys.map G) = (xs.zip ys).map fun p => .tup [F p.1, G p.2]
  | [], ys => by cases ys <;> rfl
  | x :: xs, [] => rfl
  | x :: xs, y :: ys => by
    show D.tup [F x, G y] :: zipD (xs.map F) (ys.map G) = _
    rw [zipD_map' xs ys]
    rfl
theorem zipX_ff {α β : Type} {F : α → D} {G : β → D} {xs : List α} {ys : List β} {env : En} {f1 f2 : En → Option M} (h1 : f1 env = some (.fz (.lst (xs.map F)))) (h2 : f2 env = some (.fz (.lst (ys.map G)))) : itZipX (lifA (aCons f1 (aCons f2 aNil))) env = some ((xs.zip ys).map fun p => .tup [F p.1, G p.2], env) := by
  have h : lifA (aCons f1 (aCons f2 aNil)) env = some ([.fz (.lst (xs.map F)), .fz (.lst (ys.map G))], env) := lifA_of (acons_of h1 (acons_of h2 e_anil))
  have hf : frzX (lifA (aCons f1 (aCons f2 aNil))) env = some ([.lst (xs.map F), .lst (ys.map G)], env) := by
    unfold frzX
    rw [h]
    rfl
  unfold itZipX
  rw [hf]
  show some (zipD (xs.map F) (ys.map G), env) = _
  rw [zipD_map']
def kindD : Option Exn → List D
  | none => []
  | some x => [.str (if x.n = 1 then "count" else "group"), ((x.fs.map (·.2)).head?).getD .non]
theorem kind_none : ∃ ms, f__law_kind [.fz .non] = some (oD [], ms) := by
  have i1 : ∀ {kE : Nat → Option Bool} {x : Option M}, tst (oIsC ca.at_ (some false) kE (nam 0)) [some (.fz .non), x] = some false := tst_of (x_isCN (nam_fz rfl) rfl)
  have key : F__law_kind [some (.fz .non), none] = some (.rt (oD []) [some (.fz .non), none]) :=
    seq_of (x_asg rfl (lif_of (opr_of e_anil k_lstI0)) (stow_s (k := 8) []) rfl rfl rfl) (c_f i1 (c_f i1 (c_f (x_or i1 (x_or i1 i1)) (c_f (x_or i1 (x_or i1 i1)) (c_f (x_andF (c := false) (by kernel_rfl) rfl) (c_f (x_andF (c := false) (by kernel_rfl) rfl) (by kernel_rfl)))))))
  exact ⟨_, run_rt rfl rfl rfl key rfl⟩
theorem kind_C (n : Int) : ∃ ms, f__law_kind [.fz (xC n).d] = some (oD [.str "count", .int n], ms) := by
  have i1 : ∀ {kE : Nat → Option Bool} {x : Option M} {b : Bool}, kE 1 = some b → tst (oIsC ca.at_ (some false) kE (nam 0)) [some (.fz (xC n).d), x] = some b := fun h => tst_of (x_isC (nam_fz rfl) h)
  have fe : oExF ca.at_ [1] "count" (nam 0) [some (.fz (xC n).d), some (oD [])] = some (I n) := x_exF (nam_fz rfl) (by simp) rfl
  have key : F__law_kind [some (.fz (xC n).d), none] = some (.rt (oD [.str "count", .int n]) [some (.fz (xC n).d), none]) :=
    seq_of (x_asg rfl (lif_of (opr_of e_anil k_lstI0)) (stow_s (k := 8) []) rfl rfl rfl)
      (seq_of (if_t (i1 rfl) (x_asg rfl (lif_of (bin_of (nam_oD (ds := []) rfl) (opr_of (acons_of e_cst (acons_of fe e_anil)) rfl) rfl)) (stow_s (k := 8) [.str "count", .int n]) rfl rfl rfl))
      (c_f (i1 rfl) (c_f (x_or (c := false) (c' := false) (i1 rfl) (x_or (c := false) (c' := false) (i1 rfl) (i1 rfl))) (c_f (x_or (c := false) (c' := false) (i1 rfl) (x_or (c := false) (c' := false) (i1 rfl) (i1 rfl))) (c_f (x_and (c := true) (c' := false) (by kernel_rfl) (not_of (b := true) (i1 rfl))) (c_f (x_and (c := true) (c' := false) (by kernel_rfl) (tst_of (isi_nbool (x := n) (bin_of (nam_oD rfl) e_cst rfl)))) (by kernel_rfl)))))))
  exact ⟨_, run_rt rfl rfl rfl key rfl⟩
theorem kind_G (n : Int) : ∃ ms, f__law_kind [.fz (xG n).d] = some (oD [.str "group", .int n], ms) := by
  have i1 : ∀ {kE : Nat → Option Bool} {x : Option M} {b : Bool}, kE 2 = some b → tst (oIsC ca.at_ (some false) kE (nam 0)) [some (.fz (xG n).d), x] = some b := fun h => tst_of (x_isC (nam_fz rfl) h)
  have fe : oExF ca.at_ [2] "group" (nam 0) [some (.fz (xG n).d), some (oD [])] = some (I n) := x_exF (nam_fz rfl) (by simp) rfl
  have key : F__law_kind [some (.fz (xG n).d), none] = some (.rt (oD [.str "group", .int n]) [some (.fz (xG n).d), none]) :=
    seq_of (x_asg rfl (lif_of (opr_of e_anil k_lstI0)) (stow_s (k := 8) []) rfl rfl rfl)
      (c_f (i1 rfl)
      (seq_of (if_t (i1 rfl) (x_asg rfl (lif_of (bin_of (nam_oD (ds := []) rfl) (opr_of (acons_of e_cst (acons_of fe e_anil)) rfl) rfl)) (stow_s (k := 8) [.str "group", .int n]) rfl rfl rfl))
      (c_f (x_or (c := false) (c' := false) (i1 rfl) (x_or (c := false) (c' := false) (i1 rfl) (i1 rfl))) (c_f (x_or (c := false) (c' := false) (i1 rfl) (x_or (c := false) (c' := false) (i1 rfl) (i1 rfl))) (c_f (x_and (c := true) (c' := false) (by kernel_rfl) (not_of (b := true) (i1 rfl))) (c_f (x_and (c := true) (c' := false) (by kernel_rfl) (tst_of (isi_nbool (x := n) (bin_of (nam_oD rfl) e_cst rfl)))) (by kernel_rfl)))))))
  exact ⟨_, run_rt rfl rfl rfl key rfl⟩
theorem due_is {n : Int} {ps : List (Int × Int)} {x : Exn} (h : due n ps = some x) : (n < 1 ∨ 4 < n) ∧ x = xC n ∨ ¬ (n < 1 ∨ 4 < n) ∧ ∃ p, ps.find? (badG n) = some p ∧ x = xG p.1 := by
  unfold due at h
  split at h
  · cases h
    exact Or.inl ⟨by assumption, rfl⟩
  · cases hf : ps.find? (badG n) with
    | none =>
      rw [hf] at h
      cases h
    | some p =>
      rw [hf] at h
      cases h
      exact Or.inr ⟨by assumption, p, rfl, rfl⟩
theorem kind_ok {n : Int} {ps : List (Int × Int)} {x : Exn} (h : due n ps = some x) : ∃ ms, f__law_kind [.fz x.d] = some (oD (kindD (some x)), ms) := by
  rcases due_is h with ⟨_, rfl⟩ | ⟨_, p, _, rfl⟩
  · exact kind_C n
  · exact kind_G p.1
theorem due_okX {n : Int} {ps : List (Int × Int)} {x : Exn} (h : due n ps = some x) : okX [1, 2] x = true := by
  rcases due_is h with ⟨_, rfl⟩ | ⟨_, p, _, rfl⟩
  · exact okX_of rfl
  · exact okX_of rfl
theorem due_isN {n : Int} {ps : List (Int × Int)} {x : Exn} (h : due n ps = some x) {env : En} (h3 : env.get 3 = some (.fz x.d)) : tst (T2.bin (sop (gIsN false)) (nam 3) (cst .non)) env = some false := by
  rcases due_is h with ⟨_, rfl⟩ | ⟨_, p, _, rfl⟩
  · exact tst_of (bin_of (nam_fz h3) e_cst rfl)
  · exact tst_of (bin_of (nam_fz h3) e_cst rfl)
theorem whl_of {env : En} {i : Nat} {m : Nat} (h1 : 1 ≤ m) (h4 : m ≤ 4) (h : env.get i = some (I (m : Int))) : T2.bin (sop iShl) (cst (.int 1)) (nam i) env = some (I (2 ^ m : Nat)) := by
  refine bin_of e_cst (nam_fz h) ?_
  have : m = 1 ∨ m = 2 ∨ m = 3 ∨ m = 4 := by omega
  rcases this with rfl | rfl | rfl | rfl <;> exact (k_shl (by decide) (by decide) (by decide)).trans rfl
theorem refused_ok {t : Nat} {n : Int} {L : List Int} (ht : t < 8) (hl : L.length = (lsts t).length) : ∃ ms, f__law_refused [I t, I n, .fz (lI L)] = some (oD (kindD (due n (L.zip (lsts t)))), ms) := by
  have hR : ∀ {e : En}, e.get 0 = some (I t) → e.get 1 = some (I n) → e.get 2 = some (.fz (lI L)) → rCall [false, false, false] g__law_asked (aCons (nam 0) (aCons (nam 1) (aCons (nam 2) aNil))) e = due n (L.zip (lsts t)) := fun h0 h1 h2 =>
    r_call (ms := [I t, I n, .fz (lI L)]) (cs := [I t, I n, .fz (lI L)]) (acons_of (nam_fz h0) (acons_of (nam_fz h1) (acons_of (nam_fz h2) e_anil))) rfl rfl (asked_g ht hl)
  cases hd : due n (L.zip (lsts t)) with
  | some x =>
    have s3 : sTry (okX [1, 2]) lk__law_refused 5 3 R__law_refused_0 B__law_refused_1 [some (I t), some (I n), some (.fz (lI L)), some (.fz .non), some (.fz .non), none] = some (.nx [some (I t), some (I n), some (.fz (lI L)), some (.fz x.d), some (.fz .non), none]) :=
      x_try (r_sRE ((hR rfl rfl rfl).trans hd)) (due_okX hd) rfl rfl rfl rfl (by decide) rfl
    obtain ⟨ms, hk⟩ := kind_ok hd
    have key : F__law_refused [some (I t), some (I n), some (.fz (lI L)), none, none, none] = some (.rt (oD (kindD (some x))) [some (I t), some (I n), some (.fz (lI L)), some (.fz x.d), some (.fz .non), none]) := by
      refine seq_of (x_asg rfl (lif_of e_cst) stow_f rfl rfl rfl) (seq_of (x_asg rfl (lif_of e_cst) stow_f rfl rfl rfl) (seq_of s3 (c_f (x_andF (due_isN hd rfl) rfl) ?_)))
      rw [e_ret, opr_of (acons_of (nam_fz (d := x.d) rfl) e_anil) (callP_of rfl rfl hk)]
      exact ret_ds
    exact ⟨_, run_rt rfl rfl rfl key rfl⟩
  | none =>
    obtain ⟨⟨n1, n4⟩, _⟩ := due_none hd
    obtain ⟨m, d, hf, hs, hst, h0⟩ := asked_f ht hl hd
    have hsh : shutZ [false, false, false] [I t, I n, .fz (lI L)] = some [I t, I n, .fz (lI L)] := rfl
    have s3 : sTry (okX [1, 2]) lk__law_refused 5 3 R__law_refused_0 B__law_refused_1 [some (I t), some (I n), some (.fz (lI L)), some (.fz .non), some (.fz .non), none] = some (.nx [some (I t), some (I n), some (.fz (lI L)), some (.fz .non), some (.fz d), none]) :=
      x_tryN (r_sREn ((hR rfl rfl rfl).trans hd)) (x_asg rfl (lif_of (opr_of (acons_of (nam_fz rfl) (acons_of (nam_fz rfl) (acons_of (nam_fz rfl) e_anil))) (callP_of rfl rfl hf))) (hst _) rfl rfl rfl)
    obtain ⟨ms, hk⟩ := kind_none
    obtain ⟨k, rfl⟩ := nat_of (show 0 ≤ n by omega)
    have tt : tst (T2.bin (sop (gEq false)) (nam 0) (cst (.int 0))) [some (I (t : Int)), some (I (k : Int)), some (.fz (lI L)), some (.fz .non), some (.fz d), none] = some ((t : Int) == 0) := eqt rfl rfl
    have t4 : dAnd (tst (T2.bin (sop (gEq false)) (nam 0) (cst (.int 0)))) (tst (T2.bin (sop (gEq true)) (nam 4) (T2.bin (sop iSub) (T2.bin (sop iShl) (cst (.int 1)) (nam 1)) (cst (.int 1))))) [some (I (t : Int)), some (I (k : Int)), some (.fz (lI L)), some (.fz .non), some (.fz d), none] = some false := by
      by_cases h : t = 0
      · have e := h0 h
        subst h
        subst e
        refine (x_and tt (tst_of (bin_of (nam_fz rfl) (bin_of (whl_of (by omega) (by omega) rfl) e_cst k_sub) k_eqT))).trans ?_
        rw [pow_nat]
        have : 1 ≤ 2 ^ k := Nat.one_le_two_pow
        rw [show (((2 ^ k : Nat) : Int) - 1) = ((2 ^ k - 1 : Nat) : Int) by omega]
        simp
      · exact x_andF tt (by simp; omega)
    have key : F__law_refused [some (I (t : Int)), some (I (k : Int)), some (.fz (lI L)), none, none, none] = some (.rt (oD []) [some (I t), some (I (k : Int)), some (.fz (lI L)), some (.fz .non), some (.fz d), none]) := by
      refine seq_of (x_asg rfl (lif_of e_cst) stow_f rfl rfl rfl) (seq_of (x_asg rfl (lif_of e_cst) stow_f rfl rfl rfl) (seq_of s3 (c_f ((x_and (c := true) (by kernel_rfl) (x_or (c := false) (c' := false) ((tst_of (bin_of (nam_fz rfl) e_cst k_lt)).trans (by rw [decide_eq_false (by omega)])) t4)).trans rfl) ?_)))
      rw [e_ret, opr_of (acons_of (nam_fz (d := .non) rfl) e_anil) (callP_of rfl rfl hk)]
      exact ret_ds
    exact ⟨_, run_rt rfl rfl rfl key rfl⟩
theorem lp_rt {lk : Nat → Bool} {t : Tg} {ds : List D} {d : D} {S : En → Option Fl} {env e1 e2 : En} {m : M} (h : asT lk t d env = some e1) (h' : S e1 = some (.rt m e2)) : lpF lk t S (d :: ds) env = some (.rt m e2) := by
  unfold lpF
  rw [h]
  simp only [h']
theorem due_loop (m : Nat) (h1 : 1 ≤ m) (h4 : m ≤ 4) (A B : Option M) : ∀ (ps : List (Int × Int)) (x y : Option M), ∃ x' y',
    lpF lk__law_due (.tp [(.nm 3), (.nm 4)]) B__law_due_0 (ps.map tupI) [some (I (m : Int)), A, B, x, y] = some (match ps.find? (badG m) with
      | none => .nx [some (I (m : Int)), A, B, x', y']
      | some p => .rt (oD [.str "group", .int p.1]) [some (I (m : Int)), A, B, x', y'])
  | [], x, y => ⟨x, y, lp_nil⟩
  | p :: ps, x, y => by
    obtain ⟨x', y', ih⟩ := due_loop m h1 h4 A B ps (some (I p.1)) (some (I p.2))
    have e1 : dOr (tst (T2.bin (sop iLt) (nam 3) (nam 4))) (tst (T2.bin (sop iGe) (nam 3) (T2.bin (sop iShl) (cst (.int 1)) (nam 0)))) [some (I (m : Int)), A, B, some (I p.1), some (I p.2)] = some (badG m p) := by
      refine (x_or (tst_of (bin_of (nam_fz rfl) (nam_fz rfl) k_lt)) (tst_of (bin_of (nam_fz rfl) (whl_of h1 h4 rfl) k_ge))).trans ?_
      unfold badG
      rw [pow_nat]
      have : 1 ≤ 2 ^ m := Nat.one_le_two_pow
      rw [show decide (((2 ^ m - 1 : Nat) : Int) < p.1) = decide (((2 ^ m : Nat) : Int) ≤ p.1) from decide_eq_decide.mpr (by omega)]
    have as : asT lk__law_due (.tp [(.nm 3), (.nm 4)]) (tupI p) [some (I (m : Int)), A, B, x, y] = some [some (I (m : Int)), A, B, some (I p.1), some (I p.2)] := rfl
    rw [List.find?_cons]
    cases hb : badG m p with
    | true =>
      rw [hb] at e1
      refine ⟨some (I p.1), some (I p.2), ?_⟩
      refine lp_rt as (if_t e1 ?_)
      rw [e_ret, opr_of (acons_of e_cst (acons_of (nam_fz (d := .int p.1) rfl) e_anil)) (k_lst (by simp [sizeLine]))]
      exact ret_ds (ds := [.str "group", .int p.1])
    | false =>
      rw [hb] at e1
      exact ⟨x', y', lp_cons as (if_f e1 e_nil) ih⟩
theorem law_due_ok {n : Int} {L Ls : List Int} : ∃ ms, f__law_due [I n, .fz (lI L), .fz (lI Ls)] = some (oD (kindD (due n (L.zip Ls))), ms) := by
  have t := bad_n (env := [some (I n), some (.fz (lI L)), some (.fz (lI Ls)), none, none]) (i := 0) (n := n) rfl
  by_cases h : n < 1 ∨ 4 < n
  · rw [show (decide (n < 1) || decide (4 < n)) = true by simpa using h] at t
    have key : F__law_due [some (I n), some (.fz (lI L)), some (.fz (lI Ls)), none, none] = some (.rt (oD [.str "count", .int n]) [some (I n), some (.fz (lI L)), some (.fz (lI Ls)), none, none]) := by
      refine c_t t ?_
      rw [e_ret, opr_of (acons_of e_cst (acons_of (nam_fz (d := .int n) rfl) e_anil)) (k_lst (by simp [sizeLine]))]
      exact ret_ds (ds := [.str "count", .int n])
    have e : due n (L.zip Ls) = some (xC n) := if_pos h
    rw [e]
    exact ⟨_, run_rt rfl rfl rfl key rfl⟩
  · rw [show (decide (n < 1) || decide (4 < n)) = false by simpa using h] at t
    obtain ⟨m, rfl⟩ := nat_of (show 0 ≤ n by omega)
    obtain ⟨x', y', lp⟩ := due_loop m (by omega) (by omega) (some (.fz (lI L))) (some (.fz (lI Ls))) (L.zip Ls) none none
    have it : itZipX (lifA (aCons (nam 1) (aCons (nam 2) aNil))) [some (I (m : Int)), some (.fz (lI L)), some (.fz (lI Ls)), none, none] = some ((L.zip Ls).map tupI, [some (I (m : Int)), some (.fz (lI L)), some (.fz (lI Ls)), none, none]) := zipX_ff (F := D.int) (G := D.int) (nam_fz rfl) (nam_fz rfl)
    rw [due_ok h]
    cases hf : (L.zip Ls).find? (badG m) with
    | none =>
      rw [hf] at lp
      have key : F__law_due [some (I (m : Int)), some (.fz (lI L)), some (.fz (lI Ls)), none, none] = some (.rt (oD []) [some (I (m : Int)), some (.fz (lI L)), some (.fz (lI Ls)), x', y']) := by
        refine c_f t (seq_of (for_of it lp) ?_)
        rw [e_ret, opr_of e_anil k_lstI0]
        exact ret_ds
      exact ⟨_, run_rt rfl rfl rfl key rfl⟩
    | some p =>
      rw [hf] at lp
      have key : F__law_due [some (I (m : Int)), some (.fz (lI L)), some (.fz (lI Ls)), none, none] = some (.rt (oD [.str "group", .int p.1]) [some (I (m : Int)), some (.fz (lI L)), some (.fz (lI Ls)), x', y']) := c_f t (seq_rt (for_of it lp))
      exact ⟨_, run_rt rfl rfl rfl key rfl⟩
abbrev lenv (ns : List Int) (L : List Int) (k nu tu n w ls so le on : Option M) : En := [some (.fz (.scr ns)), some (oI L), k, nu, tu, n, w, ls, so, le, on]
theorem odd_ok (v w : Nat) : ∃ z : Int, f__law_odd [I v, I w] = some (I z, [I v, I w]) := by
  have hp : T2.bin (sop iPow) (cst (.int 10)) (cst (.int 11)) [some (I (v : Int)), some (I (w : Int)), none] = some (I 100000000000) := bin_of e_cst e_cst ((k_pow (by decide) (by decide) (by decide)).trans rfl)
  have s1 := x_asg (lk := lk__law_odd) (i := 2) (k := 0) rfl (lif_of (bin_of (bin_of (nam_fz (d := .int v) (i := 0) rfl) (e_cst (d := .int 16)) (k_div (by decide) (by decide))) hp (k_mod (by decide)))) stow_f rfl rfl rfl
  obtain ⟨r, hr⟩ : ∃ r, v % 8 = r := ⟨_, rfl⟩
  obtain ⟨f, hf⟩ : ∃ f : Int, (v : Int) / 16 % 100000000000 = f := ⟨_, rfl⟩
  rw [hf] at s1
  have n0 : nam 0 [some (I (v : Int)), some (I (w : Int)), some (I f)] = some (I v) := nam_fz rfl
  have n1 : nam 1 [some (I (v : Int)), some (I (w : Int)), some (I f)] = some (I w) := nam_fz rfl
  have n2 : nam 2 [some (I (v : Int)), some (I (w : Int)), some (I f)] = some (I f) := nam_fz rfl
  have hl : opr oLst (aCons (cst (.int 0)) (aCons (una (sop (gU fun i => -i)) (cst (.int 1))) (aCons (T2.bin oAdd (nam 1) (cst (.int 1))) (aCons (T2.bin oAdd (nam 1) (cst (.int 2))) (aCons (T2.bin (sop iSub) (cst (.int 0)) (nam 2)) (aCons (T2.bin oAdd (nam 1) (nam 2)) (aCons (cst (.int 16)) (aCons (una (sop (gU fun i => -i)) (cst (.int 2))) aNil)))))))) [some (I (v : Int)), some (I (w : Int)), some (I f)] = some (oI [0, -1, w + 1, w + 2, 0 - f, w + f, 16, -2]) :=
    opr_of (acons_of e_cst (acons_of (una_of e_cst k_neg) (acons_of (bin_of n1 e_cst k_add) (acons_of (bin_of n1 e_cst k_add) (acons_of (bin_of e_cst n2 k_sub) (acons_of (bin_of n1 n2 k_add) (acons_of e_cst (acons_of (una_of e_cst k_neg) e_anil)))))))) (k_lst (by simp [sizeLine]))
  have hi : T2.bin (sop iMod) (nam 0) (cst (.int 8)) [some (I (v : Int)), some (I (w : Int)), some (I f)] = some (I (r : Nat)) := (bin_of n0 e_cst (k_mod (by decide))).trans (by rw [← hr]; simp)
  have hx := bin_of hl hi (x_idxO (L := [0, -1, w + 1, w + 2, 0 - f, w + f, 16, -2]) (by omega) (by simp; omega))
  have key := seq_of s1 (ret_of (lk := lk__law_odd) hx)
  exact ⟨_, run_rt rfl rfl rfl key rfl⟩
theorem odd_step {ns L : List Int} (hL : okD L) {L0 : List Int} (hne : 1 ≤ L0.length) (hm : L0.length ≤ 3) (w : Nat) (k nu tu n ls le on : Option M) :
    ∃ (L' L1 : List Int) (on' : Option M), okD L' ∧ L1.length = L0.length ∧ B_law_0 (lenv ns L k nu tu n (some (I w)) ls (some (oI L0)) le on) = some (.nx (lenv ns L' k nu tu n (some (I w)) ls (some (oI L1)) le on')) := by
  obtain ⟨v, L', hp, hv, hL'⟩ := pop_in (env := lenv ns L k nu tu n (some (I w)) ls (some (oI L0)) le on) (i := 1) rfl hL
  have s1 := asgX_of (lk := lk_law) (i := 10) (k := 0) hp rfl rfl (Nat.le_of_ble_eq_true rfl)
  have t1 : tst (T2.bin (sop (gEq false)) (T2.bin (sop iMod) (nam 10) (cst (.int 2))) (cst (.int 0))) (lenv ns L' k nu tu n (some (I w)) ls (some (oI L0)) le (some (I v))) = some ((v : Int) % 2 == 0) :=
    tst_of (bin_of (bin_of (nam_fz (d := .int v) rfl) e_cst (k_mod (by decide))) e_cst k_eqF)
  by_cases h2 : (v : Int) % 2 = 0
  · obtain ⟨z, hz⟩ := odd_ok (v / 8) w
    obtain ⟨j, hj⟩ : ∃ j : Nat, v / 2 % L0.length = j := ⟨_, rfl⟩
    have hjl : j < L0.length := by rw [← hj]; exact Nat.mod_lt _ (by omega)
    have g0 : T2.bin (sop iDiv) (nam 10) (cst (.int 8)) (lenv ns L' k nu tu n (some (I w)) ls (some (oI L0)) le (some (I v))) = some (I ((v / 8 : Nat) : Int)) := (bin_of (nam_fz (d := .int v) rfl) e_cst (k_div (by decide) (by decide))).trans (by simp)
    have g1 : opr (callP [false, false] f__law_odd) (aCons (T2.bin (sop iDiv) (nam 10) (cst (.int 8))) (aCons (nam 6) aNil)) (lenv ns L' k nu tu n (some (I w)) ls (some (oI L0)) le (some (I v))) = some (I z) :=
      opr_of (acons_of g0 (acons_of (nam_fz rfl) e_anil)) (callP_of rfl rfl hz)
    have hlen : opr (sop gLen) (aCons (nam 8) aNil) (lenv ns L' k nu tu n (some (I w)) ls (some (oI L0)) le (some (I v))) = some (I L0.length) := x_lenI (L := L0) (nam_oD (ds := L0.map .int) rfl) (dats_b rfl dats_n)
    have gi : T2.bin (sop iMod) (T2.bin (sop iDiv) (nam 10) (cst (.int 2))) (opr (sop gLen) (aCons (nam 8) aNil)) (lenv ns L' k nu tu n (some (I w)) ls (some (oI L0)) le (some (I v))) = some (I (j : Nat)) :=
      (bin_of (bin_of (nam_fz (d := .int v) rfl) e_cst (k_div (by decide) (by decide))) hlen (k_mod (by omega))).trans (by rw [← hj]; simp)
    have st := x_set (k := 0) (fo := nam 8) (fi := T2.bin (sop iMod) (T2.bin (sop iDiv) (nam 10) (cst (.int 2))) (opr (sop gLen) (aCons (nam 8) aNil))) (lif_of g1) stow_f (nam_oD (ds := L0.map .int) rfl) gi rfl (x_mset (by omega) (by omega)) rfl
    exact ⟨L', L0.set j z, some (I v), hL', by simp, seq_of s1 (if_t (t1.trans (by simp [h2])) st)⟩
  · exact ⟨L', L0, some (I v), hL', rfl, seq_of s1 (if_f (t1.trans (by simp [h2])) e_nil)⟩
theorem odds_ok {ns : List Int} (w : Nat) (k nu tu n ls on : Option M) {N : Nat} (hm : N ≤ 3) : ∀ (js : List D) (L L0 : List Int) (le : Option D) (on : Option M), okD L → L0.length = N → (js ≠ [] → 1 ≤ N) →
    ∃ (L' L1 : List Int) (le' : Option D) (on' : Option M), okD L' ∧ L1.length = N ∧ lpF lk_law (.nm 9) B_law_0 js (lenv ns L k nu tu n (some (I w)) ls (some (oI L0)) (le.map .fz) on) = some (.nx (lenv ns L' k nu tu n (some (I w)) ls (some (oI L1)) (le'.map .fz) on'))
  | [], L, L0, le, on, hL, hl, _ => ⟨L, L0, le, on, hL, hl, lp_nil⟩
  | j :: js, L, L0, le, on, hL, hl, hn => by
    obtain ⟨L2, L1, on2, hL2, hl1, g⟩ := odd_step (ns := ns) hL (L0 := L0) (by have := hn (by simp); omega) (by omega) w k nu tu n ls (some (.fz j)) on
    obtain ⟨L3, L4, le3, on3, hL3, hl3, ih⟩ := odds_ok (ns := ns) w k nu tu n ls on hm js L2 L1 (some j) on2 hL2 (by omega) (fun _ => hn (by simp))
    exact ⟨L3, L4, le3, on3, hL3, hl3, lp_cons rfl g ih⟩
theorem leasts_ok {env : En} {t : Nat} (ht : t < 8) (h : env.get 4 = some (I (t : Int))) : ∃ m, T2.bin oIdx (opr oLst (aCons (opr oLst aNil) (aCons (opr oLst (aCons (cst (.int 1)) aNil)) (aCons (opr oLst (aCons (cst (.int 1)) (aCons (cst (.int 0)) aNil))) (aCons (opr oLst (aCons (cst (.int 1)) (aCons (cst (.int 1)) (aCons (cst (.int 0)) aNil)))) (aCons (opr oLst (aCons (cst (.int 1)) (aCons (cst (.int 0)) aNil))) (aCons (opr oLst (aCons (cst (.int 1)) (aCons (cst (.int 1)) (aCons (cst (.int 0)) aNil)))) (aCons (opr oLst (aCons (cst (.int 0)) (aCons (cst (.int 1)) aNil))) (aCons (opr oLst (aCons (cst (.int 1)) (aCons (cst (.int 1)) (aCons (cst (.int 0)) aNil)))) aNil))))))))) (nam 4) env = some m ∧ ∀ e, stow 0 e m = some (.fz (lI (lsts t)), e) := by
  have e1 : opr oLst (aCons (opr oLst aNil) (aCons (opr oLst (aCons (cst (.int 1)) aNil)) (aCons (opr oLst (aCons (cst (.int 1)) (aCons (cst (.int 0)) aNil))) (aCons (opr oLst (aCons (cst (.int 1)) (aCons (cst (.int 1)) (aCons (cst (.int 0)) aNil)))) (aCons (opr oLst (aCons (cst (.int 1)) (aCons (cst (.int 0)) aNil))) (aCons (opr oLst (aCons (cst (.int 1)) (aCons (cst (.int 1)) (aCons (cst (.int 0)) aNil)))) (aCons (opr oLst (aCons (cst (.int 0)) (aCons (cst (.int 1)) aNil))) (aCons (opr oLst (aCons (cst (.int 1)) (aCons (cst (.int 1)) (aCons (cst (.int 0)) aNil)))) aNil)))))))) env = some (.ol [oI [], oI [1], oI [1, 0], oI [1, 1, 0], oI [1, 0], oI [1, 1, 0], oI [0, 1], oI [1, 1, 0]]) := by kernel_rfl
  have n4 : nam 4 env = some (I (t : Int)) := nam_fz h
  refine ⟨oI (lsts t), bin_of e1 n4 ?_, fun e => stow_z _⟩
  have : t = 0 ∨ t = 1 ∨ t = 2 ∨ t = 3 ∨ t = 4 ∨ t = 5 ∨ t = 6 ∨ t = 7 := by omega
  rcases this with rfl | rfl | rfl | rfl | rfl | rfl | rfl | rfl <;> kernel_rfl
theorem lsts_ok (t : Nat) : (lsts t).length ≤ 3 ∧ ∀ x ∈ lsts t, 0 ≤ x ∧ x ≤ 1 := by
  unfold lsts
  split <;> simp
theorem some_ok {ns L : List Int} (hL : okD L) {W t : Nat} (hW : 1 ≤ W) (k nu tu n so : Option M) (le : Option D) (on : Option M) : ∃ (L' X : List Int), okD L' ∧ X.length = (lsts t).length ∧
    sAsg lk_law 8 1 (lcX [9] (.nm 9) (itX true (lif (nam 7))) cYes (xbin oAdd (lif (nam 9)) (xbin (sop iMod) (callI [true] f__law_pop (lifA (aCons (nam 1) aNil))) (lif (T2.bin (sop iSub) (T2.bin oAdd (nam 6) (cst (.int 1))) (nam 9)))))) (lenv ns L k nu tu n (some (I W)) (some (.fz (lI (lsts t)))) so (le.map .fz) on) = some (.nx (lenv ns L' k nu tu n (some (I W)) (some (.fz (lI (lsts t)))) (some (oI X)) (le.map .fz) on)) := by
  have it : itX true (lif (nam 7)) (lenv ns L k nu tu n (some (I W)) (some (.fz (lI (lsts t)))) so (le.map .fz) on) = some ((lsts t).map D.int, lenv ns L k nu tu n (some (I W)) (some (.fz (lI (lsts t)))) so (le.map .fz) on) := itX_of (lif_of (nam_fz (d := lI (lsts t)) rfl)) rfl rfl rfl
  obtain ⟨X, eX, gX, lX, _, L2, hL2, heX⟩ := lcLX_ints (vs := [9]) (t := .nm 9) (elt := xbin oAdd (lif (nam 9)) (xbin (sop iMod) (callI [true] f__law_pop (lifA (aCons (nam 1) aNil))) (lif (T2.bin (sop iSub) (T2.bin oAdd (nam 6) (cst (.int 1))) (nam 9)))))
    (fun e => ∃ L, okD L ∧ e = lenv ns L k nu tu n (some (I W)) (some (.fz (lI (lsts t)))) so (le.map .fz) on) (fun _ => True) ((lsts t).map D.int) (fun d hd e ⟨L', hL', he⟩ => by
      subst he
      obtain ⟨y, hy, rfl⟩ := List.mem_map.mp hd
      have hy1 := (lsts_ok t).2 y hy
      obtain ⟨v, L'', hp, hv, hq'⟩ := pop_in (env := lenv ns L' k nu tu n (some (I W)) (some (.fz (lI (lsts t)))) so (some (I y)) on) (i := 1) rfl hL'
      refine ⟨lenv ns L' k nu tu n (some (I W)) (some (.fz (lI (lsts t)))) so (some (I y)) on, _, _, rfl, xbin_of (lif_of (nam_fz rfl)) (xbin_of hp (lif_of (bin_of (bin_of (nam_fz rfl) e_cst k_add) (nam_fz rfl) k_sub)) rfl rfl (k_mod (by omega))) rfl rfl k_add, by cases le <;> rfl, trivial, L'', hq', by cases le <;> rfl⟩) _ ⟨L, hL, rfl⟩
  subst heX
  rw [List.length_map] at lX
  refine ⟨L2, X, hL2, lX, ?_⟩
  exact x_asg rfl (x_lcX it gX (by rw [List.length_map, List.length_map, lX]; have := (lsts_ok t).1; simp only [sizeLine]; omega)) (stow_s (k := 0) (X.map .int)) rfl rfl rfl
def nOdd (v n : Nat) : Int := if v / 128 % 5 = 0 then (match v / 640 % 6 with | 0 => 0 | 1 => 5 | 2 => -1 | 3 => 6 | 4 => 100000000000 + v | _ => -7) else n
theorem n_ok {ns L : List Int} (v n : Nat) (k tu w ls so le on : Option M) : sIf (lifT (tst (T2.bin (sop (gEq false)) (T2.bin (sop iMod) (T2.bin (sop iDiv) (nam 3) (cst (.int 128))) (cst (.int 5))) (cst (.int 0)))))
    (sAsg lk_law 5 0 (lif (T2.bin oIdx (opr oLst (aCons (cst (.int 0)) (aCons (cst (.int 5)) (aCons (una (sop (gU fun i => -i)) (cst (.int 1))) (aCons (cst (.int 6)) (aCons (T2.bin oAdd (T2.bin (sop iPow) (cst (.int 10)) (cst (.int 11))) (nam 3)) (aCons (una (sop (gU fun i => -i)) (cst (.int 7))) aNil))))))) (T2.bin (sop iMod) (T2.bin (sop iDiv) (nam 3) (cst (.int 640))) (cst (.int 6))))))
    sNil (lenv ns L k (some (I v)) tu (some (I n)) w ls so le on) = some (.nx (lenv ns L k (some (I v)) tu (some (I (nOdd v n))) w ls so le on)) := by
  have n3 : nam 3 (lenv ns L k (some (I v)) tu (some (I n)) w ls so le on) = some (I v) := nam_fz rfl
  have t1 : tst (T2.bin (sop (gEq false)) (T2.bin (sop iMod) (T2.bin (sop iDiv) (nam 3) (cst (.int 128))) (cst (.int 5))) (cst (.int 0))) (lenv ns L k (some (I v)) tu (some (I n)) w ls so le on) = some ((v : Int) / 128 % 5 == 0) :=
    tst_of (bin_of (bin_of (bin_of n3 e_cst (k_div (by decide) (by decide))) e_cst (k_mod (by decide))) e_cst k_eqF)
  unfold nOdd
  by_cases h : v / 128 % 5 = 0
  · rw [if_pos h]
    refine if_t (t1.trans (by have : (v : Int) / 128 % 5 = 0 := by omega
                              rw [this]; rfl)) ?_
    have hp : T2.bin (sop iPow) (cst (.int 10)) (cst (.int 11)) (lenv ns L k (some (I v)) tu (some (I n)) w ls so le on) = some (I 100000000000) := bin_of e_cst e_cst ((k_pow (by decide) (by decide) (by decide)).trans rfl)
    have hl : opr oLst (aCons (cst (.int 0)) (aCons (cst (.int 5)) (aCons (una (sop (gU fun i => -i)) (cst (.int 1))) (aCons (cst (.int 6)) (aCons (T2.bin oAdd (T2.bin (sop iPow) (cst (.int 10)) (cst (.int 11))) (nam 3)) (aCons (una (sop (gU fun i => -i)) (cst (.int 7))) aNil)))))) (lenv ns L k (some (I v)) tu (some (I n)) w ls so le on) = some (oI [0, 5, -1, 6, 100000000000 + v, -7]) :=
      opr_of (acons_of e_cst (acons_of e_cst (acons_of (una_of e_cst k_neg) (acons_of e_cst (acons_of (bin_of hp n3 k_add) (acons_of (una_of e_cst k_neg) e_anil)))))) k_lstI6
    obtain ⟨r, hr⟩ : ∃ r, v / 640 % 6 = r := ⟨_, rfl⟩
    have hr6 : r < 6 := by omega
    have hi : T2.bin (sop iMod) (T2.bin (sop iDiv) (nam 3) (cst (.int 640))) (cst (.int 6)) (lenv ns L k (some (I v)) tu (some (I n)) w ls so le on) = some (I (r : Nat)) := (bin_of (bin_of n3 e_cst (k_div (by decide) (by decide))) e_cst (k_mod (by decide))).trans (by rw [← hr]; simp)
    have hx := bin_of hl hi (x_idxO (L := [0, 5, -1, 6, 100000000000 + v, -7]) (by omega) (by simp; omega))
    rw [hr]
    refine x_asg rfl (lif_of hx) stow_f ?_ rfl rfl
    have : r = 0 ∨ r = 1 ∨ r = 2 ∨ r = 3 ∨ r = 4 ∨ r = 5 := by omega
    rcases this with rfl | rfl | rfl | rfl | rfl | rfl <;> rfl
  · rw [if_neg h]
    exact if_f (t1.trans (by simp; omega)) e_nil
theorem gd_kind (x : Option Exn) (h : x = none ∨ (∃ n, x = some (xC n)) ∨ ∃ g, x = some (xG g)) : gd 64 (.lst (kindD x)) = true := by
  rcases h with rfl | ⟨n, rfl⟩ | ⟨g, rfl⟩
  · exact gd_lst gdL_n
  · show gd 64 (.lst [.str "count", .int n]) = true
    exact gd_lst (gdL_c (gd_str (by kernel_rfl)) (gdL_c gd_int gdL_n))
  · show gd 64 (.lst [.str "group", .int g]) = true
    exact gd_lst (gdL_c (gd_str (by kernel_rfl)) (gdL_c gd_int gdL_n))
theorem due_kinds (n : Int) (ps : List (Int × Int)) : due n ps = none ∨ (∃ m, due n ps = some (xC m)) ∨ ∃ g, due n ps = some (xG g) := by
  cases h : due n ps with
  | none => exact Or.inl rfl
  | some x =>
    rcases due_is h with ⟨_, rfl⟩ | ⟨_, p, _, rfl⟩
    · exact Or.inr (Or.inl ⟨n, rfl⟩)
    · exact Or.inr (Or.inr ⟨p.1, rfl⟩)
theorem last_ok {ns L X : List Int} {t : Nat} (ht : t < 8) (hX : X.length = (lsts t).length) (k nu w le on : Option M) (n : Int) :
    sFz 8 (sIf (lifT (tst (T2.bin (sop (gEq true)) (opr (callP [false, false, false] f__law_refused) (aCons (nam 4) (aCons (nam 5) (aCons (nam 8) aNil)))) (opr (callP [false, false, false] f__law_due) (aCons (nam 5) (aCons (nam 8) (aCons (nam 7) aNil)))))))
    (sRet lk_law (lif (cst (.bl false))))
    sNil) (lenv ns L k nu (some (I t)) (some (I n)) w (some (.fz (lI (lsts t)))) (some (oI X)) le on) = some (.nx (lenv ns L k nu (some (I t)) (some (I n)) w (some (.fz (lI (lsts t)))) (some (.fz (lI X))) le on)) := by
  obtain ⟨ms, h1⟩ := refused_ok (n := n) ht hX
  obtain ⟨ms2, h2⟩ := law_due_ok (n := n) (L := X) (Ls := lsts t)
  refine x_fz rfl dat0_o rfl (if_f (tst_of (bin_of (opr_of (acons_of (nam_fz rfl) (acons_of (nam_fz rfl) (acons_of (nam_fz rfl) e_anil))) (callP_of rfl rfl h1)) (opr_of (acons_of (nam_fz rfl) (acons_of (nam_fz rfl) (acons_of (nam_fz rfl) e_anil))) (callP_of rfl rfl h2)) (k_eqST (dats_o (dats_o dats_n)) (gd_kind _ (due_kinds n _))))) e_nil)
theorem step_ok {ns L : List Int} (hL : okD L) (k nu tu n w ls so : Option M) (le : Option D) (on : Option M) :
    ∃ (L' : List Int) (nu' tu' n' w' ls' so' : Option M) (le' : Option D) (on' : Option M), okD L' ∧ B_law_1 (lenv ns L k nu tu n w ls so (le.map .fz) on) = some (.nx (lenv ns L' k nu' tu' n' w' ls' so' (le'.map .fz) on')) := by
  obtain ⟨v, L1, hp, hv, hL1⟩ := pop_in (env := lenv ns L k nu tu n w ls so (le.map .fz) on) (i := 1) rfl hL
  have s1 := asgX_of (lk := lk_law) (i := 3) (k := 0) hp rfl rfl (Nat.le_of_ble_eq_true rfl)
  obtain ⟨t, ht'⟩ : ∃ t, v % 8 = t := ⟨_, rfl⟩
  obtain ⟨m, hm'⟩ : ∃ m, 1 + v / 8 % 4 = m := ⟨_, rfl⟩
  have ht : t < 8 := by omega
  have s2 : sAsg lk_law 4 0 (lif (T2.bin (sop iMod) (nam 3) (cst (.int 8)))) (lenv ns L1 k (some (I v)) tu n w ls so (le.map .fz) on) = some (.nx (lenv ns L1 k (some (I v)) (some (I t)) n w ls so (le.map .fz) on)) :=
    x_asg rfl (lif_of (bin_of (nam_fz rfl) e_cst (k_mod (by decide)))) stow_f (by rw [← ht']; simp) rfl rfl
  have s3 : sAsg lk_law 5 0 (lif (T2.bin oAdd (cst (.int 1)) (T2.bin (sop iMod) (T2.bin (sop iDiv) (nam 3) (cst (.int 8))) (cst (.int 4))))) (lenv ns L1 k (some (I v)) (some (I t)) n w ls so (le.map .fz) on) = some (.nx (lenv ns L1 k (some (I v)) (some (I t)) (some (I m)) w ls so (le.map .fz) on)) :=
    x_asg rfl (lif_of (bin_of e_cst (bin_of (bin_of (nam_fz rfl) e_cst (k_div (by decide) (by decide))) e_cst (k_mod (by decide))) k_add)) stow_f (by rw [← hm']; simp) rfl rfl
  obtain ⟨W, hW⟩ : ∃ W, 2 ^ m - 1 = W := ⟨_, rfl⟩
  have h2m : 2 ≤ 2 ^ m := by
    have : m = 1 ∨ m = 2 ∨ m = 3 ∨ m = 4 := by omega
    rcases this with h | h | h | h <;> rw [h] <;> decide
  have s4 : sAsg lk_law 6 0 (lif (T2.bin (sop iSub) (T2.bin (sop iShl) (cst (.int 1)) (nam 5)) (cst (.int 1)))) (lenv ns L1 k (some (I v)) (some (I t)) (some (I m)) w ls so (le.map .fz) on) = some (.nx (lenv ns L1 k (some (I v)) (some (I t)) (some (I m)) (some (I W)) ls so (le.map .fz) on)) :=
    x_asg rfl (lif_of (bin_of (whl_of (by omega) (by omega) rfl) e_cst k_sub)) stow_f (by rw [← hW]; congr 2; omega) rfl rfl
  obtain ⟨ml, e5, f5⟩ := leasts_ok (env := lenv ns L1 k (some (I v)) (some (I t)) (some (I m)) (some (I W)) ls so (le.map .fz) on) ht rfl
  have s5 := x_asg (lk := lk_law) (i := 7) (k := 0) rfl (lif_of e5) (f5 _) rfl rfl rfl
  obtain ⟨L2, X, hL2, hX, s6⟩ := some_ok (ns := ns) (t := t) hL1 (show 1 ≤ W by omega) k (some (I v)) (some (I t)) (some (I m)) so le on
  obtain ⟨c, hc⟩ : ∃ c : Nat, itR1 (aCons (T2.bin oMul (T2.bin (sop iMod) (T2.bin (sop iDiv) (nam 3) (cst (.int 32))) (cst (.int 4))) (opr (sop gInt) (aCons (T2.bin (sop (gEq true)) (nam 8) (opr oLst aNil)) aNil))) aNil) (lenv ns L2 k (some (I v)) (some (I t)) (some (I m)) (some (I W)) (some (.fz (lI (lsts t)))) (some (oI X)) (le.map .fz) on) = some ((List.range c).map fun k : Nat => D.int k) ∧ (c ≠ 0 → X ≠ []) := by
    have q1 : T2.bin (sop iMod) (T2.bin (sop iDiv) (nam 3) (cst (.int 32))) (cst (.int 4)) (lenv ns L2 k (some (I v)) (some (I t)) (some (I m)) (some (I W)) (some (.fz (lI (lsts t)))) (some (oI X)) (le.map .fz) on) = some (I ((v / 32 % 4 : Nat) : Int)) := (bin_of (bin_of (nam_fz rfl) e_cst (k_div (by decide) (by decide))) e_cst (k_mod (by decide))).trans (by simp)
    have q2 : T2.bin (sop (gEq true)) (nam 8) (opr oLst aNil) (lenv ns L2 k (some (I v)) (some (I t)) (some (I m)) (some (I W)) (some (.fz (lI (lsts t)))) (some (oI X)) (le.map .fz) on) = some (.fz (.bl (!eqD (lI X) (lI [])))) := bin_of (nam_oD (ds := X.map .int) rfl) (opr_of e_anil k_lstI0) (k_eqGT (dats_b rfl (dats_o dats_n)) gd_lI gd_lI)
    cases X with
    | nil =>
      rw [show eqD (lI []) (lI []) = true from rfl] at q2
      refine ⟨0, rng0 (acons_of ?_ e_anil) (by decide), fun h => absurd rfl h⟩
      exact (bin_of q1 (opr_of (acons_of q2 e_anil) k_intb) (k_mul (cMul_ok 1000 1000 (by omega) (by decide) (by decide)))).trans (by simp)
    | cons y X =>
      rw [show eqD (lI (y :: X)) (lI []) = false from rfl] at q2
      refine ⟨v / 32 % 4, rng0 (acons_of ?_ e_anil) (by omega), fun _ => by simp⟩
      exact (bin_of q1 (opr_of (acons_of q2 e_anil) k_intb) (k_mul (cMul_ok 1000 1000 (by omega) (by decide) (by decide)))).trans (by simp)
  obtain ⟨L3, X3, le3, on3, hL3, hX3, s7⟩ := odds_ok (ns := ns) W k (some (I v)) (some (I t)) (some (I m)) (some (.fz (lI (lsts t)))) on (N := X.length) (by rw [hX]; exact (lsts_ok t).1) ((List.range c).map fun k : Nat => D.int k) L2 X le on hL2 rfl (fun h => by
    rcases X with _ | ⟨y, X⟩
    · rcases Nat.eq_zero_or_pos c with h0 | h0
      · subst h0
        exact absurd rfl h
      · exact absurd rfl (hc.2 (by omega))
    · simp)
  have s8 := n_ok (ns := ns) (L := L3) v m k (some (I t)) (some (I W)) (some (.fz (lI (lsts t)))) (some (oI X3)) (le3.map .fz) on3
  have s9 := last_ok (ns := ns) (L := L3) (X := X3) ht (hX3.trans hX) k (some (I v)) (some (I W)) (le3.map .fz) on3 (nOdd v m)
  exact ⟨L3, _, _, _, _, _, _, le3, on3, hL3, seq_of s1 (seq_of s2 (seq_of s3 (seq_of s4 (seq_of s5 (seq_of s6 (seq_of (for_of (lifI_of hc.1) s7) (seq_of s8 s9)))))))⟩
theorem steps_ok {ns : List Int} : ∀ (ks : List D) (L : List Int) (k nu tu n w ls so : Option M) (le : Option D) (on : Option M), okD L →
    ∃ e, lpF lk_law (.nm 2) B_law_1 ks (lenv ns L k nu tu n w ls so (le.map .fz) on) = some (.nx e) ∧ outs lk_law e 0 [.fz (.scr ns)] = some [.fz (.scr ns)]
  | [], L, k, nu, tu, n, w, ls, so, le, on, _ => ⟨_, lp_nil, rfl⟩
  | j :: ks, L, k, nu, tu, n, w, ls, so, le, on, hL => by
    obtain ⟨L', nu', tu', n', w', ls', so', le', on', hL', g⟩ := step_ok (ns := ns) hL (some (.fz j)) nu tu n w ls so le on
    obtain ⟨e, ih, o⟩ := steps_ok ks L' (some (.fz j)) nu' tu' n' w' ls' so' le' on' hL'
    exact ⟨e, lp_cons (e1 := lenv ns L (some (.fz j)) nu tu n w ls so (le.map .fz) on) rfl g ih, o⟩
theorem law_true : ∀ ns : List Int, ns.length ≤ 63 → (∀ z ∈ ns, Builtin.Int.intBits z ≤ 1048576) → ∃ ms, f_law [.fz (.scr ns)] = some (.fz (.bl true), ms) := by
  intro ns hn hb
  obtain ⟨L, hL, hd⟩ := draws_ok hn 2 80 (by omega)
  have s1 : sAsg lk_law 1 9 (lif (opr (callP [false, false, false] f__law_draws) (aCons (nam 0) (aCons (cst (.int 2)) (aCons (cst (.int 80)) aNil))))) [some (.fz (.scr ns)), none, none, none, none, none, none, none, none, none, none] = some (.nx (lenv ns L none none none none none none none none none)) :=
    asgX_of (lif_of (opr_of (acons_of (nam_fz (d := .scr ns) rfl) (acons_of e_cst (acons_of e_cst e_anil))) (callP_of rfl rfl hd))) (stow_s (k := 8) _) rfl (Nat.le_of_ble_eq_true rfl)
  obtain ⟨e, lp, o⟩ := steps_ok (ns := ns) ((List.range 10).map fun k : Nat => D.int k) L none none none none none none none none none hL
  have key : F_law [some (.fz (.scr ns)), none, none, none, none, none, none, none, none, none, none] = some (.rt (.fz (.bl true)) e) :=
    seq_of s1 (seq_of (for_of (ds := (List.range 10).map fun k : Nat => D.int k) (lifI_of (by kernel_rfl)) lp) (ret_of e_cst))
  exact ⟨_, run_rt rfl rfl rfl key o⟩
end G06
end
section
namespace G06
open PySem PySem.Spec PyProof.Rows L2 T2
set_option Elab.async false
set_option linter.all false
set_option maxRecDepth 100000
set_option maxHeartbeats 4000000
theorem ex_fun {K : PySem.W.Frag} {n m : Str} {s : Stmt} {fa : Addr} {fd : FuncData} {P Q : FuncData → Prop} (_ : L2.Fun K n m s fa fd) (h1 : P fd) (h2 : Q fd) : ∃ fd, P fd ∧ Q fd := ⟨fd, h1, h2⟩
def spL (K : PySem.W.Frag) : Sp := fun vs H Q E => ∀ ca : ClsA, SpI K (f_law (ca := ca)) vs H Q E
theorem all_mk {l : PySem.W.OpenLaw} {w : World} {K : PySem.W.Frag} {h : Heap} {mg : Str → Option Value} {fa : Addr} (X : K.In h) (G : h.Ns mainGlobals mg) (hfa : mg "law" = some (.ref fa))
    {C_Tally : Addr}
    {C_NoCount : Addr}
    {C_NoGroup : Addr}
    {C_NoTable : Addr}
    {C_TooMany : Addr}
    {C_NoText : Addr}
    {C_NoLine : Addr}
    {C_NoPlace : Addr}
    {C_NoHeap : Addr}
    {C_TellError : Addr}
    {nm_NoCount q_NoCount : Str} {N_NoCount : Addr} {bs_NoCount : List Value} {sn_NoCount : List Str} {sub_NoCount : List Value} {ab_NoCount : Bool} {col_NoCount : Option Bool} {dd_NoCount : Option Addr} {m0_NoCount m1_NoCount m2_NoCount m3_NoCount m5_NoCount : Option Value}
    {nm_NoGroup q_NoGroup : Str} {N_NoGroup : Addr} {bs_NoGroup : List Value} {sn_NoGroup : List Str} {sub_NoGroup : List Value} {ab_NoGroup : Bool} {col_NoGroup : Option Bool} {dd_NoGroup : Option Addr} {m0_NoGroup m1_NoGroup m2_NoGroup m3_NoGroup m5_NoGroup : Option Value}
    {f_NoCount_a : Addr} {od_NoCount an_NoCount : Option Addr} {sl_NoCount : Array (Option Value)} {oc_NoCount kV_NoCount dc_NoCount pm_NoCount cd_NoCount ct_NoCount : Value}
    {f_NoGroup_a : Addr} {od_NoGroup an_NoGroup : Option Addr} {sl_NoGroup : Array (Option Value)} {oc_NoGroup kV_NoGroup dc_NoGroup pm_NoGroup cd_NoGroup ct_NoGroup : Value}
    {f__law_draws_a : Addr} {od__law_draws an__law_draws : Option Addr} {sl__law_draws : Array (Option Value)} {oc__law_draws kV__law_draws dc__law_draws pm__law_draws cd__law_draws ct__law_draws : Value}
    {f__law_pop_a : Addr} {od__law_pop an__law_pop : Option Addr} {sl__law_pop : Array (Option Value)} {oc__law_pop kV__law_pop dc__law_pop pm__law_pop cd__law_pop ct__law_pop : Value}
    {f__law_kind_a : Addr} {od__law_kind an__law_kind : Option Addr} {sl__law_kind : Array (Option Value)} {oc__law_kind kV__law_kind dc__law_kind pm__law_kind cd__law_kind ct__law_kind : Value}
    {f_greatest_a : Addr} {od_greatest an_greatest : Option Addr} {sl_greatest : Array (Option Value)} {oc_greatest kV_greatest dc_greatest pm_greatest cd_greatest ct_greatest : Value}
    {f_look_at_a : Addr} {od_look_at an_look_at : Option Addr} {sl_look_at : Array (Option Value)} {oc_look_at kV_look_at dc_look_at pm_look_at cd_look_at ct_look_at : Value}
    {f_row_of_a : Addr} {od_row_of an_row_of : Option Addr} {sl_row_of : Array (Option Value)} {oc_row_of kV_row_of dc_row_of pm_row_of cd_row_of ct_row_of : Value}
    {f_shared_a : Addr} {od_shared an_shared : Option Addr} {sl_shared : Array (Option Value)} {oc_shared kV_shared dc_shared pm_shared cd_shared ct_shared : Value}
    {f_silent_a : Addr} {od_silent an_silent : Option Addr} {sl_silent : Array (Option Value)} {oc_silent kV_silent dc_silent pm_silent cd_silent ct_silent : Value}
    {f_unsure_a : Addr} {od_unsure an_unsure : Option Addr} {sl_unsure : Array (Option Value)} {oc_unsure kV_unsure dc_unsure pm_unsure cd_unsure ct_unsure : Value}
    {f_rest_a : Addr} {od_rest an_rest : Option Addr} {sl_rest : Array (Option Value)} {oc_rest kV_rest dc_rest pm_rest cd_rest ct_rest : Value}
    {f_rules_a : Addr} {od_rules an_rules : Option Addr} {sl_rules : Array (Option Value)} {oc_rules kV_rules dc_rules pm_rules cd_rules ct_rules : Value}
    {f_Tally_init_a : Addr} {od_Tally_init an_Tally_init : Option Addr} {sl_Tally_init : Array (Option Value)} {oc_Tally_init kV_Tally_init dc_Tally_init pm_Tally_init cd_Tally_init ct_Tally_init : Value}
    {f_names_of_a : Addr} {od_names_of an_names_of : Option Addr} {sl_names_of : Array (Option Value)} {oc_names_of kV_names_of dc_names_of pm_names_of cd_names_of ct_names_of : Value}
    {f_Tally_once_a : Addr} {od_Tally_once an_Tally_once : Option Addr} {sl_Tally_once : Array (Option Value)} {oc_Tally_once kV_Tally_once dc_Tally_once pm_Tally_once cd_Tally_once ct_Tally_once : Value}
    {f_Tally_pair_a : Addr} {od_Tally_pair an_Tally_pair : Option Addr} {sl_Tally_pair : Array (Option Value)} {oc_Tally_pair kV_Tally_pair dc_Tally_pair pm_Tally_pair cd_Tally_pair ct_Tally_pair : Value}
    {f_Tally_rest_a : Addr} {od_Tally_rest an_Tally_rest : Option Addr} {sl_Tally_rest : Array (Option Value)} {oc_Tally_rest kV_Tally_rest dc_Tally_rest pm_Tally_rest cd_Tally_rest ct_Tally_rest : Value}
    {f_Tally_rests_a : Addr} {od_Tally_rests an_Tally_rests : Option Addr} {sl_Tally_rests : Array (Option Value)} {oc_Tally_rests kV_Tally_rests dc_Tally_rests pm_Tally_rests cd_Tally_rests ct_Tally_rests : Value}
    {f_split_rest_a : Addr} {od_split_rest an_split_rest : Option Addr} {sl_split_rest : Array (Option Value)} {oc_split_rest kV_split_rest dc_split_rest pm_split_rest cd_split_rest ct_split_rest : Value}
    {f_Tally_against_a : Addr} {od_Tally_against an_Tally_against : Option Addr} {sl_Tally_against : Array (Option Value)} {oc_Tally_against kV_Tally_against dc_Tally_against pm_Tally_against cd_Tally_against ct_Tally_against : Value}
    {f_Tally_shared_a : Addr} {od_Tally_shared an_Tally_shared : Option Addr} {sl_Tally_shared : Array (Option Value)} {oc_Tally_shared kV_Tally_shared dc_Tally_shared pm_Tally_shared cd_Tally_shared ct_Tally_shared : Value}
    {f_split_shared_a : Addr} {od_split_shared an_split_shared : Option Addr} {sl_split_shared : Array (Option Value)} {oc_split_shared kV_split_shared dc_split_shared pm_split_shared cd_split_shared ct_split_shared : Value}
    {f_tells_a : Addr} {od_tells an_tells : Option Addr} {sl_tells : Array (Option Value)} {oc_tells kV_tells dc_tells pm_tells cd_tells ct_tells : Value}
    {f__law_asked_a : Addr} {od__law_asked an__law_asked : Option Addr} {sl__law_asked : Array (Option Value)} {oc__law_asked kV__law_asked dc__law_asked pm__law_asked cd__law_asked ct__law_asked : Value}
    {f__law_refused_a : Addr} {od__law_refused an__law_refused : Option Addr} {sl__law_refused : Array (Option Value)} {oc__law_refused kV__law_refused dc__law_refused pm__law_refused cd__law_refused ct__law_refused : Value}
    {f__law_due_a : Addr} {od__law_due an__law_due : Option Addr} {sl__law_due : Array (Option Value)} {oc__law_due kV__law_due dc__law_due pm__law_due cd__law_due ct__law_due : Value}
    {f__law_odd_a : Addr} {od__law_odd an__law_odd : Option Addr} {sl__law_odd : Array (Option Value)} {oc__law_odd kV__law_odd dc__law_odd pm__law_odd cd__law_odd ct__law_odd : Value}
    {f_law_a : Addr} {od_law an_law : Option Addr} {sl_law : Array (Option Value)} {oc_law kV_law dc_law pm_law cd_law ct_law : Value}
    (x1_Tally : PySem.W.nsIn K mainGlobals "Tally" = some (some (.ref C_Tally)))
    (x2_Tally : PySem.W.plainGet K C_Tally Str.empty = true)
    (x3_Tally : PySem.W.hasDictIn K C_Tally = true)
    (x4_Tally : PySem.W.plainOver K C_Tally = true)
    (x5_Tally : PySem.W.findIn K (.ref C_Tally) "__setattr__" = some (some (.builtin "object.__setattr__")))
    (x6_Tally : PySem.W.makesIn K C_Tally = true)
    (x7_Tally : PySem.W.keepIn K (.ref C_Tally) = true)
    (na_Tally_n : PySem.W.findIn K (.ref C_Tally) "n" = some none)
    (na_Tally_whole : PySem.W.findIn K (.ref C_Tally) "whole" = some none)
    (na_Tally_rules : PySem.W.findIn K (.ref C_Tally) "rules" = some none)
    (na_Tally_times : PySem.W.findIn K (.ref C_Tally) "times" = some none)
    (x1_NoCount : PySem.W.nsIn K mainGlobals "NoCount" = some (some (.ref C_NoCount)))
    (x1_NoGroup : PySem.W.nsIn K mainGlobals "NoGroup" = some (some (.ref C_NoGroup)))
    (x1_NoTable : PySem.W.nsIn K mainGlobals "NoTable" = some (some (.ref C_NoTable)))
    (x1_TooMany : PySem.W.nsIn K mainGlobals "TooMany" = some (some (.ref C_TooMany)))
    (x1_NoText : PySem.W.nsIn K mainGlobals "NoText" = some (some (.ref C_NoText)))
    (x1_NoLine : PySem.W.nsIn K mainGlobals "NoLine" = some (some (.ref C_NoLine)))
    (x1_NoPlace : PySem.W.nsIn K mainGlobals "NoPlace" = some (some (.ref C_NoPlace)))
    (x1_NoHeap : PySem.W.nsIn K mainGlobals "NoHeap" = some (some (.ref C_NoHeap)))
    (x1_TellError : PySem.W.nsIn K mainGlobals "TellError" = some (some (.ref C_TellError)))
    (kn_NoCount : PySem.W.kitOne K (.type "NoneType") (.ref C_NoCount) = some false)
    (cl_NoGroup : PySem.W.findIn K (.ref C_NoGroup) "__class__" = some (some (.builtin "object.__class__")))
    (sp_class : PySem.W.specialIn K (.builtin "object.__class__") "__get__" = some (some (.builtin "getset_descriptor.__get__")))
    (tk_class : PySem.W.takesIn K (.builtin "object.__class__") = some true)
    (mr_NoGroup : PySem.W.mroIn K C_NoGroup (.type "object") = some true)
    (ga_NoGroup : PySem.W.findIn K (.ref C_NoGroup) "__getattribute__" = some (some (.builtin "BaseException.__getattribute__")))
    (gg_NoGroup : PySem.W.findIn K (.ref C_NoGroup) "__getattr__" = some none)
    (eC_NoGroup : PySem.W.subIn K (.ref C_NoGroup) (.type "BaseException") = some true)
    (hD_NoGroup : PySem.W.hasDictIn K C_NoGroup = true)
    (ki_NoGroup_NoCount : PySem.W.kitOne K (.ref C_NoGroup) (.ref C_NoCount) = some false)
    (cl_NoCount : PySem.W.findIn K (.ref C_NoCount) "__class__" = some (some (.builtin "object.__class__")))
    (mr_NoCount : PySem.W.mroIn K C_NoCount (.type "object") = some true)
    (ga_NoCount : PySem.W.findIn K (.ref C_NoCount) "__getattribute__" = some (some (.builtin "BaseException.__getattribute__")))
    (gg_NoCount : PySem.W.findIn K (.ref C_NoCount) "__getattr__" = some none)
    (eC_NoCount : PySem.W.subIn K (.ref C_NoCount) (.type "BaseException") = some true)
    (hD_NoCount : PySem.W.hasDictIn K C_NoCount = true)
    (ki_NoCount_NoCount : PySem.W.kitOne K (.ref C_NoCount) (.ref C_NoCount) = some true)
    (no_NoCount : PySem.W.findIn K (.ref C_NoCount) "count" = some none)
    (kn_NoGroup : PySem.W.kitOne K (.type "NoneType") (.ref C_NoGroup) = some false)
    (ki_NoGroup_NoGroup : PySem.W.kitOne K (.ref C_NoGroup) (.ref C_NoGroup) = some true)
    (ki_NoCount_NoGroup : PySem.W.kitOne K (.ref C_NoCount) (.ref C_NoGroup) = some false)
    (no_NoGroup : PySem.W.findIn K (.ref C_NoGroup) "group" = some none)
    (kn_NoTable : PySem.W.kitOne K (.type "NoneType") (.ref C_NoTable) = some false)
    (ki_NoGroup_NoTable : PySem.W.kitOne K (.ref C_NoGroup) (.ref C_NoTable) = some false)
    (ki_NoCount_NoTable : PySem.W.kitOne K (.ref C_NoCount) (.ref C_NoTable) = some false)
    (kn_TooMany : PySem.W.kitOne K (.type "NoneType") (.ref C_TooMany) = some false)
    (ki_NoGroup_TooMany : PySem.W.kitOne K (.ref C_NoGroup) (.ref C_TooMany) = some false)
    (ki_NoCount_TooMany : PySem.W.kitOne K (.ref C_NoCount) (.ref C_TooMany) = some false)
    (kn_NoText : PySem.W.kitOne K (.type "NoneType") (.ref C_NoText) = some false)
    (ki_NoGroup_NoText : PySem.W.kitOne K (.ref C_NoGroup) (.ref C_NoText) = some false)
    (ki_NoCount_NoText : PySem.W.kitOne K (.ref C_NoCount) (.ref C_NoText) = some false)
    (kn_NoLine : PySem.W.kitOne K (.type "NoneType") (.ref C_NoLine) = some false)
    (ki_NoGroup_NoLine : PySem.W.kitOne K (.ref C_NoGroup) (.ref C_NoLine) = some false)
    (ki_NoCount_NoLine : PySem.W.kitOne K (.ref C_NoCount) (.ref C_NoLine) = some false)
    (kn_NoPlace : PySem.W.kitOne K (.type "NoneType") (.ref C_NoPlace) = some false)
    (ki_NoGroup_NoPlace : PySem.W.kitOne K (.ref C_NoGroup) (.ref C_NoPlace) = some false)
    (ki_NoCount_NoPlace : PySem.W.kitOne K (.ref C_NoCount) (.ref C_NoPlace) = some false)
    (kn_NoHeap : PySem.W.kitOne K (.type "NoneType") (.ref C_NoHeap) = some false)
    (ki_NoGroup_NoHeap : PySem.W.kitOne K (.ref C_NoGroup) (.ref C_NoHeap) = some false)
    (ki_NoCount_NoHeap : PySem.W.kitOne K (.ref C_NoCount) (.ref C_NoHeap) = some false)
    (kn_ValueError : PySem.W.kitOne K (.type "NoneType") (.type "ValueError") = some false)
    (ki_NoGroup_ValueError : PySem.W.kitOne K (.ref C_NoGroup) (.type "ValueError") = some true)
    (ki_NoCount_ValueError : PySem.W.kitOne K (.ref C_NoCount) (.type "ValueError") = some true)
    (xL_NoCount : K.lookup C_NoCount = some (excClassObj nm_NoCount q_NoCount C_NoCount N_NoCount bs_NoCount [.ref C_TellError, .type "ValueError", .type "Exception", .type "BaseException", .type "object"] true sn_NoCount sub_NoCount ab_NoCount col_NoCount dd_NoCount m0_NoCount m1_NoCount m2_NoCount m3_NoCount m5_NoCount "ValueError.__new__"))
    (sa_NoCount : PySem.W.findIn K (.ref C_NoCount) "__setattr__" = some (some (.builtin "object.__setattr__")))
    (tC_NoCount : PySem.W.typeIn K (.ref C_NoCount) = some (.type "type"))
    (kC_NoCount : PySem.W.keepIn K (.ref C_NoCount) = true)
    (rd_TellError : PySem.W.readsIn K C_TellError (.type "type") = true)
    (sg_TellError : PySem.W.specialIn K (.ref C_TellError) "__getattribute__" = some (some (.builtin "type.__getattribute__")))
    (cf_TellError : PySem.W.findCls K (.ref C_TellError) (.type "type") "__init__" = some (.val (.builtin "ValueError.__init__")))
    (xL_NoGroup : K.lookup C_NoGroup = some (excClassObj nm_NoGroup q_NoGroup C_NoGroup N_NoGroup bs_NoGroup [.ref C_TellError, .type "ValueError", .type "Exception", .type "BaseException", .type "object"] true sn_NoGroup sub_NoGroup ab_NoGroup col_NoGroup dd_NoGroup m0_NoGroup m1_NoGroup m2_NoGroup m3_NoGroup m5_NoGroup "ValueError.__new__"))
    (sa_NoGroup : PySem.W.findIn K (.ref C_NoGroup) "__setattr__" = some (some (.builtin "object.__setattr__")))
    (tC_NoGroup : PySem.W.typeIn K (.ref C_NoGroup) = some (.type "type"))
    (kC_NoGroup : PySem.W.keepIn K (.ref C_NoGroup) = true)
    (eC_TellError : PySem.W.subIn K (.ref C_TellError) (.type "BaseException") = some true)
    (hD_TellError : PySem.W.hasDictIn K C_TellError = true)
    (tC_TellError : PySem.W.typeIn K (.ref C_TellError) = some (.type "type"))
    (sb_NoGroup_TellError : PySem.W.subIn K (.ref C_NoGroup) (.ref C_TellError) = some true)
    (sb_NoCount_TellError : PySem.W.subIn K (.ref C_NoCount) (.ref C_TellError) = some true)
    (a_NoCount : PySem.W.findIn K (.ref C_NoCount) "__init__" = some (some (.ref f_NoCount_a)))
    (i_NoCount : PySem.W.typeIn K (.ref f_NoCount_a) = some (.type "function"))
    (l_NoCount : K.lookup f_NoCount_a = some ⟨oc_NoCount, od_NoCount, .func (PySem.W.fnOf "__init__" "NoCount.__init__" (defArgs s_NoCount_init) (defBody s_NoCount_init) (defScope s_NoCount_init) .none kV_NoCount dc_NoCount pm_NoCount an_NoCount cd_NoCount ct_NoCount), sl_NoCount⟩)
    (c_NoCount : PySem.W.codeIn K cd_NoCount "NoCount.__init__" = true)
    (k_NoCount : PySem.W.keepIn K (.ref f_NoCount_a) = true)
    (a_NoGroup : PySem.W.findIn K (.ref C_NoGroup) "__init__" = some (some (.ref f_NoGroup_a)))
    (i_NoGroup : PySem.W.typeIn K (.ref f_NoGroup_a) = some (.type "function"))
    (l_NoGroup : K.lookup f_NoGroup_a = some ⟨oc_NoGroup, od_NoGroup, .func (PySem.W.fnOf "__init__" "NoGroup.__init__" (defArgs s_NoGroup_init) (defBody s_NoGroup_init) (defScope s_NoGroup_init) .none kV_NoGroup dc_NoGroup pm_NoGroup an_NoGroup cd_NoGroup ct_NoGroup), sl_NoGroup⟩)
    (c_NoGroup : PySem.W.codeIn K cd_NoGroup "NoGroup.__init__" = true)
    (k_NoGroup : PySem.W.keepIn K (.ref f_NoGroup_a) = true)
    (a__law_draws : PySem.W.nsIn K mainGlobals "_law_draws" = some (some (.ref f__law_draws_a)))
    (l__law_draws : K.lookup f__law_draws_a = some ⟨oc__law_draws, od__law_draws, .func (PySem.W.fnOf "_law_draws" "_law_draws" (defArgs s__law_draws) (defBody s__law_draws) (defScope s__law_draws) .none kV__law_draws dc__law_draws pm__law_draws an__law_draws cd__law_draws ct__law_draws), sl__law_draws⟩)
    (c__law_draws : PySem.W.codeIn K cd__law_draws "_law_draws" = true) (k__law_draws : PySem.W.keepIn K (.ref f__law_draws_a) = true)
    (a__law_pop : PySem.W.nsIn K mainGlobals "_law_pop" = some (some (.ref f__law_pop_a)))
    (l__law_pop : K.lookup f__law_pop_a = some ⟨oc__law_pop, od__law_pop, .func (PySem.W.fnOf "_law_pop" "_law_pop" (defArgs s__law_pop) (defBody s__law_pop) (defScope s__law_pop) .none kV__law_pop dc__law_pop pm__law_pop an__law_pop cd__law_pop ct__law_pop), sl__law_pop⟩)
    (c__law_pop : PySem.W.codeIn K cd__law_pop "_law_pop" = true) (k__law_pop : PySem.W.keepIn K (.ref f__law_pop_a) = true)
    (a__law_kind : PySem.W.nsIn K mainGlobals "_law_kind" = some (some (.ref f__law_kind_a)))
    (l__law_kind : K.lookup f__law_kind_a = some ⟨oc__law_kind, od__law_kind, .func (PySem.W.fnOf "_law_kind" "_law_kind" (defArgs s__law_kind) (defBody s__law_kind) (defScope s__law_kind) .none kV__law_kind dc__law_kind pm__law_kind an__law_kind cd__law_kind ct__law_kind), sl__law_kind⟩)
    (c__law_kind : PySem.W.codeIn K cd__law_kind "_law_kind" = true) (k__law_kind : PySem.W.keepIn K (.ref f__law_kind_a) = true)
    (a_greatest : PySem.W.nsIn K mainGlobals "greatest" = some (some (.ref f_greatest_a)))
    (l_greatest : K.lookup f_greatest_a = some ⟨oc_greatest, od_greatest, .func (PySem.W.fnOf "greatest" "greatest" (defArgs s_greatest) (defBody s_greatest) (defScope s_greatest) .none kV_greatest dc_greatest pm_greatest an_greatest cd_greatest ct_greatest), sl_greatest⟩)
    (c_greatest : PySem.W.codeIn K cd_greatest "greatest" = true) (k_greatest : PySem.W.keepIn K (.ref f_greatest_a) = true)
    (a_look_at : PySem.W.nsIn K mainGlobals "look_at" = some (some (.ref f_look_at_a)))
    (l_look_at : K.lookup f_look_at_a = some ⟨oc_look_at, od_look_at, .func (PySem.W.fnOf "look_at" "look_at" (defArgs s_look_at) (defBody s_look_at) (defScope s_look_at) .none kV_look_at dc_look_at pm_look_at an_look_at cd_look_at ct_look_at), sl_look_at⟩)
    (c_look_at : PySem.W.codeIn K cd_look_at "look_at" = true) (k_look_at : PySem.W.keepIn K (.ref f_look_at_a) = true)
    (a_row_of : PySem.W.nsIn K mainGlobals "row_of" = some (some (.ref f_row_of_a)))
    (l_row_of : K.lookup f_row_of_a = some ⟨oc_row_of, od_row_of, .func (PySem.W.fnOf "row_of" "row_of" (defArgs s_row_of) (defBody s_row_of) (defScope s_row_of) .none kV_row_of dc_row_of pm_row_of an_row_of cd_row_of ct_row_of), sl_row_of⟩)
    (c_row_of : PySem.W.codeIn K cd_row_of "row_of" = true) (k_row_of : PySem.W.keepIn K (.ref f_row_of_a) = true)
    (a_shared : PySem.W.nsIn K mainGlobals "shared" = some (some (.ref f_shared_a)))
    (l_shared : K.lookup f_shared_a = some ⟨oc_shared, od_shared, .func (PySem.W.fnOf "shared" "shared" (defArgs s_shared) (defBody s_shared) (defScope s_shared) .none kV_shared dc_shared pm_shared an_shared cd_shared ct_shared), sl_shared⟩)
    (c_shared : PySem.W.codeIn K cd_shared "shared" = true) (k_shared : PySem.W.keepIn K (.ref f_shared_a) = true)
    (a_silent : PySem.W.nsIn K mainGlobals "silent" = some (some (.ref f_silent_a)))
    (l_silent : K.lookup f_silent_a = some ⟨oc_silent, od_silent, .func (PySem.W.fnOf "silent" "silent" (defArgs s_silent) (defBody s_silent) (defScope s_silent) .none kV_silent dc_silent pm_silent an_silent cd_silent ct_silent), sl_silent⟩)
    (c_silent : PySem.W.codeIn K cd_silent "silent" = true) (k_silent : PySem.W.keepIn K (.ref f_silent_a) = true)
    (a_unsure : PySem.W.nsIn K mainGlobals "unsure" = some (some (.ref f_unsure_a)))
    (l_unsure : K.lookup f_unsure_a = some ⟨oc_unsure, od_unsure, .func (PySem.W.fnOf "unsure" "unsure" (defArgs s_unsure) (defBody s_unsure) (defScope s_unsure) .none kV_unsure dc_unsure pm_unsure an_unsure cd_unsure ct_unsure), sl_unsure⟩)
    (c_unsure : PySem.W.codeIn K cd_unsure "unsure" = true) (k_unsure : PySem.W.keepIn K (.ref f_unsure_a) = true)
    (a_rest : PySem.W.nsIn K mainGlobals "rest" = some (some (.ref f_rest_a)))
    (l_rest : K.lookup f_rest_a = some ⟨oc_rest, od_rest, .func (PySem.W.fnOf "rest" "rest" (defArgs s_rest) (defBody s_rest) (defScope s_rest) .none kV_rest dc_rest pm_rest an_rest cd_rest ct_rest), sl_rest⟩)
    (c_rest : PySem.W.codeIn K cd_rest "rest" = true) (k_rest : PySem.W.keepIn K (.ref f_rest_a) = true)
    (a_rules : PySem.W.nsIn K mainGlobals "rules" = some (some (.ref f_rules_a)))
    (l_rules : K.lookup f_rules_a = some ⟨oc_rules, od_rules, .func (PySem.W.fnOf "rules" "rules" (defArgs s_rules) (defBody s_rules) (defScope s_rules) .none kV_rules dc_rules pm_rules an_rules cd_rules ct_rules), sl_rules⟩)
    (c_rules : PySem.W.codeIn K cd_rules "rules" = true) (k_rules : PySem.W.keepIn K (.ref f_rules_a) = true)
    (a_Tally_init : PySem.W.findIn K (.ref C_Tally) "__init__" = some (some (.ref f_Tally_init_a))) (i_Tally_init : PySem.W.isFn K (.ref f_Tally_init_a) = true)
    (l_Tally_init : K.lookup f_Tally_init_a = some ⟨oc_Tally_init, od_Tally_init, .func (PySem.W.fnOf "__init__" "Tally.__init__" (defArgs s_Tally_init) (defBody s_Tally_init) (defScope s_Tally_init) .none kV_Tally_init dc_Tally_init pm_Tally_init an_Tally_init cd_Tally_init ct_Tally_init), sl_Tally_init⟩)
    (c_Tally_init : PySem.W.codeIn K cd_Tally_init "Tally.__init__" = true) (k_Tally_init : PySem.W.keepIn K (.ref f_Tally_init_a) = true)
    (a_names_of : PySem.W.nsIn K mainGlobals "names_of" = some (some (.ref f_names_of_a)))
    (l_names_of : K.lookup f_names_of_a = some ⟨oc_names_of, od_names_of, .func (PySem.W.fnOf "names_of" "names_of" (defArgs s_names_of) (defBody s_names_of) (defScope s_names_of) .none kV_names_of dc_names_of pm_names_of an_names_of cd_names_of ct_names_of), sl_names_of⟩)
    (c_names_of : PySem.W.codeIn K cd_names_of "names_of" = true) (k_names_of : PySem.W.keepIn K (.ref f_names_of_a) = true)
    (a_Tally_once : PySem.W.findIn K (.ref C_Tally) "once" = some (some (.ref f_Tally_once_a))) (i_Tally_once : PySem.W.isFn K (.ref f_Tally_once_a) = true)
    (l_Tally_once : K.lookup f_Tally_once_a = some ⟨oc_Tally_once, od_Tally_once, .func (PySem.W.fnOf "once" "Tally.once" (defArgs s_Tally_once) (defBody s_Tally_once) (defScope s_Tally_once) .none kV_Tally_once dc_Tally_once pm_Tally_once an_Tally_once cd_Tally_once ct_Tally_once), sl_Tally_once⟩)
    (c_Tally_once : PySem.W.codeIn K cd_Tally_once "Tally.once" = true) (k_Tally_once : PySem.W.keepIn K (.ref f_Tally_once_a) = true)
    (a_Tally_pair : PySem.W.findIn K (.ref C_Tally) "pair" = some (some (.ref f_Tally_pair_a))) (i_Tally_pair : PySem.W.isFn K (.ref f_Tally_pair_a) = true)
    (l_Tally_pair : K.lookup f_Tally_pair_a = some ⟨oc_Tally_pair, od_Tally_pair, .func (PySem.W.fnOf "pair" "Tally.pair" (defArgs s_Tally_pair) (defBody s_Tally_pair) (defScope s_Tally_pair) .none kV_Tally_pair dc_Tally_pair pm_Tally_pair an_Tally_pair cd_Tally_pair ct_Tally_pair), sl_Tally_pair⟩)
    (c_Tally_pair : PySem.W.codeIn K cd_Tally_pair "Tally.pair" = true) (k_Tally_pair : PySem.W.keepIn K (.ref f_Tally_pair_a) = true)
    (a_Tally_rest : PySem.W.findIn K (.ref C_Tally) "rest" = some (some (.ref f_Tally_rest_a))) (i_Tally_rest : PySem.W.isFn K (.ref f_Tally_rest_a) = true)
    (l_Tally_rest : K.lookup f_Tally_rest_a = some ⟨oc_Tally_rest, od_Tally_rest, .func (PySem.W.fnOf "rest" "Tally.rest" (defArgs s_Tally_rest) (defBody s_Tally_rest) (defScope s_Tally_rest) .none kV_Tally_rest dc_Tally_rest pm_Tally_rest an_Tally_rest cd_Tally_rest ct_Tally_rest), sl_Tally_rest⟩)
    (c_Tally_rest : PySem.W.codeIn K cd_Tally_rest "Tally.rest" = true) (k_Tally_rest : PySem.W.keepIn K (.ref f_Tally_rest_a) = true)
    (a_Tally_rests : PySem.W.findIn K (.ref C_Tally) "rests" = some (some (.ref f_Tally_rests_a))) (i_Tally_rests : PySem.W.isFn K (.ref f_Tally_rests_a) = true)
    (l_Tally_rests : K.lookup f_Tally_rests_a = some ⟨oc_Tally_rests, od_Tally_rests, .func (PySem.W.fnOf "rests" "Tally.rests" (defArgs s_Tally_rests) (defBody s_Tally_rests) (defScope s_Tally_rests) .none kV_Tally_rests dc_Tally_rests pm_Tally_rests an_Tally_rests cd_Tally_rests ct_Tally_rests), sl_Tally_rests⟩)
    (c_Tally_rests : PySem.W.codeIn K cd_Tally_rests "Tally.rests" = true) (k_Tally_rests : PySem.W.keepIn K (.ref f_Tally_rests_a) = true)
    (a_split_rest : PySem.W.nsIn K mainGlobals "split_rest" = some (some (.ref f_split_rest_a)))
    (l_split_rest : K.lookup f_split_rest_a = some ⟨oc_split_rest, od_split_rest, .func (PySem.W.fnOf "split_rest" "split_rest" (defArgs s_split_rest) (defBody s_split_rest) (defScope s_split_rest) .none kV_split_rest dc_split_rest pm_split_rest an_split_rest cd_split_rest ct_split_rest), sl_split_rest⟩)
    (c_split_rest : PySem.W.codeIn K cd_split_rest "split_rest" = true) (k_split_rest : PySem.W.keepIn K (.ref f_split_rest_a) = true)
    (a_Tally_against : PySem.W.findIn K (.ref C_Tally) "against" = some (some (.ref f_Tally_against_a))) (i_Tally_against : PySem.W.isFn K (.ref f_Tally_against_a) = true)
    (l_Tally_against : K.lookup f_Tally_against_a = some ⟨oc_Tally_against, od_Tally_against, .func (PySem.W.fnOf "against" "Tally.against" (defArgs s_Tally_against) (defBody s_Tally_against) (defScope s_Tally_against) .none kV_Tally_against dc_Tally_against pm_Tally_against an_Tally_against cd_Tally_against ct_Tally_against), sl_Tally_against⟩)
    (c_Tally_against : PySem.W.codeIn K cd_Tally_against "Tally.against" = true) (k_Tally_against : PySem.W.keepIn K (.ref f_Tally_against_a) = true)
    (a_Tally_shared : PySem.W.findIn K (.ref C_Tally) "shared" = some (some (.ref f_Tally_shared_a))) (i_Tally_shared : PySem.W.isFn K (.ref f_Tally_shared_a) = true)
    (l_Tally_shared : K.lookup f_Tally_shared_a = some ⟨oc_Tally_shared, od_Tally_shared, .func (PySem.W.fnOf "shared" "Tally.shared" (defArgs s_Tally_shared) (defBody s_Tally_shared) (defScope s_Tally_shared) .none kV_Tally_shared dc_Tally_shared pm_Tally_shared an_Tally_shared cd_Tally_shared ct_Tally_shared), sl_Tally_shared⟩)
    (c_Tally_shared : PySem.W.codeIn K cd_Tally_shared "Tally.shared" = true) (k_Tally_shared : PySem.W.keepIn K (.ref f_Tally_shared_a) = true)
    (a_split_shared : PySem.W.nsIn K mainGlobals "split_shared" = some (some (.ref f_split_shared_a)))
    (l_split_shared : K.lookup f_split_shared_a = some ⟨oc_split_shared, od_split_shared, .func (PySem.W.fnOf "split_shared" "split_shared" (defArgs s_split_shared) (defBody s_split_shared) (defScope s_split_shared) .none kV_split_shared dc_split_shared pm_split_shared an_split_shared cd_split_shared ct_split_shared), sl_split_shared⟩)
    (c_split_shared : PySem.W.codeIn K cd_split_shared "split_shared" = true) (k_split_shared : PySem.W.keepIn K (.ref f_split_shared_a) = true)
    (a_tells : PySem.W.nsIn K mainGlobals "tells" = some (some (.ref f_tells_a)))
    (l_tells : K.lookup f_tells_a = some ⟨oc_tells, od_tells, .func (PySem.W.fnOf "tells" "tells" (defArgs s_tells) (defBody s_tells) (defScope s_tells) .none kV_tells dc_tells pm_tells an_tells cd_tells ct_tells), sl_tells⟩)
    (c_tells : PySem.W.codeIn K cd_tells "tells" = true) (k_tells : PySem.W.keepIn K (.ref f_tells_a) = true)
    (a__law_asked : PySem.W.nsIn K mainGlobals "_law_asked" = some (some (.ref f__law_asked_a)))
    (l__law_asked : K.lookup f__law_asked_a = some ⟨oc__law_asked, od__law_asked, .func (PySem.W.fnOf "_law_asked" "_law_asked" (defArgs s__law_asked) (defBody s__law_asked) (defScope s__law_asked) .none kV__law_asked dc__law_asked pm__law_asked an__law_asked cd__law_asked ct__law_asked), sl__law_asked⟩)
    (c__law_asked : PySem.W.codeIn K cd__law_asked "_law_asked" = true) (k__law_asked : PySem.W.keepIn K (.ref f__law_asked_a) = true)
    (a__law_refused : PySem.W.nsIn K mainGlobals "_law_refused" = some (some (.ref f__law_refused_a)))
    (l__law_refused : K.lookup f__law_refused_a = some ⟨oc__law_refused, od__law_refused, .func (PySem.W.fnOf "_law_refused" "_law_refused" (defArgs s__law_refused) (defBody s__law_refused) (defScope s__law_refused) .none kV__law_refused dc__law_refused pm__law_refused an__law_refused cd__law_refused ct__law_refused), sl__law_refused⟩)
    (c__law_refused : PySem.W.codeIn K cd__law_refused "_law_refused" = true) (k__law_refused : PySem.W.keepIn K (.ref f__law_refused_a) = true)
    (a__law_due : PySem.W.nsIn K mainGlobals "_law_due" = some (some (.ref f__law_due_a)))
    (l__law_due : K.lookup f__law_due_a = some ⟨oc__law_due, od__law_due, .func (PySem.W.fnOf "_law_due" "_law_due" (defArgs s__law_due) (defBody s__law_due) (defScope s__law_due) .none kV__law_due dc__law_due pm__law_due an__law_due cd__law_due ct__law_due), sl__law_due⟩)
    (c__law_due : PySem.W.codeIn K cd__law_due "_law_due" = true) (k__law_due : PySem.W.keepIn K (.ref f__law_due_a) = true)
    (a__law_odd : PySem.W.nsIn K mainGlobals "_law_odd" = some (some (.ref f__law_odd_a)))
    (l__law_odd : K.lookup f__law_odd_a = some ⟨oc__law_odd, od__law_odd, .func (PySem.W.fnOf "_law_odd" "_law_odd" (defArgs s__law_odd) (defBody s__law_odd) (defScope s__law_odd) .none kV__law_odd dc__law_odd pm__law_odd an__law_odd cd__law_odd ct__law_odd), sl__law_odd⟩)
    (c__law_odd : PySem.W.codeIn K cd__law_odd "_law_odd" = true) (k__law_odd : PySem.W.keepIn K (.ref f__law_odd_a) = true)
    (a_law : PySem.W.nsIn K mainGlobals "law" = some (some (.ref f_law_a)))
    (l_law : K.lookup f_law_a = some ⟨oc_law, od_law, .func (PySem.W.fnOf "law" "law" (defArgs s_law) (defBody s_law) (defScope s_law) .none kV_law dc_law pm_law an_law cd_law ct_law), sl_law⟩)
    (c_law : PySem.W.codeIn K cd_law "law" = true) (k_law : PySem.W.keepIn K (.ref f_law_a) = true)
    (z_range : PySem.W.nsIn K mainGlobals "range" = some none)
    (z_len : PySem.W.nsIn K mainGlobals "len" = some none)
    (z_isinstance : PySem.W.nsIn K mainGlobals "isinstance" = some none)
    (z_ValueError : PySem.W.nsIn K mainGlobals "ValueError" = some none)
    (z_bool : PySem.W.nsIn K mainGlobals "bool" = some none)
    (z_max : PySem.W.nsIn K mainGlobals "max" = some none)
    (z_min : PySem.W.nsIn K mainGlobals "min" = some none)
    (z_zip : PySem.W.nsIn K mainGlobals "zip" = some none)
    (z_int : PySem.W.nsIn K mainGlobals "int" = some none)
    {t_MOST : Tok} (v_MOST : PySem.W.nsIn K mainGlobals "MOST" = some (some (.int 4 t_MOST)))
    : ∃ fd : FuncData, (∀ (s : Shared) (v : Value), BindsTo s fd ⟨[v], []⟩ [("_law_script", v)]) ∧ ∀ base : Heap, K.In base → base.Ns mainGlobals mg → FnG l.prog w K mg base CX0 9 fa fd ["_law_script"] (spL K) := by
  let ca : ClsA := ⟨fun n => [C_Tally, C_NoCount, C_NoGroup, C_NoTable, C_TooMany, C_NoText, C_NoLine, C_NoPlace, C_NoHeap, C_TellError].getD n 0⟩
  have e := hfa.symm.trans (PySem.W.mg_of X G a_law)
  cases e
  have T : Txt K mg := ⟨⟨x2_Tally, x3_Tally, x4_Tally, x5_Tally⟩, PySem.W.mg_of X G x1_Tally, na_Tally_n, na_Tally_whole, na_Tally_rules, na_Tally_times, PySem.W.mg_none_of X G z_range, PySem.W.mg_none_of X G z_len, PySem.W.mg_none_of X G z_isinstance, PySem.W.mg_none_of X G z_ValueError, PySem.W.mg_none_of X G z_bool, PySem.W.mg_none_of X G z_max, PySem.W.mg_none_of X G z_min, PySem.W.mg_none_of X G z_zip, PySem.W.mg_none_of X G z_int, ⟨_, PySem.W.mg_of X G v_MOST⟩, (PySem.W.mg_of X G x1_NoCount), kn_NoCount, ⟨ga_NoGroup, gg_NoGroup, eC_NoGroup, hD_NoGroup, cl_NoGroup, sp_class, tk_class, mr_NoGroup⟩, ki_NoGroup_NoCount, ⟨ga_NoCount, gg_NoCount, eC_NoCount, hD_NoCount, cl_NoCount, sp_class, tk_class, mr_NoCount⟩, ki_NoCount_NoCount, ⟨ga_NoCount, gg_NoCount, eC_NoCount, hD_NoCount⟩, no_NoCount, (PySem.W.mg_of X G x1_NoGroup), kn_NoGroup, ki_NoGroup_NoGroup, ki_NoCount_NoGroup, ⟨ga_NoGroup, gg_NoGroup, eC_NoGroup, hD_NoGroup⟩, no_NoGroup, (PySem.W.mg_of X G x1_NoTable), kn_NoTable, ki_NoGroup_NoTable, ki_NoCount_NoTable, (PySem.W.mg_of X G x1_TooMany), kn_TooMany, ki_NoGroup_TooMany, ki_NoCount_TooMany, (PySem.W.mg_of X G x1_NoText), kn_NoText, ki_NoGroup_NoText, ki_NoCount_NoText, (PySem.W.mg_of X G x1_NoLine), kn_NoLine, ki_NoGroup_NoLine, ki_NoCount_NoLine, (PySem.W.mg_of X G x1_NoPlace), kn_NoPlace, ki_NoGroup_NoPlace, ki_NoCount_NoPlace, (PySem.W.mg_of X G x1_NoHeap), kn_NoHeap, ki_NoGroup_NoHeap, ki_NoCount_NoHeap, kn_ValueError, ki_NoGroup_ValueError, ki_NoCount_ValueError, ⟨⟨_, _, _, _, _, _, _, _, _, _, _, _, _, _, _, xL_NoCount, by rfl⟩, sa_NoCount, eC_NoCount, tC_NoCount, kC_NoCount⟩, (PySem.W.mg_of X G x1_TellError), ⟨rd_TellError, sg_TellError⟩, cf_TellError, ⟨⟨_, _, _, _, _, _, _, _, _, _, _, _, _, _, _, xL_NoGroup, by rfl⟩, sa_NoGroup, eC_NoGroup, tC_NoGroup, kC_NoGroup⟩, (PySem.W.exm_ref eC_TellError hD_TellError tC_TellError sb_NoGroup_TellError), (PySem.W.exm_ref eC_TellError hD_TellError tC_TellError sb_NoCount_TellError)⟩
  have F__law_draws := fun_mk (st := s__law_draws) l__law_draws c__law_draws k__law_draws
  have b__law_draws := F__law_draws.binds (ps := ["_law_script", "_law_turn", "_law_many"]) fun _ _ _ _ _ _ us hl => match us, hl with | [_, _, _], _ => rfl
  have F__law_pop := fun_mk (st := s__law_pop) l__law_pop c__law_pop k__law_pop
  have b__law_pop := F__law_pop.binds (ps := ["_law_draws_here"]) fun _ _ _ _ _ _ us hl => match us, hl with | [_], _ => rfl
  have F__law_kind := fun_mk (st := s__law_kind) l__law_kind c__law_kind k__law_kind
  have b__law_kind := F__law_kind.binds (ps := ["_law_error"]) fun _ _ _ _ _ _ us hl => match us, hl with | [_], _ => rfl
  have F_greatest := fun_mk (st := s_greatest) l_greatest c_greatest k_greatest
  have b_greatest := F_greatest.binds (ps := ["n"]) fun _ _ _ _ _ _ us hl => match us, hl with | [_], _ => rfl
  have F_look_at := fun_mk (st := s_look_at) l_look_at c_look_at k_look_at
  have b_look_at := F_look_at.binds (ps := ["n", "some"]) fun _ _ _ _ _ _ us hl => match us, hl with | [_, _], _ => rfl
  have F_row_of := fun_mk (st := s_row_of) l_row_of c_row_of k_row_of
  have b_row_of := F_row_of.binds (ps := ["n", "terms"]) fun _ _ _ _ _ _ us hl => match us, hl with | [_, _], _ => rfl
  have F_shared := fun_mk (st := s_shared) l_shared c_shared k_shared
  have b_shared := F_shared.binds (ps := ["n", "a", "b", "c"]) fun _ _ _ _ _ _ us hl => match us, hl with | [_, _, _, _], _ => rfl
  have F_silent := fun_mk (st := s_silent) l_silent c_silent k_silent
  have b_silent := F_silent.binds (ps := ["n", "a", "b", "c"]) fun _ _ _ _ _ _ us hl => match us, hl with | [_, _, _, _], _ => rfl
  have F_unsure := fun_mk (st := s_unsure) l_unsure c_unsure k_unsure
  have b_unsure := F_unsure.binds (ps := ["n", "a"]) fun _ _ _ _ _ _ us hl => match us, hl with | [_, _], _ => rfl
  have F_rest := fun_mk (st := s_rest) l_rest c_rest k_rest
  have b_rest := F_rest.binds (ps := ["n", "a", "b"]) fun _ _ _ _ _ _ us hl => match us, hl with | [_, _, _], _ => rfl
  have F_rules := fun_mk (st := s_rules) l_rules c_rules k_rules
  have b_rules := F_rules.binds (ps := ["n"]) fun _ _ _ _ _ _ us hl => match us, hl with | [_], _ => rfl
  have F_Tally_init := fun_mk (st := s_Tally_init) l_Tally_init c_Tally_init k_Tally_init
  have b_Tally_init := F_Tally_init.binds (ps := ["self", "n"]) fun _ _ _ _ _ _ us hl => match us, hl with | [_, _], _ => rfl
  have F_names_of := fun_mk (st := s_names_of) l_names_of c_names_of k_names_of
  have b_names_of := F_names_of.binds (ps := ["group"]) fun _ _ _ _ _ _ us hl => match us, hl with | [_], _ => rfl
  have F_Tally_once := fun_mk (st := s_Tally_once) l_Tally_once c_Tally_once k_Tally_once
  have b_Tally_once := F_Tally_once.binds (ps := ["self", "rule"]) fun _ _ _ _ _ _ us hl => match us, hl with | [_, _], _ => rfl
  have F_Tally_pair := fun_mk (st := s_Tally_pair) l_Tally_pair c_Tally_pair k_Tally_pair
  have b_Tally_pair := F_Tally_pair.binds (ps := ["self", "one", "other", "known"]) fun _ _ _ _ _ _ us hl => match us, hl with | [_, _, _, _], _ => rfl
  have F_Tally_rest := fun_mk (st := s_Tally_rest) l_Tally_rest c_Tally_rest k_Tally_rest
  have b_Tally_rest := F_Tally_rest.binds (ps := ["self", "name", "known"]) fun _ _ _ _ _ _ us hl => match us, hl with | [_, _, _], _ => rfl
  have F_Tally_rests := fun_mk (st := s_Tally_rests) l_Tally_rests c_Tally_rests k_Tally_rests
  have b_Tally_rests := F_Tally_rests.binds (ps := ["self", "group", "known"]) fun _ _ _ _ _ _ us hl => match us, hl with | [_, _, _], _ => rfl
  have F_split_rest := fun_mk (st := s_split_rest) l_split_rest c_split_rest k_split_rest
  have b_split_rest := F_split_rest.binds (ps := ["n", "a", "b"]) fun _ _ _ _ _ _ us hl => match us, hl with | [_, _, _], _ => rfl
  have F_Tally_against := fun_mk (st := s_Tally_against) l_Tally_against c_Tally_against k_Tally_against
  have b_Tally_against := F_Tally_against.binds (ps := ["self", "one", "group", "known"]) fun _ _ _ _ _ _ us hl => match us, hl with | [_, _, _, _], _ => rfl
  have F_Tally_shared := fun_mk (st := s_Tally_shared) l_Tally_shared c_Tally_shared k_Tally_shared
  have b_Tally_shared := F_Tally_shared.binds (ps := ["self", "group", "other", "known"]) fun _ _ _ _ _ _ us hl => match us, hl with | [_, _, _, _], _ => rfl
  have F_split_shared := fun_mk (st := s_split_shared) l_split_shared c_split_shared k_split_shared
  have b_split_shared := F_split_shared.binds (ps := ["n", "a", "b", "c"]) fun _ _ _ _ _ _ us hl => match us, hl with | [_, _, _, _], _ => rfl
  have F_tells := fun_mk (st := s_tells) l_tells c_tells k_tells
  have b_tells := F_tells.binds (ps := ["n", "a", "b"]) fun _ _ _ _ _ _ us hl => match us, hl with | [_, _, _], _ => rfl
  have F__law_asked := fun_mk (st := s__law_asked) l__law_asked c__law_asked k__law_asked
  have b__law_asked := F__law_asked.binds (ps := ["_law_turn", "_law_n", "_law_some"]) fun _ _ _ _ _ _ us hl => match us, hl with | [_, _, _], _ => rfl
  have F__law_refused := fun_mk (st := s__law_refused) l__law_refused c__law_refused k__law_refused
  have b__law_refused := F__law_refused.binds (ps := ["_law_turn", "_law_n", "_law_some"]) fun _ _ _ _ _ _ us hl => match us, hl with | [_, _, _], _ => rfl
  have F__law_due := fun_mk (st := s__law_due) l__law_due c__law_due k__law_due
  have b__law_due := F__law_due.binds (ps := ["_law_n", "_law_some", "_law_leasts"]) fun _ _ _ _ _ _ us hl => match us, hl with | [_, _, _], _ => rfl
  have F__law_odd := fun_mk (st := s__law_odd) l__law_odd c__law_odd k__law_odd
  have b__law_odd := F__law_odd.binds (ps := ["_law_number", "_law_whole"]) fun _ _ _ _ _ _ us hl => match us, hl with | [_, _], _ => rfl
  have F_law := fun_mk (st := s_law) l_law c_law k_law
  have F_NoCount := fun_mk (st := s_NoCount_init) l_NoCount c_NoCount k_NoCount
  have b_NoCount := F_NoCount.binds (ps := ["self", "count"]) fun _ _ _ _ _ _ us hl => match us, hl with | [_, _], _ => rfl
  have F_NoGroup := fun_mk (st := s_NoGroup_init) l_NoGroup c_NoGroup k_NoGroup
  have b_NoGroup := F_NoGroup.binds (ps := ["self", "group"]) fun _ _ _ _ _ _ us hl => match us, hl with | [_, _], _ => rfl
  refine ex_fun F_law (fun s v => BindsTo.of_eq rfl) fun base _ _ => ?_
  have DX_NoCount : Dxi l.prog w K mg base (ca.at_ 1) "count" := ⟨_, _, _, a_NoCount, i_NoCount, b_NoCount, ini_NoCount T F_NoCount⟩
  have DX_NoGroup : Dxi l.prog w K mg base (ca.at_ 2) "group" := ⟨_, _, _, a_NoGroup, i_NoGroup, b_NoGroup, ini_NoGroup T F_NoGroup⟩
  have D__law_draws : Df l.prog w K mg base "_law_draws" 1 ["_law_script", "_law_turn", "_law_many"] f__law_draws := ⟨_, _, PySem.W.mg_of X G a__law_draws, k__law_draws, b__law_draws, ok__law_draws T F__law_draws⟩
  have D__law_pop : Df l.prog w K mg base "_law_pop" 1 ["_law_draws_here"] f__law_pop := ⟨_, _, PySem.W.mg_of X G a__law_pop, k__law_pop, b__law_pop, ok__law_pop T F__law_pop⟩
  have D__law_kind : Df l.prog w K mg base "_law_kind" 1 ["_law_error"] f__law_kind := ⟨_, _, PySem.W.mg_of X G a__law_kind, k__law_kind, b__law_kind, ok__law_kind T F__law_kind⟩
  have D_greatest : Df l.prog w K mg base "greatest" 1 ["n"] f_greatest := ⟨_, _, PySem.W.mg_of X G a_greatest, k_greatest, b_greatest, ok_greatest T F_greatest⟩
  have DR_greatest : Dr l.prog w K mg base "greatest" 3 ["n"] g_greatest := ⟨_, _, PySem.W.mg_of X G a_greatest, k_greatest, b_greatest, okr_greatest T F_greatest DX_NoCount⟩
  have D_look_at : Df l.prog w K mg base "look_at" 2 ["n", "some"] f_look_at := ⟨_, _, PySem.W.mg_of X G a_look_at, k_look_at, b_look_at, ok_look_at T F_look_at D_greatest⟩
  have DR_look_at : Dr l.prog w K mg base "look_at" 4 ["n", "some"] g_look_at := ⟨_, _, PySem.W.mg_of X G a_look_at, k_look_at, b_look_at, okr_look_at T F_look_at D_greatest DR_greatest DX_NoGroup⟩
  have D_row_of : Df l.prog w K mg base "row_of" 2 ["n", "terms"] f_row_of := ⟨_, _, PySem.W.mg_of X G a_row_of, k_row_of, b_row_of, ok_row_of T F_row_of D_greatest⟩
  have D_shared : Df l.prog w K mg base "shared" 3 ["n", "a", "b", "c"] f_shared := ⟨_, _, PySem.W.mg_of X G a_shared, k_shared, b_shared, ok_shared T F_shared D_look_at D_row_of⟩
  have DR_shared : Dr l.prog w K mg base "shared" 5 ["n", "a", "b", "c"] g_shared := ⟨_, _, PySem.W.mg_of X G a_shared, k_shared, b_shared, okr_shared T F_shared DR_look_at⟩
  have D_silent : Df l.prog w K mg base "silent" 4 ["n", "a", "b", "c"] f_silent := ⟨_, _, PySem.W.mg_of X G a_silent, k_silent, b_silent, ok_silent T F_silent D_shared⟩
  have DR_silent : Dr l.prog w K mg base "silent" 6 ["n", "a", "b", "c"] g_silent := ⟨_, _, PySem.W.mg_of X G a_silent, k_silent, b_silent, okr_silent T F_silent DR_shared⟩
  have D_unsure : Df l.prog w K mg base "unsure" 3 ["n", "a"] f_unsure := ⟨_, _, PySem.W.mg_of X G a_unsure, k_unsure, b_unsure, ok_unsure T F_unsure D_look_at D_row_of⟩
  have DR_unsure : Dr l.prog w K mg base "unsure" 5 ["n", "a"] g_unsure := ⟨_, _, PySem.W.mg_of X G a_unsure, k_unsure, b_unsure, okr_unsure T F_unsure DR_look_at⟩
  have D_rest : Df l.prog w K mg base "rest" 3 ["n", "a", "b"] f_rest := ⟨_, _, PySem.W.mg_of X G a_rest, k_rest, b_rest, ok_rest T F_rest D_look_at D_row_of⟩
  have DR_rest : Dr l.prog w K mg base "rest" 5 ["n", "a", "b"] g_rest := ⟨_, _, PySem.W.mg_of X G a_rest, k_rest, b_rest, okr_rest T F_rest DR_look_at⟩
  have D_rules : Df l.prog w K mg base "rules" 2 ["n"] f_rules := ⟨_, _, PySem.W.mg_of X G a_rules, k_rules, b_rules, ok_rules T F_rules D_greatest⟩
  have D_Tally_init : Di l.prog w K mg base (ca.at_ 0) 3 ["self", "n"] f_Tally_init := ⟨_, _, ⟨x6_Tally, a_Tally_init, i_Tally_init, x7_Tally⟩, b_Tally_init, ok_Tally_init T F_Tally_init D_greatest D_rules⟩
  have D_names_of : Df l.prog w K mg base "names_of" 1 ["group"] f_names_of := ⟨_, _, PySem.W.mg_of X G a_names_of, k_names_of, b_names_of, ok_names_of T F_names_of⟩
  have D_Tally_once : Dm l.prog w K mg base (ca.at_ 0) "once" 1 ["self", "rule"] f_Tally_once := ⟨_, _, ⟨a_Tally_once, i_Tally_once, k_Tally_once⟩, b_Tally_once, ok_Tally_once T F_Tally_once⟩
  have D_Tally_pair : Dm l.prog w K mg base (ca.at_ 0) "pair" 2 ["self", "one", "other", "known"] f_Tally_pair := ⟨_, _, ⟨a_Tally_pair, i_Tally_pair, k_Tally_pair⟩, b_Tally_pair, ok_Tally_pair T F_Tally_pair D_Tally_once⟩
  have D_Tally_rest : Dm l.prog w K mg base (ca.at_ 0) "rest" 3 ["self", "name", "known"] f_Tally_rest := ⟨_, _, ⟨a_Tally_rest, i_Tally_rest, k_Tally_rest⟩, b_Tally_rest, ok_Tally_rest T F_Tally_rest D_names_of D_Tally_pair D_Tally_once⟩
  have D_Tally_rests : Dm l.prog w K mg base (ca.at_ 0) "rests" 4 ["self", "group", "known"] f_Tally_rests := ⟨_, _, ⟨a_Tally_rests, i_Tally_rests, k_Tally_rests⟩, b_Tally_rests, ok_Tally_rests T F_Tally_rests D_names_of D_Tally_rest⟩
  have D_split_rest : Df l.prog w K mg base "split_rest" 5 ["n", "a", "b"] f_split_rest := ⟨_, _, PySem.W.mg_of X G a_split_rest, k_split_rest, b_split_rest, ok_split_rest T F_split_rest D_look_at D_Tally_init D_Tally_rests⟩
  have DR_split_rest : Dr l.prog w K mg base "split_rest" 5 ["n", "a", "b"] g_split_rest := ⟨_, _, PySem.W.mg_of X G a_split_rest, k_split_rest, b_split_rest, okr_split_rest T F_split_rest DR_look_at⟩
  have D_Tally_against : Dm l.prog w K mg base (ca.at_ 0) "against" 3 ["self", "one", "group", "known"] f_Tally_against := ⟨_, _, ⟨a_Tally_against, i_Tally_against, k_Tally_against⟩, b_Tally_against, ok_Tally_against T F_Tally_against D_names_of D_Tally_pair⟩
  have D_Tally_shared : Dm l.prog w K mg base (ca.at_ 0) "shared" 5 ["self", "group", "other", "known"] f_Tally_shared := ⟨_, _, ⟨a_Tally_shared, i_Tally_shared, k_Tally_shared⟩, b_Tally_shared, ok_Tally_shared T F_Tally_shared D_Tally_rests D_names_of D_Tally_against⟩
  have D_split_shared : Df l.prog w K mg base "split_shared" 6 ["n", "a", "b", "c"] f_split_shared := ⟨_, _, PySem.W.mg_of X G a_split_shared, k_split_shared, b_split_shared, ok_split_shared T F_split_shared D_look_at D_Tally_init D_Tally_shared⟩
  have DR_split_shared : Dr l.prog w K mg base "split_shared" 5 ["n", "a", "b", "c"] g_split_shared := ⟨_, _, PySem.W.mg_of X G a_split_shared, k_split_shared, b_split_shared, okr_split_shared T F_split_shared DR_look_at⟩
  have D_tells : Df l.prog w K mg base "tells" 4 ["n", "a", "b"] f_tells := ⟨_, _, PySem.W.mg_of X G a_tells, k_tells, b_tells, ok_tells T F_tells D_look_at D_rest⟩
  have DR_tells : Dr l.prog w K mg base "tells" 6 ["n", "a", "b"] g_tells := ⟨_, _, PySem.W.mg_of X G a_tells, k_tells, b_tells, okr_tells T F_tells D_look_at DR_look_at DR_rest⟩
  have D__law_asked : Df l.prog w K mg base "_law_asked" 7 ["_law_turn", "_law_n", "_law_some"] f__law_asked := ⟨_, _, PySem.W.mg_of X G a__law_asked, k__law_asked, b__law_asked, ok__law_asked T F__law_asked D_greatest D_unsure D_rest D_shared D_split_rest D_split_shared D_tells D_silent⟩
  have DR__law_asked : Dr l.prog w K mg base "_law_asked" 7 ["_law_turn", "_law_n", "_law_some"] g__law_asked := ⟨_, _, PySem.W.mg_of X G a__law_asked, k__law_asked, b__law_asked, okr__law_asked T F__law_asked D_greatest D_unsure D_rest D_shared D_split_rest D_split_shared D_tells DR_greatest DR_unsure DR_rest DR_shared DR_split_rest DR_split_shared DR_tells DR_silent⟩
  have D__law_refused : Df l.prog w K mg base "_law_refused" 8 ["_law_turn", "_law_n", "_law_some"] f__law_refused := ⟨_, _, PySem.W.mg_of X G a__law_refused, k__law_refused, b__law_refused, ok__law_refused T F__law_refused D__law_asked D__law_kind DR__law_asked⟩
  have D__law_due : Df l.prog w K mg base "_law_due" 1 ["_law_n", "_law_some", "_law_leasts"] f__law_due := ⟨_, _, PySem.W.mg_of X G a__law_due, k__law_due, b__law_due, ok__law_due T F__law_due⟩
  have D__law_odd : Df l.prog w K mg base "_law_odd" 1 ["_law_number", "_law_whole"] f__law_odd := ⟨_, _, PySem.W.mg_of X G a__law_odd, k__law_odd, b__law_odd, ok__law_odd T F__law_odd⟩
  exact fnOk_imp (ok_law T F_law D__law_draws D__law_pop D__law_odd D__law_refused D__law_due) fun vs H Q E h => h ca
end G06
open PySem PySem.W PyProof.Rows in
set_option maxRecDepth 100000 in
set_option maxHeartbeats 0 in
theorem PySem.Challenge.cw_telltight_k06_numbers_refused_holds : PySem.Challenge.rw_telltight_k06_numbers_refused.Holds := by
  w_on; o_law; k_head; (case hw => w_witness2)
  k_fill
  refine T2.walk_g (l := PySem.Challenge.rw_telltight_k06_numbers_refused) (n := 63) (k := 9) (x := "_law_script") (sp := fun w => G06.spL _) rfl (by decide) rfl ⟨rfl, by decide, by decide⟩ (fun w h Y => PySem.W.kIn_of Y) ?F (fun _ _ a ns hl hb hS => fun ca => T2.law_sp (G06.law_true (ca := ca)) hl hb hS)
  case F =>
    intro w mg fa h KX G hmg
    refine' G06.all_mk KX G hmg ?x1_Tally ?x2_Tally ?x3_Tally ?x4_Tally ?x5_Tally ?x6_Tally ?x7_Tally ?na_Tally_n ?na_Tally_whole ?na_Tally_rules ?na_Tally_times ?x1_NoCount ?x1_NoGroup ?x1_NoTable ?x1_TooMany ?x1_NoText ?x1_NoLine ?x1_NoPlace ?x1_NoHeap ?x1_TellError ?kn_NoCount ?cl_NoGroup ?sp_class ?tk_class ?mr_NoGroup ?ga_NoGroup ?gg_NoGroup ?eC_NoGroup ?hD_NoGroup ?ki_NoGroup_NoCount ?cl_NoCount ?mr_NoCount ?ga_NoCount ?gg_NoCount ?eC_NoCount ?hD_NoCount ?ki_NoCount_NoCount ?no_NoCount ?kn_NoGroup ?ki_NoGroup_NoGroup ?ki_NoCount_NoGroup ?no_NoGroup ?kn_NoTable ?ki_NoGroup_NoTable ?ki_NoCount_NoTable ?kn_TooMany ?ki_NoGroup_TooMany ?ki_NoCount_TooMany ?kn_NoText ?ki_NoGroup_NoText ?ki_NoCount_NoText ?kn_NoLine ?ki_NoGroup_NoLine ?ki_NoCount_NoLine ?kn_NoPlace ?ki_NoGroup_NoPlace ?ki_NoCount_NoPlace ?kn_NoHeap ?ki_NoGroup_NoHeap ?ki_NoCount_NoHeap ?kn_ValueError ?ki_NoGroup_ValueError ?ki_NoCount_ValueError ?xL_NoCount ?sa_NoCount ?tC_NoCount ?kC_NoCount ?rd_TellError ?sg_TellError ?cf_TellError ?xL_NoGroup ?sa_NoGroup ?tC_NoGroup ?kC_NoGroup ?eC_TellError ?hD_TellError ?tC_TellError ?sb_NoGroup_TellError ?sb_NoCount_TellError ?a_NoCount ?i_NoCount ?l_NoCount ?c_NoCount ?k_NoCount ?a_NoGroup ?i_NoGroup ?l_NoGroup ?c_NoGroup ?k_NoGroup ?a__law_draws ?l__law_draws ?c__law_draws ?k__law_draws ?a__law_pop ?l__law_pop ?c__law_pop ?k__law_pop ?a__law_kind ?l__law_kind ?c__law_kind ?k__law_kind ?a_greatest ?l_greatest ?c_greatest ?k_greatest ?a_look_at ?l_look_at ?c_look_at ?k_look_at ?a_row_of ?l_row_of ?c_row_of ?k_row_of ?a_shared ?l_shared ?c_shared ?k_shared ?a_silent ?l_silent ?c_silent ?k_silent ?a_unsure ?l_unsure ?c_unsure ?k_unsure ?a_rest ?l_rest ?c_rest ?k_rest ?a_rules ?l_rules ?c_rules ?k_rules ?a_Tally_init ?i_Tally_init ?l_Tally_init ?c_Tally_init ?k_Tally_init ?a_names_of ?l_names_of ?c_names_of ?k_names_of ?a_Tally_once ?i_Tally_once ?l_Tally_once ?c_Tally_once ?k_Tally_once ?a_Tally_pair ?i_Tally_pair ?l_Tally_pair ?c_Tally_pair ?k_Tally_pair ?a_Tally_rest ?i_Tally_rest ?l_Tally_rest ?c_Tally_rest ?k_Tally_rest ?a_Tally_rests ?i_Tally_rests ?l_Tally_rests ?c_Tally_rests ?k_Tally_rests ?a_split_rest ?l_split_rest ?c_split_rest ?k_split_rest ?a_Tally_against ?i_Tally_against ?l_Tally_against ?c_Tally_against ?k_Tally_against ?a_Tally_shared ?i_Tally_shared ?l_Tally_shared ?c_Tally_shared ?k_Tally_shared ?a_split_shared ?l_split_shared ?c_split_shared ?k_split_shared ?a_tells ?l_tells ?c_tells ?k_tells ?a__law_asked ?l__law_asked ?c__law_asked ?k__law_asked ?a__law_refused ?l__law_refused ?c__law_refused ?k__law_refused ?a__law_due ?l__law_due ?c__law_due ?k__law_due ?a__law_odd ?l__law_odd ?c__law_odd ?k__law_odd ?a_law ?l_law ?c_law ?k_law ?z_range ?z_len ?z_isinstance ?z_ValueError ?z_bool ?z_max ?z_min ?z_zip ?z_int ?v_MOST
    (case x1_Tally => k_is)
    (case x2_Tally => k_is)
    (case x3_Tally => k_is)
    (case x4_Tally => k_is)
    (case x5_Tally => k_is)
    (case x6_Tally => k_is)
    (case x7_Tally => k_is)
    (case na_Tally_n => k_is)
    (case na_Tally_whole => k_is)
    (case na_Tally_rules => k_is)
    (case na_Tally_times => k_is)
    (case x1_NoCount => k_is)
    (case x1_NoGroup => k_is)
    (case x1_NoTable => k_is)
    (case x1_TooMany => k_is)
    (case x1_NoText => k_is)
    (case x1_NoLine => k_is)
    (case x1_NoPlace => k_is)
    (case x1_NoHeap => k_is)
    (case x1_TellError => k_is)
    (case kn_NoCount => first | k_is | kit_is)
    (case cl_NoGroup => k_is)
    (case sp_class => k_is)
    (case tk_class => k_is)
    (case mr_NoGroup => k_is)
    (case ga_NoGroup => k_is)
    (case gg_NoGroup => k_is)
    (case eC_NoGroup => k_is)
    (case hD_NoGroup => k_is)
    (case ki_NoGroup_NoCount => first | k_is | kit_is)
    (case cl_NoCount => k_is)
    (case mr_NoCount => k_is)
    (case ga_NoCount => k_is)
    (case gg_NoCount => k_is)
    (case eC_NoCount => k_is)
    (case hD_NoCount => k_is)
    (case ki_NoCount_NoCount => first | k_is | kit_is)
    (case no_NoCount => k_is)
    (case kn_NoGroup => first | k_is | kit_is)
    (case ki_NoGroup_NoGroup => first | k_is | kit_is)
    (case ki_NoCount_NoGroup => first | k_is | kit_is)
    (case no_NoGroup => k_is)
    (case kn_NoTable => first | k_is | kit_is)
    (case ki_NoGroup_NoTable => first | k_is | kit_is)
    (case ki_NoCount_NoTable => first | k_is | kit_is)
    (case kn_TooMany => first | k_is | kit_is)
    (case ki_NoGroup_TooMany => first | k_is | kit_is)
    (case ki_NoCount_TooMany => first | k_is | kit_is)
    (case kn_NoText => first | k_is | kit_is)
    (case ki_NoGroup_NoText => first | k_is | kit_is)
    (case ki_NoCount_NoText => first | k_is | kit_is)
    (case kn_NoLine => first | k_is | kit_is)
    (case ki_NoGroup_NoLine => first | k_is | kit_is)
    (case ki_NoCount_NoLine => first | k_is | kit_is)
    (case kn_NoPlace => first | k_is | kit_is)
    (case ki_NoGroup_NoPlace => first | k_is | kit_is)
    (case ki_NoCount_NoPlace => first | k_is | kit_is)
    (case kn_NoHeap => first | k_is | kit_is)
    (case ki_NoGroup_NoHeap => first | k_is | kit_is)
    (case ki_NoCount_NoHeap => first | k_is | kit_is)
    (case kn_ValueError => first | k_is | kit_is)
    (case ki_NoGroup_ValueError => first | k_is | kit_is)
    (case ki_NoCount_ValueError => first | k_is | kit_is)
    (case xL_NoCount => k_is)
    (case sa_NoCount => k_is)
    (case tC_NoCount => k_is)
    (case kC_NoCount => k_is)
    (case rd_TellError => k_is)
    (case sg_TellError => k_is)
    (case cf_TellError => k_is)
    (case xL_NoGroup => k_is)
    (case sa_NoGroup => k_is)
    (case tC_NoGroup => k_is)
    (case kC_NoGroup => k_is)
    (case eC_TellError => k_is)
    (case hD_TellError => k_is)
    (case tC_TellError => k_is)
    (case sb_NoGroup_TellError => k_is)
    (case sb_NoCount_TellError => k_is)
    (case a_NoCount => k_is)
    (case i_NoCount => k_is)
    (case l_NoCount => k_is)
    (case c_NoCount => k_is)
    (case k_NoCount => k_is)
    (case a_NoGroup => k_is)
    (case i_NoGroup => k_is)
    (case l_NoGroup => k_is)
    (case c_NoGroup => k_is)
    (case k_NoGroup => k_is)
    (case a__law_draws => k_is)
    (case l__law_draws => k_is)
    (case c__law_draws => k_is)
    (case k__law_draws => k_is)
    (case a__law_pop => k_is)
    (case l__law_pop => k_is)
    (case c__law_pop => k_is)
    (case k__law_pop => k_is)
    (case a__law_kind => k_is)
    (case l__law_kind => k_is)
    (case c__law_kind => k_is)
    (case k__law_kind => k_is)
    (case a_greatest => k_is)
    (case l_greatest => k_is)
    (case c_greatest => k_is)
    (case k_greatest => k_is)
    (case a_look_at => k_is)
    (case l_look_at => k_is)
    (case c_look_at => k_is)
    (case k_look_at => k_is)
    (case a_row_of => k_is)
    (case l_row_of => k_is)
    (case c_row_of => k_is)
    (case k_row_of => k_is)
    (case a_shared => k_is)
    (case l_shared => k_is)
    (case c_shared => k_is)
    (case k_shared => k_is)
    (case a_silent => k_is)
    (case l_silent => k_is)
    (case c_silent => k_is)
    (case k_silent => k_is)
    (case a_unsure => k_is)
    (case l_unsure => k_is)
    (case c_unsure => k_is)
    (case k_unsure => k_is)
    (case a_rest => k_is)
    (case l_rest => k_is)
    (case c_rest => k_is)
    (case k_rest => k_is)
    (case a_rules => k_is)
    (case l_rules => k_is)
    (case c_rules => k_is)
    (case k_rules => k_is)
    (case a_Tally_init => k_is)
    (case i_Tally_init => k_is)
    (case l_Tally_init => k_is)
    (case c_Tally_init => k_is)
    (case k_Tally_init => k_is)
    (case a_names_of => k_is)
    (case l_names_of => k_is)
    (case c_names_of => k_is)
    (case k_names_of => k_is)
    (case a_Tally_once => k_is)
    (case i_Tally_once => k_is)
    (case l_Tally_once => k_is)
    (case c_Tally_once => k_is)
    (case k_Tally_once => k_is)
    (case a_Tally_pair => k_is)
    (case i_Tally_pair => k_is)
    (case l_Tally_pair => k_is)
    (case c_Tally_pair => k_is)
    (case k_Tally_pair => k_is)
    (case a_Tally_rest => k_is)
    (case i_Tally_rest => k_is)
    (case l_Tally_rest => k_is)
    (case c_Tally_rest => k_is)
    (case k_Tally_rest => k_is)
    (case a_Tally_rests => k_is)
    (case i_Tally_rests => k_is)
    (case l_Tally_rests => k_is)
    (case c_Tally_rests => k_is)
    (case k_Tally_rests => k_is)
    (case a_split_rest => k_is)
    (case l_split_rest => k_is)
    (case c_split_rest => k_is)
    (case k_split_rest => k_is)
    (case a_Tally_against => k_is)
    (case i_Tally_against => k_is)
    (case l_Tally_against => k_is)
    (case c_Tally_against => k_is)
    (case k_Tally_against => k_is)
    (case a_Tally_shared => k_is)
    (case i_Tally_shared => k_is)
    (case l_Tally_shared => k_is)
    (case c_Tally_shared => k_is)
    (case k_Tally_shared => k_is)
    (case a_split_shared => k_is)
    (case l_split_shared => k_is)
    (case c_split_shared => k_is)
    (case k_split_shared => k_is)
    (case a_tells => k_is)
    (case l_tells => k_is)
    (case c_tells => k_is)
    (case k_tells => k_is)
    (case a__law_asked => k_is)
    (case l__law_asked => k_is)
    (case c__law_asked => k_is)
    (case k__law_asked => k_is)
    (case a__law_refused => k_is)
    (case l__law_refused => k_is)
    (case c__law_refused => k_is)
    (case k__law_refused => k_is)
    (case a__law_due => k_is)
    (case l__law_due => k_is)
    (case c__law_due => k_is)
    (case k__law_due => k_is)
    (case a__law_odd => k_is)
    (case l__law_odd => k_is)
    (case c__law_odd => k_is)
    (case k__law_odd => k_is)
    (case a_law => k_is)
    (case l_law => k_is)
    (case c_law => k_is)
    (case k_law => k_is)
    (case z_range => k_is)
    (case z_len => k_is)
    (case z_isinstance => k_is)
    (case z_ValueError => k_is)
    (case z_bool => k_is)
    (case z_max => k_is)
    (case z_min => k_is)
    (case z_zip => k_is)
    (case z_int => k_is)
    (case v_MOST => k_is)
end
