import PyProof.Rows.All
import Wide.All
import OpenK.AllK
import Wide.FinOn
import HandS.ForMost
import HandS.Walk
import HandS.DictTup
import HandS.Lambda
import HandS.IsInst
import HandS.TupAny
import HandS.TupLen
import KE.SortData
import KE.DataMinMax
import HandS.Style
import KE.GoesEnum
import HandS.Small
import KE.DataEq
import KE.KDictSum
import HandS.Conv
import HandS.ExcValue
import HandS.DictComp
import PyProof.Rows.TupDisplay
import HandS.Deep
import HandS.SetFor
import KE.DataFind
import HandS.Star
import KE.KTupSum
import KE.KRevSl
import HandS.TupLe
import HandS.Rev
import HandS.RevRange
import PyProof.TupleOfSeq
import HandS.Iter
import KE.KDictOf
import KE.KDictCopyH
import KE.KDictList
import HandS.TupSets
import HandS.Strs
import PyProof.Rows.SeqMore
import KE.KDictWalk
import HandS.ExcOwn
import HandS.WordsExc
import HandS.ExcIs
import HandS.EndTab
import KE.KExcSuper
import HandS.ExcSuper
import HandS.ExcInit
import HandS.ExcField
import KE.KExcIs
import PyProof.Rows.CountFlat
import HandS.TupMul
import PyProof.SumAny
import HandS.Zip0
import KE.KDictZip
import KE.KDictKeyed
import HandS.NoneIn
import PyProof.WalksMore
import HandS.Zip
import HandS.SetKeys
import PySem.Challenge.RW_gridink_k27_whole_adjoint_pairs
set_option Elab.async false
set_option linter.all false
set_option maxRecDepth 100000
set_option maxHeartbeats 4000000
set_option autoImplicit false
namespace DL
open PySem PySem.Spec PyProof.Rows L2
/-! data without the heap -/
inductive D where
  | non | bl (b : Bool) | int (i : Int) | str (x : Str)
  | tup (xs : List D) | lst (xs : List D) | frz (xs : List D) | ctp (xs : List D)
  | dK (ks : List Key) (xs : List D) | dT (ks : List (List Key)) (xs : List D)
  | fdT (ks : List (List Key)) (xs : List D)   -- a dict that nobody changes any more
  | exc (a : Addr) (d : Option Addr) (ns : List Str) (xs : List D)   -- a caught error, at a; its dict; its fields
/-- a list that nobody changes: a locked one, or the module's own -/
def Frz (K : PySem.W.Frag) (H : Hp) (a : Addr) (xs : List V) : Prop :=
  (∃ o, H a = some (.frz o (.lst xs))) ∨
    ∃ (o : Obj) (its : Array Value) (n : Nat), K.lookup a = some o ∧ o.cls = .type "list" ∧ o.dict = none ∧ o.data = .seq its n ∧ its.size ≤ sizeLine ∧ Vals xs its.toList
/-- a tuple that stands in the written part -/
def Ctp (K : PySem.W.Frag) (a : Addr) (xs : List V) : Prop := ∃ (o : Obj) (its : Array Value) (n : Nat), K.lookup a = some o ∧ o.cls = .type "tuple" ∧ o.data = .seq its n ∧ its.size ≤ sizeLine ∧ Vals xs its.toList
theorem Ctp.sq {K : PySem.W.Frag} {H : Hp} {a : Addr} {xs : List V} (h : Ctp K a xs) : SqT K H a xs := .inr h
theorem Frz.sq {K : PySem.W.Frag} {H : Hp} {a : Addr} {xs : List V} (h : Frz K H a xs) : SqL K H a xs := by
  rcases h with ⟨o, h⟩ | h
  · exact .inl (.inr ⟨o, h⟩)
  · exact .inr h
mutual
def Rep (K : PySem.W.Frag) (H : Hp) : D → V → List Addr → Prop
  | .non, v, F => v = .non ∧ F = []
  | .bl b, v, F => v = .bl b ∧ F = []
  | .int i, v, F => v = .int i ∧ F = []
  | .str x, v, F => v = .str x ∧ F = []
  | .tup xs, v, F => ∃ a vs, v = .ref a ∧ H a = some (.tup vs) ∧ Reps K H xs vs F
  | .ctp xs, v, F => ∃ a vs, v = .ref a ∧ Ctp K a vs ∧ Reps K H xs vs F
  | .frz xs, v, F => ∃ a vs, v = .ref a ∧ Frz K H a vs ∧ Reps K H xs vs F
  | .lst xs, v, F => ∃ a vs G, v = .ref a ∧ Rd H a (.lst vs) ∧ F = a :: G ∧ Reps K H xs vs G
  | .dK ks xs, v, F => ∃ a vs G, v = .ref a ∧ Rd H a (.dK (ks.zip vs)) ∧ ks.length = xs.length ∧ F = a :: G ∧ Reps K H xs vs G
  | .dT ks xs, v, F => ∃ a vs G, v = .ref a ∧ Rd H a (.dT (ks.zip vs)) ∧ ks.length = xs.length ∧ F = a :: G ∧ Reps K H xs vs G
  | .fdT ks xs, v, F => ∃ a vs o, v = .ref a ∧ H a = some (.frz o (.frz o (.dT (ks.zip vs)))) ∧ ks.length = xs.length ∧ Reps K H xs vs F
  | .exc a d ns xs, v, F => v = .ref a ∧ F = [] ∧ ∀ d1, d = some d1 → ∃ vs, H d1 = some (.xd (ns.zip vs)) ∧ ns.length = xs.length ∧ Reps K H xs vs []
def Reps (K : PySem.W.Frag) (H : Hp) : List D → List V → List Addr → Prop
  | [], vs, F => vs = [] ∧ F = []
  | d :: ds, vs, F => ∃ v vr F1 F2, vs = v :: vr ∧ F = F1 ++ F2 ∧ Rep K H d v F1 ∧ Reps K H ds vr F2
end
/-- what the state may own and change: lists and dicts -/
def Mut : Option HO → Prop
  | some (.lst _) => True
  | some (.dK _) => True
  | some (.dT _) => True
  | _ => False
theorem Mut.l2 {o : Option HO} (m : Mut o) : L2.Mut o := by
  cases o with
  | none => exact m.elim
  | some o => cases o <;> first | exact m.elim | trivial
/-- tables of code objects that may grow, with the names that they tell -/
abbrev Tb := List (Addr × Str)
/-- free for new things (a table that may grow counts as free: nothing else is ever there) -/
def Fr (T : Tb) (H : Hp) (a : Addr) : Prop := H a = none ∨ (T ≠ [] ∧ ∃ ps, H a = some (.tbl ps))
/-- from H0 to H all stands that is not in O; O can be changed; T ≠ []: tables of code objects may grow -/
structure Frm (T : Tb) (H0 : Hp) (O : Addr → Prop) (H : Hp) : Prop where
  mu : ∀ a, O a → Mut (H0 a)
  kp : ∀ a o, H0 a = some o → (T ≠ [] → ∀ ps, o ≠ .tbl ps) → ¬ O a → H a = some o
  tab : LamX.Tabs T H0 → LamX.Tabs T H
abbrev No : Addr → Prop := fun _ => False
section
variable {T : Tb} {H0 H H' : Hp} {O : Addr → Prop}
theorem Fr.some {a : Addr} {o : HO} (f : Fr T H a) (e : H a = some o) (n : T ≠ [] → ∀ ps, o ≠ .tbl ps) : False := by
  rcases f with f | ⟨h, ps, f⟩
  · rw [f] at e; cases e
  · rw [f] at e; cases e; exact n h ps rfl
theorem not_fr {a : Addr} (h : ¬ Fr T H a) : ∃ o, H a = some o ∧ (T ≠ [] → ∀ ps, o ≠ .tbl ps) := by
  cases e : H a with
  | none => exact absurd (.inl e) h
  | some o => exact ⟨o, rfl, fun t ps z => h (.inr ⟨t, ps, by rw [e, z]⟩)⟩
theorem Fr.nil {a : Addr} (h : Fr [] H a) : H a = none := h.elim id fun q => absurd rfl q.1
theorem Frm.of (mu : ∀ a, O a → Mut (H0 a)) (k : ∀ a o, H0 a = some o → ¬ O a → H a = some o) : Frm T H0 O H :=
  ⟨mu, fun a o e _ n => k a o e n,
  fun t p hp => (by
    obtain ⟨ps, h1, h2, h3⟩ := t p hp
    exact ⟨ps, k _ _ h1 fun n => (by have m := mu _ n; rw [h1] at m; exact m), h2, fun pos cv hc => (by
      obtain ⟨c, e1, e2⟩ := h3 pos cv hc
      exact ⟨c, e1, k _ _ e2 fun n => (by have m := mu _ n; rw [e2] at m; unfold LamX.CodeO at m; exact m)⟩)⟩)⟩
theorem Frm.keep (f : Frm T H0 O H) {a : Addr} {o : HO} (e : H0 a = some o) (nt : ∀ ps, o ≠ .tbl ps) (n : ¬ O a) : H a = some o := f.kp a o e (fun _ => nt) n
theorem Frm.keepF (f : Frm [] H0 O H) {a : Addr} {o : HO} (e : H0 a = some o) (n : ¬ O a) : H a = some o := f.kp a o e (fun z => absurd rfl z) n
theorem Frm.there (f : Frm T H0 O H) (a : Addr) (h : ¬ Fr T H0 a) (n : ¬ O a) : ¬ Fr T H a := by
  obtain ⟨o, e, nt⟩ := not_fr h
  exact fun z => z.some (f.kp a o e nt n) nt
/-- one after another -/
theorem Frm.comp {O' : Addr → Prop} (f : Frm T H0 O H) (g : Frm T H O' H') (h : ∀ a, O' a → O a ∨ Fr T H0 a) : Frm T H0 O H' :=
  ⟨f.mu, fun a o e nt n => g.kp a o (f.kp a o e nt n) nt fun z => (h a z).elim n fun q => q.some e nt, fun t => g.tab (f.tab t)⟩
theorem Frm.of_same (s : Same H H') : Frm T H No H' := .of (fun _ h => h.elim) fun a o e _ => s a o e
theorem Frm.andSame (f : Frm T H0 O H) (s : Same H H') : Frm T H0 O H' := f.comp (.of_same s) fun _ z => z.elim
theorem Frm.same (s : Frm [] H No H') : Same H H' := fun a o e => s.keepF e fun h => h
theorem Frm.up (f : Frm [] H0 O H) : Frm T H0 O H := .of f.mu fun a o e n => f.keepF e n
/-- an object that can be changed is no table -/
theorem Mut.nt {o : HO} (m : Mut (some o)) : ∀ ps, o ≠ .tbl ps := fun ps e => (by subst e; exact m)
theorem Frm.rd {a : Addr} {o : HO} (s : Frm T H0 O H) (h : Rd H0 a o) (nt : ∀ ps, o ≠ .tbl ps) (n : ¬ O a) : Rd H a o := by
  rcases h with h | ⟨u, h⟩
  · exact .inl (s.keep h nt n)
  · exact .inr ⟨u, s.keep h (fun ps e => by cases e) n⟩
theorem Frm.sqT {K : PySem.W.Frag} {a : Addr} {xs : List V} (s : Frm T H0 O H) (h : SqT K H0 a xs) : SqT K H a xs := by
  rcases h with h | h
  · refine .inl (s.rd h (fun ps e => by cases e) fun n => ?_)
    have m := s.mu a n
    rcases h with h | ⟨u, h⟩ <;> (rw [h] at m; exact m)
  · exact .inr h
theorem Frm.tup {a : Addr} {xs : List V} (s : Frm T H0 O H) (h : H0 a = some (.tup xs)) : H a = some (.tup xs) := s.keep h (fun ps e => by cases e) fun n => by
  have m := s.mu a n
  rw [h] at m; exact m
theorem Frm.frz {K : PySem.W.Frag} {a : Addr} {xs : List V} (s : Frm T H0 O H) (h : Frz K H0 a xs) : Frz K H a xs := by
  rcases h with ⟨u, h⟩ | h
  · refine .inl ⟨u, s.keep h (fun ps e => by cases e) fun n => ?_⟩
    have m := s.mu a n
    rw [h] at m; exact m
  · exact .inr h
end
mutual
theorem Rep.frm {K : PySem.W.Frag} {T : Tb} {H0 H : Hp} {O : Addr → Prop} (s : Frm T H0 O H) : ∀ {d : D} {v : V} {F : List Addr}, Rep K H0 d v F → (∀ a ∈ F, ¬ O a) → Rep K H d v F
  | .non, _, _, h, _ => h
  | .bl _, _, _, h, _ => h
  | .int _, _, _, h, _ => h
  | .str _, _, _, h, _ => h
  | .tup xs, v, F, h, n => by
    obtain ⟨a, vs, e, q, r⟩ := h
    exact ⟨a, vs, e, s.tup q, Reps.frm s r n⟩
  | .ctp xs, v, F, h, n => by
    obtain ⟨a, vs, e, q, r⟩ := h
    exact ⟨a, vs, e, q, Reps.frm s r n⟩
  | .frz xs, v, F, h, n => by
    obtain ⟨a, vs, e, q, r⟩ := h
    exact ⟨a, vs, e, s.frz q, Reps.frm s r n⟩
  | .lst xs, v, F, h, n => by
    obtain ⟨a, vs, G, e, q, rfl, r⟩ := h
    exact ⟨a, vs, G, e, s.rd q (fun ps e => by cases e) (n a (List.mem_cons_self ..)), rfl, Reps.frm s r fun b hb => n b (List.mem_cons_of_mem _ hb)⟩
  | .dK ks xs, v, F, h, n => by
    obtain ⟨a, vs, G, e, q, l, rfl, r⟩ := h
    exact ⟨a, vs, G, e, s.rd q (fun ps e => by cases e) (n a (List.mem_cons_self ..)), l, rfl, Reps.frm s r fun b hb => n b (List.mem_cons_of_mem _ hb)⟩
  | .dT ks xs, v, F, h, n => by
    obtain ⟨a, vs, G, e, q, l, rfl, r⟩ := h
    exact ⟨a, vs, G, e, s.rd q (fun ps e => by cases e) (n a (List.mem_cons_self ..)), l, rfl, Reps.frm s r fun b hb => n b (List.mem_cons_of_mem _ hb)⟩
  | .fdT ks xs, v, F, h, n => by
    obtain ⟨a, vs, o, e, q, l, r⟩ := h
    exact ⟨a, vs, o, e, s.keep q (fun ps e => by cases e) (fun z => by have m := s.mu a z; rw [q] at m; exact m), l, Reps.frm s r n⟩
  | .exc a d ns xs, v, F, h, n => by
    obtain ⟨e, f, q⟩ := h
    refine ⟨e, f, fun d1 hd => ?_⟩
    obtain ⟨vs, q1, q2, q3⟩ := q d1 hd
    exact ⟨vs, s.keep q1 (fun ps e => by cases e) (fun z => by have m := s.mu d1 z; rw [q1] at m; exact m), q2, Reps.frm s q3 fun a ha => by cases ha⟩
theorem Reps.frm {K : PySem.W.Frag} {T : Tb} {H0 H : Hp} {O : Addr → Prop} (s : Frm T H0 O H) : ∀ {ds : List D} {vs : List V} {F : List Addr}, Reps K H0 ds vs F → (∀ a ∈ F, ¬ O a) → Reps K H ds vs F
  | [], _, _, h, _ => h
  | d :: ds, vs, F, h, n => by
    obtain ⟨v, vr, F1, F2, e, rfl, r1, r2⟩ := h
    exact ⟨v, vr, F1, F2, e, rfl, Rep.frm s r1 fun a ha => n a (List.mem_append_left _ ha), Reps.frm s r2 fun a ha => n a (List.mem_append_right _ ha)⟩
end
theorem Rep.same {K : PySem.W.Frag} {H H' : Hp} {d : D} {v : V} {F : List Addr} (h : Rep K H d v F) (s : Same H H') : Rep K H' d v F := h.frm (T := []) (.of_same s) fun _ _ n => n
theorem Reps.same {K : PySem.W.Frag} {H H' : Hp} {d : List D} {v : List V} {F : List Addr} (h : Reps K H d v F) (s : Same H H') : Reps K H' d v F := h.frm (T := []) (.of_same s) fun _ _ n => n
/-- what is tracked -/
theorem Rd.some' {H : Hp} {a : Addr} {o : HO} (h : Rd H a o) : H a ≠ none := by
  rcases h with h | ⟨_, h⟩ <;> (rw [h]; exact fun z => by cases z)
mutual
theorem Rep.there {K : PySem.W.Frag} {H : Hp} : ∀ {d : D} {v : V} {F : List Addr}, Rep K H d v F → ∀ a ∈ F, H a ≠ none
  | .non, _, _, h, a, ha => by rw [h.2] at ha; cases ha
  | .bl _, _, _, h, a, ha => by rw [h.2] at ha; cases ha
  | .int _, _, _, h, a, ha => by rw [h.2] at ha; cases ha
  | .str _, _, _, h, a, ha => by rw [h.2] at ha; cases ha
  | .tup xs, v, F, h, a, ha => by
    obtain ⟨_, vs, e, q, r⟩ := h
    exact Reps.there r a ha
  | .frz xs, v, F, h, a, ha => by
    obtain ⟨_, vs, e, q, r⟩ := h
    exact Reps.there r a ha
  | .ctp xs, v, F, h, a, ha => by
    obtain ⟨_, vs, e, q, r⟩ := h
    exact Reps.there r a ha
  | .lst xs, v, F, h, a, ha => by
    obtain ⟨b, vs, G, e, q, rfl, r⟩ := h
    rcases List.mem_cons.mp ha with rfl | ha
    · exact Rd.some' q
    · exact Reps.there r a ha
  | .dK ks xs, v, F, h, a, ha => by
    obtain ⟨b, vs, G, e, q, l, rfl, r⟩ := h
    rcases List.mem_cons.mp ha with rfl | ha
    · exact Rd.some' q
    · exact Reps.there r a ha
  | .dT ks xs, v, F, h, a, ha => by
    obtain ⟨b, vs, G, e, q, l, rfl, r⟩ := h
    rcases List.mem_cons.mp ha with rfl | ha
    · exact Rd.some' q
    · exact Reps.there r a ha
  | .fdT ks xs, v, F, h, a, ha => by
    obtain ⟨_, vs, o, e, q, l, r⟩ := h
    exact Reps.there r a ha
  | .exc _ _ _ _, v, F, h, a, ha => by rw [h.2.1] at ha; cases ha
theorem Reps.there {K : PySem.W.Frag} {H : Hp} : ∀ {ds : List D} {vs : List V} {F : List Addr}, Reps K H ds vs F → ∀ a ∈ F, H a ≠ none
  | [], _, _, h, a, ha => by rw [h.2] at ha; cases ha
  | d :: ds, vs, F, h, a, ha => by
    obtain ⟨v, vr, F1, F2, e, rfl, r1, r2⟩ := h
    rcases List.mem_append.mp ha with ha | ha
    · exact Rep.there r1 a ha
    · exact Reps.there r2 a ha
end
theorem Rd.nf {T : Tb} {H : Hp} {a : Addr} {o : HO} (h : Rd H a o) (n : ∀ ps, o ≠ .tbl ps) : ¬ Fr T H a := fun f => by
  rcases h with h | ⟨_, h⟩
  · exact f.some h fun _ => n
  · exact f.some h fun _ ps z => by cases z
mutual
theorem Rep.nf {K : PySem.W.Frag} {T : Tb} {H : Hp} : ∀ {d : D} {v : V} {F : List Addr}, Rep K H d v F → ∀ a ∈ F, ¬ Fr T H a
  | .non, _, _, h, a, ha => by rw [h.2] at ha; cases ha
  | .bl _, _, _, h, a, ha => by rw [h.2] at ha; cases ha
  | .int _, _, _, h, a, ha => by rw [h.2] at ha; cases ha
  | .str _, _, _, h, a, ha => by rw [h.2] at ha; cases ha
  | .tup xs, v, F, h, a, ha => by
    obtain ⟨_, vs, e, q, r⟩ := h
    exact Reps.nf r a ha
  | .frz xs, v, F, h, a, ha => by
    obtain ⟨_, vs, e, q, r⟩ := h
    exact Reps.nf r a ha
  | .ctp xs, v, F, h, a, ha => by
    obtain ⟨_, vs, e, q, r⟩ := h
    exact Reps.nf r a ha
  | .lst xs, v, F, h, a, ha => by
    obtain ⟨b, vs, G, e, q, rfl, r⟩ := h
    rcases List.mem_cons.mp ha with rfl | ha
    · exact Rd.nf q fun ps z => by cases z
    · exact Reps.nf r a ha
  | .dK ks xs, v, F, h, a, ha => by
    obtain ⟨b, vs, G, e, q, l, rfl, r⟩ := h
    rcases List.mem_cons.mp ha with rfl | ha
    · exact Rd.nf q fun ps z => by cases z
    · exact Reps.nf r a ha
  | .dT ks xs, v, F, h, a, ha => by
    obtain ⟨b, vs, G, e, q, l, rfl, r⟩ := h
    rcases List.mem_cons.mp ha with rfl | ha
    · exact Rd.nf q fun ps z => by cases z
    · exact Reps.nf r a ha
  | .fdT ks xs, v, F, h, a, ha => by
    obtain ⟨_, vs, o, e, q, l, r⟩ := h
    exact Reps.nf r a ha
  | .exc _ _ _ _, v, F, h, a, ha => by rw [h.2.1] at ha; cases ha
theorem Reps.nf {K : PySem.W.Frag} {T : Tb} {H : Hp} : ∀ {ds : List D} {vs : List V} {F : List Addr}, Reps K H ds vs F → ∀ a ∈ F, ¬ Fr T H a
  | [], _, _, h, a, ha => by rw [h.2] at ha; cases ha
  | d :: ds, vs, F, h, a, ha => by
    obtain ⟨v, vr, F1, F2, e, rfl, r1, r2⟩ := h
    rcases List.mem_append.mp ha with ha | ha
    · exact Rep.nf r1 a ha
    · exact Reps.nf r2 a ha
end
/-! no part of it can be changed -/
mutual
def pure : D → Bool
  | .non => true | .bl _ => true | .int _ => true | .str _ => true
  | .tup xs => pures xs
  | .frz xs => pures xs
  | .ctp xs => pures xs
  | .fdT _ xs => pures xs
  | .lst _ => false | .dK _ _ => false | .dT _ _ => false | .exc _ _ _ _ => false
def pures : List D → Bool
  | [] => true
  | d :: ds => pure d && pures ds
end
mutual
theorem Rep.nil {K : PySem.W.Frag} {H : Hp} : ∀ {d : D} {v : V} {F : List Addr}, Rep K H d v F → pure d = true → F = []
  | .non, _, _, h, _ => h.2
  | .bl _, _, _, h, _ => h.2
  | .int _, _, _, h, _ => h.2
  | .str _, _, _, h, _ => h.2
  | .tup xs, v, F, h, p => by
    obtain ⟨_, vs, e, q, r⟩ := h
    exact Reps.nil r p
  | .frz xs, v, F, h, p => by
    obtain ⟨_, vs, e, q, r⟩ := h
    exact Reps.nil r p
  | .ctp xs, v, F, h, p => by
    obtain ⟨_, vs, e, q, r⟩ := h
    exact Reps.nil r p
  | .lst xs, v, F, h, p => by cases p
  | .dK ks xs, v, F, h, p => by cases p
  | .dT ks xs, v, F, h, p => by cases p
  | .fdT ks xs, v, F, h, p => by
    obtain ⟨_, vs, o, e, q, l, r⟩ := h
    exact Reps.nil r p
  | .exc _ _ _ _, v, F, h, p => by cases p
theorem Reps.nil {K : PySem.W.Frag} {H : Hp} : ∀ {ds : List D} {vs : List V} {F : List Addr}, Reps K H ds vs F → pures ds = true → F = []
  | [], _, _, h, _ => h.2
  | d :: ds, vs, F, h, p => by
    obtain ⟨v, vr, F1, F2, e, rfl, r1, r2⟩ := h
    have p' : (pure d && pures ds) = true := p
    rw [Bool.and_eq_true] at p'
    rw [Rep.nil r1 p'.1, Reps.nil r2 p'.2]
    rfl
end
theorem Reps.length {K : PySem.W.Frag} {H : Hp} : ∀ {ds : List D} {vs : List V} {F : List Addr}, Reps K H ds vs F → vs.length = ds.length
  | [], _, _, h => by rw [h.1]; rfl
  | d :: ds, vs, F, h => by
    obtain ⟨v, vr, F1, F2, rfl, rfl, r1, r2⟩ := h
    rw [List.length_cons, List.length_cons, Reps.length r2]
theorem Reps.get {K : PySem.W.Frag} {H : Hp} : ∀ {ds : List D} {vs : List V} {F : List Addr} {i : Nat} {d : D}, Reps K H ds vs F → ds[i]? = some d → ∃ v G, vs[i]? = some v ∧ Rep K H d v G ∧ ∀ a ∈ G, a ∈ F
  | [], _, _, i, _, _, e => by simp at e
  | d :: ds, vs, F, 0, x, h, e => by
    obtain ⟨v, vr, F1, F2, rfl, rfl, r1, r2⟩ := h
    have e' : d = x := Option.some.inj e
    subst e'
    exact ⟨v, F1, rfl, r1, fun a ha => List.mem_append_left _ ha⟩
  | d :: ds, vs, F, i + 1, x, h, e => by
    obtain ⟨v, vr, F1, F2, rfl, rfl, r1, r2⟩ := h
    obtain ⟨w, G, g1, g2, g3⟩ := Reps.get r2 (show ds[i]? = some x from e)
    exact ⟨w, G, g1, g2, fun a ha => List.mem_append_right _ (g3 a ha)⟩
theorem Reps.append {K : PySem.W.Frag} {H : Hp} : ∀ {ds es : List D} {vs ws : List V} {F G : List Addr}, Reps K H ds vs F → Reps K H es ws G → Reps K H (ds ++ es) (vs ++ ws) (F ++ G)
  | [], es, vs, ws, F, G, h, h' => by
    obtain ⟨rfl, rfl⟩ := h
    exact h'
  | d :: ds, es, vs, ws, F, G, h, h' => by
    obtain ⟨v, vr, F1, F2, rfl, rfl, r1, r2⟩ := h
    exact ⟨v, vr ++ ws, F1, F2 ++ G, rfl, List.append_assoc .., r1, Reps.append r2 h'⟩
theorem Reps.one {K : PySem.W.Frag} {H : Hp} {d : D} {v : V} {F : List Addr} (h : Rep K H d v F) : Reps K H [d] [v] F := ⟨v, [], F, [], rfl, by simp, h, rfl, rfl⟩
/-- new objects -/
structure New (H H' : Hp) (F : List Addr) : Prop where
  nd : F.Nodup
  new : ∀ a ∈ F, H a = none
  mu : ∀ a ∈ F, Mut (H' a)
theorem New.nil {H H' : Hp} : New H H' [] := ⟨List.nodup_nil, fun _ h => (by cases h), fun _ h => by cases h⟩
theorem New.of {H H1 H' : Hp} {F : List Addr} (n : New H1 H' F) (s : Same H H1) : New H H' F := ⟨n.nd, fun a ha => s.free (n.new a ha), n.mu⟩
theorem Mut.keep {H H' : Hp} {a : Addr} (m : Mut (H a)) (s : Same H H') : Mut (H' a) := by
  cases e : H a with
  | none => rw [e] at m; exact m.elim
  | some o => rw [s _ _ e]; rw [e] at m; exact m
theorem New.to {H H1 H' : Hp} {F : List Addr} (n : New H H1 F) (s : Same H1 H') : New H H' F := ⟨n.nd, n.new, fun a ha => Mut.keep (n.mu a ha) s⟩
theorem New.append {K : PySem.W.Frag} {H H1 H2 : Hp} {F G : List Addr} (n : New H H1 F) (m : New H1 H2 G) (s : Same H H1) (s2 : Same H1 H2) (t : ∀ a ∈ F, H1 a ≠ none) : New H H2 (F ++ G) :=
  ⟨List.nodup_append.mpr ⟨n.nd, m.nd, fun a ha b hb e => t a ha (by rw [e]; exact m.new b hb)⟩, fun a ha => (List.mem_append.mp ha).elim (n.new a) fun h => s.free (m.new a h),
    fun a ha => (List.mem_append.mp ha).elim (fun h => Mut.keep (n.mu a h) s2) (m.mu a)⟩
theorem same_upd {H : Hp} {p : Addr} {o : HO} (h : H p = none) : Same H (upd H p o) := fun b x e => by
  rw [upd_ne (ne_of_none e h)]
  exact e
end DL
namespace DL
open PySem PySem.Spec PyProof.Rows L2
/-! a name's value: own, lent, or an argument that is changed for the caller -/
inductive Fl | own | bor | pin | tag (P : Addr)
  deriving DecidableEq
abbrev Slt := Option (Fl × D)
abbrev Env := List Slt
abbrev EX := Env → Option D
abbrev EXs := Env → Option (List D)
abbrev EM := Env → Option (D × Env)
abbrev EMs := Env → Option (List D × Env)
abbrev ET := Env → Option (Bool × Env)
inductive Out where
  | nx (ρ : Env) | rt (d : D) (ρ : Env) | bk (ρ : Env) | ct (ρ : Env)
abbrev ES := Env → Option Out
structure Ct where
  H0 : Hp
  O0 : Addr → Prop
  pv : Nat → Option V
  B : Addr → Prop
  T : Tb
/-- the name of the law's lambdas -/
abbrev lamQ : Str := "law.<locals>.<lambda>"
structure Ok (K : PySem.W.Frag) (c : Ct) (σ : L2.St) (H : Hp) (ρ : Env) (fp : Nat → List Addr) : Prop where
  len : ρ.length = σ.length
  rep : ∀ i m d, ρ[i]? = some (some (m, d)) → ∃ v, σ[i]? = some (some v) ∧ Rep K H d v (fp i) ∧ (m ≠ Fl.own → c.pv i = some v)
  nd : ∀ i m d, ρ[i]? = some (some (m, d)) → m ≠ Fl.bor → (fp i).Nodup ∧ ∀ a ∈ fp i, (c.O0 a ∨ Fr c.T c.H0 a) ∧ Mut (H a) ∧ ¬ c.B a
  bo : ∀ i d, ρ[i]? = some (some (Fl.bor, d)) → ∀ a ∈ fp i, c.B a
  dj : ∀ i j m d n e, i ≠ j → ρ[i]? = some (some (m, d)) → m ≠ Fl.bor → ρ[j]? = some (some (n, e)) → n ≠ Fl.bor → ∀ a ∈ fp i, a ∉ fp j
  frm : Frm c.T c.H0 c.O0 H
  bt : ∀ a, c.B a → ¬ Fr c.T c.H0 a ∧ ¬ c.O0 a
  tb : LamX.Tabs c.T c.H0
  tg : ∀ (i : Nat) (P : Addr) (d : D), ρ[i]? = some (some (Fl.tag P, d)) → (P, lamQ) ∈ c.T ∧ ∀ p ∈ c.T, p.1 = P → p.2 = lamQ
/-- values on their way, nobody else's -/
structure Vals' (K : PySem.W.Frag) (c : Ct) (H : Hp) (ρ : Env) (fp : Nat → List Addr) (ds : List D) (vs : List V) (F : List Addr) : Prop where
  rep : Reps K H ds vs F
  nd : F.Nodup
  ow : ∀ a ∈ F, (c.O0 a ∨ Fr c.T c.H0 a) ∧ Mut (H a) ∧ ¬ c.B a
  dj : ∀ i m e, ρ[i]? = some (some (m, e)) → m ≠ Fl.bor → ∀ a ∈ F, a ∉ fp i
structure Val (K : PySem.W.Frag) (c : Ct) (H : Hp) (ρ : Env) (fp : Nat → List Addr) (d : D) (v : V) (F : List Addr) : Prop where
  rep : Rep K H d v F
  nd : F.Nodup
  ow : ∀ a ∈ F, (c.O0 a ∨ Fr c.T c.H0 a) ∧ Mut (H a) ∧ ¬ c.B a
  dj : ∀ i m e, ρ[i]? = some (some (m, e)) → m ≠ Fl.bor → ∀ a ∈ F, a ∉ fp i
/-- what the state owns -/
def Ow (ρ : Env) (fp : Nat → List Addr) (a : Addr) : Prop := ∃ i m d, ρ[i]? = some (some (m, d)) ∧ m ≠ Fl.bor ∧ a ∈ fp i
section
variable {K : PySem.W.Frag} {c : Ct} {σ σ' : L2.St} {H H' : Hp} {ρ ρ' : Env} {fp fp' : Nat → List Addr}
theorem Val.one {d : D} {v : V} {F : List Addr} (x : Val K c H ρ fp d v F) : Vals' K c H ρ fp [d] [v] F := ⟨Reps.one x.rep, x.nd, x.ow, x.dj⟩
theorem Vals'.head {d : D} {ds : List D} {vs : List V} {F : List Addr} (x : Vals' K c H ρ fp (d :: ds) vs F) : ∃ v vr F1 F2, vs = v :: vr ∧ F = F1 ++ F2 ∧ Val K c H ρ fp d v F1 ∧ Vals' K c H ρ fp ds vr F2 ∧ ∀ a ∈ F1, a ∉ F2 := by
  obtain ⟨v, vr, F1, F2, rfl, rfl, r1, r2⟩ := x.rep
  obtain ⟨n1, n2, n3⟩ := List.nodup_append.mp x.nd
  exact ⟨v, vr, F1, F2, rfl, rfl, ⟨r1, n1, fun a ha => x.ow a (List.mem_append_left _ ha), fun i m e q hm a ha => x.dj i m e q hm a (List.mem_append_left _ ha)⟩,
    ⟨r2, n2, fun a ha => x.ow a (List.mem_append_right _ ha), fun i m e q hm a ha => x.dj i m e q hm a (List.mem_append_right _ ha)⟩, fun a h1 h2 => n3 a h1 a h2 rfl⟩
theorem Vals'.cons {d : D} {ds : List D} {v : V} {vs : List V} {F G : List Addr} (x : Val K c H ρ fp d v F) (y : Vals' K c H ρ fp ds vs G) (n : ∀ a ∈ F, a ∉ G) : Vals' K c H ρ fp (d :: ds) (v :: vs) (F ++ G) :=
  ⟨⟨v, vs, F, G, rfl, rfl, x.rep, y.rep⟩, List.nodup_append.mpr ⟨x.nd, y.nd, fun a ha b hb e => n a ha (e ▸ hb)⟩, fun a ha => (List.mem_append.mp ha).elim (x.ow a) (y.ow a),
    fun i m e q hm a ha => (List.mem_append.mp ha).elim (x.dj i m e q hm a) (y.dj i m e q hm a)⟩
theorem Ok.nf (h : Ok K c σ H ρ fp) {a : Addr} (x : c.B a) : ¬ Fr c.T H a := by
  obtain ⟨h1, h2⟩ := h.bt a x
  exact h.frm.there a h1 h2
theorem Ok.there (h : Ok K c σ H ρ fp) {a : Addr} (x : c.B a) : H a ≠ none := fun z => h.nf x (.inl z)
theorem Ok.same (h : Ok K c σ H ρ fp) (s : Same H H') : Ok K c σ H' ρ fp where
  len := h.len
  rep := fun i m d e => let ⟨v, a, b, p⟩ := h.rep i m d e; ⟨v, a, b.same s, p⟩
  nd := fun i m d e n => ⟨(h.nd i m d e n).1, fun a ha => let ⟨x, y, z⟩ := (h.nd i m d e n).2 a ha; ⟨x, Mut.keep y s, z⟩⟩
  bo := h.bo
  dj := h.dj
  frm := h.frm.andSame s
  bt := h.bt
  tb := h.tb
  tg := h.tg
abbrev sub (c : Ct) (H : Hp) (ρ : Env) (fp : Nat → List Addr) : Ct := ⟨H, Ow ρ fp, c.pv, c.B, c.T⟩
theorem Ok.self (h : Ok K c σ H ρ fp) : Ok K (sub c H ρ fp) σ H ρ fp where
  len := h.len
  rep := h.rep
  nd := fun i m d e n => ⟨(h.nd i m d e n).1, fun a ha => ⟨.inl ⟨i, m, d, e, n, ha⟩, ((h.nd i m d e n).2 a ha).2⟩⟩
  bo := h.bo
  dj := h.dj
  frm := .of (fun a ⟨i, m, d, e, n, ha⟩ => ((h.nd i m d e n).2 a ha).2.1) fun a o e _ => e
  bt := fun a x => ⟨h.nf x, fun ⟨i, m, d, e, n, ha⟩ => ((h.nd i m d e n).2 a ha).2.2 x⟩
  tb := h.frm.tab h.tb
  tg := h.tg
theorem sub_owF (h : Ok K c σ H ρ fp) {a : Addr} (x : Ow ρ fp a ∨ Fr c.T H a) : c.O0 a ∨ Fr c.T c.H0 a := by
  rcases x with ⟨i, m, d, e, n, ha⟩ | x
  · exact ((h.nd i m d e n).2 a ha).1
  · by_cases q : Fr c.T c.H0 a
    · exact .inr q
    · by_cases z : c.O0 a
      · exact .inl z
      · exact absurd x (h.frm.there a q z)
theorem sub_ow (h : Ok K c σ H ρ fp) {a : Addr} (x : Ow ρ fp a ∨ H a = none) : c.O0 a ∨ Fr c.T c.H0 a := sub_owF h (x.imp id .inl)
theorem Ok.trans (h : Ok K c σ H ρ fp) (h' : Ok K (sub c H ρ fp) σ' H' ρ' fp') : Ok K c σ' H' ρ' fp' where
  len := h'.len
  rep := h'.rep
  nd := fun i m d e n => ⟨(h'.nd i m d e n).1, fun a ha => ⟨sub_owF h ((h'.nd i m d e n).2 a ha).1, ((h'.nd i m d e n).2 a ha).2⟩⟩
  bo := h'.bo
  dj := h'.dj
  frm := h.frm.comp h'.frm fun a ⟨i, m, d, e1, n1, ha⟩ => ((h.nd i m d e1 n1).2 a ha).1
  bt := h.bt
  tb := h.tb
  tg := h'.tg
theorem Val.trans {d : D} {v : V} {F : List Addr} (h : Ok K c σ H ρ fp) (x : Val K (sub c H ρ fp) H' ρ' fp' d v F) : Val K c H' ρ' fp' d v F :=
  ⟨x.rep, x.nd, fun a ha => ⟨sub_owF h (x.ow a ha).1, (x.ow a ha).2⟩, x.dj⟩
theorem Vals'.trans {d : List D} {v : List V} {F : List Addr} (h : Ok K c σ H ρ fp) (x : Vals' K (sub c H ρ fp) H' ρ' fp' d v F) : Vals' K c H' ρ' fp' d v F :=
  ⟨x.rep, x.nd, fun a ha => ⟨sub_owF h (x.ow a ha).1, (x.ow a ha).2⟩, x.dj⟩
/-- earlier values beside a later state -/
theorem Val.later {d : D} {v : V} {F : List Addr} (h : Ok K c σ H ρ fp) (x : Val K c H ρ fp d v F) (h' : Ok K (sub c H ρ fp) σ' H' ρ' fp') : Val K c H' ρ' fp' d v F := by
  have nO : ∀ a ∈ F, ¬ Ow ρ fp a := fun a ha ⟨i, m, e, e1, n1, hi⟩ => x.dj i m e e1 n1 a ha hi
  refine ⟨x.rep.frm h'.frm nO, x.nd, fun a ha => ⟨(x.ow a ha).1, ?_, (x.ow a ha).2.2⟩, fun i m e e1 hm a ha hi => ?_⟩
  · have m := (x.ow a ha).2.1
    cases q : H a with
    | none => rw [q] at m; exact m.elim
    | some o => rw [q] at m; rw [h'.frm.keep q m.nt (nO a ha)]; exact m
  · rcases ((h'.nd i m e e1 hm).2 a hi).1 with z | z
    · exact nO a ha z
    · exact x.rep.nf a ha z
/-- later values are others -/
theorem Val.apart {d : D} {v : V} {F : List Addr} {G : List Addr} (x : Val K c H ρ fp d v F) (ow : ∀ a ∈ G, (Ow ρ fp a ∨ Fr c.T H a)) : ∀ a ∈ F, a ∉ G := fun a ha hg => by
  rcases ow a hg with ⟨i, m, e, e1, n1, hi⟩ | z
  · exact x.dj i m e e1 n1 a ha hi
  · exact x.rep.nf a ha z
/-- a value is given to a name -/
theorem Ok.put {d : D} {v : V} {F : List Addr} {i : Nat} (h : Ok K c σ H ρ fp) (x : Val K c H (ρ.set i none) fp d v F) (hi : i < ρ.length) :
    Ok K c (σ.set i (some v)) H (ρ.set i (some (Fl.own, d))) (fun j => if j = i then F else fp j) := by
  have hiσ : i < σ.length := by rw [← h.len]; exact hi
  have low : ∀ j m e, j ≠ i → (ρ.set i (some (Fl.own, d)))[j]? = some (some (m, e)) → ρ[j]? = some (some (m, e)) := fun j m e n q => by
    rw [List.getElem?_set_ne (Ne.symm n)] at q; exact q
  have low' : ∀ j m e, j ≠ i → ρ[j]? = some (some (m, e)) → (ρ.set i none)[j]? = some (some (m, e)) := fun j m e n q => by
    rw [List.getElem?_set_ne (Ne.symm n)]; exact q
  have at' : ∀ m e, (ρ.set i (some (Fl.own, d)))[i]? = some (some (m, e)) → m = Fl.own ∧ e = d := fun m e q => by
    rw [List.getElem?_set_self hi] at q; cases q; exact ⟨rfl, rfl⟩
  refine ⟨by rw [List.length_set, List.length_set]; exact h.len, fun j m e q => ?_, fun j m e q n => ?_, fun j e q => ?_, fun j l m e n g ne q hm q2 hn a ha hl => ?_, h.frm, h.bt, h.tb, fun j P e q => h.tg j P e (low j _ e (fun z => by subst z; cases (at' _ e q).1) q)⟩
  · by_cases hj : j = i
    · subst hj
      obtain ⟨rfl, rfl⟩ := at' m e q
      exact ⟨v, List.getElem?_set_self hiσ, by rw [if_pos rfl]; exact x.rep, fun z => absurd rfl z⟩
    · obtain ⟨w, a, b, p⟩ := h.rep j m e (low j m e hj q)
      exact ⟨w, by rw [List.getElem?_set_ne (Ne.symm hj)]; exact a, by rw [if_neg hj]; exact b, p⟩
  · by_cases hj : j = i
    · subst hj
      rw [if_pos rfl]; exact ⟨x.nd, x.ow⟩
    · rw [if_neg hj]; exact h.nd j m e (low j m e hj q) n
  · by_cases hj : j = i
    · subst hj
      cases (at' _ e q).1
    · rw [if_neg hj]; exact h.bo j e (low j _ e hj q)
  · by_cases hj : j = i
    · subst hj
      rw [if_pos rfl] at ha
      rw [if_neg (Ne.symm ne)] at hl
      exact x.dj l n g (low' l n g (Ne.symm ne) (low l n g (Ne.symm ne) q2)) hn a ha hl
    · rw [if_neg hj] at ha
      by_cases hl' : l = i
      · subst hl'
        rw [if_pos rfl] at hl
        exact x.dj j m e (low' j m e hj (low j m e hj q)) hm a hl ha
      · rw [if_neg hl'] at hl
        exact h.dj j l m e n g ne (low j m e hj q) hm (low l n g hl' q2) hn a ha hl
theorem drop_low {i j : Nat} {m : Fl} {e : D} (q : (ρ.set i none)[j]? = some (some (m, e))) : ρ[j]? = some (some (m, e)) ∧ j ≠ i := by
  by_cases hj : i = j
  · subst hj
    rw [List.getElem?_set] at q
    split at q
    · split at q <;> cases q
    · exact ⟨q, by assumption⟩
  · rw [List.getElem?_set_ne hj] at q; exact ⟨q, Ne.symm hj⟩
/-- a name is forgotten -/
theorem Ok.drop {i : Nat} (h : Ok K c σ H ρ fp) : Ok K c σ H (ρ.set i none) fp :=
  ⟨by rw [List.length_set]; exact h.len, fun j m e q => h.rep j m e (drop_low q).1, fun j m e q => h.nd j m e (drop_low q).1, fun j e q => h.bo j e (drop_low q).1, fun j l m e n g ne q hm q2 => h.dj j l m e n g ne (drop_low q).1 hm (drop_low q2).1, h.frm, h.bt, h.tb, fun j P e q => h.tg j P e (drop_low q).1⟩
theorem Val.drop {d : D} {v : V} {F : List Addr} {i : Nat} (x : Val K c H ρ fp d v F) : Val K c H (ρ.set i none) fp d v F :=
  ⟨x.rep, x.nd, x.ow, fun j m e q => x.dj j m e (drop_low q).1⟩
theorem Vals'.drop {d : List D} {v : List V} {F : List Addr} {i : Nat} (x : Vals' K c H ρ fp d v F) : Vals' K c H (ρ.set i none) fp d v F :=
  ⟨x.rep, x.nd, x.ow, fun j m e q => x.dj j m e (drop_low q).1⟩
/-- an own name's value goes -/
theorem Ok.take {i : Nat} {m : Fl} {d : D} (h : Ok K c σ H ρ fp) (e : ρ[i]? = some (some (m, d))) (hm : m ≠ Fl.bor) : ∃ v, σ[i]? = some (some v) ∧ Val K c H (ρ.set i none) fp d v (fp i) := by
  obtain ⟨v, a, b, _⟩ := h.rep i m d e
  exact ⟨v, a, b, (h.nd i m d e hm).1, (h.nd i m d e hm).2, fun j n g q hn x hx => h.dj i j m d n g (Ne.symm (drop_low q).2) e hm (drop_low q).1 hn x hx⟩
/-- a fresh value -/
theorem Ok.val {d : D} {v : V} {F : List Addr} (h : Ok K c σ H ρ fp) (r : Rep K H' d v F) (n : New H H' F) : Val K c H' ρ fp d v F := by
  refine ⟨r, n.nd, fun a ha => ⟨sub_ow h (.inr (n.new a ha)), n.mu a ha, fun z => h.there z (n.new a ha)⟩, fun i m e q hm a ha hi => ?_⟩
  obtain ⟨w, _, b, _⟩ := h.rep i m e q
  exact b.there a hi (n.new a ha)
theorem Ok.len_lt {i : Nat} {x : Slt} (e : ρ[i]? = some x) : i < ρ.length := (List.getElem?_eq_some_iff.mp e).1
end
def Sees (K : PySem.W.Frag) (σ : L2.St) (H : Hp) (ρ : Env) : Prop := ρ.length = σ.length ∧ ∀ (i : Nat) m d, ρ[i]? = some (some (m, d)) → ∃ v F, σ[i]? = some (some v) ∧ Rep K H d v F
theorem Ok.sees {K : PySem.W.Frag} {c : Ct} {σ : L2.St} {H : Hp} {ρ : Env} {fp : Nat → List Addr} (h : Ok K c σ H ρ fp) : Sees K σ H ρ := ⟨h.len, fun i m d e => let ⟨v, a, b, _⟩ := h.rep i m d e; ⟨v, _, a, b⟩⟩
theorem Sees.same {K : PySem.W.Frag} {σ : L2.St} {H H' : Hp} {ρ : Env} (h : Sees K σ H ρ) (s : Same H H') : Sees K σ H' ρ := ⟨h.1, fun i m d e => let ⟨v, F, a, b⟩ := h.2 i m d e; ⟨v, F, a, b.same s⟩⟩
/-! ### the readings -/
def tP (K : PySem.W.Frag) (own : Bool) (f : EX) : TE := fun σ H Q => ∃ ρ d, Sees K σ H ρ ∧ f ρ = some d ∧ ∀ v H' F, Same H H' → Rep K H' d v F → (own = true → New H H' F) → Q v H'
def tPs (K : PySem.W.Frag) (own : Bool) (f : EXs) : TA := fun σ H Q => ∃ ρ ds, Sees K σ H ρ ∧ f ρ = some ds ∧ ∀ vs H' F, Same H H' → Reps K H' ds vs F → (own = true → New H H' F) → Q vs H'
/-- a pure test -/
def tPT (K : PySem.W.Frag) (f : Env → Option Bool) : TT := fun σ H Q => ∃ ρ b, Sees K σ H ρ ∧ f ρ = some b ∧ ∀ H', Same H H' → Q b H'
def tM (K : PySem.W.Frag) (f : EM) : TE := fun σ H Q => ∃ c ρ fp d ρ', Ok K c σ H ρ fp ∧ f ρ = some (d, ρ') ∧ ∀ v H' fp' F, Ok K c σ H' ρ' fp' → Val K c H' ρ' fp' d v F → Q v H'
def tT (K : PySem.W.Frag) (f : ET) : TT := fun σ H Q => ∃ c ρ fp b ρ', Ok K c σ H ρ fp ∧ f ρ = some (b, ρ') ∧ ∀ H' fp', Ok K c σ H' ρ' fp' → Q b H'
def OutOk (K : PySem.W.Frag) (c : Ct) (E : Ends) : Out → Prop
  | .nx ρ' => ∀ σ' H' fp', Ok K c σ' H' ρ' fp' → E.nx σ' H'
  | .bk ρ' => ∀ σ' H' fp', Ok K c σ' H' ρ' fp' → E.bk σ' H'
  | .ct ρ' => ∀ σ' H' fp', Ok K c σ' H' ρ' fp' → E.ct σ' H'
  | .rt d ρ' => ∀ v σ' H' fp' F, Ok K c σ' H' ρ' fp' → Val K c H' ρ' fp' d v F → E.rt v H'
def tS (K : PySem.W.Frag) (g : ES) : TS := fun E σ H => ∃ c ρ fp out, Ok K c σ H ρ fp ∧ g ρ = some out ∧ OutOk K c E out
abbrev DP (X : Cx) (e : Expr) (f : EX) : Prop := PE X e (tP X.K true f)
abbrev DB (X : Cx) (e : Expr) (f : EX) : Prop := PE X e (tP X.K false f)
abbrev DM (X : Cx) (e : Expr) (f : EM) : Prop := PE X e (tM X.K f)
abbrev DT (X : Cx) (e : Expr) (f : ET) : Prop := PT X e (tT X.K f)
abbrev DPT (X : Cx) (e : Expr) (f : Env → Option Bool) : Prop := PT X e (tPT X.K f)
abbrev DS (X : Cx) (s : Stmt) (g : ES) : Prop := PS X s (tS X.K g)
abbrev DSs (X : Cx) (s : List Stmt) (g : ES) : Prop := PSs X s (tS X.K g)
theorem _root_.L2.PE.imp {X : Cx} {e : Expr} {t t' : TE} (h : PE X e t) (k : ∀ σ H Q, t' σ H Q → t σ H Q) : PE X e t' := ⟨fun pins s σ H Q I q => h.run pins s σ H Q I (k σ H Q q)⟩
theorem _root_.L2.PT.imp {X : Cx} {e : Expr} {t t' : TT} (h : PT X e t) (k : ∀ σ H Q, t' σ H Q → t σ H Q) : PT X e t' := ⟨fun pins s σ H Q I q => h.run pins s σ H Q I (k σ H Q q)⟩
theorem _root_.L2.PW.imp {X : Cx} {e : Expr} {t t' : TT} (h : PW X e t) (k : ∀ σ H Q, t' σ H Q → t σ H Q) : PW X e t' := ⟨fun wh pins s σ H Q I q => h.run wh pins s σ H Q I (k σ H Q q)⟩
theorem _root_.L2.PA.imp {X : Cx} {e : List Expr} {t t' : TA} (h : PA X e t) (k : ∀ σ H Q, t' σ H Q → t σ H Q) : PA X e t' := ⟨fun pos pins s σ H Q I q => h.run pos pins s σ H Q I (k σ H Q q)⟩
theorem _root_.L2.PS.imp {X : Cx} {e : Stmt} {t t' : TS} (h : PS X e t) (k : ∀ E σ H, t' E σ H → t E σ H) : PS X e t' := ⟨fun pins s σ H E I q => h.run pins s σ H E I (k E σ H q)⟩
theorem _root_.L2.PSs.imp {X : Cx} {e : List Stmt} {t t' : TS} (h : PSs X e t) (k : ∀ E σ H, t' E σ H → t E σ H) : PSs X e t' := ⟨fun pins s σ H E I q => h.run pins s σ H E I (k E σ H q)⟩
/-! ### pure expressions -/
section
variable {X : Cx} {a b c : Expr} {f g h : EX} {pos : Pos}
theorem p_b (ha : DP X a f) : DB X a f := ha.imp fun σ H Q ⟨ρ, d, s, e, k⟩ => ⟨ρ, d, s, e, fun v H' F sm r n => k v H' F sm r fun z => by cases z⟩
/-- a plain value that needs no heap -/
def xVar (i : Nat) : EX := fun ρ => match ρ[i]? with
  | some (some (_, d)) => some d
  | _ => none
/-- .. that nobody can change -/
def xPure (f : EX) : EX := fun ρ => (f ρ).bind fun d => if pure d = true then some d else none
theorem xVar_some {ρ : Env} {i : Nat} {d : D} (e : xVar i ρ = some d) : ∃ m, ρ[i]? = some (some (m, d)) := by
  unfold xVar at e
  split at e
  · rename_i m d' q
    cases e
    exact ⟨m, q⟩
  · cases e
theorem xPure_some {ρ : Env} {d : D} (e : xPure f ρ = some d) : f ρ = some d ∧ pure d = true := by
  unfold xPure at e
  cases q : f ρ with
  | none => rw [q] at e; cases e
  | some x =>
    rw [q] at e
    simp only [Option.bind_some] at e
    split at e
    · cases e
      exact ⟨rfl, by assumption⟩
    · cases e
theorem b_var {i : Nat} (ha : PE X a (tVar i)) : DB X a (xVar i) := ha.imp fun σ H Q ⟨ρ, d, s, e, k⟩ => by
  obtain ⟨m, q⟩ := xVar_some e
  obtain ⟨v, F, h1, h2⟩ := s.2 i m d q
  exact ⟨v, h1, k v H F (Same.refl H) h2 fun z => by cases z⟩
theorem p_pure (ha : DB X a f) : DP X a (xPure f) := ha.imp fun σ H Q ⟨ρ, d, s, e, k⟩ => by
  obtain ⟨e1, e2⟩ := xPure_some e
  refine ⟨ρ, d, s, e1, fun v H' F sm r _ => k v H' F sm r fun _ => ?_⟩
  have z := r.nil e2
  subst z
  exact New.nil
theorem p_var {i : Nat} (ha : PE X a (tVar i)) : DP X a (xPure (xVar i)) := p_pure (b_var ha)
def xC (d : D) : EX := fun _ => some d
/-- a constant -/
theorem p_const {v : V} {d : D} (ha : PE X a (tC v)) (hr : ∀ H, Rep X.K H d v []) : DP X a (xC d) := ha.imp fun σ H Q ⟨ρ, d', s, e, k⟩ => by
  cases e
  exact k v H [] (Same.refl H) (hr H) fun _ => New.nil
theorem p_int {i j} : DP X (.Constant (.int i) j pos) (xC (.int i)) := p_const pe_int fun _ => ⟨rfl, rfl⟩
theorem p_bl {b j} : DP X (.Constant (.bool b) j pos) (xC (.bl b)) := p_const pe_bl fun _ => ⟨rfl, rfl⟩
/-! two-place operations -/
def OpD (K : PySem.W.Frag) (r : R2) (g : D → D → Option D) : Prop := ∀ H d1 d2 v1 v2 F1 F2 d Q, Rep K H d1 v1 F1 → Rep K H d2 v2 F2 → g d1 d2 = some d →
  (∀ v H' F, Same H H' → Rep K H' d v F → New H H' F → Q v H') → r v1 v2 H Q
def xOp (o : D → D → Option D) (f g : EX) : EX := fun ρ => (f ρ).bind fun x => (g ρ).bind fun y => o x y
theorem xOp_some {o : D → D → Option D} {ρ : Env} {d : D} (e : xOp o f g ρ = some d) : ∃ x y, f ρ = some x ∧ g ρ = some y ∧ o x y = some d := by
  unfold xOp at e
  obtain ⟨x, h1, e⟩ := Option.bind_eq_some_iff.mp e
  obtain ⟨y, h2, e⟩ := Option.bind_eq_some_iff.mp e
  exact ⟨x, y, h1, h2, e⟩
theorem tOp_of {r : R2} {o : D → D → Option D} (ho : OpD X.K r o) (σ : L2.St) (H : Hp) (Q : VK) (h : tP X.K true (xOp o f g) σ H Q) : tOp r (tP X.K false f) (tP X.K false g) σ H Q := by
  obtain ⟨ρ, d, s, e, k⟩ := h
  obtain ⟨x, y, e1, e2, e3⟩ := xOp_some e
  exact ⟨ρ, x, s, e1, fun v H1 F1 s1 r1 _ => ⟨ρ, y, s.same s1, e2, fun w H2 F2 s2 r2 _ => ho H2 x y v w F1 F2 d Q (r1.same s2) r2 e3 fun u H3 F3 s3 r3 n3 => k u H3 F3 (s1.trans (s2.trans s3)) r3 fun _ => n3.of (s1.trans s2)⟩⟩
theorem p_op {op : Operator} {r : R2} {o : D → D → Option D} (hr : OpR X (binaryOp op) r) (ho : OpD X.K r o) (ha : DB X a f) (hb : DB X b g) : DP X (.BinOp a op b pos) (xOp o f g) := (pe_op hr ha hb).imp (tOp_of ho)
theorem p_cmp {op : CmpOp} {r : R2} {o : D → D → Option D} (hr : OpR X (compareOp op) r) (ho : OpD X.K r o) (ha : DB X a f) (hb : DB X b g) (hm : behindInMarks op b = false) : DP X (.Compare a [op] [b] pos) (xOp o f g) := (pe_cmpR hr ha hb hm).imp (tOp_of ho)
/-- a pure bool as a test -/
def xBool (f : EX) : Env → Option Bool := fun ρ => (f ρ).bind fun d => match d with
  | .bl k => some k
  | _ => none
theorem xBool_some {ρ : Env} {k : Bool} (e : xBool f ρ = some k) : f ρ = some (.bl k) := by
  unfold xBool at e
  obtain ⟨d, h1, e⟩ := Option.bind_eq_some_iff.mp e
  cases d <;> cases e
  exact h1
theorem q_cmp {op : CmpOp} {r : R2} {o : D → D → Option D} (hr : OpR X (compareOp op) r) (ho : OpD X.K r o) (ha : DB X a f) (hb : DB X b g) (hm : behindInMarks op b = false) : DPT X (.Compare a [op] [b] pos) (xBool (xOp o f g)) :=
  (pt_cmpR hr ha hb hm).imp fun σ H Q ⟨ρ, k, s, e, q⟩ => tOp_of ho σ H _ ⟨ρ, _, s, xBool_some e, fun v H' F sm r n => ⟨k, r.1, q H' sm⟩⟩
theorem q_val (ha : DB X a f) (he : ∀ whole, isTrue a X.env whole = (do let v ← whole; standAt a.pos; holding [v] (truthy v)) := by intro _; rfl) : DPT X a (xBool f) :=
  (pt_val ha he).imp fun σ H Q ⟨ρ, k, s, e, q⟩ => ⟨ρ, _, s, xBool_some e, fun v H' F sm r n => ⟨k, r.1, q H' sm⟩⟩
/-! chains: a op b op' c -/
def xChain (o o' : D → D → Option D) (f g h : EX) : EX := fun ρ => (f ρ).bind fun x => (g ρ).bind fun y => (o x y).bind fun z => match z with
  | .bl true => (h ρ).bind fun w => o' y w
  | .bl false => some (.bl false)
  | _ => none
theorem tChain_of {r r' : R2} {o o' : D → D → Option D} (ho : OpD X.K r o) (ho' : OpD X.K r' o') (σ : L2.St) (H : Hp) (Q : VK) (hh : tP X.K true (xChain o o' f g h) σ H Q) : tChain r r' (tP X.K false f) (tP X.K false g) (tP X.K false h) σ H Q := by
  obtain ⟨ρ, d, s, e, k⟩ := hh
  unfold xChain at e
  obtain ⟨x, e1, e⟩ := Option.bind_eq_some_iff.mp e
  obtain ⟨y, e2, e⟩ := Option.bind_eq_some_iff.mp e
  obtain ⟨z, e3, e⟩ := Option.bind_eq_some_iff.mp e
  refine ⟨ρ, x, s, e1, fun v H1 F1 s1 r1 _ => ⟨ρ, y, s.same s1, e2, fun w H2 F2 s2 r2 _ => ho H2 x y v w F1 F2 z _ (r1.same s2) r2 e3 fun u H3 F3 s3 r3 n3 => ?_⟩⟩
  cases z with
  | bl b' =>
    refine ⟨b', r3.1, ?_⟩
    cases b' with
    | true =>
      obtain ⟨t, e4, e⟩ := Option.bind_eq_some_iff.mp e
      refine iteT ⟨ρ, t, s.same (s1.trans (s2.trans s3)), e4, fun p H4 F4 s4 r4 _ => ho' H4 y t w p F2 F4 d Q (r2.same (s3.trans s4)) r4 e fun u' H5 F5 s5 r5 n5 => k u' H5 F5 (s1.trans (s2.trans (s3.trans (s4.trans s5)))) r5 fun _ => n5.of (s1.trans (s2.trans (s3.trans s4)))⟩
    | false =>
      cases e
      exact iteF (k _ H3 [] (s1.trans (s2.trans s3)) ⟨rfl, rfl⟩ fun _ => New.nil)
  | _ => cases e
theorem p_chain {op op' : CmpOp} {r r' : R2} {o o' : D → D → Option D} (hr : OpR X (compareOp op) r) (ho : OpD X.K r o) (hr' : OpR X (compareOp op') r') (ho' : OpD X.K r' o') (ha : DB X a f) (hb : DB X b g) (hc : DB X c h)
    (hm : lastMarks [op, op'] [b, c] = false := by with_unfolding_all rfl) : DP X (.Compare a [op, op'] [b, c] pos) (xChain o o' f g h) := (pe_chain hr hr' ha hb hc hm).imp (tChain_of ho ho')
theorem q_chain {op op' : CmpOp} {r r' : R2} {o o' : D → D → Option D} (hr : OpR X (compareOp op) r) (ho : OpD X.K r o) (hr' : OpR X (compareOp op') r') (ho' : OpD X.K r' o') (ha : DB X a f) (hb : DB X b g) (hc : DB X c h)
    (hm : lastMarks [op, op'] [b, c] = false := by with_unfolding_all rfl) : DPT X (.Compare a [op, op'] [b, c] pos) (xBool (xChain o o' f g h)) :=
  (pt_chain hr hr' ha hb hc hm).imp fun σ H Q ⟨ρ, k, s, e, q⟩ => tChain_of ho ho' σ H _ ⟨ρ, _, s, xBool_some e, fun v H' F sm r n => ⟨k, r.1, q H' sm⟩⟩
/-! and, or, not -/
def xAnd (f g : EX) : EX := fun ρ => (f ρ).bind fun x => match x with
  | .bl true => g ρ
  | .bl false => some (.bl false)
  | _ => none
def xOr (f g : EX) : EX := fun ρ => (f ρ).bind fun x => match x with
  | .bl false => g ρ
  | .bl true => some (.bl true)
  | _ => none
def xNot (f : EX) : EX := fun ρ => (f ρ).bind fun x => match x with
  | .bl k => some (.bl (!k))
  | _ => none
variable {rest : List Expr}
theorem p_and (ha : DB X a f) (hb : DP X (.BoolOp .And (b :: rest) pos) g) : DP X (.BoolOp .And (a :: b :: rest) pos) (xAnd f g) := (pe_and ha hb).imp fun σ H Q ⟨ρ, d, s, e, k⟩ => by
  obtain ⟨x, e1, e⟩ := Option.bind_eq_some_iff.mp e
  refine ⟨ρ, x, s, e1, fun v H1 F1 s1 r1 _ => ?_⟩
  cases x with
  | bl k1 =>
    refine ⟨k1, r1.1, ?_⟩
    cases k1 with
    | true => exact iteT ⟨ρ, d, s.same s1, e, fun v2 H2 F2 s2 r2 n2 => k v2 H2 F2 (s1.trans s2) r2 fun _ => (n2 rfl).of s1⟩
    | false => cases e; exact iteF (k _ H1 [] s1 ⟨rfl, rfl⟩ fun _ => New.nil)
  | _ => cases e
theorem p_one {op} (ha : DP X a f) : DP X (.BoolOp op [a] pos) f := pe_one ha
theorem p_not (ha : DB X a f) : DP X (.UnaryOp .Not a pos) (xNot f) := (pe_not ha).imp fun σ H Q ⟨ρ, d, s, e, k⟩ => by
  obtain ⟨x, e1, e⟩ := Option.bind_eq_some_iff.mp e
  refine ⟨ρ, x, s, e1, fun v H1 F1 s1 r1 _ => ?_⟩
  cases x with
  | bl k1 => cases e; exact ⟨k1, r1.1, k _ H1 [] s1 ⟨rfl, rfl⟩ fun _ => New.nil⟩
  | _ => cases e
/-! tests -/
abbrev QX := Env → Option Bool
variable {p q : QX}
def yAnd (p q : QX) : QX := fun ρ => (p ρ).bind fun k => if k = true then q ρ else some false
def yOr (p q : QX) : QX := fun ρ => (p ρ).bind fun k => if k = true then some true else q ρ
def yNot (p : QX) : QX := fun ρ => (p ρ).map not
theorem w_and1 (ha : DPT X a p) : PW X (.BoolOp .And [a] pos) (tPT X.K p) := pw_and1 ha
theorem w_or1 (ha : DPT X a p) : PW X (.BoolOp .Or [a] pos) (tPT X.K p) := pw_or1 ha
theorem w_and (ha : DPT X a p) (hb : PW X (.BoolOp .And (b :: rest) pos) (tPT X.K q)) : PW X (.BoolOp .And (a :: b :: rest) pos) (tPT X.K (yAnd p q)) := (pw_and ha hb).imp fun σ H Q ⟨ρ, d, s, e, k⟩ => by
  obtain ⟨x, e1, e⟩ := Option.bind_eq_some_iff.mp e
  refine ⟨ρ, x, s, e1, fun H1 s1 => ?_⟩
  cases x with
  | true => exact iteT ⟨ρ, d, s.same s1, e, fun H2 s2 => k H2 (s1.trans s2)⟩
  | false => cases e; exact iteF (k H1 s1)
theorem w_or (ha : DPT X a p) (hb : PW X (.BoolOp .Or (b :: rest) pos) (tPT X.K q)) : PW X (.BoolOp .Or (a :: b :: rest) pos) (tPT X.K (yOr p q)) := (pw_or ha hb).imp fun σ H Q ⟨ρ, d, s, e, k⟩ => by
  obtain ⟨x, e1, e⟩ := Option.bind_eq_some_iff.mp e
  refine ⟨ρ, x, s, e1, fun H1 s1 => ?_⟩
  cases x with
  | false => exact iteF ⟨ρ, d, s.same s1, e, fun H2 s2 => k H2 (s1.trans s2)⟩
  | true => cases e; exact iteT (k H1 s1)
theorem q_not (ha : DPT X a p) : DPT X (.UnaryOp .Not a pos) (yNot p) := (pt_not ha).imp fun σ H Q ⟨ρ, d, s, e, k⟩ => by
  obtain ⟨x, e1, rfl⟩ := Option.map_eq_some_iff.mp e
  exact ⟨ρ, x, s, e1, fun H1 s1 => k H1 s1⟩
def xIf (p : QX) (f g : EX) : EX := fun ρ => (p ρ).bind fun k => if k = true then f ρ else g ρ
/-! argument lists, displays -/
variable {es : List Expr} {fs : EXs}
def xsNil : EXs := fun _ => some []
def xsCons (f : EX) (fs : EXs) : EXs := fun ρ => (f ρ).bind fun x => (fs ρ).bind fun xs => some (x :: xs)
theorem a_nil {own : Bool} : PA X [] (tPs X.K own xsNil) := pa_nil.imp fun σ H Q ⟨ρ, d, s, e, k⟩ => by
  cases e
  exact k [] H [] (Same.refl H) ⟨rfl, rfl⟩ fun _ => New.nil
theorem a_cons {own : Bool} (ha : PE X a (tP X.K own f)) (hr : PA X es (tPs X.K own fs)) (hs : starEach (a :: es) X.env = (false, eval a X.env) :: starEach es X.env := by rfl) : PA X (a :: es) (tPs X.K own (xsCons f fs)) :=
  (pa_cons ha hr hs).imp fun σ H Q ⟨ρ, d, s, e, k⟩ => by
    obtain ⟨x, e1, e⟩ := Option.bind_eq_some_iff.mp e
    obtain ⟨xs, e2, e⟩ := Option.bind_eq_some_iff.mp e
    cases e
    exact ⟨ρ, x, s, e1, fun v H1 F1 s1 r1 n1 => ⟨ρ, xs, s.same s1, e2, fun vs H2 F2 s2 r2 n2 => k (v :: vs) H2 (F1 ++ F2) (s1.trans s2) ⟨v, vs, F1, F2, rfl, rfl, r1.same s2, r2⟩ fun z => New.append (K := X.K) (n1 z) (n2 z) s1 s2 r1.there⟩⟩
def small (n : Nat) : Bool := decide (n < sizeLine)
def xTup (fs : EXs) : EX := fun ρ => (fs ρ).bind fun xs => if xs.length ≤ sizeLine then some (.tup xs) else none
def xLst (fs : EXs) : EX := fun ρ => (fs ρ).bind fun xs => if xs.length ≤ sizeLine then some (.lst xs) else none
theorem p_tup {x1} (h : PA X es (tPs X.K true fs)) : DP X (.Tuple es x1 pos) (xTup fs) := (pe_tup h).imp fun σ H Q ⟨ρ, d, s, e, k⟩ => by
  obtain ⟨xs, e1, e⟩ := Option.bind_eq_some_iff.mp e
  refine ⟨ρ, xs, s, e1, fun vs H1 F1 s1 r1 n1 => ?_⟩
  split at e
  · cases e
    rename_i hl
    refine ⟨by rw [r1.length]; exact hl, fun p hp => ?_⟩
    have sp : Same H1 (upd H1 p (.tup vs)) := same_upd hp
    exact k _ _ F1 (s1.trans sp) ⟨p, vs, rfl, upd_same, r1.same sp⟩ fun z => (n1 z).to sp
  · cases e
theorem p_lst (h : PA X es (tPs X.K true fs)) : DP X (.List es pos) (xLst fs) := (pe_lst h).imp fun σ H Q ⟨ρ, d, s, e, k⟩ => by
  obtain ⟨xs, e1, e⟩ := Option.bind_eq_some_iff.mp e
  refine ⟨ρ, xs, s, e1, fun vs H1 F1 s1 r1 n1 => ?_⟩
  split at e
  · cases e
    rename_i hl
    refine ⟨by rw [r1.length]; exact hl, fun p hp => ?_⟩
    have sp : Same H1 (upd H1 p (.lst vs)) := same_upd hp
    refine k _ _ (p :: F1) (s1.trans sp) ⟨p, vs, F1, rfl, .inl upd_same, rfl, r1.same sp⟩ fun z => ⟨List.nodup_cons.mpr ⟨fun hm => r1.there p hm hp, (n1 z).nd⟩, fun a ha => ?_, fun a ha => ?_⟩
    · rcases List.mem_cons.mp ha with rfl | ha
      · exact s1.free hp
      · exact (n1 z).new a ha
    · rcases List.mem_cons.mp ha with rfl | ha
      · rw [upd_same]; trivial
      · exact Mut.keep ((n1 z).mu a ha) sp
  · cases e
/-! built-in functions by values -/
def CallD (K : PySem.W.Frag) (r : List V → Hp → VK → Prop) (o : List D → Option D) : Prop := ∀ H ds vs F d Q, Reps K H ds vs F → o ds = some d →
  (∀ v H' F, Same H H' → Rep K H' d v F → New H H' F → Q v H') → r vs H Q
def xCall (o : List D → Option D) (fs : EXs) : EX := fun ρ => (fs ρ).bind o
theorem tCB_of {r : List V → Hp → VK → Prop} {o : List D → Option D} (ho : CallD X.K r o) (σ : L2.St) (H : Hp) (Q : VK) (h : tP X.K true (xCall o fs) σ H Q) : tCB r (tPs X.K false fs) σ H Q := by
  obtain ⟨ρ, d, s, e, k⟩ := h
  obtain ⟨xs, e1, e⟩ := Option.bind_eq_some_iff.mp e
  exact ⟨ρ, xs, s, e1, fun vs H1 F1 s1 r1 n1 => ho H1 xs vs F1 d Q r1 e fun u H3 F3 s3 r3 n3 => k u H3 F3 (s1.trans s3) r3 fun _ => n3.of s1⟩
variable {x : Str} {po : Pos} {e : Expr} {id T : String}
theorem p_callB {r : List V → Hp → VK → Prop} {o : List D → Option D} (hc : CallR X (.builtin id) r) (ho : CallD X.K r o) (hg : Gl X x) (hm : X.mg x = none) (hv : bootBuiltins x = some (.builtin id)) (ha : PA X (e :: es) (tPs X.K false fs)) (hn : x ≠ "__name__" := by decide) (hdb : (x == ("__debug__" : Str)) = false := by decide)
    (he : starEach (e :: es) X.env = (false, eval e X.env) :: starEach es X.env := by rfl) (hpl : (backTo pos (starEach es X.env)).any (·.1) = false := by rfl) : DP X (.Call (.Name x po) (e :: es) [] pos) (xCall o fs) :=
  (pe_callB hc hg hm hv ha hn hdb he hpl).imp (tCB_of ho)
theorem p_callTy {r : List V → Hp → VK → Prop} {o : List D → Option D} (hc : CallR X (.type T) r) (ho : CallD X.K r o) (hg : Gl X x) (hm : X.mg x = none) (hv : bootBuiltins x = some (.type T)) (ha : PA X (e :: es) (tPs X.K false fs)) (hn : x ≠ "__name__" := by decide) (hdb : (x == ("__debug__" : Str)) = false := by decide)
    (he : starEach (e :: es) X.env = (false, eval e X.env) :: starEach es X.env := by rfl) (hpl : (backTo pos (starEach es X.env)).any (·.1) = false := by rfl) : DP X (.Call (.Name x po) (e :: es) [] pos) (xCall o fs) :=
  (pe_callTy hc hg hm hv ha hn hdb he hpl).imp (tCB_of ho)
/-! own defs that change nothing -/
def spP (K : PySem.W.Frag) (n : Nat) (F : List D → Option D) : Sp := fun vs H Q _ => ∃ ds G d, ds.length = n ∧ Reps K H ds vs G ∧ F ds = some d ∧ ∀ v H' F', Same H H' → Rep K H' d v F' → New H H' F' → Q v H'
theorem p_call {n k : Nat} {F : List D → Option D} {fa : Addr} {fd : FuncData} {ps : List Str} (G : FnOk X.prog X.w X.K X.mg X.base CX0 k fa fd ps (spP X.K n F)) (hr : Room k X.A) (hg : Gl X x) (hm : X.mg x = some (.ref fa)) (hk : PySem.W.keepIn X.K (.ref fa) = true) (hb : Binds X.K fd ps []) (ha : PA X (e :: es) (tPs X.K false fs))
    (hn : ∀ ρ ds, fs ρ = some ds → ds.length = n) (hdb : (x == ("__debug__" : Str)) = false := by decide) (he : starEach (e :: es) X.env = (false, eval e X.env) :: starEach es X.env := by rfl) (hpl : (backTo pos (starEach es X.env)).any (·.1) = false := by rfl) : DP X (.Call (.Name x po) (e :: es) [] pos) (xCall F fs) :=
  (pe_call G hr hg hm hk hb .nil pass0 ha hdb he hpl).imp fun σ H Q ⟨ρ, d, s, q, k⟩ => by
    obtain ⟨xs, e1, q⟩ := Option.bind_eq_some_iff.mp q
    refine ⟨ρ, xs, s, e1, fun vs H1 F1 s1 r1 n1 => ⟨xs, F1, d, hn ρ xs e1, ?_, q, fun u H3 F3 s3 r3 n3 => k u H3 F3 (s1.trans s3) r3 fun _ => n3.of s1⟩⟩
    rw [List.append_nil]
    exact r1
theorem len_nil : ∀ ρ ds, xsNil ρ = some ds → ds.length = 0 := fun ρ ds e => by cases e; rfl
theorem len_cons {n : Nat} (h : ∀ ρ ds, fs ρ = some ds → ds.length = n) : ∀ ρ ds, xsCons f fs ρ = some ds → ds.length = n + 1 := fun ρ ds e => by
  obtain ⟨x, e1, e⟩ := Option.bind_eq_some_iff.mp e
  obtain ⟨xs, e2, e⟩ := Option.bind_eq_some_iff.mp e
  cases e
  rw [List.length_cons, h ρ xs e2]
end
end DL
namespace DL
open PySem PySem.Spec PyProof.Rows L2
section
variable {X : Cx} {a b : Expr} {f : EX} {m m1 m2 : EM} {pos : Pos} {es : List Expr}
/-! ### expressions that may change what the state owns -/
def tMs (K : PySem.W.Frag) (f : EMs) : TA := fun σ H Q => ∃ c ρ fp ds ρ', Ok K c σ H ρ fp ∧ f ρ = some (ds, ρ') ∧ ∀ vs H' fp' F, Ok K c σ H' ρ' fp' → Vals' K c H' ρ' fp' ds vs F → Q vs H'
def mP (f : EX) : EM := fun ρ => (f ρ).bind fun d => some (d, ρ)
theorem m_p (ha : DP X a f) : DM X a (mP f) := ha.imp fun σ H Q ⟨c, ρ, fp, d, ρ', h, e, k⟩ => by
  obtain ⟨x, e1, e⟩ := Option.bind_eq_some_iff.mp e
  cases e
  exact ⟨_, _, h.sees, e1, fun v H' F s r n => k v H' fp F (h.same s) (h.val r (n rfl))⟩
/-- an own name's value, taken from it -/
def mMove (i : Nat) : EM := fun ρ => match ρ[i]? with
  | some (some (.own, d)) => some (d, ρ.set i none)
  | _ => none
def msNil : EMs := fun ρ => some ([], ρ)
def msCons (m : EM) (ms : EMs) : EMs := fun ρ => (m ρ).bind fun x => (ms x.2).bind fun xs => some (x.1 :: xs.1, xs.2)
theorem ms_nil : PA X [] (tMs X.K msNil) := pa_nil.imp fun σ H Q ⟨c, ρ, fp, d, ρ', h, e, k⟩ => by
  cases e
  exact k [] H fp [] h ⟨⟨rfl, rfl⟩, List.nodup_nil, fun _ z => (by cases z), fun _ _ _ _ _ _ z => by cases z⟩
theorem ms_cons {ms : EMs} (ha : DM X a m) (hr : PA X es (tMs X.K ms)) (hs : starEach (a :: es) X.env = (false, eval a X.env) :: starEach es X.env := by rfl) : PA X (a :: es) (tMs X.K (msCons m ms)) :=
  (pa_cons ha hr hs).imp fun σ H Q ⟨c, ρ, fp, d, ρ', h, e, k⟩ => by
    obtain ⟨⟨x, ρ1⟩, e1, e⟩ := Option.bind_eq_some_iff.mp e
    obtain ⟨⟨xs, ρ2⟩, e2, e⟩ := Option.bind_eq_some_iff.mp e
    cases e
    refine ⟨c, ρ, fp, x, ρ1, h, e1, fun v H1 fp1 F1 h1 x1 => ⟨sub c H1 ρ1 fp1, ρ1, fp1, xs, ρ2, h1.self, e2, fun vs H2 fp2 F2 h2 x2 => ?_⟩⟩
    exact k (v :: vs) H2 fp2 (F1 ++ F2) (h1.trans h2) (Vals'.cons (x1.later h1 h2) (x2.trans h1) (x1.apart fun a ha => (x2.ow a ha).1))
def mTup (ms : EMs) : EM := fun ρ => (ms ρ).bind fun xs => if xs.1.length ≤ sizeLine then some (.tup xs.1, xs.2) else none
def mLst (ms : EMs) : EM := fun ρ => (ms ρ).bind fun xs => if xs.1.length ≤ sizeLine then some (.lst xs.1, xs.2) else none
theorem Vals'.same {K : PySem.W.Frag} {c : Ct} {H H' : Hp} {ρ : Env} {fp : Nat → List Addr} {d : List D} {v : List V} {F : List Addr} (x : Vals' K c H ρ fp d v F) (s : Same H H') : Vals' K c H' ρ fp d v F :=
  ⟨x.rep.same s, x.nd, fun a ha => ⟨(x.ow a ha).1, Mut.keep (x.ow a ha).2.1 s, (x.ow a ha).2.2⟩, x.dj⟩
theorem Val.same {K : PySem.W.Frag} {c : Ct} {H H' : Hp} {ρ : Env} {fp : Nat → List Addr} {d : D} {v : V} {F : List Addr} (x : Val K c H ρ fp d v F) (s : Same H H') : Val K c H' ρ fp d v F :=
  ⟨x.rep.same s, x.nd, fun a ha => ⟨(x.ow a ha).1, Mut.keep (x.ow a ha).2.1 s, (x.ow a ha).2.2⟩, x.dj⟩
theorem m_tup {x1} {ms : EMs} (h : PA X es (tMs X.K ms)) : DM X (.Tuple es x1 pos) (mTup ms) := (pe_tup h).imp fun σ H Q ⟨c, ρ, fp, d, ρ', h, e, k⟩ => by
  obtain ⟨⟨xs, ρ1⟩, e1, e⟩ := Option.bind_eq_some_iff.mp e
  refine ⟨c, ρ, fp, xs, ρ1, h, e1, fun vs H1 fp1 F1 h1 x1 => ?_⟩
  split at e
  · cases e
    rename_i hl
    refine ⟨by rw [x1.rep.length]; exact hl, fun p hp => ?_⟩
    have sp : Same H1 (upd H1 p (.tup vs)) := same_upd hp
    have x2 := x1.same sp
    exact k _ _ fp1 F1 (h1.same sp) ⟨⟨p, vs, rfl, upd_same, x2.rep⟩, x2.nd, x2.ow, x2.dj⟩
  · cases e
/-! operations: the first value is plain -/
def mOp (o : D → D → Option D) (m1 m2 : EM) : EM := fun ρ => (m1 ρ).bind fun x => if pure x.1 = true then (m2 x.2).bind fun y => (o x.1 y.1).bind fun z => some (z, y.2) else none
theorem tOpM_of {r : R2} {o : D → D → Option D} (ho : OpD X.K r o) (σ : L2.St) (H : Hp) (Q : VK) (h : tM X.K (mOp o m1 m2) σ H Q) : tOp r (tM X.K m1) (tM X.K m2) σ H Q := by
  obtain ⟨c, ρ, fp, d, ρ', h, e, k⟩ := h
  obtain ⟨⟨x, ρ1⟩, e1, e⟩ := Option.bind_eq_some_iff.mp e
  simp only at e
  split at e
  · rename_i px
    obtain ⟨⟨y, ρ2⟩, e2, e⟩ := Option.bind_eq_some_iff.mp e
    obtain ⟨z, e3, e⟩ := Option.bind_eq_some_iff.mp e
    cases e
    refine ⟨c, ρ, fp, x, ρ1, h, e1, fun v H1 fp1 F1 h1 x1 => ⟨sub c H1 ρ1 fp1, ρ1, fp1, y, ρ2, h1.self, e2, fun w H2 fp2 F2 h2 x2 => ?_⟩⟩
    have r1 := (x1.later h1 h2).rep
    exact ho H2 x y v w F1 F2 d Q r1 x2.rep e3 fun u H3 F3 s3 r3 n3 => k u H3 fp2 F3 ((h1.trans h2).same s3) ((h1.trans h2).val r3 n3)
  · cases e
theorem m_op {op : Operator} {r : R2} {o : D → D → Option D} (hr : OpR X (binaryOp op) r) (ho : OpD X.K r o) (ha : DM X a m1) (hb : DM X b m2) : DM X (.BinOp a op b pos) (mOp o m1 m2) := (pe_op hr ha hb).imp (tOpM_of ho)
theorem m_cmp {op : CmpOp} {r : R2} {o : D → D → Option D} (hr : OpR X (compareOp op) r) (ho : OpD X.K r o) (ha : DM X a m1) (hb : DM X b m2) (hm : behindInMarks op b = false) : DM X (.Compare a [op] [b] pos) (mOp o m1 m2) := (pe_cmpR hr ha hb hm).imp (tOpM_of ho)
/-! tests -/
def tP' (p : Env → Option Bool) : ET := fun ρ => (p ρ).bind fun k => some (k, ρ)
theorem t_p {p : Env → Option Bool} (h : DPT X a p) : DT X a (tP' p) := h.imp fun σ H Q ⟨c, ρ, fp, d, ρ', h, e, k⟩ => by
  obtain ⟨x, e1, e⟩ := Option.bind_eq_some_iff.mp e
  cases e
  exact ⟨_, _, h.sees, e1, fun H' s => k H' fp (h.same s)⟩
def mBool (m : EM) : ET := fun ρ => (m ρ).bind fun x => match x.1 with
  | .bl k => some (k, x.2)
  | _ => none
theorem mBool_some {ρ ρ' : Env} {k : Bool} (e : mBool m ρ = some (k, ρ')) : m ρ = some (.bl k, ρ') := by
  obtain ⟨⟨x, ρ1⟩, e1, e⟩ := Option.bind_eq_some_iff.mp e
  cases x <;> cases e
  exact e1
theorem t_cmp {op : CmpOp} {r : R2} {o : D → D → Option D} (hr : OpR X (compareOp op) r) (ho : OpD X.K r o) (ha : DM X a m1) (hb : DM X b m2) (hm : behindInMarks op b = false) : DT X (.Compare a [op] [b] pos) (mBool (mOp o m1 m2)) :=
  (pt_cmpR hr ha hb hm).imp fun σ H Q ⟨c, ρ, fp, k, ρ', h, e, q⟩ => tOpM_of ho σ H _ ⟨c, ρ, fp, _, ρ', h, mBool_some e, fun v H' fp' F h' x => ⟨k, x.rep.1, q H' fp' h'⟩⟩
def mNotT (t : ET) : ET := fun ρ => (t ρ).bind fun k => some (!k.1, k.2)
def mIf (t : ET) (m1 m2 : EM) : EM := fun ρ => (t ρ).bind fun k => if k.1 = true then m1 k.2 else m2 k.2
theorem m_if {q : Expr} {t : ET} (ht : DT X q t) (ha : DM X a m1) (hb : DM X b m2) : DM X (.IfExp q a b pos) (mIf t m1 m2) := (pe_ifExp ht ha hb).imp fun σ H Q ⟨c, ρ, fp, d, ρ', h, e, k⟩ => by
  obtain ⟨⟨x, ρ1⟩, e1, e⟩ := Option.bind_eq_some_iff.mp e
  refine ⟨c, ρ, fp, x, ρ1, h, e1, fun H1 fp1 h1 => ?_⟩
  cases x with
  | true => exact iteT ⟨c, ρ1, fp1, d, ρ', h1, e, k⟩
  | false => exact iteF ⟨c, ρ1, fp1, d, ρ', h1, e, k⟩
/-! ### statements -/
variable {st : Stmt} {rest : List Stmt} {g g1 g2 : ES}
def sNext : ES := fun ρ => some (.nx ρ)
def sSeq (g1 g2 : ES) : ES := fun ρ => (g1 ρ).bind fun o => match o with
  | .nx ρ' => g2 ρ'
  | o => some o
theorem s_nil : DSs X [] sNext := pss_nil.imp fun E σ H ⟨c, ρ, fp, out, h, e, k⟩ => by
  cases e
  exact k σ H fp h
theorem s_cons (h1 : DS X st g1) (h2 : DSs X rest g2) : DSs X (st :: rest) (sSeq g1 g2) := (pss_cons h1 h2).imp fun E σ H ⟨c, ρ, fp, out, h, e, k⟩ => by
  obtain ⟨o, e1, e⟩ := Option.bind_eq_some_iff.mp e
  refine ⟨c, ρ, fp, o, h, e1, ?_⟩
  cases o with
  | nx ρ' => exact fun σ' H' fp' h' => ⟨c, ρ', fp', out, h', e, k⟩
  | rt d ρ' => cases e; exact k
  | bk ρ' => cases e; exact k
  | ct ρ' => cases e; exact k
theorem s_one (h1 : DS X st g1) : DSs X [st] g1 := pss_one h1
def sBreak : ES := fun ρ => some (.bk ρ)
def sCont : ES := fun ρ => some (.ct ρ)
/-- what the proof never comes to (a raise) -/
def sNever : ES := fun _ => none
theorem s_never : DS X st sNever := ps_never.imp fun E σ H ⟨c, ρ, fp, out, h, e, k⟩ => by cases e
def sIf (t : ET) (g1 g2 : ES) : ES := fun ρ => (t ρ).bind fun k => if k.1 = true then g1 k.2 else g2 k.2
theorem s_if {q : Expr} {t : ET} {l1 l2 : List Stmt} (ht : DT X q t) (h1 : DSs X l1 g1) (h2 : DSs X l2 g2) : DS X (.If q l1 l2 pos) (sIf t g1 g2) := (ps_if ht h1 h2).imp fun E σ H ⟨c, ρ, fp, out, h, e, k⟩ => by
  obtain ⟨⟨x, ρ1⟩, e1, e⟩ := Option.bind_eq_some_iff.mp e
  refine ⟨c, ρ, fp, x, ρ1, h, e1, fun H1 fp1 h1 => ?_⟩
  cases x with
  | true => exact iteT ⟨c, ρ1, fp1, out, h1, e, k⟩
  | false => exact iteF ⟨c, ρ1, fp1, out, h1, e, k⟩
def sRet (m : EM) : ES := fun ρ => (m ρ).bind fun x => some (.rt x.1 x.2)
theorem s_ret (ha : DM X a m) : DS X (.Return (some a) pos) (sRet m) := (ps_ret ha).imp fun E σ H ⟨c, ρ, fp, out, h, e, k⟩ => by
  obtain ⟨⟨x, ρ1⟩, e1, e⟩ := Option.bind_eq_some_iff.mp e
  cases e
  exact ⟨c, ρ, fp, x, ρ1, h, e1, fun v H' fp' F h' x' => k v σ H' fp' F h' x'⟩
def sRetN : ES := fun ρ => some (.rt .non ρ)
def sDrop (m : EM) : ES := fun ρ => (m ρ).bind fun x => some (.nx x.2)
theorem s_expr (ha : DM X a m) (hs : swapsWith a none pos.line X.env = Pure.pure false := by rfl) : DS X (.Expr a pos) (sDrop m) := (ps_expr ha hs).imp fun E σ H ⟨c, ρ, fp, out, h, e, k⟩ => by
  obtain ⟨⟨x, ρ1⟩, e1, e⟩ := Option.bind_eq_some_iff.mp e
  cases e
  exact ⟨c, ρ, fp, x, ρ1, h, e1, fun v H' fp' F h' x' => k σ H' fp' h'⟩
/-! targets -/
abbrev GX := D → Env → Option Env
abbrev GXs := List D → Env → Option Env
def put (i : Nat) : GX := fun d ρ => match ρ[i]? with
  | some (some (.pin, _)) => none
  | some (some (.tag _, _)) => none
  | some _ => some (ρ.set i (some (.own, d)))
  | none => none
def tG (K : PySem.W.Frag) (g : GX) : TG := fun v σ H Q => ∃ c ρ fp d F ρ', Ok K c σ H ρ fp ∧ Val K c H ρ fp d v F ∧ g d ρ = some ρ' ∧ ∀ σ' H' fp', Ok K c σ' H' ρ' fp' → Q σ' H'
def tGs (K : PySem.W.Frag) (g : GXs) : TGs := fun vs σ H Q => ∃ c ρ fp ds F ρ', Ok K c σ H ρ fp ∧ Vals' K c H ρ fp ds vs F ∧ g ds ρ = some ρ' ∧ ∀ σ' H' fp', Ok K c σ' H' ρ' fp' → Q σ' H'
theorem _root_.L2.PG.imp {X : Cx} {e : Expr} {t t' : TG} (h : PG X e t) (k : ∀ v σ H Q, t' v σ H Q → t v σ H Q) : PG X e t' := ⟨fun pins s σ H v u Q I r q => h.run pins s σ H v u Q I r (k v σ H Q q)⟩
theorem _root_.L2.PGs.imp {X : Cx} {e : List Expr} {t t' : TGs} (h : PGs X e t) (k : ∀ v σ H Q, t' v σ H Q → t v σ H Q) : PGs X e t' := ⟨fun pins s σ H v u Q I r q => h.run pins s σ H v u Q I r (k v σ H Q q)⟩
theorem put_some {i : Nat} {d : D} {ρ ρ' : Env} (e : put i d ρ = some ρ') : i < ρ.length ∧ ρ' = ρ.set i (some (.own, d)) := by
  unfold put at e
  split at e
  · cases e
  · cases e
  · rename_i q
    cases e
    exact ⟨(List.getElem?_eq_some_iff.mp q).1, rfl⟩
  · cases e
theorem g_name {i : Nat} (h : PG X a (gName i)) : PG X a (tG X.K (put i)) := h.imp fun v σ H Q ⟨c, ρ, fp, d, F, ρ', ok, x, e, k⟩ => by
  obtain ⟨hi, rfl⟩ := put_some e
  exact k _ _ _ (ok.put x.drop hi)
def gsNil : GXs := fun ds ρ => match ds with
  | [] => some ρ
  | _ => none
def gsCons (g : GX) (gs : GXs) : GXs := fun ds ρ => match ds with
  | [] => none
  | d :: ds => (g d ρ).bind (gs ds)
/-- a target that keeps what it was not given -/
structure GOk (K : PySem.W.Frag) (g : GX) : Prop where
  app : ∀ {c σ H ρ fp d v F ρ'} , Ok K c σ H ρ fp → Val K c H ρ fp d v F → g d ρ = some ρ' → True
theorem gs_nil : PGs X [] (tGs X.K gsNil) := pgs_nil.imp fun v σ H Q ⟨c, ρ, fp, d, F, ρ', ok, x, e, k⟩ => by
  unfold gsNil at e
  split at e
  · cases e
    exact ⟨x.rep.1, k σ H fp ok⟩
  · cases e
theorem gs_cons {gs : GXs} {gx : GX} (h1 : PG X a (tG X.K gx)) (h2 : PGs X es (tGs X.K gs)) (hs : (assignEach (a :: es) X.env).map (·.2) = assign a X.env :: (assignEach es X.env).map (·.2) := by rfl) : PGs X (a :: es) (tGs X.K (gsCons gx gs)) :=
  (pgs_cons h1 h2 hs).imp fun v σ H Q ⟨c, ρ, fp, ds, F, ρ', ok, x, e, k⟩ => by
    cases ds with
    | nil => cases e
    | cons d ds =>
      obtain ⟨ρ1, e1, e⟩ := Option.bind_eq_some_iff.mp e
      obtain ⟨w, vr, F1, F2, rfl, rfl, x1, x2, ap⟩ := x.head
      -- the rest of the values stands beside: as borrowed from outside
      have mem : ∀ a ∈ F2, ¬ Fr c.T H a := fun a ha => x2.rep.nf a ha
      refine ⟨w, vr, rfl, ⟨⟨H, fun a => Ow ρ fp a ∨ a ∈ F1, c.pv, c.B, c.T⟩, ρ, fp, d, F1, ρ1, ?_, ?_, e1, fun σ' H' fp' ok' => ?_⟩⟩
      · exact ⟨ok.len, ok.rep, fun i m e q n => ⟨(ok.nd i m e q n).1, fun a ha => ⟨.inl (.inl ⟨i, m, e, q, n, ha⟩), ((ok.nd i m e q n).2 a ha).2⟩⟩, ok.bo, ok.dj,
          .of (fun a z => z.elim (fun ⟨i, m, d, e, n, ha⟩ => ((ok.nd i m d e n).2 a ha).2.1) fun z => (x1.ow a z).2.1) (fun a o e _ => e),
          fun a z => ⟨ok.nf z, fun q => q.elim (fun ⟨i, m, d, e, n, ha⟩ => ((ok.nd i m d e n).2 a ha).2.2 z) fun q => (x1.ow a q).2.2 z⟩, ok.frm.tab ok.tb, ok.tg⟩
      · exact ⟨x1.rep, x1.nd, fun a ha => ⟨.inl (.inr ha), (x1.ow a ha).2⟩, x1.dj⟩
      · have back : ∀ a, ((Ow ρ fp a ∨ a ∈ F1) ∨ Fr c.T H a) → c.O0 a ∨ Fr c.T c.H0 a := fun a z => by
          rcases z with (z | z) | z
          · exact sub_owF ok (.inl z)
          · exact (x1.ow a z).1
          · exact sub_owF ok (.inr z)
        have ok2 : Ok X.K c σ' H' ρ1 fp' := ⟨ok'.len, ok'.rep, fun i m e q n => ⟨(ok'.nd i m e q n).1, fun a ha => ⟨back a ((ok'.nd i m e q n).2 a ha).1, ((ok'.nd i m e q n).2 a ha).2⟩⟩, ok'.bo, ok'.dj,
          ok.frm.comp ok'.frm fun a z => back a (.inl z), ok.bt, ok.tb, ok'.tg⟩
        have nO : ∀ a ∈ F2, ¬ (Ow ρ fp a ∨ a ∈ F1) := fun a ha z => by
          rcases z with ⟨i, m, e, q, n, hi⟩ | z
          · exact x2.dj i m e q n a ha hi
          · exact ap a z ha
        refine ⟨c, ρ1, fp', ds, F2, ρ', ok2, ⟨x2.rep.frm ok'.frm nO, x2.nd, fun a ha => ⟨(x2.ow a ha).1, ?_, (x2.ow a ha).2.2⟩, fun i m e q hm a ha hi => ?_⟩, e, k⟩
        · have m := (x2.ow a ha).2.1
          cases q : H a with
          | none => rw [q] at m; exact m.elim
          | some o => rw [q] at m; rw [ok'.frm.keep q m.nt (nO a ha)]; exact m
        · rcases ((ok'.nd i m e q hm).2 a hi).1 with z | z
          · exact nO a ha z
          · exact mem a ha z
def gTupD (n : Nat) (gs : GXs) : GX := fun d ρ => match d with
  | .tup ds => if ds.length = n then gs ds ρ else none
  | .ctp ds => if ds.length = n then gs ds ρ else none
  | _ => none
theorem g_tup {k n : Nat} {gs : GXs} (hc : X.calm = true) (h : PGs X es (tGs X.K gs)) (hn : (assignEach es X.env).length = n := by rfl) (hst : (assignEach es X.env).findIdx? (·.1) = none := by rfl) : PG X (.Tuple es k pos) (tG X.K (gTupD n gs)) :=
  (pg_tup hc h hn hst).imp fun v σ H Q ⟨c, ρ, fp, d, F, ρ', ok, x, e, k⟩ => by
    unfold gTupD at e
    split at e
    · rename_i ds
      split at e
      · rename_i hl
        obtain ⟨p, vs, rfl, q, r⟩ := x.rep
        exact ⟨p, vs, rfl, .of q, by rw [r.length]; exact hl, c, ρ, fp, ds, F, ρ', ok, ⟨r, x.nd, x.ow, x.dj⟩, e, k⟩
      · cases e
    · rename_i ds
      split at e
      · rename_i hl
        obtain ⟨p, vs, rfl, q, r⟩ := x.rep
        exact ⟨p, vs, rfl, q.sq, by rw [r.length]; exact hl, c, ρ, fp, ds, F, ρ', ok, ⟨r, x.nd, x.ow, x.dj⟩, e, k⟩
      · cases e
    · cases e
def sAsg (m : EM) (gx : GX) : ES := fun ρ => (m ρ).bind fun x => (gx x.1 x.2).bind fun ρ' => some (.nx ρ')
theorem tAsg_of {gx : GX} (E : Ends) (σ : L2.St) (H : Hp) (h : tS X.K (sAsg m gx) E σ H) : tAsg (tM X.K m) (tG X.K gx) E σ H := by
  obtain ⟨c, ρ, fp, out, h, e, k⟩ := h
  obtain ⟨⟨x, ρ1⟩, e1, e⟩ := Option.bind_eq_some_iff.mp e
  obtain ⟨ρ2, e2, e⟩ := Option.bind_eq_some_iff.mp e
  cases e
  exact ⟨c, ρ, fp, x, ρ1, h, e1, fun v H1 fp1 F1 h1 x1 => ⟨c, ρ1, fp1, x, F1, ρ2, h1, x1, e2, fun σ' H' fp' h' => k σ' H' fp' h'⟩⟩
theorem s_asg {tg e : Expr} {gx : GX} (he : DM X e m) (hg : PG X tg (tG X.K gx)) (hs : swapsWithSole [tg] e pos.line X.env = Pure.pure false := by rfl) (hw : swappedStores [tg] e X.env = Pure.pure none := by rfl)
    (h1 : (assignEach [tg] X.env).map (·.2) = [assign tg X.env] := by rfl) : DS X (.Assign [tg] e pos) (sAsg m gx) := (ps_asg he hg hs hw h1).imp tAsg_of
theorem s_set {i : Nat} {x : Str} {e : Expr} {pos' : Pos} (hN : X.N.Nodup) (hi : X.N[i]? = some x) (hx : Loc X.env.scope x) (he : DM X e m) (hs : swapsWith e (some (.Name x pos')) pos.line X.env = Pure.pure false := by rfl) (hf : X.fn x = true ∨ X.env.scope.names.lookup x = some .local := by first | exact .inl rfl | exact .inr rfl | assumption) :
    DS X (.Assign [.Name x pos'] e pos) (sAsg m (put i)) := (ps_set hN hi hx he hs hf).imp fun E σ H ⟨c, ρ, fp, out, h, e, k⟩ => by
  obtain ⟨⟨x, ρ1⟩, e1, e⟩ := Option.bind_eq_some_iff.mp e
  obtain ⟨ρ2, e2, e⟩ := Option.bind_eq_some_iff.mp e
  cases e
  obtain ⟨hi, rfl⟩ := put_some e2
  exact ⟨c, ρ, fp, x, ρ1, h, e1, fun v H1 fp1 F1 h1 x1 => k _ _ _ (h1.put x1.drop hi)⟩
/-- a, b = x, y -/
def sPar (i j : Nat) (ms : EMs) : ES := fun ρ => (ms ρ).bind fun x => match x.1 with
  | [d, e] => (put i d x.2).bind fun ρ1 => (put j e ρ1).bind fun ρ2 => some (.nx ρ2)
  | _ => none
/-- two given values -/
theorem Ok.put2 {K : PySem.W.Frag} {c : Ct} {σ : L2.St} {H : Hp} {ρ : Env} {fp : Nat → List Addr} {d e : D} {v w : V} {F G : List Addr} {i j : Nat} (h : Ok K c σ H ρ fp) (x : Val K c H ρ fp d v F) (y : Val K c H ρ fp e w G) (n : ∀ a ∈ F, a ∉ G) (hi : i < ρ.length) (hj : j < ρ.length) (hij : i ≠ j) :
    ∃ fp', Ok K c ((σ.set i (some v)).set j (some w)) H ((ρ.set i (some (Fl.own, d))).set j (some (Fl.own, e))) fp' := by
  have h1 := h.put x.drop hi
  refine ⟨_, h1.put (F := G) ⟨y.rep, y.nd, y.ow, fun l m g q hm a ha hl => ?_⟩ (by rw [List.length_set]; exact hj)⟩
  obtain ⟨q, hlj⟩ := drop_low q
  by_cases hli : l = i
  · subst hli
    rw [if_pos rfl] at hl
    exact n a hl ha
  · rw [if_neg hli] at hl
    rw [List.getElem?_set_ne (Ne.symm hli)] at q
    exact y.dj l m g q hm a ha hl
theorem s_par {i j : Nat} {x y : Str} {ms : EMs} {px py pt : Pos} {kt k2 pt2} (hc : X.calm = true) (hN : X.N.Nodup) (hi : X.N[i]? = some x) (hj : X.N[j]? = some y) (hij : i ≠ j)
    (hx : X.env.scope.names.lookup x = some .local) (hy : X.env.scope.names.lookup y = some .local) (ha : PA X [a, b] (tMs X.K ms))
    (hw : swappedStores [.Tuple [.Name x px, .Name y py] kt pt] (.Tuple [a, b] k2 pt2) X.env = Pure.pure (some [x, y]))
    (hs : swapsWithSole [.Tuple [.Name x px, .Name y py] kt pt] (.Tuple [a, b] k2 pt2) pos.line X.env = Pure.pure false := by rfl) :
    DS X (.Assign [.Tuple [.Name x px, .Name y py] kt pt] (.Tuple [a, b] k2 pt2) pos) (sPar i j ms) := (ps_par hc hN hi hj hij hx hy ha hw hs).imp fun E σ H ⟨c, ρ, fp, out, h, e, k⟩ => by
  obtain ⟨⟨xs, ρ1⟩, e1, e⟩ := Option.bind_eq_some_iff.mp e
  refine ⟨c, ρ, fp, xs, ρ1, h, e1, fun vs H1 fp1 F1 h1 x1 => ?_⟩
  simp only at e
  split at e
  · rename_i d1 d2
    obtain ⟨ρ2, e2, e⟩ := Option.bind_eq_some_iff.mp e
    obtain ⟨ρ3, e3, e⟩ := Option.bind_eq_some_iff.mp e
    cases e
    obtain ⟨hi', rfl⟩ := put_some e2
    obtain ⟨hj', rfl⟩ := put_some e3
    obtain ⟨v, vr, F2, F3, rfl, rfl, y1, y2, ap⟩ := x1.head
    obtain ⟨w, vr2, F4, F5, rfl, rfl, y3, y4, ap2⟩ := y2.head
    obtain ⟨z1, z2⟩ := y4.rep
    subst z1 z2
    obtain ⟨fp', ok'⟩ := h1.put2 y1 y3 (fun a ha hb => ap a ha (List.mem_append_left _ hb)) hi' (by rw [List.length_set] at hj'; exact hj') hij
    exact ⟨v, w, rfl, k _ _ _ ok'⟩
  · cases e
/-- x op= e -/
def IpD (K : PySem.W.Frag) (r : TIp) (o : D → D → Option D) : Prop := ∀ H d1 d2 v1 v2 F1 F2 d Q, Rep K H d1 v1 F1 → Rep K H d2 v2 F2 → o d1 d2 = some d →
  (∀ v H' F, Same H H' → Rep K H' d v F → New H H' F → Q v H') → r v1 v2 H Q
def sAug (i : Nat) (o : D → D → Option D) (m : EM) : ES := fun ρ => (xPure (xVar i) ρ).bind fun x => (m ρ).bind fun y => (o x y.1).bind fun z => (put i z y.2).bind fun ρ' => some (.nx ρ')
end
end DL
namespace DL
open PySem PySem.Spec PyProof.Rows L2
/-! ### loops -/
def Kp (H1 : Hp) (Fs : List Addr) (H : Hp) : Prop := ∃ T O, Frm T H1 O H ∧ ∀ a ∈ Fs, ¬ O a
/-- J walks the data its, as they stand at H1 -/
structure Wk (J : It) (K : PySem.W.Frag) (its : List D) (H1 : Hp) (Fs : List Addr) : Prop where
  go : ∀ i H, i < its.length → Kp H1 Fs H → J.go i H
  stop : ∀ H, Kp H1 Fs H → J.stop its.length H
  yld : ∀ (i : Nat) H x H' d, its[i]? = some d → Kp H1 Fs H → J.yld i H x H' → Same H H' ∧ ∃ F, Rep K H' d x F ∧ ∀ a ∈ F, a ∈ Fs
abbrev IX := Env → Option (List D)
abbrev IM := Env → Option (List D × Env)
def tI (K : PySem.W.Frag) (own : Bool) (src : IX) : TI := fun σ H R => ∃ ρ its, Sees K σ H ρ ∧ src ρ = some its ∧ ∀ J H1 Fs, Same H H1 → Wk J K its H1 Fs → (own = true → ∀ a ∈ Fs, H a = none) → R J H1
def tIM (K : PySem.W.Frag) (src : IM) : TI := fun σ H R => ∃ c ρ fp its ρ', Ok K c σ H ρ fp ∧ src ρ = some (its, ρ') ∧ ∀ J H1 fp1 Fs, Ok K c σ H1 ρ' fp1 → Wk J K its H1 Fs → (∀ a ∈ Fs, ¬ Ow ρ' fp1 a) → R J H1
theorem _root_.L2.PI.imp {X : Cx} {tg e : Expr} {t t' : TI} (h : PI X tg e t) (k : ∀ σ H R, t' σ H R → t σ H R) : PI X tg e t' := ⟨fun pins s σ H R I q => h.run pins s σ H R I (k σ H R q)⟩
section
variable {X : Cx} {tg iter a b : Expr} {m : EM} {f : EX} {pos : Pos} {es : List Expr}
def iP (src : IX) : IM := fun ρ => (src ρ).bind fun its => some (its, ρ)
theorem i_p {src : IX} (h : PI X tg iter (tI X.K true src)) : PI X tg iter (tIM X.K (iP src)) := h.imp fun σ H R ⟨c, ρ, fp, its, ρ', h, e, k⟩ => by
  obtain ⟨x, e1, e⟩ := Option.bind_eq_some_iff.mp e
  cases e
  refine ⟨_, _, h.sees, e1, fun J H1 Fs s w n => k J H1 fp Fs (h.same s) w fun a ha ⟨i, m, d, q, _, hi⟩ => ?_⟩
  obtain ⟨v, _, r, _⟩ := h.rep i m d q
  exact r.there a hi (n rfl a ha)
def forE (gx : GX) (g : ES) : List D → Env → Option Out
  | [], ρ => some (.nx ρ)
  | d :: ds, ρ => if pure d = true then (gx d ρ).bind fun ρ1 => (g ρ1).bind fun o => match o with
    | .nx ρ2 => forE gx g ds ρ2
    | .ct ρ2 => forE gx g ds ρ2
    | .bk ρ2 => some (.nx ρ2)
    | .rt d ρ2 => some (.rt d ρ2) else none
def sFor (src : IM) (gx : GX) (g : ES) : ES := fun ρ => (src ρ).bind fun x => forE gx g x.1 x.2
theorem OutOk.trans {K : PySem.W.Frag} {c : Ct} {σ : L2.St} {H : Hp} {ρ : Env} {fp : Nat → List Addr} {E : Ends} {o : Out} (h : Ok K c σ H ρ fp) (k : OutOk K c E o) : OutOk K (sub c H ρ fp) E o := by
  cases o with
  | nx ρ' => exact fun σ' H' fp' h' => k σ' H' fp' (h.trans h')
  | rt d ρ' => exact fun v σ' H' fp' F h' x => k v σ' H' fp' F (h.trans h') (x.trans h)
  | bk ρ' => exact fun σ' H' fp' h' => k σ' H' fp' (h.trans h')
  | ct ρ' => exact fun σ' H' fp' h' => k σ' H' fp' (h.trans h')
theorem tFor_of {src : IM} {gx : GX} {g : ES} (E : Ends) (σ : L2.St) (H : Hp) (h : tS X.K (sFor src gx g) E σ H) : tFor (tIM X.K src) (tG X.K gx) (tS X.K g) E σ H := by
  obtain ⟨c, ρ, fp, out, h, e, k⟩ := h
  obtain ⟨⟨its, ρ1⟩, e1, e⟩ := Option.bind_eq_some_iff.mp e
  refine ⟨c, ρ, fp, its, ρ1, h, e1, fun J H1 fp1 Fs h1 w ap => ?_⟩
  have k1 := OutOk.trans h1 k
  refine ⟨fun i m σ H => ∃ ρi fpi, i + m = its.length ∧ Ok X.K (sub c H1 ρ1 fp1) σ H ρi fpi ∧ forE gx g (its.drop i) ρi = some out, ⟨its.length, ρ1, fp1, by simp, h1.self, by simpa using e⟩, ?_⟩
  rintro i m σi Hi ⟨ρi, fpi, hm, hi, ei⟩
  have kp : Kp H1 Fs Hi := ⟨_, _, hi.frm, ap⟩
  by_cases hl : i < its.length
  · have hd : its.drop i = its[i] :: its.drop (i + 1) := List.drop_eq_getElem_cons hl
    rw [hd] at ei
    unfold forE at ei
    split at ei
    · rename_i pd
      obtain ⟨ρa, ea, ei⟩ := Option.bind_eq_some_iff.mp ei
      obtain ⟨o, eo, ei⟩ := Option.bind_eq_some_iff.mp ei
      refine .inr ⟨w.go i Hi hl kp, fun σ' H' => ∃ ρi fpi, i + 1 + (m - 1) = its.length ∧ Ok X.K (sub c H1 ρ1 fp1) σ' H' ρi fpi ∧ forE gx g (its.drop (i + 1)) ρi = some out, fun σ' H' q => ⟨m - 1, by omega, q⟩, fun x H' y => ?_⟩
      obtain ⟨s, F, r, _⟩ := w.yld i Hi x H' its[i] (List.getElem?_eq_getElem hl) kp y
      have nf := r.nil pd
      subst nf
      refine ⟨sub c H1 ρ1 fp1, ρi, fpi, its[i], [], ρa, hi.same s, ⟨r, List.nodup_nil, fun _ z => (by cases z), fun _ _ _ _ _ _ z => by cases z⟩, ea, fun σ2 H2 fp2 h2 => ⟨sub c H1 ρ1 fp1, ρa, fp2, o, h2, eo, ?_⟩⟩
      cases o with
      | nx ρ2 => exact fun σ' H' fp' h' => ⟨ρ2, fp', by omega, h', ei⟩
      | ct ρ2 => exact fun σ' H' fp' h' => ⟨ρ2, fp', by omega, h', ei⟩
      | bk ρ2 => cases ei; exact fun σ' H' fp' h' => k1 σ' H' fp' h'
      | rt d ρ2 => cases ei; exact fun v σ' H' fp' F h' x => k1 v σ' H' fp' F h' x
    · cases ei
  · have hd : its.drop i = [] := List.drop_of_length_le (by omega)
    have hie : i = its.length := by omega
    rw [hd] at ei
    cases ei
    exact .inl ⟨by rw [hie]; exact w.stop Hi kp, k1 σi Hi fpi hi⟩
theorem s_for {src : IM} {gx : GX} {g : ES} {body : List Stmt} (hp : PassesOwn (model X.prog X.w) X.A X.env X.xe) (hc : X.calm = true) (hi : PI X tg iter (tIM X.K src)) (hg : PG X tg (tG X.K gx)) (hb : DSs X body g)
    (hs : ∀ x, foldedSetIterable iter X.env x = Pure.pure x := by intro _; rfl) : DS X (.For tg iter body [] pos) (sFor src gx g) := (ps_for hp hc hi hg hb hs).imp tFor_of
def whileE (t : ET) (g : ES) : Nat → Env → Option Out
  | 0, _ => none
  | n + 1, ρ => (t ρ).bind fun b => if b.1 = true then (g b.2).bind fun o => match o with
    | .nx ρ2 => whileE t g n ρ2
    | .ct ρ2 => whileE t g n ρ2
    | .bk ρ2 => some (.nx ρ2)
    | .rt d ρ2 => some (.rt d ρ2) else some (.nx b.2)
/-- turns enough -/
def fuel : Nat := 2 ^ 60
def sWhile (t : ET) (g : ES) : ES := fun ρ => whileE t g fuel ρ
/-! what is walked -/
theorem Kp.sqT {K : PySem.W.Frag} {H1 H : Hp} {Fs : List Addr} {p : Addr} {xs : List V} (k : Kp H1 Fs H) (h : SqT K H1 p xs) : SqT K H p xs := let ⟨_, _, f, _⟩ := k; f.sqT h
theorem Kp.rep {K : PySem.W.Frag} {H1 H : Hp} {Fs F : List Addr} {d : D} {v : V} (k : Kp H1 Fs H) (h : Rep K H1 d v F) (s : ∀ a ∈ F, a ∈ Fs) : Rep K H d v F := let ⟨_, _, f, n⟩ := k; h.frm f fun a ha => n a (s a ha)
theorem Kp.lst {K : PySem.W.Frag} {H1 H : Hp} {Fs : List Addr} {p : Addr} {xs : List V} (k : Kp H1 Fs H) (h : Rd H1 p (.lst xs)) (s : p ∈ Fs) : SqL K H p xs := let ⟨_, _, f, n⟩ := k; .inl (f.rd h (fun ps e => by cases e) (n p s))
theorem Kp.frz {K : PySem.W.Frag} {H1 H : Hp} {Fs : List Addr} {p : Addr} {xs : List V} (k : Kp H1 Fs H) (h : Frz K H1 p xs) : SqL K H p xs := let ⟨_, _, f, n⟩ := k; (f.frz h).sq
theorem wk_lst {K : PySem.W.Frag} {H1 : Hp} {p : Addr} {vs : List V} {its : List D} {Fs : List Addr} (q : ∀ H, Kp H1 Fs H → SqL K H p vs) {Gs : List Addr} (r : Reps K H1 its vs Gs) (sb : ∀ a ∈ Gs, a ∈ Fs) : Wk (Itl K p) K its H1 Fs where
  go := fun i H hi k => by
    have hl : i < vs.length := by rw [r.length]; exact hi
    exact ⟨vs, vs[i], q H k, List.getElem?_eq_getElem hl⟩
  stop := fun H k => ⟨vs, q H k, by rw [r.length]; exact Nat.le_refl _⟩
  yld := fun i H x H' d e k y => by
    obtain ⟨v, G, g1, g2, g3⟩ := r.get e
    obtain ⟨rfl, f⟩ := y
    have := f vs (q _ k)
    rw [g1] at this
    cases this
    exact ⟨Same.refl _, G, k.rep g2 fun a ha => sb a (g3 a ha), fun a ha => sb a (g3 a ha)⟩
/-- the items of a tuple; of a list -/
def xItT (f : EX) : IX := fun ρ => (f ρ).bind fun d => match d with
  | .tup xs => some xs
  | .ctp xs => some xs
  | _ => none
def xItL (f : EX) : IX := fun ρ => (f ρ).bind fun d => match d with
  | .lst xs => some xs
  | .frz xs => some xs
  | _ => none
def rng (lo hi : Int) : List D := (List.range (hi - lo).toNat).map fun i => .int (lo + (i : Nat))
def rOk (i : Int) : Bool := decide (i.natAbs < 2 ^ 62)
theorem rOk_iff {i : Int} (h : rOk i = true) : -(2 ^ 62) ≤ i ∧ i < 2 ^ 62 := by
  unfold rOk at h
  rw [decide_eq_true_eq] at h
  omega
theorem wk_range {K : PySem.W.Frag} {H1 : Hp} {lo hi : Int} : Wk (Itr lo (hi - lo).toNat) K (rng lo hi) H1 [] where
  go := fun i H h k => by
    unfold rng at h
    rw [List.length_map, List.length_range] at h
    exact h
  stop := fun H k => by
    unfold rng
    rw [List.length_map, List.length_range]
    exact Nat.le_refl _
  yld := fun i H x H' d e k y => by
    obtain ⟨rfl, rfl⟩ := y
    unfold rng at e
    rw [List.getElem?_map] at e
    obtain ⟨j, hj, e⟩ := Option.map_eq_some_iff.mp e
    rw [List.getElem?_eq_some_iff] at hj
    obtain ⟨h1, h2⟩ := hj
    rw [List.getElem_range] at h2
    subst h2
    cases e
    exact ⟨Same.refl _, [], ⟨rfl, rfl⟩, fun _ z => by cases z⟩
def xRng1 (fs : EXs) : IX := fun ρ => (fs ρ).bind fun ds => match ds with
  | [.int j] => if rOk j = true then some (rng 0 j) else none
  | _ => none
def xRng2 (fs : EXs) : IX := fun ρ => (fs ρ).bind fun ds => match ds with
  | [.int i, .int j] => if rOk i = true then if rOk j = true then some (rng i j) else none else none
  | _ => none
theorem reps1 {K : PySem.W.Frag} {H : Hp} {i : Int} {vs : List V} {F : List Addr} (r : Reps K H [.int i] vs F) : vs = [.int i] := by
  obtain ⟨v, vr, F1, F2, rfl, rfl, r1, r2⟩ := r
  rw [r1.1, r2.1]
theorem i_rng1 {fs : EXs} {p : Pos} (hg : Gl X "range") (hm : X.mg "range" = none) (ha : PA X [a] (tPs X.K false fs)) (hs : starEach [a] X.env = [(false, eval a X.env)] := by rfl) : PI X tg (.Call (.Name "range" p) [a] [] pos) (tI X.K true (xRng1 fs)) :=
  (pi_range1 hg hm ha hs).imp fun σ H R ⟨ρ, its, s, e, k⟩ => by
    obtain ⟨ds, e1, e⟩ := Option.bind_eq_some_iff.mp e
    refine ⟨ρ, ds, s, e1, fun vs H1 F sm r n => ?_⟩
    split at e
    · split at e
      · rename_i j hj
        cases e
        obtain ⟨h1, h2⟩ := rOk_iff hj
        have w := wk_range (K := X.K) (H1 := H1) (lo := 0) (hi := j)
        rw [Int.sub_zero] at w
        exact ⟨j, reps1 r, h1, h2, k _ H1 [] sm w fun _ _ z => by cases z⟩
      · cases e
    · cases e
def mRng1 (ms : EMs) : IM := fun ρ => (ms ρ).bind fun x => match x.1 with
  | [.int j] => if rOk j = true then some (rng 0 j, x.2) else none
  | _ => none
theorem i_mrng1 {ms : EMs} {p : Pos} (hg : Gl X "range") (hm : X.mg "range" = none) (ha : PA X [a] (tMs X.K ms)) (hs : starEach [a] X.env = [(false, eval a X.env)] := by rfl) : PI X tg (.Call (.Name "range" p) [a] [] pos) (tIM X.K (mRng1 ms)) :=
  (pi_range1 hg hm ha hs).imp fun σ H R ⟨c, ρ, fp, its, ρ', h, e, k⟩ => by
    obtain ⟨⟨ds, ρ1⟩, e1, e⟩ := Option.bind_eq_some_iff.mp e
    refine ⟨c, ρ, fp, ds, ρ1, h, e1, fun vs H1 fp1 F h1 x1 => ?_⟩
    simp only at e
    split at e
    · split at e
      · rename_i j hj
        cases e
        obtain ⟨h3, h4⟩ := rOk_iff hj
        have w := wk_range (K := X.K) (H1 := H1) (lo := 0) (hi := j)
        rw [Int.sub_zero] at w
        exact ⟨j, reps1 x1.rep, h3, h4, k _ H1 fp1 [] h1 w fun _ z => by cases z⟩
      · cases e
    · cases e
/-- over a list that a name holds: lent while the loop runs -/
def back (j : Nat) (m : Fl) (ρ : Env) : Env := match ρ[j]? with
  | some (some (.bor, d)) => ρ.set j (some (m, d))
  | _ => ρ
end
/-! ### defs -/
section
variable {P : Program} {w : World} {K : PySem.W.Frag} {mg : Str → Option Value} {base : Heap}
def argSlot (d : D) : Slt := some (if pure d = true then .own else .bor, d)
def env0 (N : List Str) (ds : List D) : Env := ds.map argSlot ++ List.replicate (N.length - ds.length) none
def envR (N : List Str) (d0 : D) (ds : List D) : Env := some (.pin, d0) :: (ds.map argSlot ++ List.replicate (N.length - (ds.length + 1)) none)
def fpOf : List (List Addr) → Nat → List Addr := fun l i => (l[i]?).getD []
theorem Reps.split {K : PySem.W.Frag} {H : Hp} : ∀ {ds : List D} {vs : List V} {F : List Addr}, Reps K H ds vs F → ∃ l : List (List Addr), l.length = ds.length ∧ (∀ (i : Nat) d, ds[i]? = some d → ∃ v, vs[i]? = some v ∧ Rep K H d v (fpOf l i)) ∧ ∀ i, ∀ a ∈ fpOf l i, a ∈ F
  | [], _, _, h => ⟨[], rfl, fun i d e => by simp at e, fun i a ha => by simp [fpOf] at ha⟩
  | d :: ds, vs, F, h => by
    obtain ⟨v, vr, F1, F2, rfl, rfl, r1, r2⟩ := h
    obtain ⟨l, hl, h1, h2⟩ := Reps.split r2
    refine ⟨F1 :: l, by simp [hl], fun i x e => ?_, fun i a ha => ?_⟩
    · cases i with
      | zero => cases (Option.some.inj e : d = x); exact ⟨v, rfl, r1⟩
      | succ i =>
        obtain ⟨v', e1, e2⟩ := h1 i x e
        exact ⟨v', e1, e2⟩
    · cases i with
      | zero => exact List.mem_append_left _ ha
      | succ i => exact List.mem_append_right _ (h2 i a ha)
theorem argSlot_some {ds : List D} {n i : Nat} {m : Fl} {d : D} (q : (ds.map argSlot ++ List.replicate n none)[i]? = some (some (m, d))) : ds[i]? = some d ∧ m = if pure d = true then .own else .bor := by
  by_cases hi : i < ds.length
  · rw [List.getElem?_append_left (by simpa using hi), List.getElem?_map] at q
    obtain ⟨x, e1, e2⟩ := Option.map_eq_some_iff.mp q
    unfold argSlot at e2
    cases e2
    exact ⟨e1, rfl⟩
  · rw [List.getElem?_append_right (by simpa using hi), List.getElem?_replicate] at q
    split at q <;> cases q
theorem ok_env0 {N ps : List Str} {T : Tb} {H : Hp} {ds : List D} {vs : List V} {G : List Addr} (r : Reps K H ds vs G) (hl : ds.length ≤ N.length) (tb : LamX.Tabs T H := by exact fun p hp => by cases hp) : ∃ fp, Ok K ⟨H, No, fun i => vs[i]?, fun a => a ∈ G, T⟩ (L2.start N vs) H (env0 N ds) fp := by
  obtain ⟨l, hll, h1, h2⟩ := r.split
  have hv := r.length
  refine ⟨fpOf l, ⟨?_, fun i m d q => ?_, fun i m d q hm => ?_, fun i d q => h2 i, fun i j m d n e ne q hm q2 hn a ha => ?_, .of (fun _ z => z.elim) (fun a o e _ => e), fun a ha => ⟨r.nf a ha, fun z => z⟩, tb, fun i P d q => absurd (argSlot_some q).2 (by split <;> exact fun z => by cases z)⟩⟩
  · unfold env0 L2.start
    simp [hv]
  · obtain ⟨e1, e2⟩ := argSlot_some q
    obtain ⟨v, e3, e4⟩ := h1 i d e1
    refine ⟨v, ?_, e4, fun _ => e3⟩
    · unfold L2.start
      have hi : i < vs.length := (List.getElem?_eq_some_iff.mp e3).1
      rw [List.getElem?_append_left (by simpa using hi), List.getElem?_map, e3]
      rfl
  · obtain ⟨e1, e2⟩ := argSlot_some q
    obtain ⟨v, e3, e4⟩ := h1 i d e1
    split at e2
    · rename_i pd
      rw [e4.nil pd]
      exact ⟨List.nodup_nil, fun _ z => by cases z⟩
    · exact absurd e2 hm
  · obtain ⟨e1, e2⟩ := argSlot_some q
    obtain ⟨v, e3, e4⟩ := h1 i d e1
    split at e2
    · rename_i pd
      rw [e4.nil pd] at ha
      cases ha
    · exact absurd e2 hm
/-- what a body hands back -/
def outP (o : Option Out) : Option D := o.bind fun o => match o with
  | .rt d _ => some d
  | .nx _ => some .non
  | _ => none
def fnP (N : List Str) (g : ES) (ds : List D) : Option D := outP (g (env0 N ds))
theorem tS_fnP {N ps : List Str} {g : ES} {H : Hp} {vs : List V} {Q : VK} {E : XK} (hn : ps.length ≤ N.length) (h : spP K ps.length (fnP N g) vs H Q E) : tS K g { nx := fun _ H' => Q .non H', rt := Q } (L2.start N vs) H := by
  obtain ⟨ds, G, d, hl, r, e, k⟩ := h
  obtain ⟨fp, ok⟩ := ok_env0 (N := N) (ps := ps) (T := []) r (by omega)
  obtain ⟨o, e1, e⟩ := Option.bind_eq_some_iff.mp e
  refine ⟨_, _, fp, o, ok, e1, ?_⟩
  cases o with
  | nx ρ' =>
    cases e
    exact fun σ' H' fp' h' => k _ H' [] h'.frm.same ⟨rfl, rfl⟩ New.nil
  | rt x ρ' =>
    cases e
    exact fun v σ' H' fp' F h' y => k v H' F h'.frm.same y.rep ⟨y.nd, fun a ha => (y.ow a ha).1.elim (fun z => z.elim) fun z => z.nil, fun a ha => (y.ow a ha).2.1⟩
  | bk ρ' => cases e
  | ct ρ' => cases e
theorem spP_len {n : Nat} {F : List D → Option D} {vs : List V} {H : Hp} {Q : VK} {E : XK} (h : spP K n F vs H Q E) : vs.length = n := by
  obtain ⟨ds, G, d, hl, r, e, k⟩ := h
  rw [r.length, hl]
/-- THE RULE for a def that changes nothing of its caller's -/
theorem f_p {x qual : Str} {st : Stmt} {f : Addr} {fd : FuncData} {N ps : List Str} {k : Nat} {g : ES} (F : L2.Fun K x qual st f fd) (S : FnScope N ps (defScope st))
    (hb : ∀ (cdv : Value) (A : Around) (outer : List PySem.Env) (s : Shared) (H : Hp) (E : XK), Room k (A.deeper (envOfC qual (defScope st) s.heap.objs.size f cdv)) → DSs (cxOf CX0 P w K mg base N qual (defScope st) f cdv A outer s H E).nox (defBody st) g) :
    FnOk P w K mg base CX0 (k + 1) f fd ps (spP K ps.length (fnP N g)) := by
  have hn : ps.length ≤ N.length := by have := congrArg List.length S.pre; rw [List.length_take] at this; omega
  exact F.ok S (fun vs H Q E h => spP_len h) fun cdv A outer s H vs Q E hr h => ⟨_, hb cdv A outer s H E hr, tS_fnP hn h⟩
/-! a def that changes its first argument -/
def spR (K : PySem.W.Frag) (n : Nat) (F : D → List D → Option (D × D)) : Sp := fun vs H Q _ => ∃ d0 ds v0 vr F0 G d d', vs = v0 :: vr ∧ ds.length = n ∧ Rep K H d0 v0 F0 ∧ F0.Nodup ∧ (∀ a ∈ F0, Mut (H a)) ∧ Reps K H ds vr G ∧ (∀ a ∈ F0, a ∉ G) ∧ F d0 ds = some (d, d') ∧
  ∀ v H' F1 Fv, Frm [] H (fun a => a ∈ F0) H' → Rep K H' d' v0 F1 → Rep K H' d v Fv → F1.Nodup → Fv.Nodup → (∀ a ∈ F1, a ∉ Fv) → (∀ a, a ∈ F1 ∨ a ∈ Fv → (a ∈ F0 ∨ H a = none) ∧ Mut (H' a)) → Q v H'
def outR (o : Option Out) : Option (D × D) := o.bind fun o => match o with
  | .rt d ρ => (match ρ[0]? with
    | some (some (Fl.pin, d')) => some (d, d')
    | _ => none)
  | .nx ρ => (match ρ[0]? with
    | some (some (Fl.pin, d')) => some (.non, d')
    | _ => none)
  | _ => none
def fnR (N : List Str) (g : ES) (d0 : D) (ds : List D) : Option (D × D) := outR (g (envR N d0 ds))
theorem spR_len {n : Nat} {F : D → List D → Option (D × D)} {vs : List V} {H : Hp} {Q : VK} {E : XK} (h : spR K n F vs H Q E) : vs.length = n + 1 := by
  obtain ⟨d0, ds, v0, vr, F0, G, d, d', rfl, hl, _, _, _, r, _⟩ := h
  rw [List.length_cons, r.length, hl]
theorem ok_envR {N ps : List Str} {H : Hp} {d0 : D} {v0 : V} {F0 : List Addr} {ds : List D} {vs : List V} {G : List Addr} (r0 : Rep K H d0 v0 F0) (nd : F0.Nodup) (mu : ∀ a ∈ F0, Mut (H a)) (r : Reps K H ds vs G) (ap : ∀ a ∈ F0, a ∉ G) (hl : ds.length + 1 ≤ N.length) :
    ∃ fp, Ok K ⟨H, fun a => a ∈ F0, fun i => (v0 :: vs)[i]?, fun a => a ∈ G, []⟩ (L2.start N (v0 :: vs)) H (envR N d0 ds) fp := by
  obtain ⟨l, hll, h1, h2⟩ := r.split
  have hv := r.length
  have s0 : ∀ (i : Nat) m d, (envR N d0 ds)[i + 1]? = some (some (m, d)) → ds[i]? = some d ∧ m = if pure d = true then .own else .bor := fun i m d q => argSlot_some (n := N.length - (ds.length + 1)) q
  have z0 : ∀ m d, (envR N d0 ds)[0]? = some (some (m, d)) → m = .pin ∧ d = d0 := fun m d q => by
    have q' : some (some (Fl.pin, d0)) = some (some (m, d)) := q
    cases q'
    exact ⟨rfl, rfl⟩
  have emp : ∀ (i : Nat) m d, (envR N d0 ds)[i + 1]? = some (some (m, d)) → m ≠ Fl.bor → fpOf l i = [] := fun i m d q hm => by
    obtain ⟨e1, e2⟩ := s0 i m d q
    obtain ⟨v, e3, e4⟩ := h1 i d e1
    split at e2
    · rename_i pd
      exact e4.nil pd
    · exact absurd e2 hm
  refine ⟨fun i => match i with | 0 => F0 | i + 1 => fpOf l i, ⟨?_, fun i m d q => ?_, fun i m d q hm => ?_, fun i d q => ?_, fun i j m d n e ne q hm q2 hn a ha => ?_, .of mu (fun a o e _ => e), fun a ha => ⟨r.nf a ha, fun z => ap a z ha⟩, fun p hp => (by cases hp), fun i P d q => by
      cases i with
      | zero => cases (z0 _ _ q).1
      | succ i => exact absurd (s0 i _ _ q).2 (by split <;> exact fun z => by cases z)⟩⟩
  · unfold envR L2.start
    simp [hv]
  · cases i with
    | zero =>
      obtain ⟨rfl, rfl⟩ := z0 m d q
      exact ⟨v0, rfl, r0, fun _ => rfl⟩
    | succ i =>
      obtain ⟨e1, e2⟩ := s0 i m d q
      obtain ⟨v, e3, e4⟩ := h1 i d e1
      refine ⟨v, ?_, e4, fun _ => e3⟩
      · unfold L2.start
        have hi : i < vs.length := (List.getElem?_eq_some_iff.mp e3).1
        rw [List.map_cons, List.cons_append, List.getElem?_cons_succ, List.getElem?_append_left (by simpa using hi), List.getElem?_map, e3]
        rfl
  · cases i with
    | zero => exact ⟨nd, fun a ha => ⟨.inl ha, mu a ha, fun z => ap a ha z⟩⟩
    | succ i =>
      show (fpOf l i).Nodup ∧ ∀ a ∈ fpOf l i, _
      rw [emp i m d q hm]
      exact ⟨List.nodup_nil, fun _ z => by cases z⟩
  · cases i with
    | zero => obtain ⟨z, _⟩ := z0 _ d q; cases z
    | succ i => exact h2 i
  · cases i with
    | zero =>
      cases j with
      | zero => exact absurd rfl ne
      | succ j =>
        show a ∉ fpOf l j
        rw [emp j n e q2 hn]
        exact fun z => by cases z
    | succ i =>
      have ha' : a ∈ fpOf l i := ha
      rw [emp i m d q hm] at ha'
      cases ha'
theorem tS_fnR {N ps : List Str} {n : Nat} {g : ES} {H : Hp} {vs : List V} {Q : VK} {E : XK} (hn : n + 1 ≤ N.length) (h : spR K n (fnR N g) vs H Q E) : tS K g { nx := fun _ H' => Q .non H', rt := Q } (L2.start N vs) H := by
  obtain ⟨d0, ds, v0, vr, F0, G, d, d', rfl, hl, r0, nd, mu, r, ap, e, k⟩ := h
  obtain ⟨fp, ok⟩ := ok_envR (N := N) (ps := ps) r0 nd mu r ap (by omega)
  obtain ⟨o, e1, e⟩ := Option.bind_eq_some_iff.mp e
  refine ⟨_, _, fp, o, ok, e1, ?_⟩
  have fin : ∀ {ρ' : Env} {v : V} {σ' : L2.St} {H' : Hp} {fp' : Nat → List Addr} {F : List Addr}, ρ'[0]? = some (some (.pin, d')) → Ok K ⟨H, fun a => a ∈ F0, fun i => (v0 :: vr)[i]?, fun a => a ∈ G, []⟩ σ' H' ρ' fp' → Val K ⟨H, fun a => a ∈ F0, fun i => (v0 :: vr)[i]?, fun a => a ∈ G, []⟩ H' ρ' fp' d v F → Q v H' := fun {ρ' v σ' H' fp' F} q h' y => by
    obtain ⟨u, h1, h2, h3⟩ := h'.rep 0 _ _ q
    have e0 : some v0 = some u := h3 (by decide)
    cases e0
    obtain ⟨n1, n2⟩ := h'.nd 0 _ _ q (by decide)
    refine k v H' (fp' 0) F h'.frm h2 y.rep n1 y.nd (fun a ha hf => y.dj 0 _ _ q (by decide) a hf ha) fun a z => ?_
    rcases z with z | z
    · exact ⟨(n2 a z).1.imp id Fr.nil, (n2 a z).2.1⟩
    · exact ⟨(y.ow a z).1.imp id Fr.nil, (y.ow a z).2.1⟩
  cases o with
  | nx ρ' =>
    simp only at e
    split at e
    · rename_i q
      cases e
      exact fun σ' H' fp' h' => fin q h' ⟨⟨rfl, rfl⟩, List.nodup_nil, fun _ z => (by cases z), fun _ _ _ _ _ _ z => by cases z⟩
    · cases e
  | rt x ρ' =>
    simp only at e
    split at e
    · rename_i q
      cases e
      exact fun v σ' H' fp' F h' y => fin q h' y
    · cases e
  | bk ρ' => cases e
  | ct ρ' => cases e
theorem f_r {x qual : Str} {st : Stmt} {f : Addr} {fd : FuncData} {N ps : List Str} {k n : Nat} {g : ES} (F : L2.Fun K x qual st f fd) (S : FnScope N ps (defScope st)) (hps : ps.length = n + 1)
    (hb : ∀ (cdv : Value) (A : Around) (outer : List PySem.Env) (s : Shared) (H : Hp) (E : XK), Room k (A.deeper (envOfC qual (defScope st) s.heap.objs.size f cdv)) → DSs (cxOf CX0 P w K mg base N qual (defScope st) f cdv A outer s H E).nox (defBody st) g) :
    FnOk P w K mg base CX0 (k + 1) f fd ps (spR K n (fnR N g)) := by
  have hn : ps.length ≤ N.length := by have := congrArg List.length S.pre; rw [List.length_take] at this; omega
  exact F.ok S (fun vs H Q E h => by rw [hps]; exact spR_len h) fun cdv A outer s H vs Q E hr h => ⟨_, hb cdv A outer s H E hr, tS_fnR (ps := ps) (by omega) h⟩
end
section
variable {X : Cx} {x : Str} {po pos : Pos} {e : Expr} {es : List Expr}
/-- a call that changes the name at i, its first argument -/
def mCallR (F : D → List D → Option (D × D)) (i : Nat) (ms : EMs) : EM := fun ρ => (xVar i ρ).bind fun _ => (ms ρ).bind fun x => match x.2[i]? with
  | some (some (m, d0)) => if m = .bor then none else (F d0 x.1).bind fun y => some (y.1, x.2.set i (some (m, y.2)))
  | _ => none
/-- a name's value is turned -/
theorem Ok.turn {K : PySem.W.Frag} {c : Ct} {σ : L2.St} {H H' : Hp} {ρ : Env} {fp : Nat → List Addr} {i : Nat} {m : Fl} {d d' : D} {v : V} {F1 : List Addr} (h : Ok K c σ H ρ fp) (q : ρ[i]? = some (some (m, d))) (hm : m ≠ .bor) (hv : σ[i]? = some (some v))
    (fr : Frm [] H (fun a => a ∈ fp i) H') (r : Rep K H' d' v F1) (nd : F1.Nodup) (ow : ∀ a ∈ F1, (a ∈ fp i ∨ H a = none) ∧ Mut (H' a)) : Ok K c σ H' (ρ.set i (some (m, d'))) (fun j => if j = i then F1 else fp j) := by
  have hi : i < ρ.length := (List.getElem?_eq_some_iff.mp q).1
  have low : ∀ j n e, j ≠ i → (ρ.set i (some (m, d')))[j]? = some (some (n, e)) → ρ[j]? = some (some (n, e)) := fun j n e ne z => by
    rw [List.getElem?_set_ne (Ne.symm ne)] at z; exact z
  have at' : ∀ n e, (ρ.set i (some (m, d')))[i]? = some (some (n, e)) → n = m ∧ e = d' := fun n e z => by
    rw [List.getElem?_set_self hi] at z; cases z; exact ⟨rfl, rfl⟩
  have nin : ∀ j n e, j ≠ i → ρ[j]? = some (some (n, e)) → ∀ a ∈ fp j, a ∉ fp i := fun j n e ne z a ha hb => by
    by_cases hn : n = .bor
    · subst hn
      exact ((h.nd i m d q hm).2 a hb).2.2 (h.bo j e z a ha)
    · exact h.dj i j m d n e (Ne.symm ne) q hm z hn a hb ha
  have mk : ∀ a, a ∉ fp i → Mut (H a) → Mut (H' a) := fun a n mu => by
    cases z : H a with
    | none => rw [z] at mu; exact mu.elim
    | some o => rw [fr.keepF z n]; rw [z] at mu; exact mu
  have own1 : ∀ a ∈ F1, (c.O0 a ∨ Fr c.T c.H0 a) ∧ Mut (H' a) ∧ ¬ c.B a := fun a ha => by
    obtain ⟨z, mu⟩ := ow a ha
    rcases z with z | z
    · exact ⟨((h.nd i m d q hm).2 a z).1, mu, ((h.nd i m d q hm).2 a z).2.2⟩
    · exact ⟨sub_ow h (.inr z), mu, fun b => h.there b z⟩
  refine ⟨by rw [List.length_set]; exact h.len, fun j n e z => ?_, fun j n e z hn => ?_, fun j e z => ?_, fun j l n e n2 e2 ne z hn z2 hn2 a ha hl => ?_, h.frm.comp fr.up fun a z => ((h.nd i m d q hm).2 a z).1, h.bt, h.tb, fun j P e z => by
    by_cases hj : j = i
    · subst hj
      obtain ⟨rfl, rfl⟩ := at' _ e z
      exact h.tg _ P _ q
    · exact h.tg j P e (low j _ e hj z)⟩
  · by_cases hj : j = i
    · subst hj
      obtain ⟨rfl, rfl⟩ := at' n e z
      obtain ⟨u, h1, _, h3⟩ := h.rep j n d q
      rw [hv] at h1
      cases h1
      exact ⟨v, hv, by rw [if_pos rfl]; exact r, h3⟩
    · obtain ⟨u, h1, h2, h3⟩ := h.rep j n e (low j n e hj z)
      exact ⟨u, h1, by rw [if_neg hj]; exact h2.frm fr (nin j n e hj (low j n e hj z)), h3⟩
  · by_cases hj : j = i
    · subst hj
      rw [if_pos rfl]
      exact ⟨nd, own1⟩
    · rw [if_neg hj]
      obtain ⟨n1, n2⟩ := h.nd j n e (low j n e hj z) hn
      exact ⟨n1, fun a ha => ⟨(n2 a ha).1, mk a (nin j n e hj (low j n e hj z) a ha) (n2 a ha).2.1, (n2 a ha).2.2⟩⟩
  · by_cases hj : j = i
    · subst hj
      exact absurd (at' _ e z).1.symm hm
    · rw [if_neg hj]
      exact h.bo j e (low j _ e hj z)
  · have cross : ∀ j n e, j ≠ i → ρ[j]? = some (some (n, e)) → ∀ a ∈ F1, a ∉ fp j := fun j n e ne z a ha hb => by
      rcases (ow a ha).1 with y | y
      · exact nin j n e ne z a hb y
      · obtain ⟨u, _, h2, _⟩ := h.rep j n e z
        exact h2.there a hb y
    by_cases hj : j = i
    · subst hj
      rw [if_pos rfl] at ha
      rw [if_neg (Ne.symm ne)] at hl
      exact cross l n2 e2 (Ne.symm ne) (low l n2 e2 (Ne.symm ne) z2) a ha hl
    · rw [if_neg hj] at ha
      by_cases hl' : l = i
      · subst hl'
        rw [if_pos rfl] at hl
        exact cross j n e hj (low j n e hj z) a hl ha
      · rw [if_neg hl'] at hl
        exact h.dj j l n e n2 e2 ne (low j n e hj z) hn (low l n2 e2 hl' z2) hn2 a ha hl
theorem m_callR {n k i : Nat} {F : D → List D → Option (D × D)} {fa : Addr} {fd : FuncData} {ps : List Str} {ms : EMs} (G : FnOk X.prog X.w X.K X.mg X.base CX0 k fa fd ps (spR X.K n F)) (hr : Room k X.A) (hg : Gl X x) (hm : X.mg x = some (.ref fa)) (hk : PySem.W.keepIn X.K (.ref fa) = true) (hb : Binds X.K fd ps [])
    (hv : PE X e (tVar i)) (ha : PA X es (tMs X.K ms)) (hn : ∀ ρ ds ρ', ms ρ = some (ds, ρ') → ds.length = n) (hs : starEach (e :: es) X.env = (false, eval e X.env) :: starEach es X.env := by rfl) (hdb : (x == ("__debug__" : Str)) = false := by decide) (hpl : (backTo pos (starEach es X.env)).any (·.1) = false := by rfl) :
    DM X (.Call (.Name x po) (e :: es) [] pos) (mCallR F i ms) :=
  (pe_call G hr hg hm hk hb .nil pass0 (pa_cons hv ha hs) hdb hs hpl).imp fun σ H Q ⟨c, ρ, fp, d, ρ', h, q, kk⟩ => by
    obtain ⟨dd, e0, q⟩ := Option.bind_eq_some_iff.mp q
    obtain ⟨fl, q0⟩ := xVar_some e0
    obtain ⟨v0, hv0, _, _⟩ := h.rep i fl dd q0
    obtain ⟨⟨xs, ρ1⟩, e1, q⟩ := Option.bind_eq_some_iff.mp q
    simp only at q
    split at q
    · rename_i m d0 qi
      split at q
      · cases q
      · rename_i hm
        obtain ⟨⟨y, y'⟩, e2, q⟩ := Option.bind_eq_some_iff.mp q
        cases q
        refine ⟨v0, hv0, c, ρ, fp, xs, ρ1, h, e1, fun vr H1 fp1 G1 h1 x1 => ?_⟩
        obtain ⟨u, q1, q2, q3⟩ := h1.rep i m d0 qi
        rw [hv0] at q1
        cases q1
        obtain ⟨n1, n2⟩ := h1.nd i m d0 qi hm
        refine ⟨d0, xs, v0, vr, fp1 i, G1, _, y', List.append_nil _, hn _ _ _ e1, q2, n1, fun a ha => (n2 a ha).2.1, x1.rep, fun a ha hb => x1.dj i m d0 qi hm a hb ha, e2, fun v H' F1 Fv fr r1 r2 nd1 nd2 ap ow => ?_⟩
        have ok' := h1.turn qi hm hv0 fr r1 nd1 fun a ha => ow a (.inl ha)
        refine kk v H' _ Fv ok' ⟨r2, nd2, fun a ha => ?_, fun j n e z hn a ha hj => ?_⟩
        · obtain ⟨z, mu⟩ := ow a (.inr ha)
          rcases z with z | z
          · exact ⟨(n2 a z).1, mu, (n2 a z).2.2⟩
          · exact ⟨sub_ow h1 (.inr z), mu, fun b => h1.there b z⟩
        · by_cases hji : j = i
          · subst hji
            have hj' : a ∈ F1 := by simpa using hj
            exact ap a hj' ha
          · have hj' : a ∈ fp1 j := by simpa [hji] using hj
            rw [List.getElem?_set_ne (Ne.symm hji)] at z
            rcases (ow a (.inr ha)).1 with y | y
            · exact h1.dj i j m d0 n e (Ne.symm hji) qi hm z hn a y hj'
            · obtain ⟨u, _, h2, _⟩ := h1.rep j n e z
              exact h2.there a hj' y
    · cases q
theorem msn_nil : ∀ ρ ds ρ', msNil ρ = some (ds, ρ') → ds.length = 0 := fun ρ ds ρ' e => by cases e; rfl
theorem msn_cons {m : EM} {ms : EMs} {n : Nat} (h : ∀ ρ ds ρ', ms ρ = some (ds, ρ') → ds.length = n) : ∀ ρ ds ρ', msCons m ms ρ = some (ds, ρ') → ds.length = n + 1 := fun ρ ds ρ' e => by
  obtain ⟨x, e1, e⟩ := Option.bind_eq_some_iff.mp e
  obtain ⟨xs, e2, e⟩ := Option.bind_eq_some_iff.mp e
  cases e
  rw [List.length_cons, h _ xs.1 _ e2]
end
end DL
namespace DL
open PySem PySem.Spec PyProof.Rows L2
/-! ### data as the library's data -/
mutual
def py : D → PyData
  | .non => .none | .bl b => .bool b | .int i => .int i | .str x => .str x
  | .tup xs => .tuple (pys xs)
  | .lst xs => .list (pys xs)
  | .frz xs => .list (pys xs)
  | .ctp xs => .tuple (pys xs)
  | .dK _ _ => .dict [] | .dT _ _ => .dict [] | .exc _ _ _ _ => .dict [] | .fdT _ _ => .dict []
def pys : List D → List PyData
  | [] => []
  | d :: ds => py d :: pys ds
end
theorem pys_map : ∀ ds : List D, pys ds = ds.map py
  | [] => rfl
  | d :: ds => by rw [pys, pys_map ds]; rfl
mutual
/-- numbers, texts, truths, None, and tuples of such -/
def plain : D → Bool
  | .non => true | .bl _ => true | .int _ => true | .str _ => true
  | .tup xs => plains xs
  | _ => false
def plains : List D → Bool
  | [] => true
  | d :: ds => plain d && plains ds
end
theorem plains_all : ∀ ds : List D, plains ds = ds.all plain
  | [] => rfl
  | d :: ds => by rw [plains, plains_all ds]; rfl
mutual
theorem pure_of_plain : ∀ d : D, plain d = true → pure d = true
  | .non, _ => rfl | .bl _, _ => rfl | .int _, _ => rfl | .str _, _ => rfl
  | .tup xs, h => pures_of_plains xs h
  | .lst _, h => by cases h
  | .frz _, h => by cases h
  | .ctp _, h => by cases h
  | .dK _ _, h => by cases h
  | .dT _ _, h => by cases h
  | .exc _ _ _ _, h => by cases h
  | .fdT _ _, h => by cases h
theorem pures_of_plains : ∀ ds : List D, plains ds = true → pures ds = true
  | [], _ => rfl
  | d :: ds, h => by
    have h' : (plain d && plains ds) = true := h
    rw [Bool.and_eq_true] at h'
    show (pure d && pures ds) = true
    rw [pure_of_plain d h'.1, pures_of_plains ds h'.2]
    rfl
end
mutual
theorem py_inj : ∀ (d e : D), plain d = true → plain e = true → py d = py e → d = e
  | .non, .non, _, _, _ => rfl
  | .bl _, .bl _, _, _, h => by cases h; rfl
  | .int _, .int _, _, _, h => by cases h; rfl
  | .str _, .str _, _, _, h => by cases h; rfl
  | .tup xs, .tup ys, p, q, h => by
    have h' : pys xs = pys ys := by unfold py at h; injection h
    rw [pys_inj xs ys p q h']
  | .non, .bl _, _, _, h => by cases h
  | .non, .int _, _, _, h => by cases h
  | .non, .str _, _, _, h => by cases h
  | .non, .tup _, _, _, h => by cases h
  | .bl _, .non, _, _, h => by cases h
  | .bl _, .int _, _, _, h => by cases h
  | .bl _, .str _, _, _, h => by cases h
  | .bl _, .tup _, _, _, h => by cases h
  | .int _, .non, _, _, h => by cases h
  | .int _, .bl _, _, _, h => by cases h
  | .int _, .str _, _, _, h => by cases h
  | .int _, .tup _, _, _, h => by cases h
  | .str _, .non, _, _, h => by cases h
  | .str _, .bl _, _, _, h => by cases h
  | .str _, .int _, _, _, h => by cases h
  | .str _, .tup _, _, _, h => by cases h
  | .tup _, .non, _, _, h => by cases h
  | .tup _, .bl _, _, _, h => by cases h
  | .tup _, .int _, _, _, h => by cases h
  | .tup _, .str _, _, _, h => by cases h
  | .lst _, _, p, _, _ => by cases p
  | .frz _, _, p, _, _ => by cases p
  | .ctp _, _, p, _, _ => by cases p
  | .dK _ _, _, p, _, _ => by cases p
  | .dT _ _, _, p, _, _ => by cases p
  | .exc _ _ _ _, _, p, _, _ => by cases p
  | .fdT _ _, _, p, _, _ => by cases p
  | .non, .lst _, _, p, _ => by cases p
  | .non, .frz _, _, p, _ => by cases p
  | .non, .ctp _, _, p, _ => by cases p
  | .non, .dK _ _, _, p, _ => by cases p
  | .non, .dT _ _, _, p, _ => by cases p
  | .bl _, .lst _, _, p, _ => by cases p
  | .bl _, .frz _, _, p, _ => by cases p
  | .bl _, .ctp _, _, p, _ => by cases p
  | .bl _, .dK _ _, _, p, _ => by cases p
  | .bl _, .dT _ _, _, p, _ => by cases p
  | .int _, .lst _, _, p, _ => by cases p
  | .int _, .frz _, _, p, _ => by cases p
  | .int _, .ctp _, _, p, _ => by cases p
  | .int _, .dK _ _, _, p, _ => by cases p
  | .int _, .dT _ _, _, p, _ => by cases p
  | .str _, .lst _, _, p, _ => by cases p
  | .str _, .frz _, _, p, _ => by cases p
  | .str _, .ctp _, _, p, _ => by cases p
  | .str _, .dK _ _, _, p, _ => by cases p
  | .str _, .dT _ _, _, p, _ => by cases p
  | .tup _, .lst _, _, p, _ => by cases p
  | .tup _, .frz _, _, p, _ => by cases p
  | .tup _, .ctp _, _, p, _ => by cases p
  | .tup _, .dK _ _, _, p, _ => by cases p
  | .tup _, .dT _ _, _, p, _ => by cases p
theorem pys_inj : ∀ (ds es : List D), plains ds = true → plains es = true → pys ds = pys es → ds = es
  | [], [], _, _, _ => rfl
  | [], _ :: _, _, _, h => by cases h
  | _ :: _, [], _, _, h => by cases h
  | d :: ds, e :: es, p, q, h => by
    have p' : (plain d && plains ds) = true := p
    have q' : (plain e && plains es) = true := q
    rw [Bool.and_eq_true] at p' q'
    unfold pys at h
    injection h with h1 h2
    rw [py_inj d e p'.1 q'.1 h1, pys_inj ds es p'.2 q'.2 h2]
end
mutual
theorem Rep.dp {K : PySem.W.Frag} {H : Hp} : ∀ {d : D} {v : V} {F : List Addr}, (py d).canLay0 = true → Rep K H d v F → Dp K H v (py d)
  | .non, v, F, _, h => by rw [h.1]; exact .non
  | .bl b, v, F, _, h => by rw [h.1]; exact .bl b
  | .int b, v, F, _, h => by rw [h.1]; exact .int b
  | .str b, v, F, _, h => by rw [h.1]; exact .str b
  | .tup xs, v, F, c, h => by
    obtain ⟨a, vs, rfl, q, r⟩ := h
    exact .tup (.of q) (Reps.dp (by simpa [py, PyData.canLay0] using c) r)
  | .ctp xs, v, F, c, h => by
    obtain ⟨a, vs, rfl, q, r⟩ := h
    exact .tup q.sq (Reps.dp (by simpa [py, PyData.canLay0] using c) r)
  | .frz xs, v, F, c, h => by
    obtain ⟨a, vs, rfl, q, r⟩ := h
    exact .lst q.sq (Reps.dp (by simpa [py, PyData.canLay0] using c) r)
  | .lst xs, v, F, c, h => by
    obtain ⟨a, vs, G, rfl, q, _, r⟩ := h
    exact .lst (.inl q) (Reps.dp (by simpa [py, PyData.canLay0] using c) r)
  | .dK _ _, v, F, c, h => by simp [py, PyData.canLay0] at c
  | .dT _ _, v, F, c, h => by simp [py, PyData.canLay0] at c
  | .fdT _ _, v, F, c, h => by simp [py, PyData.canLay0] at c
  | .exc _ _ _ _, v, F, c, h => by simp [py, PyData.canLay0] at c
theorem Reps.dp {K : PySem.W.Frag} {H : Hp} : ∀ {ds : List D} {vs : List V} {F : List Addr}, PyData.canLayAll0 (pys ds) = true → Reps K H ds vs F → DpAll K H vs (pys ds)
  | [], vs, F, _, h => by rw [h.1]; exact .nil
  | d :: ds, vs, F, c, h => by
    obtain ⟨v, vr, F1, F2, rfl, rfl, r1, r2⟩ := h
    have c' : (py d).canLay0 = true ∧ PyData.canLayAll0 (pys ds) = true := by simpa [pys, PyData.canLayAll0] using c
    exact .cons (Rep.dp c'.1 r1) (Reps.dp c'.2 r2)
end
def okD (d : D) : Bool := SeqAt.shaped (py d)
theorem okD.lay {d : D} (h : okD d = true) : (py d).canLay0 = true := SeqAt.canLay_of_shaped h
def eqv (x y : D) : Bool := PyData.eqv (py x) (py y)
def ltv (x y : D) : Bool := PySem.W.dataLt (py x) (py y)
def oEq : D → D → Option D := fun x y => if okD x = true then if okD y = true then some (.bl (eqv x y)) else none else none
def oNe : D → D → Option D := fun x y => if okD x = true then if okD y = true then some (.bl (!eqv x y)) else none else none
theorem d_eq {K : PySem.W.Frag} : OpD K (rEqD K) oEq := fun H d1 d2 v1 v2 F1 F2 d Q r1 r2 e k => by
  unfold oEq at e
  split at e
  · rename_i h1
    split at e
    · rename_i h2
      cases e
      exact ⟨py d1, py d2, r1.dp (okD.lay h1), r2.dp (okD.lay h2), h1, h2, k _ H [] (Same.refl H) ⟨rfl, rfl⟩ New.nil⟩
    · cases e
  · cases e
theorem d_ne {K : PySem.W.Frag} : OpD K (rNeD K) oNe := fun H d1 d2 v1 v2 F1 F2 d Q r1 r2 e k => by
  unfold oNe at e
  split at e
  · rename_i h1
    split at e
    · rename_i h2
      cases e
      exact ⟨py d1, py d2, r1.dp (okD.lay h1), r2.dp (okD.lay h2), h1, h2, k _ H [] (Same.refl H) ⟨rfl, rfl⟩ New.nil⟩
    · cases e
  · cases e
/-- order of two alike data -/
def cmpOk (d e : PyData) : Bool := PySem.W.alike d e && (match d with | .none => false | _ => true) && decide (d.depth ≤ 64) && d.canLay0 && e.canLay0
theorem cmpOk_iff {d e : PyData} (h : cmpOk d e = true) : PySem.W.alike d e = true ∧ d ≠ .none ∧ d.depth ≤ 64 ∧ d.canLay0 = true ∧ e.canLay0 = true := by
  unfold cmpOk at h
  simp only [Bool.and_eq_true, decide_eq_true_eq] at h
  obtain ⟨⟨⟨⟨h1, h2⟩, h3⟩, h4⟩, h5⟩ := h
  refine ⟨h1, fun z => ?_, h3, h4, h5⟩
  subst z
  cases h2
def rOrd (K : PySem.W.Frag) (b : PyData → PyData → Bool) : R2 := fun x y H Q => ∃ d e, Dp K H x d ∧ Dp K H y e ∧ cmpOk d e = true ∧ Q (.bl (b d e)) H
section
variable {X : Cx}
theorem op_ord {op : CmpOp} {b : PyData → PyData → Bool} (hu : X.A.units + 64 < cLine)
    (rule : ∀ {s : Shared} {x y : Value} {d e : PyData} {as bs : List Addr} {Q E : Value → Shared → Prop}, Reads s.heap x d as → Reads s.heap y e bs → PySem.W.alike d e = true → d ≠ .none → X.A.units + min d.depth e.depth < cLine → Q (.bool (b d e)) s → wpAny (model X.prog X.w) X.A (compareOp op x y) Q E s) :
    OpR X (compareOp op) (rOrd X.K b) := by
  intro pins s σ H x y v u Q I rx ry h
  obtain ⟨d, e, hd, he, c, q⟩ := h
  obtain ⟨as, r1⟩ := Dp.reads I d x v hd rx
  obtain ⟨bs, r2⟩ := Dp.reads I e y u he ry
  obtain ⟨h1, h2, h3, _, _⟩ := cmpOk_iff c
  have hm : min d.depth e.depth ≤ d.depth := Nat.min_le_left _ _
  exact rule r1 r2 h1 h2 (by omega) ⟨.bl _, H, I, rfl, q⟩
theorem op_ltD (hu : X.A.units + 64 < cLine) : OpR X (compareOp .Lt) (rOrd X.K fun d e => PySem.W.dataLt d e) := op_ord hu fun r1 r2 h1 h2 h3 q => PySem.W.lt_data r1 r2 h1 h2 h3 q
theorem op_gtD (hu : X.A.units + 64 < cLine) : OpR X (compareOp .Gt) (rOrd X.K fun d e => PySem.W.dataLt e d) := op_ord hu fun r1 r2 h1 h2 h3 q => PySem.W.gt_data r1 r2 h1 h2 h3 q
theorem op_leD (hu : X.A.units + 64 < cLine) : OpR X (compareOp .LtE) (rOrd X.K fun d e => !PySem.W.dataLt e d) := op_ord hu fun r1 r2 h1 h2 h3 q => PySem.W.le_data r1 r2 h1 h2 h3 q
theorem op_geD (hu : X.A.units + 64 < cLine) : OpR X (compareOp .GtE) (rOrd X.K fun d e => !PySem.W.dataLt d e) := op_ord hu fun r1 r2 h1 h2 h3 q => PySem.W.ge_data r1 r2 h1 h2 h3 q
end
def ordD (b : PyData → PyData → Bool) (bi : Int → Int → Bool) : D → D → Option D := fun x y => match x, y with
  | .int i, .int j => some (.bl (bi i j))
  | x, y => if cmpOk (py x) (py y) = true then some (.bl (b (py x) (py y))) else none
def oLt : D → D → Option D := ordD (fun d e => PySem.W.dataLt d e) fun i j => decide (i < j)
def oGt : D → D → Option D := ordD (fun d e => PySem.W.dataLt e d) fun i j => decide (j < i)
def oLe : D → D → Option D := ordD (fun d e => !PySem.W.dataLt e d) fun i j => decide (i ≤ j)
def oGe : D → D → Option D := ordD (fun d e => !PySem.W.dataLt d e) fun i j => decide (j ≤ i)
theorem d_ord {K : PySem.W.Frag} {b : PyData → PyData → Bool} {bi : Int → Int → Bool} : OpD K (fun x y H Q => rI0 (fun i j => .bl (bi i j)) x y H Q ∨ rOrd K b x y H Q) (ordD b bi) := fun H d1 d2 v1 v2 F1 F2 d Q r1 r2 e k => by
  unfold ordD at e
  split at e
  · cases e
    exact .inl ⟨_, _, r1.1, r2.1, k _ H [] (Same.refl H) ⟨rfl, rfl⟩ New.nil⟩
  · split at e
    · rename_i c
      cases e
      obtain ⟨_, _, _, h4, h5⟩ := cmpOk_iff c
      exact .inr ⟨_, _, r1.dp h4, r2.dp h5, c, k _ H [] (Same.refl H) ⟨rfl, rfl⟩ New.nil⟩
    · cases e
section
variable {X : Cx} {k : Nat}
theorem r_lt (hr : Room k X.A) : OpR X (compareOp .Lt) (fun x y H Q => rI0 (fun i j => .bl (decide (i < j))) x y H Q ∨ rOrd X.K (fun d e => PySem.W.dataLt d e) x y H Q) := op_lt.or (op_ltD hr.units)
theorem r_gt (hr : Room k X.A) : OpR X (compareOp .Gt) (fun x y H Q => rI0 (fun i j => .bl (decide (j < i))) x y H Q ∨ rOrd X.K (fun d e => PySem.W.dataLt e d) x y H Q) := op_gt.or (op_gtD hr.units)
theorem r_le (hr : Room k X.A) : OpR X (compareOp .LtE) (fun x y H Q => rI0 (fun i j => .bl (decide (i ≤ j))) x y H Q ∨ rOrd X.K (fun d e => !PySem.W.dataLt e d) x y H Q) := op_le.or (op_leD hr.units)
theorem r_ge (hr : Room k X.A) : OpR X (compareOp .GtE) (fun x y H Q => rI0 (fun i j => .bl (decide (j ≤ i))) x y H Q ∨ rOrd X.K (fun d e => !PySem.W.dataLt d e) x y H Q) := op_ge.or (op_geD hr.units)
theorem r_eq (hr : Room k X.A) : OpR X (compareOp .Eq) (rEqD X.K) := op_eqD hr.units
theorem r_ne (hr : Room k X.A) : OpR X (compareOp .NotEq) (rNeD X.K) := op_neD hr.units
end
/-! is None -/
def isNon : D → Bool
  | .non => true
  | _ => false
def oIsN : D → D → Option D := fun x y => if isNon y = true then some (.bl (isNon x)) else none
def oNotN : D → D → Option D := fun x y => if isNon y = true then some (.bl (!isNon x)) else none
/-! arithmetic -/
def o2 (C : Int → Int → Bool) (f : Int → Int → Int) : D → D → Option D := fun x y => match x, y with
  | .int i, .int j => if C i j = true then some (.int (f i j)) else none
  | _, _ => none
theorem d_2 {K : PySem.W.Frag} {P : Int → Int → Prop} {C : Int → Int → Bool} {f : Int → Int → Int} (hC : ∀ i j, C i j = true → P i j) : OpD K (rI P fun i j => .int (f i j)) (o2 C f) := fun H d1 d2 v1 v2 F1 F2 d Q r1 r2 e k => by
  unfold o2 at e
  split at e
  · split at e
    · rename_i c
      cases e
      exact ⟨_, _, r1.1, r2.1, hC _ _ c, k _ H [] (Same.refl H) ⟨rfl, rfl⟩ New.nil⟩
    · cases e
  · cases e
theorem d_20 {K : PySem.W.Frag} {f : Int → Int → Int} : OpD K (rI0 fun i j => .int (f i j)) (o2 (fun _ _ => true) f) := fun H d1 d2 v1 v2 F1 F2 d Q r1 r2 e k => by
  unfold o2 at e
  split at e
  · cases e
    exact ⟨_, _, r1.1, r2.1, k _ H [] (Same.refl H) ⟨rfl, rfl⟩ New.nil⟩
  · cases e
def smallI (i : Int) : Bool := decide (i.natAbs < 2 ^ 64)
theorem smallI_iff {i : Int} (h : smallI i = true) : -(2 ^ 64) < i ∧ i < 2 ^ 64 := by
  unfold smallI at h
  rw [decide_eq_true_eq] at h
  omega
def oSub : D → D → Option D := o2 (fun _ _ => true) fun i j => i - j
def oMul : D → D → Option D := o2 (fun i j => smallI i || smallI j) fun i j => i * j
def oFdiv : D → D → Option D := o2 (fun _ j => decide (j ≠ 0) && decide (j.natAbs < 1073741824)) fun i j => i.fdiv j
def oMod : D → D → Option D := o2 (fun _ j => decide (j ≠ 0)) fun i j => i.fmod j
def oPow : D → D → Option D := o2 (fun i j => decide (0 ≤ j) && decide (j ≤ 1000000) && decide (i.natAbs < 2 ^ 64)) fun i j => i ^ j.toNat
theorem d_sub {K : PySem.W.Frag} : OpD K (rI0 fun i j => .int (i - j)) oSub := d_20
theorem d_mul {K : PySem.W.Frag} : OpD K (rI CMul fun i j => .int (i * j)) oMul := d_2 fun i j h => by
  rw [Bool.or_eq_true] at h
  exact h.imp smallI_iff smallI_iff
theorem d_fdiv {K : PySem.W.Frag} : OpD K (rI CDivN fun i j => .int (i.fdiv j)) oFdiv := d_2 fun i j h => by
  rw [Bool.and_eq_true, decide_eq_true_eq, decide_eq_true_eq] at h
  exact h
theorem d_mod {K : PySem.W.Frag} : OpD K (rI (fun _ j => j ≠ 0) fun i j => .int (i.fmod j)) oMod := d_2 fun i j h => by
  rw [decide_eq_true_eq] at h
  exact h
theorem d_pow {K : PySem.W.Frag} : OpD K (rI CPow fun i j => .int (i ^ j.toNat)) oPow := d_2 fun i j h => by
  simp only [Bool.and_eq_true, decide_eq_true_eq] at h
  exact ⟨h.1.1, h.1.2, h.2⟩
/-- + of numbers, of texts, of tuples, of lists -/
def oAdd : D → D → Option D := fun x y => match x, y with
  | .int i, .int j => some (.int (i + j))
  | .str a, .str b => if a.length + b.length ≤ sizeLine then some (.str (a ++ b)) else none
  | .tup xs, .tup ys => if xs.length + ys.length ≤ sizeLine then (if pures xs = true then if pures ys = true then some (.tup (xs ++ ys)) else none else none) else none
  | .lst xs, .lst ys => if xs.length + ys.length ≤ sizeLine then (if pures xs = true then if pures ys = true then some (.lst (xs ++ ys)) else none else none) else none
  | _, _ => none
/-- two lists that may be locked -/
def rAddS : R2 := fun x y H Q => ∃ i j, x = .str i ∧ y = .str j ∧ i.length + j.length ≤ sizeLine ∧ Q (.str (i ++ j)) H
def rAddI : R2 := rI0 fun i j => .int (i + j)
def rAddL : R2 := fun x y H Q => ∃ l b xs zs, x = .ref l ∧ y = .ref b ∧ Rd H l (.lst xs) ∧ Rd H b (.lst zs) ∧ xs.length + zs.length ≤ sizeLine ∧ ∀ p, H p = none → Q (.ref p) (upd H p (.lst (xs ++ zs)))
def rAdd (K : PySem.W.Frag) : R2 := fun x y H Q => rAddI x y H Q ∨ rAddS x y H Q ∨ rCatA K x y H Q ∨ rAddL x y H Q
section
variable {X : Cx} {k : Nat}
theorem op_catL : OpR X (binaryOp .Add) rAddL := by
  intro pins s σ H x y v u Q I rx ry h
  obtain ⟨l, b, xs, zs, rfl, rfl, hH, hB, hz, q⟩ := h
  cases rx
  cases ry
  obtain ⟨z, its, n, r, e⟩ := hH.ok I.hok
  obtain ⟨z2, its2, n2, r2, e2⟩ := hB.ok I.hok
  have hl := r.length
  have hl2 := r2.length
  refine PySem.P.add_list e e2 ?_ (by rw [List.size_toArray, List.size_toArray]; omega)
  have ea : its.toArray ++ its2.toArray = (its ++ its2).toArray := by simp
  rw [ea]
  exact ⟨.ref _, _, I.lnew (t' := s.toks) (r.append r2) (by rw [List.length_append]; omega), rfl, q _ I.fresh⟩
theorem r_add : OpR X (binaryOp .Add) (rAdd X.K) := op_add.or (op_add_str.or (op_catA.or op_catL))
end
theorem reps_pures {K : PySem.W.Frag} {H : Hp} {xs ys : List D} {vs ws : List V} {F G : List Addr} (r : Reps K H xs vs F) (r' : Reps K H ys ws G) (p : pures xs = true) (q : pures ys = true) : Reps K H (xs ++ ys) (vs ++ ws) [] := by
  have z := r.append r'
  rw [r.nil p, r'.nil q] at z
  exact z
theorem d_add {K : PySem.W.Frag} : OpD K (rAdd K) oAdd := fun H d1 d2 v1 v2 F1 F2 d Q r1 r2 e k => by
  unfold oAdd at e
  split at e
  · cases e
    exact .inl ⟨_, _, r1.1, r2.1, k _ H [] (Same.refl H) ⟨rfl, rfl⟩ New.nil⟩
  · split at e
    · rename_i h
      cases e
      exact .inr (.inl ⟨_, _, r1.1, r2.1, h, k _ H [] (Same.refl H) ⟨rfl, rfl⟩ New.nil⟩)
    · cases e
  · rename_i xs ys
    split at e
    · rename_i h
      split at e
      · rename_i p1
        split at e
        · rename_i p2
          cases e
          obtain ⟨a, vs, rfl, q1, t1⟩ := r1
          obtain ⟨b, ws, rfl, q2, t2⟩ := r2
          have z := reps_pures t1 t2 p1 p2
          refine .inr (.inr (.inl ⟨a, b, vs, ws, rfl, rfl, .of q1, .of q2, by rw [t1.length, t2.length]; exact h, fun e1 => ?_, fun e1 e2 => ?_, fun e1 e2 p hp => ?_⟩))
          · subst e1
            exact k _ H [] (Same.refl H) ⟨b, ws, rfl, q2, z⟩ New.nil
          · subst e2
            rw [List.append_nil] at z
            exact k _ H [] (Same.refl H) ⟨a, vs, rfl, q1, z⟩ New.nil
          · have sp : Same H (upd H p (.tup (vs ++ ws))) := same_upd hp
            exact k _ _ [] sp ⟨p, vs ++ ws, rfl, upd_same, z.same sp⟩ New.nil
        · cases e
      · cases e
    · cases e
  · rename_i xs ys
    split at e
    · rename_i h
      split at e
      · rename_i p1
        split at e
        · rename_i p2
          cases e
          obtain ⟨a, vs, G, rfl, q1, rfl, t1⟩ := r1
          obtain ⟨b, ws, G', rfl, q2, rfl, t2⟩ := r2
          have z := reps_pures t1 t2 p1 p2
          exact .inr (.inr (.inr ⟨a, b, vs, ws, rfl, rfl, q1, q2, by rw [t1.length, t2.length]; exact h, fun p hp => by
            have sp : Same H (upd H p (.lst (vs ++ ws))) := same_upd hp
            exact k _ _ [p] sp ⟨p, vs ++ ws, [], rfl, .inl upd_same, rfl, z.same sp⟩ ⟨List.nodup_cons.mpr ⟨fun q => (by cases q), List.nodup_nil⟩, fun a ha => (by rw [List.mem_singleton.mp ha]; exact hp), fun a ha => by rw [List.mem_singleton.mp ha, upd_same]; trivial⟩⟩))
        · cases e
      · cases e
    · cases e
  · cases e
end DL
namespace DL
open PySem PySem.Spec PyProof.Rows L2
/-! ### an item -/
def keyD : Key → D
  | .inl i => .int i
  | .inr x => .str x
def toKey : D → Option Key
  | .int i => some (.inl i)
  | .str x => some (.inr x)
  | _ => none
def toKeys : List D → Option (List Key)
  | [] => some []
  | d :: ds => (toKey d).bind fun k => (toKeys ds).bind fun ks => some (k :: ks)
def toKeyT : D → Option (List Key)
  | .tup ds => toKeys ds
  | _ => none
theorem toKey_rep {K : PySem.W.Frag} {H : Hp} {d : D} {v : V} {F : List Addr} {k : Key} (r : Rep K H d v F) (e : toKey d = some k) : v = kV k ∧ d = keyD k := by
  cases d <;> cases e
  · exact ⟨r.1, rfl⟩
  · exact ⟨r.1, rfl⟩
theorem toKeys_rep {K : PySem.W.Frag} {H : Hp} : ∀ {ds : List D} {vs : List V} {F : List Addr} {ks : List Key}, Reps K H ds vs F → toKeys ds = some ks → vs = ks.map kV ∧ ds = ks.map keyD
  | [], vs, F, ks, r, e => by cases e; exact ⟨r.1, rfl⟩
  | d :: ds, vs, F, ks, r, e => by
    obtain ⟨v, vr, F1, F2, rfl, rfl, r1, r2⟩ := r
    obtain ⟨k, e1, e⟩ := Option.bind_eq_some_iff.mp e
    obtain ⟨kr, e2, e⟩ := Option.bind_eq_some_iff.mp e
    cases e
    obtain ⟨h1, h2⟩ := toKey_rep r1 e1
    obtain ⟨h3, h4⟩ := toKeys_rep r2 e2
    rw [h1, h2, h3, h4]
    exact ⟨rfl, rfl⟩
/-- a dict's value at a key -/
def lookD {κ : Type} [DecidableEq κ] : List κ → List D → κ → Option D
  | k :: ks, x :: xs, q => if k = q then some x else lookD ks xs q
  | _, _, _ => none
theorem lookD_rep {K : PySem.W.Frag} {H : Hp} {κ : Type} [DecidableEq κ] {q : κ} : ∀ {ks : List κ} {xs : List D} {vs : List V} {F : List Addr}, Reps K H xs vs F → ks.length = xs.length → match lookD ks xs q with
    | some x => ∃ v G, valV (ks.zip vs) q = some v ∧ Rep K H x v G ∧ ∀ a ∈ G, a ∈ F
    | none => valV (ks.zip vs) q = none
  | [], [], vs, F, r, l => by
    obtain ⟨rfl, rfl⟩ := r
    rfl
  | [], _ :: _, vs, F, r, l => by cases l
  | _ :: _, [], vs, F, r, l => by cases l
  | k :: ks, x :: xs, vs, F, r, l => by
    obtain ⟨v, vr, F1, F2, rfl, rfl, r1, r2⟩ := r
    unfold lookD
    by_cases h : k = q
    · rw [if_pos h]
      exact ⟨v, F1, by unfold valV; simp [h], r1, fun a ha => List.mem_append_left _ ha⟩
    · rw [if_neg h]
      have e : valV ((k :: ks).zip (v :: vr)) q = valV (ks.zip vr) q := by unfold valV; simp [h]
      rw [e]
      have ih := lookD_rep (q := q) r2 (by simpa using l)
      split
      · rename_i y hy
        rw [hy] at ih
        obtain ⟨w, G, h1, h2, h3⟩ := ih
        exact ⟨w, G, h1, h2, fun a ha => List.mem_append_right _ (h3 a ha)⟩
      · rename_i hy
        rw [hy] at ih
        exact ih
/-- what the dict holds there, if it is one -/
def getD : D → D → Option (Option D)
  | .dK ks xs, k => (toKey k).map fun q => lookD ks xs q
  | .dT ks xs, k => (toKeyT k).map fun q => lookD ks xs q
  | _, _ => none
theorem getD_rep {K : PySem.W.Frag} {H : Hp} {d k : D} {x y : V} {F G : List Addr} {o : Option D} (r : Rep K H d x F) (q : Rep K H k y G) (e : getD d k = some o) :
    ∃ a, x = .ref a ∧ (∀ z, o = some z → ∃ v G, DGet H a y (some v) ∧ Rep K H z v G ∧ ∀ a ∈ G, a ∈ F) ∧ (o = none → DGet H a y none) := by
  cases d with
  | dK ks xs =>
    obtain ⟨p, vs, F', rfl, hr, l, rfl, rr⟩ := r
    obtain ⟨kk, e1, rfl⟩ := Option.map_eq_some_iff.mp e
    obtain ⟨hk, _⟩ := toKey_rep q e1
    have z := lookD_rep (q := kk) rr l
    refine ⟨p, rfl, fun w hw => ?_, fun hw => ?_⟩
    · rw [hw] at z
      obtain ⟨v, G, h1, h2, h3⟩ := z
      exact ⟨v, G, .inl ⟨_, kk, hr, hk, h1.symm⟩, h2, fun a ha => List.mem_cons_of_mem _ (h3 a ha)⟩
    · rw [hw] at z
      exact .inl ⟨_, kk, hr, hk, z.symm⟩
  | dT ks xs =>
    obtain ⟨p, vs, F', rfl, hr, l, rfl, rr⟩ := r
    obtain ⟨kk, e1, rfl⟩ := Option.map_eq_some_iff.mp e
    cases k with
    | tup ds =>
      obtain ⟨b, ws, rfl, hb, rb⟩ := q
      obtain ⟨hk, _⟩ := toKeys_rep rb e1
      subst hk
      have z := lookD_rep (q := kk) rr l
      refine ⟨p, rfl, fun w hw => ?_, fun hw => ?_⟩
      · rw [hw] at z
        obtain ⟨v, G, h1, h2, h3⟩ := z
        exact ⟨v, G, .inr ⟨_, kk, b, hr, rfl, hb, h1.symm⟩, h2, fun a ha => List.mem_cons_of_mem _ (h3 a ha)⟩
      · rw [hw] at z
        exact .inr ⟨_, kk, b, hr, rfl, hb, z.symm⟩
    | _ => cases e1
  | _ => cases e
theorem atI_reps {K : PySem.W.Frag} {H : Hp} {xs : List D} {vs : List V} {F : List Addr} {i : Int} {d : D} (r : Reps K H xs vs F) (e : atI xs i = some d) : ∃ v G, atI vs i = some v ∧ Rep K H d v G ∧ ∀ a ∈ G, a ∈ F := by
  unfold atI at e ⊢
  rw [r.length]
  obtain ⟨j, e1, e2⟩ := Option.bind_eq_some_iff.mp e
  obtain ⟨v, G, h1, h2, h3⟩ := r.get e2
  exact ⟨v, G, by rw [e1]; exact h1, h2, h3⟩
def ixD : D → D → Option D := fun x y => match x, y with
  | .tup xs, .int i => atI xs i
  | .ctp xs, .int i => atI xs i
  | .lst xs, .int i => atI xs i
  | .frz xs, .int i => atI xs i
  | .str z, .int i => if z.length ≤ sizeLine then (atI z.cps.toList i).map fun c => .str ⟨#[c]⟩ else none
  | d, k => (getD d k).bind fun o => o
def IxDb (K : PySem.W.Frag) (r : R2) (g : D → D → Option D) : Prop := ∀ H d1 d2 v1 v2 F1 F2 d (Q : VK), Rep K H d1 v1 F1 → Rep K H d2 v2 F2 → g d1 d2 = some d → (∀ v G, Rep K H d v G → Q v H) → r v1 v2 H Q
section
variable {X : Cx} {k : Nat}
def rIxDc : R2 := fun x y H Q => ∃ a v, x = .ref a ∧ DGet H a y (some v) ∧ Q v H
theorem ix_dict (hu : X.A.units + 1 < cLine) : IxR X rIxDc := by
  intro value slice pins s σ H x y v u Q I rx ry h hs
  obtain ⟨a, z, rfl, g, q⟩ := h
  cases rx
  exact tail_any (dict_typeIs I g) PySem.F.slot_dict_getitem.lookup (d_getItem hu I g ry fun w' s' I' r' => ⟨z, H, I', r', q⟩) hs
def rIxA (K : PySem.W.Frag) : R2 := fun x y H Q => rIx K x y H Q ∨ rIxDc x y H Q
theorem r_ix (hr : Room k X.A) : IxR X (rIxA X.K) := ix_seq.or (ix_dict (hu_of hr))
end
theorem d_ix {K : PySem.W.Frag} : IxDb K (rIxA K) ixD := fun H d1 d2 v1 v2 F1 F2 d Q r1 r2 e k => by
  unfold ixD at e
  split at e
  · obtain ⟨a, vs, rfl, q, r⟩ := r1
    obtain ⟨v, G, h1, h2, _⟩ := atI_reps r e
    exact .inl (.inr (.inl ⟨a, vs, _, v, rfl, r2.1, .of q, h1, k v G h2⟩))
  · obtain ⟨a, vs, rfl, q, r⟩ := r1
    obtain ⟨v, G, h1, h2, _⟩ := atI_reps r e
    exact .inl (.inr (.inl ⟨a, vs, _, v, rfl, r2.1, q.sq, h1, k v G h2⟩))
  · obtain ⟨a, vs, _, rfl, q, _, r⟩ := r1
    obtain ⟨v, G, h1, h2, _⟩ := atI_reps r e
    exact .inl (.inl ⟨a, vs, _, v, rfl, r2.1, .inl q, h1, k v G h2⟩)
  · obtain ⟨a, vs, rfl, q, r⟩ := r1
    obtain ⟨v, G, h1, h2, _⟩ := atI_reps r e
    exact .inl (.inl ⟨a, vs, _, v, rfl, r2.1, q.sq, h1, k v G h2⟩)
  · split at e
    · rename_i h
      obtain ⟨c, e1, rfl⟩ := Option.map_eq_some_iff.mp e
      exact .inl (.inr (.inr ⟨_, _, c, r1.1, r2.1, h, e1, k _ [] ⟨rfl, rfl⟩⟩))
    · cases e
  · obtain ⟨o, e1, e2⟩ := Option.bind_eq_some_iff.mp e
    obtain ⟨a, rfl, h1, h2⟩ := getD_rep r1 r2 e1
    obtain ⟨v, G, g1, g2, _⟩ := h1 d e2
    exact .inr ⟨a, v, rfl, g1, k v G g2⟩
section
variable {X : Cx} {a b : Expr} {f g : EX} {pos : Pos} {k : Nat}
theorem b_ix (hr : Room k X.A) (ha : DB X a f) (hb : DB X b g) (hs : PlainIx b) : DB X (.Subscript a b pos) (xOp ixD f g) := (pe_ix (r_ix hr) ha hb hs).imp fun σ H Q ⟨ρ, d, s, e, k⟩ => by
  obtain ⟨x, y, e1, e2, e3⟩ := xOp_some e
  exact ⟨ρ, x, s, e1, fun v H1 F1 s1 r1 _ => ⟨ρ, y, s.same s1, e2, fun w H2 F2 s2 r2 _ => d_ix H2 x y v w F1 F2 d Q (r1.same s2) r2 e3 fun u G r3 => k u H2 G (s1.trans s2) r3 fun z => by cases z⟩⟩
/-! unary minus -/
def oNeg : D → Option D
  | .int i => some (.int (-i))
  | _ => none
theorem p_neg (ha : DB X a f) : DP X (.UnaryOp .USub a pos) (fun ρ => (f ρ).bind oNeg) := (pe_un un_neg ha).imp fun σ H Q ⟨ρ, d, s, e, k⟩ => by
  obtain ⟨x, e1, e⟩ := Option.bind_eq_some_iff.mp e
  refine ⟨ρ, x, s, e1, fun v H1 F1 s1 r1 _ => ?_⟩
  cases x with
  | int i => cases e; exact ⟨i, r1.1, k _ H1 [] s1 ⟨rfl, rfl⟩ fun _ => New.nil⟩
  | _ => cases e
/-- a module's number -/
theorem p_globI {x : Str} {i : Int} {t : Tok} {po : Pos} (hg : Gl X x) (hm : X.mg x = some (.int i t)) (hd : (x == ("__debug__" : Str)) = false := by decide) : DP X (.Name x po) (xC (.int i)) := p_const (pe_glob (v := .int i) hg hm ⟨t, rfl⟩ hd) fun _ => ⟨rfl, rfl⟩
end
/-! ### built-in functions -/
def simD (K : PySem.W.Frag) (r : List V → Hp → VK → Prop) (o : List D → Option D) : Prop := CallD K r o
/-- len -/
def lenD : List D → Option D := fun ds => match ds with
  | [.tup xs] => some (.int xs.length)
  | [.ctp xs] => some (.int xs.length)
  | [.lst xs] => some (.int xs.length)
  | [.frz xs] => some (.int xs.length)
  | [.str z] => if z.length ≤ sizeLine then some (.int z.length) else none
  | _ => none
theorem reps_one {K : PySem.W.Frag} {H : Hp} {d : D} {vs : List V} {F : List Addr} (r : Reps K H [d] vs F) : ∃ v, vs = [v] ∧ Rep K H d v F := by
  obtain ⟨v, vr, F1, F2, rfl, rfl, r1, r2⟩ := r
  obtain ⟨z1, z2⟩ := r2
  subst z1 z2
  exact ⟨v, rfl, by rw [List.append_nil]; exact r1⟩
def rLenA (K : PySem.W.Frag) : List V → Hp → VK → Prop := fun xs H Q => (∃ p ys, xs = [.ref p] ∧ (SqL K H p ys ∨ SqT K H p ys) ∧ Q (.int ys.length) H) ∨ (∃ z, xs = [.str z] ∧ z.length ≤ sizeLine ∧ Q (.int z.length) H)
theorem c_len {X : Cx} : CallR X (.builtin "len") (rLenA X.K) := call_len_seq.or call_len_str
theorem d_len {K : PySem.W.Frag} : CallD K (rLenA K) lenD := fun H ds vs F d Q r e k => by
  unfold lenD at e
  split at e
  · cases e
    obtain ⟨v, rfl, p, ws, rfl, q, r⟩ := reps_one r
    exact .inl ⟨p, ws, rfl, .inr (.of q), by rw [r.length]; exact k _ H [] (Same.refl H) ⟨rfl, rfl⟩ New.nil⟩
  · cases e
    obtain ⟨v, rfl, p, ws, rfl, q, r⟩ := reps_one r
    exact .inl ⟨p, ws, rfl, .inr q.sq, by rw [r.length]; exact k _ H [] (Same.refl H) ⟨rfl, rfl⟩ New.nil⟩
  · cases e
    obtain ⟨v, rfl, p, ws, G, rfl, q, _, r⟩ := reps_one r
    exact .inl ⟨p, ws, rfl, .inl (.inl q), by rw [r.length]; exact k _ H [] (Same.refl H) ⟨rfl, rfl⟩ New.nil⟩
  · cases e
    obtain ⟨v, rfl, p, ws, rfl, q, r⟩ := reps_one r
    exact .inl ⟨p, ws, rfl, .inl q.sq, by rw [r.length]; exact k _ H [] (Same.refl H) ⟨rfl, rfl⟩ New.nil⟩
  · split at e
    · rename_i h
      cases e
      obtain ⟨v, rfl, q⟩ := reps_one r
      exact .inr ⟨_, by rw [q.1], h, k _ H [] (Same.refl H) ⟨rfl, rfl⟩ New.nil⟩
    · cases e
  · cases e
/-- int -/
def intD : List D → Option D := fun ds => match ds with
  | [.int i] => some (.int i)
  | [.bl b] => some (.int (if b then 1 else 0))
  | _ => none
theorem d_int {K : PySem.W.Frag} : CallD K (fun xs H Q => (∃ i, xs = [.int i] ∧ Q (.int i) H) ∨ ∃ k, xs = [.bl k] ∧ Q (.int (if k then 1 else 0)) H) intD := fun H ds vs F d Q r e k => by
  unfold intD at e
  split at e
  · cases e
    obtain ⟨v, rfl, q⟩ := reps_one r
    exact .inl ⟨_, by rw [q.1], k _ H [] (Same.refl H) ⟨rfl, rfl⟩ New.nil⟩
  · cases e
    obtain ⟨v, rfl, q⟩ := reps_one r
    exact .inr ⟨_, by rw [q.1], k _ H [] (Same.refl H) ⟨rfl, rfl⟩ New.nil⟩
  · cases e
/-- abs -/
def absD : List D → Option D := fun ds => match ds with
  | [.int i] => some (.int (if i < 0 then -i else i))
  | _ => none
/-- tuple of a list, a tuple -/
def tupleD : List D → Option D := fun ds => match ds with
  | [.lst xs] => if pures xs = true then some (.tup xs) else none
  | [.frz xs] => if pures xs = true then some (.tup xs) else none
  | [.tup xs] => if pures xs = true then some (.tup xs) else none
  | _ => none
def rTupOf (K : PySem.W.Frag) : List V → Hp → VK → Prop := fun xs H Q => ∃ p ys, xs = [.ref p] ∧ ((SqL K H p ys ∧ ∀ l, H l = none → Q (.ref l) (upd H l (.tup ys))) ∨ (SqT K H p ys ∧ Q (.ref p) H))
theorem d_tuple {K : PySem.W.Frag} : CallD K (rTupOf K) tupleD := fun H ds vs F d Q r e k => by
  unfold tupleD at e
  split at e
  · split at e
    · rename_i h
      cases e
      obtain ⟨v, rfl, p, ws, G, rfl, q, _, r⟩ := reps_one r
      have z := r.nil h
      subst z
      exact ⟨p, ws, rfl, .inl ⟨.inl q, fun l hl => k _ _ [] (same_upd hl) ⟨l, ws, rfl, upd_same, r.same (same_upd hl)⟩ New.nil⟩⟩
    · cases e
  · split at e
    · rename_i h
      cases e
      obtain ⟨v, rfl, p, ws, rfl, q, r⟩ := reps_one r
      have z := r.nil h
      subst z
      exact ⟨p, ws, rfl, .inl ⟨q.sq, fun l hl => k _ _ [] (same_upd hl) ⟨l, ws, rfl, upd_same, r.same (same_upd hl)⟩ New.nil⟩⟩
    · cases e
  · split at e
    · rename_i h
      cases e
      obtain ⟨v, rfl, p, ws, rfl, q, r⟩ := reps_one r
      have z := r.nil h
      subst z
      exact ⟨p, ws, rfl, .inr ⟨.of q, k _ _ [] (Same.refl H) ⟨p, ws, rfl, q, r⟩ New.nil⟩⟩
    · cases e
  · cases e
/-- list of a list, a tuple -/
def listD : List D → Option D := fun ds => match ds with
  | [.lst xs] => if pures xs = true then some (.lst xs) else none
  | [.frz xs] => if pures xs = true then some (.lst xs) else none
  | [.tup xs] => if pures xs = true then some (.lst xs) else none
  | [.ctp xs] => if pures xs = true then some (.lst xs) else none
  | _ => none
def rListOf (K : PySem.W.Frag) : List V → Hp → VK → Prop := fun xs H Q => ∃ p ys, xs = [.ref p] ∧ (SqL K H p ys ∨ SqT K H p ys) ∧ ∀ l, H l = none → Q (.ref l) (upd H l (.lst ys))
theorem new_lst {H : Hp} {p : Addr} {ws : List V} (hp : H p = none) : New H (upd H p (.lst ws)) [p] :=
  ⟨List.nodup_cons.mpr ⟨fun q => (by cases q), List.nodup_nil⟩, fun a ha => (by rw [List.mem_singleton.mp ha]; exact hp), fun a ha => by rw [List.mem_singleton.mp ha, upd_same]; trivial⟩
theorem d_list {K : PySem.W.Frag} : CallD K (rListOf K) listD := fun H ds vs F d Q r e k => by
  have fin : ∀ {p : Addr} {xs : List D} {ws : List V} {G : List Addr}, (SqL K H p ws ∨ SqT K H p ws) → Reps K H xs ws G → pures xs = true → d = .lst xs → rListOf K [.ref p] H Q := fun {p xs ws G} q r h ed => by
    have z := r.nil h
    subst z
    subst ed
    exact ⟨p, ws, rfl, q, fun l hl => k _ _ [l] (same_upd hl) ⟨l, ws, [], rfl, .inl upd_same, rfl, r.same (same_upd hl)⟩ (new_lst hl)⟩
  unfold listD at e
  split at e
  · split at e
    · rename_i h
      cases e
      obtain ⟨v, rfl, p, ws, G, rfl, q, _, r⟩ := reps_one r
      exact fin (.inl (.inl q)) r h rfl
    · cases e
  · split at e
    · rename_i h
      cases e
      obtain ⟨v, rfl, p, ws, rfl, q, r⟩ := reps_one r
      exact fin (.inl q.sq) r h rfl
    · cases e
  · split at e
    · rename_i h
      cases e
      obtain ⟨v, rfl, p, ws, rfl, q, r⟩ := reps_one r
      exact fin (.inr (.of q)) r h rfl
    · cases e
  · split at e
    · rename_i h
      cases e
      obtain ⟨v, rfl, p, ws, rfl, q, r⟩ := reps_one r
      exact fin (.inr q.sq) r h rfl
    · cases e
  · cases e
/-- sum of ints -/
def toInts : List D → Option (List Int)
  | [] => some []
  | .int i :: ds => (toInts ds).map fun ns => i :: ns
  | _ => none
def seqOf : D → Option (List D)
  | .lst xs => some xs
  | .frz xs => some xs
  | _ => none
theorem seqOf_rep {K : PySem.W.Frag} {H : Hp} {d : D} {v : V} {F : List Addr} {xs : List D} (r : Rep K H d v F) (e : seqOf d = some xs) : ∃ p ws G, v = .ref p ∧ SqL K H p ws ∧ Reps K H xs ws G ∧ ∀ a ∈ G, a ∈ F := by
  cases d <;> cases e
  · obtain ⟨p, ws, G, rfl, q, rfl, r⟩ := r
    exact ⟨p, ws, G, rfl, .inl q, r, fun a ha => List.mem_cons_of_mem _ ha⟩
  · obtain ⟨p, ws, rfl, q, r⟩ := r
    exact ⟨p, ws, F, rfl, q.sq, r, fun a ha => ha⟩
def sumD : List D → Option D := fun ds => match ds with
  | [d] => (seqOf d).bind fun xs => (toInts xs).map fun ns => .int ns.sum
  | _ => none
/-- any, all of truths -/
def toBls : List D → Option (List Bool)
  | [] => some []
  | .bl i :: ds => (toBls ds).map fun ns => i :: ns
  | _ => none
theorem toBls_rep {K : PySem.W.Frag} {H : Hp} : ∀ {ds : List D} {vs : List V} {F : List Addr} {ns : List Bool}, Reps K H ds vs F → toBls ds = some ns → vs = ns.map V.bl
  | [], vs, F, ns, r, e => by cases e; exact r.1
  | d :: ds, vs, F, ns, r, e => by
    obtain ⟨v, vr, F1, F2, rfl, rfl, r1, r2⟩ := r
    cases d with
    | bl i =>
      obtain ⟨ms, e1, rfl⟩ := Option.map_eq_some_iff.mp e
      rw [r1.1, toBls_rep r2 e1]
      rfl
    | _ => cases e
def anyD : List D → Option D := fun ds => match ds with
  | [d] => (seqOf d).bind fun xs => (toBls xs).map fun ns => .bl (ns.any id)
  | _ => none
def allD : List D → Option D := fun ds => match ds with
  | [d] => (seqOf d).bind fun xs => (toBls xs).map fun ns => .bl (ns.all id)
  | _ => none
theorem d_all {K : PySem.W.Frag} : CallD K (rAll K) allD := fun H ds vs F d Q r e k => by
  unfold allD at e
  split at e
  · obtain ⟨xs, e1, e⟩ := Option.bind_eq_some_iff.mp e
    obtain ⟨ns, e2, rfl⟩ := Option.map_eq_some_iff.mp e
    obtain ⟨v, rfl, q⟩ := reps_one r
    obtain ⟨p, ws, G, rfl, hq, rr, _⟩ := seqOf_rep q e1
    have z := toBls_rep rr e2
    subst z
    exact ⟨p, ns, rfl, hq, k _ H [] (Same.refl H) ⟨rfl, rfl⟩ New.nil⟩
  · cases e
/-- max, min of two ints -/
def max2D : List D → Option D := fun ds => match ds with
  | [.int i, .int j] => some (.int (if j > i then j else i))
  | _ => none
def min2D : List D → Option D := fun ds => match ds with
  | [.int i, .int j] => some (.int (if j < i then j else i))
  | _ => none
/-! isinstance -/
def tyD : D → String
  | .non => "NoneType" | .bl _ => "bool" | .int _ => "int" | .str _ => "str" | .tup _ => "tuple" | .ctp _ => "tuple" | .lst _ => "list" | .frz _ => "list" | .dK _ _ => "dict" | .dT _ _ => "dict" | .exc _ _ _ _ => "dict" | .fdT _ _ => "dict"
theorem Rep.ty {K : PySem.W.Frag} {H : Hp} {d : D} {v : V} {F : List Addr} (r : Rep K H d v F) (hd : tyD d ≠ "dict") : TyX K H v (.type (tyD d)) := by
  cases d with
  | non => rw [r.1]; exact .base .non
  | bl b => rw [r.1]; exact .base (.bl b)
  | int b => rw [r.1]; exact .base (.int b)
  | str b => rw [r.1]; exact .base (.str b)
  | tup xs =>
    obtain ⟨a, vs, rfl, q, _⟩ := r
    exact .base (.tup q)
  | ctp xs =>
    obtain ⟨a, vs, rfl, ⟨o, its, n, q, c, _⟩, _⟩ := r
    exact .kTuple q c
  | lst xs =>
    obtain ⟨a, vs, G, rfl, q, _⟩ := r
    rcases q with q | ⟨o, q⟩
    · exact .base (.lst q)
    · exact .base (.frz q)
  | frz xs =>
    obtain ⟨a, vs, rfl, q, _⟩ := r
    rcases q with ⟨o, q⟩ | ⟨o, its, n, q, c, _⟩
    · exact .base (.frz q)
    · exact .kList q c
  | dK _ _ => exact absurd rfl hd
  | dT _ _ => exact absurd rfl hd
  | fdT _ _ => exact absurd rfl hd
  | exc _ _ _ _ => exact absurd rfl hd
def isTy (a b : String) : Bool := a == b || (a == "bool" && b == "int")
def tysB : List String := ["int", "bool", "str", "tuple", "list"]
theorem kitB_ok : ∀ a ∈ ["NoneType", "bool", "int", "str", "tuple", "list"], ∀ b ∈ tysB, kitB a b = some (isTy a b) := by decide +kernel
theorem tyD_mem {d : D} (h : tyD d ≠ "dict") : tyD d ∈ ["NoneType", "bool", "int", "str", "tuple", "list"] := by
  cases d <;> first
    | exact absurd rfl h
    | (simp [tyD])
def isiD (ts : List String) (d : D) : Option D := match d with
  | .dK _ _ => none
  | .dT _ _ => none
  | .exc _ _ _ _ => none
  | d => some (.bl (ts.any fun t => isTy (tyD d) t))
theorem isiD_some {ts : List String} {d x : D} (e : isiD ts d = some x) : (tyD d ≠ "dict" ∨ ∃ ks xs, d = .fdT ks xs) ∧ x = .bl (ts.any fun t => isTy (tyD d) t) := by
  cases d <;> cases e <;> first
    | exact ⟨.inr ⟨_, _, rfl⟩, rfl⟩
    | exact ⟨.inl (by simp [tyD]), rfl⟩
/-- isinstance of a dict that is frozen for good -/
def rIsiF (K : PySem.W.Frag) : List V → Hp → VK → Prop := fun xs H Q => ∃ (a : Addr) (od : Obj) (kvs : List (List Key × V)) (c : V) (u : Value) (b : Bool), xs = [V.ref a, c] ∧ ClsV c u ∧ H a = some (.frz od (.frz od (.dT kvs))) ∧ PySem.W.kitOne K (.type "dict") u = some b ∧ Q (.bl b) H
def rIsiFT (K : PySem.W.Frag) : List V → Hp → VK → Prop := fun xs H Q => ∃ (a : Addr) (od : Obj) (kvs : List (List Key × V)) (tp : Addr) (cs : List V) (us : List Value) (b : Bool), xs = [V.ref a, .ref tp] ∧ H tp = some (.tup cs) ∧ Paired ClsV cs us ∧ H a = some (.frz od (.frz od (.dT kvs))) ∧ PySem.W.kitAny K (.type "dict") us = some b ∧ Q (.bl b) H
section
variable {X : Cx} {pins : List (Addr × Obj)} {σ : L2.St} {H : Hp} {s : Shared}
theorem kit_fdT {a : Addr} {od : Obj} {kvs : List (List Key × V)} (I : Inv X pins σ H s) (ea : H a = some (.frz od (.frz od (.dT kvs)))) : ∃ P : Heap → Prop, PySem.W.KitX X.K (.ref a) (.type "dict") P ∧ P s.heap ∧ (Value.ref a) ≠ .builtin "__main__.__loader__#opaque" := by
  obtain ⟨_, _, q⟩ := (show ObjOk X.prog X.w H s.heap a (.frz od (.frz od (.dT kvs))) from I.hok a _ ea)
  obtain ⟨_, _, xs, _, o, es, ep, h1, h2, _⟩ := (show ObjOk X.prog X.w H s.heap a (.dT kvs) from q)
  exact ⟨_, PySem.W.kitx_dict, ⟨o, h1, h2.1⟩, fun z => nomatch z⟩
theorem call_isiF : CallR X (.builtin "isinstance") (rIsiF X.K) := by
  intro pins s σ H xs us Q I r h
  obtain ⟨a, od, kvs, c, u, b, rfl, k, ea, e, q⟩ := h
  obtain ⟨u1, u2, rfl, r1, r2⟩ := vals2 r
  have e2 := k.eq r2
  subst e2
  cases (show u1 = Value.ref a from r1)
  obtain ⟨P, Z, p, hx⟩ := kit_fdT I ea
  exact PySem.W.kia_one Z I.kIn p e hx fun tk => ⟨.bl b, H, I.tok tk, rfl, q⟩
end
theorem kitF_ok : ∀ b ∈ tysB, kitB "dict" b = some (isTy "dict" b) := by decide +kernel
section
variable {X : Cx} {a : Expr} {f : EX} {pos : Pos}
/-- isinstance(x, T) -/
theorem p_isi {T : Str} {t : String} {p p2 : Pos} (hg : Gl X "isinstance") (hm : X.mg "isinstance" = none) (hgT : Gl X T) (hmT : X.mg T = none) (hvT : bootBuiltins T = some (.type t)) (ht : t ∈ tysB) (ha : DB X a f)
    (hnT : T ≠ "__name__" := by decide) (hdT : (T == ("__debug__" : Str)) = false := by decide) (hv : bootBuiltins "isinstance" = some (.builtin "isinstance") := by decide +kernel)
    (hs : starEach [a, .Name T p2] X.env = (false, eval a X.env) :: starEach [.Name T p2] X.env := by rfl) (hs2 : starEach [.Name T p2] X.env = (false, eval (.Name T p2) X.env) :: starEach [] X.env := by rfl) (hpl : (backTo pos (starEach [.Name T p2] X.env)).any (·.1) = false := by rfl) :
    DP X (.Call (.Name "isinstance" p) [a, .Name T p2] [] pos) (fun ρ => (f ρ).bind (isiD [t])) :=
  (pe_callB (call_isi.or call_isiF) hg hm hv (pa_cons ha (pa_cons (pe_bltn (v := .ty t) hgT hmT hvT rfl hnT hdT) pa_nil hs2) hs) (by decide) (by decide) hs hpl).imp fun σ H Q ⟨ρ, d, s, e, k⟩ => by
    obtain ⟨x, e1, e⟩ := Option.bind_eq_some_iff.mp e
    obtain ⟨hd, rfl⟩ := isiD_some e
    rcases hd with hd | ⟨ks, xs, rfl⟩
    · refine ⟨ρ, x, s, e1, fun v H1 F1 s1 r1 _ => .inl ⟨v, .ty t, _, .type t, isTy (tyD x) t, rfl, .ty t, r1.ty hd, kit_ty (kitB_ok _ (tyD_mem hd) _ ht), k _ H1 [] s1 ⟨?_, rfl⟩ fun _ => New.nil⟩⟩
      simp
    · refine ⟨ρ, _, s, e1, fun v H1 F1 s1 r1 _ => ?_⟩
      obtain ⟨a, vs, od, rfl, ea, _⟩ := r1
      refine .inr ⟨a, od, _, .ty t, .type t, isTy "dict" t, rfl, .ty t, ea, kit_ty (kitF_ok _ ht), k _ H1 [] s1 ⟨?_, rfl⟩ fun _ => New.nil⟩
      simp [tyD]
end
end DL
namespace DL
open PySem PySem.Spec PyProof.Rows L2
/-! ### sorted -/
def rSortD (K : PySem.W.Frag) : List V → Hp → VK → Prop := fun vs H Q => ∃ (p : Addr) (zs : List (V × D)), vs = [.ref p] ∧ SqL K H p (zs.map Prod.fst) ∧ (∀ z ∈ zs, Dp K H z.1 (py z.2)) ∧ PySem.W.AllAlike (zs.map fun z => py z.2) ∧ PySem.W.Sortable (zs.map fun z => py z.2) ∧
  (∀ z ∈ zs, (py z.2).depth ≤ 60) ∧ ∀ l, H l = none → Q (.ref l) (upd H l (.lst ((zs.mergeSort (PySem.W.dataLe false fun z => py z.2)).map Prod.fst)))
theorem each_zip {α : Type} {R : Value → α → Prop} : ∀ {us : List Value} {zs : List (V × α)}, Vals (zs.map Prod.fst) us → (∀ z ∈ zs, ∀ u, RelV z.1 u → R u z.2) → PySem.W.EachIs (fun u (z : V × α) => RelV z.1 u ∧ R u z.2) us zs
  | [], [], _, _ => .nil
  | u :: us, z :: zs, h, k => by
    cases h with
    | cons r t => exact .cons ⟨r, k z (List.mem_cons_self ..) u r⟩ (each_zip t fun y hy => k y (List.mem_cons_of_mem _ hy))
  | [], _ :: _, h, _ => by cases h
  | _ :: _, [], h, _ => by cases h
theorem each_vals {α : Type} : ∀ {us : List Value} {zs : List (V × α)}, PySem.W.EachIs (fun u (z : V × α) => RelV z.1 u) us zs → Vals (zs.map Prod.fst) us
  | _, _, .nil => .nil
  | _, _, .cons r t => .cons r (each_vals t)
section
variable {X : Cx} {k : Nat}
theorem c_sorted (hr : Room k X.A) : CallR X (.builtin "sorted") (rSortD X.K) := by
  intro pins s σ H vs us Q I r h
  obtain ⟨a, zs, rfl, hs, hd, al, so, dp, q⟩ := h
  obtain ⟨its, rv, hl, hz⟩ := I.list hs
  rw [Vals.ref1 r]
  have hlen := rv.length
  have hu := hr.units
  have e0 := each_zip (R := fun u d => ∃ as, Reads s.heap u (py d) as) rv fun z hz u ru => Dp.reads I _ _ _ (hd z hz) ru
  refine PySem.W.sorted_data (enc := fun z : V × D => py z.2) (R := fun u z => RelV z.1 u) hl.isList (e0.mono fun _ _ h => h.1) (e0.mono fun _ _ h => h.2) al so (by rw [List.length_map] at hz; exact hz) (fun b hb => by have := dp b hb; omega) fun out ho he => ?_
  obtain ⟨ep, he'⟩ := PyProof.Rows.sortedAll_at s.heap its out.toArray
  have hv := each_vals he
  exact ⟨.ref _, upd H (s.heap.objs.size + 1) (.lst ((zs.mergeSort (PySem.W.dataLe false fun z => py z.2)).map Prod.fst)), I.laid (t' := s.toks) (fun _ _ => PyProof.Rows.sortedAll_old) (Nat.le_succ _) ⟨by rw [List.length_map, List.length_mergeSort, ← List.length_map (f := Prod.fst)]; exact hz, out, ep, hv, he'⟩, rfl, q _ (I.hok.fresh (Nat.le_succ _))⟩
end
def leD : D → D → Bool := PySem.W.dataLe false py
def sameKind : List PyData → Bool
  | [] => true
  | x :: xs => xs.all fun y => PySem.W.alike x y
/-- every two are alike -/
def alikes (ds : List PyData) : Bool := ds.all fun x => ds.all fun y => PySem.W.alike x y
def tup1 : PyData → Bool
  | .tuple (_ :: _) => true
  | _ => false
def noTup : PyData → Bool
  | .tuple _ => false
  | .none => false
  | _ => true
def sortOk (ds : List D) : Bool := plains ds && alikes (ds.map py) && ((ds.map py).all tup1 || (ds.map py).all noTup) && (ds.map py).all (fun x => decide (x.depth ≤ 60) && x.canLay0)
theorem sortOk_iff {ds : List D} (h : sortOk ds = true) : plains ds = true ∧ PySem.W.AllAlike (ds.map py) ∧ PySem.W.Sortable (ds.map py) ∧ ∀ d ∈ ds, (py d).depth ≤ 60 ∧ (py d).canLay0 = true := by
  unfold sortOk alikes at h
  simp only [Bool.and_eq_true, Bool.or_eq_true, List.all_eq_true, decide_eq_true_eq] at h
  obtain ⟨⟨⟨h1, h2⟩, h3⟩, h4⟩ := h
  refine ⟨h1, fun d hd e he => h2 d hd e he, ?_, fun d hd => h4 _ (List.mem_map.mpr ⟨d, hd, rfl⟩)⟩
  rcases h3 with h3 | h3
  · refine .inl fun d hd => ?_
    have := h3 d hd
    unfold tup1 at this
    split at this
    · exact ⟨_, _, rfl⟩
    · cases this
  · refine .inr fun d hd => ?_
    have := h3 d hd
    unfold noTup at this
    split at this
    · cases this
    · cases this
    · rename_i n1 n2
      exact ⟨n2, n1⟩
theorem reps_zip {K : PySem.W.Frag} {H : Hp} : ∀ {ds : List D} {vs : List V} {F : List Addr}, Reps K H ds vs F → ∃ zs : List (V × D), zs.map Prod.fst = vs ∧ zs.map Prod.snd = ds ∧ ∀ z ∈ zs, ∃ G, Rep K H z.2 z.1 G
  | [], vs, F, r => ⟨[], r.1.symm, rfl, fun z hz => by cases hz⟩
  | d :: ds, vs, F, r => by
    obtain ⟨v, vr, F1, F2, rfl, rfl, r1, r2⟩ := r
    obtain ⟨zs, h1, h2, h3⟩ := reps_zip r2
    refine ⟨(v, d) :: zs, by rw [List.map_cons, h1], by rw [List.map_cons, h2], fun z hz => ?_⟩
    rcases List.mem_cons.mp hz with rfl | hz
    · exact ⟨F1, r1⟩
    · exact h3 z hz
theorem zip_reps {K : PySem.W.Frag} {H : Hp} : ∀ {zs : List (V × D)}, (∀ z ∈ zs, Rep K H z.2 z.1 []) → Reps K H (zs.map Prod.snd) (zs.map Prod.fst) []
  | [], _ => ⟨rfl, rfl⟩
  | z :: zs, h => ⟨z.1, zs.map Prod.fst, [], [], rfl, rfl, h z (List.mem_cons_self ..), zip_reps fun y hy => h y (List.mem_cons_of_mem _ hy)⟩
theorem sort_snd (zs : List (V × D)) : (zs.mergeSort (PySem.W.dataLe false fun z => py z.2)).map Prod.snd = (zs.map Prod.snd).mergeSort leD := PySem.W.sort_maps Prod.snd fun a _ b _ => rfl
def sortD (ds : List D) : List D := ds.mergeSort leD
theorem plains_mem {ds : List D} (h : plains ds = true) {d : D} (hd : d ∈ ds) : plain d = true := by
  rw [plains_all, List.all_eq_true] at h
  exact h d hd
def sortedD : List D → Option D := fun ds => match ds with
  | [d] => (seqOf d).bind fun xs => if sortOk xs = true then some (.lst (sortD xs)) else none
  | _ => none
theorem d_sorted {K : PySem.W.Frag} : CallD K (rSortD K) sortedD := fun H ds vs F d Q r e k => by
  unfold sortedD at e
  split at e
  · obtain ⟨xs, e1, e⟩ := Option.bind_eq_some_iff.mp e
    split at e
    · rename_i so
      cases e
      obtain ⟨v, rfl, q⟩ := reps_one r
      obtain ⟨p, ws, G, rfl, hq, rr, _⟩ := seqOf_rep q e1
      obtain ⟨h1, h2, h3, h4⟩ := sortOk_iff so
      obtain ⟨zs, z1, z2, z3⟩ := reps_zip rr
      have z4 : ∀ z ∈ zs, Rep K H z.2 z.1 [] := fun z hz => by
        obtain ⟨G, g⟩ := z3 z hz
        have hm : z.2 ∈ xs := by rw [← z2]; exact List.mem_map.mpr ⟨z, hz, rfl⟩
        have e := g.nil (pure_of_plain _ (plains_mem h1 hm))
        rw [e] at g
        exact g
      have em : zs.map (fun z => py z.2) = xs.map py := by rw [← z2, List.map_map]; rfl
      have hm : ∀ z ∈ zs, z.2 ∈ xs := fun z hz => by rw [← z2]; exact List.mem_map.mpr ⟨z, hz, rfl⟩
      refine ⟨p, zs, rfl, by rw [z1]; exact hq, fun z hz => (z4 z hz).dp (h4 _ (hm z hz)).2, by rw [em]; exact h2, by rw [em]; exact h3, fun z hz => (h4 _ (hm z hz)).1, fun l hl => ?_⟩
      refine k _ _ [l] (same_upd hl) ⟨l, _, [], rfl, .inl upd_same, rfl, ?_⟩ (new_lst hl)
      have z5 : Reps K H ((zs.mergeSort (PySem.W.dataLe false fun z => py z.2)).map Prod.snd) ((zs.mergeSort (PySem.W.dataLe false fun z => py z.2)).map Prod.fst) [] := zip_reps fun z hz => z4 z (List.mem_mergeSort.mp hz)
      rw [sort_snd, z2] at z5
      exact z5.same (same_upd hl)
    · cases e
  · cases e
/-! ### comprehensions -/
def wipeE (ρ : Env) : List Nat → Env
  | [] => ρ
  | v :: vs => (wipeE ρ vs).set v none
theorem wipeE_len (ρ : Env) : ∀ vs : List Nat, (wipeE ρ vs).length = ρ.length
  | [] => rfl
  | v :: vs => by unfold wipeE; rw [List.length_set, wipeE_len ρ vs]
theorem wipeE_some {ρ : Env} {i : Nat} {x : Fl × D} : ∀ {vs : List Nat}, (wipeE ρ vs)[i]? = some (some x) → ρ[i]? = some (some x) ∧ i ∉ vs
  | [], h => ⟨h, by simp⟩
  | v :: vs, h => by
    unfold wipeE at h
    by_cases hi : v = i
    · subst hi
      rw [List.getElem?_set] at h
      split at h
      · split at h <;> cases h
      · exact absurd rfl (by assumption)
    · rw [List.getElem?_set_ne hi] at h
      obtain ⟨h1, h2⟩ := wipeE_some h
      exact ⟨h1, by simp only [List.mem_cons, not_or]; exact ⟨fun e => hi e.symm, h2⟩⟩
theorem Sees.wipe {K : PySem.W.Frag} {σ : L2.St} {H : Hp} {ρ : Env} (h : Sees K σ H ρ) (vs : List Nat) : Sees K (wipe σ vs) H (wipeE ρ vs) := by
  refine ⟨by rw [wipeE_len, wipe_length]; exact h.1, fun i m d e => ?_⟩
  obtain ⟨e1, e2⟩ := wipeE_some e
  obtain ⟨v, F, h1, h2⟩ := h.2 i m d e1
  exact ⟨v, F, by rw [wipe_out e2]; exact h1, h2⟩
/-- a block's target: only its own slots are stored -/
def tGP (K : PySem.W.Frag) (vs : List Nat) (g : GX) : TG := fun v σ H Q => ∃ ρ d F ρ', Sees K σ H ρ ∧ Rep K H d v F ∧ g d ρ = some ρ' ∧ ∀ σ', Sees K σ' H ρ' → wipe σ' vs = wipe σ vs → Q σ' H
def tGPs (K : PySem.W.Frag) (vs : List Nat) (g : GXs) : TGs := fun us σ H Q => ∃ ρ ds F ρ', Sees K σ H ρ ∧ Reps K H ds us F ∧ g ds ρ = some ρ' ∧ ∀ σ', Sees K σ' H ρ' → wipe σ' vs = wipe σ vs → Q σ' H
def putB (i : Nat) : GX := fun d ρ => if i < ρ.length then some (ρ.set i (some (.bor, d))) else none
theorem wipe_set (σ : L2.St) (x : Option V) : ∀ (vs : List Nat) (i : Nat), i ∈ vs → wipe (σ.set i x) vs = wipe σ vs
  | v :: vs, i, h => by
    unfold wipe
    by_cases hi : i ∈ vs
    · rw [wipe_set σ x vs i hi]
    · have e : i = v := by
        rcases List.mem_cons.mp h with e | e
        · exact e
        · exact absurd e hi
      subst e
      have z : wipe (σ.set i x) vs = (wipe σ vs).set i x := by
        clear h
        induction vs with
        | nil => rfl
        | cons w ws ih =>
          have hw : w ≠ i := fun q => hi (by rw [q]; exact List.mem_cons_self ..)
          unfold wipe
          rw [ih fun q => hi (List.mem_cons_of_mem _ q)]
          exact List.set_comm _ _ (Ne.symm hw)
      rw [z, List.set_set]
theorem wipe_wipe (σ : L2.St) (vs : List Nat) : ∀ us : List Nat, (∀ v ∈ us, v ∈ vs) → wipe (wipe σ us) vs = wipe σ vs
  | [], _ => rfl
  | u :: us, hu => by
    show wipe ((wipe σ us).set u none) vs = _
    rw [wipe_set _ _ vs u (hu u (List.mem_cons_self ..))]
    exact wipe_wipe σ vs us fun v hv => hu v (List.mem_cons_of_mem _ hv)
section
variable {X : Cx} {tg iter a b : Expr} {f : EX} {pos : Pos} {es : List Expr} {vs : List Nat}
theorem gp_name {i : Nat} (h : PG X a (gName i)) (hi : i ∈ vs) : PG X a (tGP X.K vs (putB i)) := h.imp fun v σ H Q ⟨ρ, d, F, ρ', s, r, e, k⟩ => by
  unfold putB at e
  split at e
  · rename_i hl
    cases e
    refine k _ ⟨by rw [List.length_set, List.length_set]; exact s.1, fun j m e q => ?_⟩ (wipe_set σ _ vs i hi)
    by_cases hj : j = i
    · subst hj
      rw [List.getElem?_set_self hl] at q
      cases q
      exact ⟨v, F, List.getElem?_set_self (by rw [← s.1]; exact hl), r⟩
    · rw [List.getElem?_set_ne (Ne.symm hj)] at q
      obtain ⟨w, G, h1, h2⟩ := s.2 j m e q
      exact ⟨w, G, by rw [List.getElem?_set_ne (Ne.symm hj)]; exact h1, h2⟩
  · cases e
theorem gps_nil : PGs X [] (tGPs X.K vs gsNil) := pgs_nil.imp fun v σ H Q ⟨ρ, d, F, ρ', s, r, e, k⟩ => by
  unfold gsNil at e
  split at e
  · cases e
    exact ⟨r.1, k σ s rfl⟩
  · cases e
theorem gps_cons {gs : GXs} {gx : GX} (h1 : PG X a (tGP X.K vs gx)) (h2 : PGs X es (tGPs X.K vs gs)) (hs : (assignEach (a :: es) X.env).map (·.2) = assign a X.env :: (assignEach es X.env).map (·.2) := by rfl) : PGs X (a :: es) (tGPs X.K vs (gsCons gx gs)) :=
  (pgs_cons h1 h2 hs).imp fun v σ H Q ⟨ρ, ds, F, ρ', s, r, e, k⟩ => by
    cases ds with
    | nil => cases e
    | cons d ds =>
      obtain ⟨ρ1, e1, e⟩ := Option.bind_eq_some_iff.mp e
      obtain ⟨w, vr, F1, F2, rfl, rfl, r1, r2⟩ := r
      exact ⟨w, vr, rfl, ρ, d, F1, ρ1, s, r1, e1, fun σ1 s1 w1 => ⟨ρ1, ds, F2, ρ', s1, r2, e, fun σ2 s2 w2 => k σ2 s2 (w2.trans w1)⟩⟩
theorem gp_tup {k n : Nat} {gs : GXs} (hc : X.calm = true) (h : PGs X es (tGPs X.K vs gs)) (hn : (assignEach es X.env).length = n := by rfl) (hst : (assignEach es X.env).findIdx? (·.1) = none := by rfl) : PG X (.Tuple es k pos) (tGP X.K vs (gTupD n gs)) :=
  (pg_tup hc h hn hst).imp fun v σ H Q ⟨ρ, d, F, ρ', s, r, e, k⟩ => by
    unfold gTupD at e
    split at e
    · rename_i ds
      split at e
      · rename_i hl
        obtain ⟨p, us, rfl, q, r⟩ := r
        exact ⟨p, us, rfl, .of q, by rw [r.length]; exact hl, ρ, ds, F, ρ', s, r, e, k⟩
      · cases e
    · rename_i ds
      split at e
      · rename_i hl
        obtain ⟨p, us, rfl, q, r⟩ := r
        exact ⟨p, us, rfl, q.sq, by rw [r.length]; exact hl, ρ, ds, F, ρ', s, r, e, k⟩
      · cases e
    · cases e
def compE (gx : GX) (q : QX) (e : EX) (ρ : Env) : List D → Option (List D)
  | [] => some []
  | d :: ds => (gx d ρ).bind fun ρ1 => (q ρ1).bind fun b => if b = true then (e ρ1).bind fun y => (compE gx q e ρ ds).bind fun ys => some (y :: ys) else compE gx q e ρ ds
def xComp (vs : List Nat) (src : IX) (gx : GX) (q : QX) (e : EX) : EX := fun ρ => (src ρ).bind fun its => (compE gx q e (wipeE ρ vs) its).bind fun ys => if ys.length ≤ sizeLine then some (.lst ys) else none
/-- what the block's frame asks of a new value beside the list so far -/
theorem tLc_of {src : IX} {gx : GX} {q : QX} {e : EX} {own : Bool} (σ : L2.St) (H : Hp) (Q : VK) (h : tP X.K true (xComp vs src gx q e) σ H Q) :
    tLc (tI X.K own src) (tGP X.K vs gx) (tPT X.K q) (tP X.K true e) vs σ H Q := by
  obtain ⟨ρ, d, s, e0, k⟩ := h
  obtain ⟨its, e1, e0⟩ := Option.bind_eq_some_iff.mp e0
  obtain ⟨ys, e2, e0⟩ := Option.bind_eq_some_iff.mp e0
  split at e0
  · rename_i hy
    cases e0
    refine ⟨ρ, its, s, e1, fun J H1 Fs s1 w _ D hD => ?_⟩
    have sD : Same H1 (upd H1 D (.lst [])) := same_upd hD
    have sees1 := (s.same s1).wipe vs
    -- what holds between two turns
    refine ⟨fun i m Hi => i + m = its.length ∧ ∃ acc av F rest, Same H1 Hi ∧ Hi D = some (.lst av) ∧ Reps X.K Hi acc av F ∧ New H1 Hi F ∧ D ∉ F ∧ compE gx q e (wipeE ρ vs) (its.drop i) = some rest ∧ acc ++ rest = ys,
      ⟨its.length, by simp, [], [], [], ys, sD, upd_same, ⟨rfl, rfl⟩, New.nil, (fun z => by cases z), by simpa using e2, rfl⟩, ?_⟩
    rintro i m Hi ⟨hm, acc, av, F, rest, si, hDi, rep, new, nin, ei, ey⟩
    have kp : Kp H1 Fs Hi := ⟨[], No, .of_same si, fun _ _ z => z⟩
    by_cases hl : i < its.length
    · have hd : its.drop i = its[i] :: its.drop (i + 1) := List.drop_eq_getElem_cons hl
      rw [hd] at ei
      unfold compE at ei
      obtain ⟨ρa, ea, ei⟩ := Option.bind_eq_some_iff.mp ei
      obtain ⟨b, eb, ei⟩ := Option.bind_eq_some_iff.mp ei
      refine .inr ⟨w.go i Hi hl kp, fun H' => i + 1 + (m - 1) = its.length ∧ ∃ acc av F rest, Same H1 H' ∧ H' D = some (.lst av) ∧ Reps X.K H' acc av F ∧ New H1 H' F ∧ D ∉ F ∧ compE gx q e (wipeE ρ vs) (its.drop (i + 1)) = some rest ∧ acc ++ rest = ys, fun H' q => ⟨m - 1, by omega, q⟩, fun x H' y => ?_⟩
      obtain ⟨sy, G, rg, _⟩ := w.yld i Hi x H' its[i] (List.getElem?_eq_getElem hl) kp y
      refine ⟨_, its[i], G, ρa, (sees1.same si).same sy, rg, ea, fun σ2 s2 w2 => ⟨w2.trans ?_, ρa, b, s2, eb, fun H3 s3 => ?_⟩⟩
      · exact wipe_wipe σ vs vs fun v hv => hv
      · have s13 : Same Hi H3 := sy.trans s3
        cases b with
        | true =>
          obtain ⟨y1, ey1, ei⟩ := Option.bind_eq_some_iff.mp ei
          obtain ⟨r1, er1, ei⟩ := Option.bind_eq_some_iff.mp ei
          cases ei
          refine iteT ⟨ρa, y1, s2.same s3, ey1, fun v4 H4 F4 s4 rep4 new4 => ?_⟩
          have n4 := new4 rfl
          have s14 : Same Hi H4 := s13.trans s4
          have hD4 : H4 D = some (.lst av) := s14 _ _ hDi
          have rep' := rep.same s14
          have nD4 : D ∉ F4 := fun z => by
            have := n4.new D z
            rw [s13 _ _ hDi] at this
            cases this
          have hlen : av.length < sizeLine := by
            rw [rep.length]
            have : (acc ++ y1 :: r1).length ≤ sizeLine := by rw [ey]; exact hy
            rw [List.length_append, List.length_cons] at this
            omega
          have fr : Frm [] H4 (fun a => a = D) (upd H4 D (.lst (av ++ [v4]))) := .of (fun a z => by subst z; rw [hD4]; trivial) fun a o z n => by rw [upd_ne n]; exact z
          have nF : ∀ a ∈ F, ¬ a = D := fun a ha z => nin (z ▸ ha)
          have nF4 : ∀ a ∈ F4, ¬ a = D := fun a ha z => nD4 (z ▸ ha)
          have muK : ∀ a, ¬ a = D → Mut (H4 a) → Mut (upd H4 D (.lst (av ++ [v4])) a) := fun a n mu => by rw [upd_ne n]; exact mu
          refine ⟨av, hD4, hlen, by omega, acc ++ [y1], av ++ [v4], F ++ F4, r1, fun a o z => ?_, upd_same, (rep'.frm fr nF).append (Reps.one (rep4.frm fr nF4)), ⟨?_, fun a ha => ?_, fun a ha => ?_⟩, fun z => ?_, er1, by rw [List.append_assoc]; exact ey⟩
          · rw [upd_ne (ne_of_none z hD)]
            exact s14 _ _ (si _ _ z)
          · exact List.nodup_append.mpr ⟨new.nd, n4.nd, fun a ha c hc z => rep.there a ha (by
              have := s13.free (n4.new c hc)
              rw [z]; exact this)⟩
          · rcases List.mem_append.mp ha with ha | ha
            · exact new.new a ha
            · exact (si.trans s13).free (n4.new a ha)
          · rcases List.mem_append.mp ha with ha | ha
            · exact muK a (nF a ha) (Mut.keep (new.mu a ha) s14)
            · exact muK a (nF4 a ha) (n4.mu a ha)
          · rcases List.mem_append.mp z with z | z
            · exact nin z
            · exact nD4 z
        | false =>
          refine iteF ⟨by omega, acc, av, F, rest, si.trans s13, s13 _ _ hDi, rep.same s13, new.to s13, nin, ei, ey⟩
    · have hd : its.drop i = [] := List.drop_of_length_le (by omega)
      have hie : i = its.length := by omega
      rw [hd] at ei
      cases ei
      rw [List.append_nil] at ey
      subst ey
      refine .inl ⟨by rw [hie]; exact w.stop Hi kp, ?_⟩
      refine k _ Hi (D :: F) (s1.trans si) ⟨D, av, F, rfl, .inl hDi, rfl, rep⟩ fun _ => ⟨List.nodup_cons.mpr ⟨nin, new.nd⟩, fun a ha => ?_, fun a ha => ?_⟩
      · rcases List.mem_cons.mp ha with rfl | ha
        · exact s1.free hD
        · exact s1.free (new.new a ha)
      · rcases List.mem_cons.mp ha with rfl | ha
        · rw [hDi]; trivial
        · exact new.mu a ha
  · cases e0
def PTs' (X : Cx) (ifs : List Expr) (q : QX) : Prop := PTs X ifs (tPT X.K q)
def yYes : QX := fun _ => some true
theorem qs_nil : PTs X [] (tPT X.K yYes) := ⟨fun pins s σ H Q I ⟨ρ, b, _, e, k⟩ => by
  cases e
  exact pts_nil.run pins s σ H Q I (k H (Same.refl H))⟩
theorem qs_one {c : Expr} {q : QX} (h : DPT X c q) : PTs X [c] (tPT X.K q) := pts_one h
theorem p_lc {elt : Expr} {ifs : List Expr} {scope : Scope} {own : List (Str × Nat)} {src : IX} {gx : GX} {q : QX} {e : EX} {ow : Bool} (hc : X.calm = true) (hN : X.N.Nodup) (hi : PI X tg iter (tI X.K ow src)) (ok : BlkOk X.N X.env.scope scope own)
    (hg : ∀ (s : Shared) (H : Hp) (C : Addr) (cl : List (Str × Addr)) (fp : List Addr), PG (X.blk s H scope (compEnvC scope cl C X.env) fp) tg (tGP X.K (own.map (·.2)) gx)) (ht : ∀ (s : Shared) (H : Hp) (C : Addr) (cl : List (Str × Addr)) (fp : List Addr), PTs (X.blk s H scope (compEnvC scope cl C X.env) fp) ifs (tPT X.K q))
    (he : ∀ (s : Shared) (H : Hp) (C : Addr) (cl : List (Str × Addr)) (fp : List Addr), PE (X.blk s H scope (compEnvC scope cl C X.env) fp) elt (tP X.K true e)) (hs : ∀ x, foldedSetIterable iter X.env x = Pure.pure x := by intro _; rfl) :
    DP X (.ListComp elt [⟨tg, iter, ifs, 0⟩] scope pos) (xComp (own.map (·.2)) src gx q e) := (pe_lc hc hN hi ok hg ht he hs).imp (tLc_of)
theorem s_setLc {i : Nat} {y : Str} {py : Pos} {elt : Expr} {ifs : List Expr} {scope : Scope} {own : List (Str × Nat)} {spos : Pos} {src : IX} {gx : GX} {q : QX} {e : EX} {ow : Bool} (hc : X.calm = true) (hN : X.N.Nodup) (hy : X.N[i]? = some y) (hyl : X.env.scope.names.lookup y = some .local)
    (hsw : swapsWith (.ListComp elt [⟨tg, iter, ifs, 0⟩] scope pos) (some (.Name y py)) spos.line X.env = Pure.pure true) (hi : PI X tg iter (tI X.K ow src)) (ok : BlkOk X.N X.env.scope scope own)
    (hg : ∀ (s : Shared) (H : Hp) (C : Addr) (cl : List (Str × Addr)) (fp : List Addr), PG (X.blk s H scope (compEnvC scope cl C X.env) fp) tg (tGP X.K (own.map (·.2)) gx)) (ht : ∀ (s : Shared) (H : Hp) (C : Addr) (cl : List (Str × Addr)) (fp : List Addr), PTs (X.blk s H scope (compEnvC scope cl C X.env) fp) ifs (tPT X.K q))
    (he : ∀ (s : Shared) (H : Hp) (C : Addr) (cl : List (Str × Addr)) (fp : List Addr), PE (X.blk s H scope (compEnvC scope cl C X.env) fp) elt (tP X.K true e)) (hs : ∀ x, foldedSetIterable iter X.env x = Pure.pure x := by intro _; rfl) :
    DS X (.Assign [.Name y py] (.ListComp elt [⟨tg, iter, ifs, 0⟩] scope pos) spos) (sAsg (mP (xComp (own.map (·.2)) src gx q e)) (put i)) :=
  (ps_setLc hc hN hy hyl hsw hi ok hg ht he hs).imp fun E σ H ⟨c, ρ, fp, out, h, e0, k⟩ => by
    obtain ⟨⟨x, ρ1⟩, e1, e0⟩ := Option.bind_eq_some_iff.mp e0
    obtain ⟨ρ2, e2, e0⟩ := Option.bind_eq_some_iff.mp e0
    cases e0
    obtain ⟨x', e3, e1⟩ := Option.bind_eq_some_iff.mp e1
    cases e1
    obtain ⟨hi', rfl⟩ := put_some e2
    exact tLc_of σ H _ ⟨_, _, h.sees, e3, fun v H' F s r n => k _ _ _ ((h.same s).put (h.val r (n rfl)).drop hi')⟩
end
end DL
namespace DL
open PySem PySem.Spec PyProof.Rows L2
/-! ### enumerate of a tuple -/
theorem meets_enumB {v : Value} {o : Obj} {H : Heap → Prop} (B : Begins v o H) :
    Meets (Builtin.«enumerate.__new__» ⟨[.type "enumerate", v], []⟩) (fun _ R s => H s.heap ∧ R (.ok (.ret (.ref (s.heap.push o).objs.size)))
      { s with heap := (s.heap.push o).push { cls := .type "enumerate", data := .fields #[.none, .bool false, .ref s.heap.objs.size, rawInt 0, .none, .none] } }) :=
  .of_wp fun prog w A R s hh => by
    obtain ⟨hp, g, d, tk, os⟩ := s
    obtain ⟨h1, hR⟩ := hh
    have hsub := sub_enumerate
    have q1 : ∀ {A' : Around} {E : Value → Shared → Prop} {Q : Value → Shared → Prop}, Q (.ref hp.objs.size) ⟨hp.push o, g, d, tk, os⟩ → wpAny (model prog w) A' (pyIter v) Q E ⟨hp, g, d, tk, os⟩ := fun q => B.iter prog w _ _ _ _ h1 q
    wp_walk using q1
    refine wpAny_stack_any fun st => wpAny_pure ?_
    split
    · rename_i c _ _ _ _ _
      cases (c == Value.type "enumerate") <;> (wp_walk using q1; exact ⟨_, rfl, hR⟩)
    · wp_walk using q1; exact ⟨_, rfl, hR⟩
theorem call_enumB {prog : Program} {w : World} {A : Around} {E : Value → Shared → Prop} {s : Shared} {v : Value} {o : Obj} {H : Heap → Prop} {Q : Value → Shared → Prop} (B : Begins v o H) (h1 : H s.heap)
    (k : ∀ h', IsEnum h' (s.heap.objs.size + 1) s.heap.objs.size 0 .none → h'.get? s.heap.objs.size = some o → (∀ b o, s.heap.get? b = some o → h'.get? b = some o) → Q (.ref (s.heap.objs.size + 1)) { s with heap := h' }) :
    wpAny (model prog w) A (call (.type "enumerate") [v]) Q E s := by
  have hz : (s.heap.push o).objs.size = s.heap.objs.size + 1 := Heap.size_push ..
  have he := Heap.get?_push_size (s.heap.push o) (o := { cls := .type "enumerate", data := .fields #[.none, .bool false, .ref s.heap.objs.size, rawInt 0, .none, .none] }) rfl
  rw [hz] at he
  refine callType_new PySem.F.called_enumerate (by decide) (PySem.F.typeCall_enumerate_1 _) (PySem.F.newCall_enumerate_1 _) (fun obj => PySem.F.args_object_init_2 obj _) PySem.F.entry_enumerate_new (meets_enumB B) ⟨h1, ?_⟩
  show _ ∧ _
  rw [hz]
  exact ⟨⟨_, he, rfl⟩, k _ he (Heap.get?_push_of_some _ (Heap.get?_push_size _ B.free)) fun b o x => Heap.get?_push_of_some _ (Heap.get?_push_of_some _ x)⟩
/-- the tuple at a, each item in a new pair with its number -/
def IteT (K : PySem.W.Frag) (a : Addr) : It :=
  ⟨fun i H => ∃ (xs : List V) (x : V), SqT K H a xs ∧ xs[i]? = some x, fun i H v H' => ∃ T x, v = .ref T ∧ H T = none ∧ H' = upd H T (.tup [.int (i : Nat), x]) ∧ ∀ xs, SqT K H a xs → xs[i]? = some x, fun i H => ∃ xs : List V, SqT K H a xs ∧ xs.length = i⟩
theorem turn_enumT {P : Program} {w : World} {K : PySem.W.Frag} {elts : List Expr} {kk : Nat} {tpos : Pos} (a e it : Addr) (hai : a ≠ it) :
    Turn P w K (.Tuple elts kk tpos) (IteT K a) [e, it] e (fun i h => (∃ old, IsEnum h e it ((i : Nat) : Int) old) ∧ h.IsTupleIter it a i ∧ e ≠ it ∧ a ≠ e) where
  mem := List.mem_cons_self ..
  obj := fun i h st b hb => by
    obtain ⟨⟨old, he⟩, ⟨o, ho, hc, hd⟩, _⟩ := st
    rcases (show b = e ∨ b = it by simpa using hb) with z | z
    · exact ⟨_, by rw [z]; exact he, fun v q => (by cases q)⟩
    · exact ⟨o, by rw [z]; exact ho, fun v q => (by rw [hd] at q; cases q)⟩
  keep := fun i h h' st k => let ⟨⟨old, he⟩, hi, hne, hae⟩ := st; ⟨⟨old, k e (by simp) _ he⟩, hi.at fun o q => k it (by simp) o q, hne, hae⟩
  item := by
    intro X hP hw hK hc i pins s σ H E I hf st hg
    subst hP hw hK
    obtain ⟨⟨old, he⟩, hit, hne, hae⟩ := st
    obtain ⟨xs, x, hq, hx⟩ := hg
    obtain ⟨its, rv, p, hz⟩ := I.tuple hq
    obtain ⟨u, hu, ru⟩ := rv.get hx
    have hel : e < s.heap.objs.size := Heap.lt_size he
    have hil : it < s.heap.objs.size := by obtain ⟨_, q, _⟩ := hit; exact Heap.lt_size q
    have D := Draws.tuple (prog := X.prog) (w := X.w) (A := X.A.in1) (I.ok.hd hc) it a hai its.toArray
    have hsz' : i < its.toArray.size := by rw [List.size_toArray]; exact (List.getElem?_eq_some_iff.mp hu).1
    refine wpAny_pyNext_enum_itemD D he ⟨hit, show s.heap.IsTuple a its.toArray from p⟩ hsz' hne (fun z => ?_) fun y h' tk hP ho hst hT hsz hk => ?_
    · rcases (show e = it ∨ e = a by simpa using z) with z | z
      · exact hne z
      · exact hae z.symm
    have ey : y = u := by
      have hP' : its.toArray[i]? = some y := hP
      rw [List.getElem?_toArray, hu] at hP'
      exact (Option.some.inj hP').symm
    subst ey
    refine ⟨_, rfl, wpAny_letOwnedTupleGo_enum (s := { s with heap := h', toks := tk + 1 }) ho fun h'' he' sb => ?_⟩
    have hT2 : h''.get? s.heap.objs.size = some { cls := .type "tuple", data := .seq #[.int i tk, y] } := (sb.2 _ (Nat.ne_of_gt hel)).trans hT
    have new : ObjOk X.prog X.w (upd H s.heap.objs.size (.tup [.int (i : Nat), x])) h'' s.heap.objs.size (.tup [.int (i : Nat), x]) :=
      ⟨by show 2 ≤ sizeLine; decide, [.int i tk, y], .cons ⟨_, rfl⟩ (.cons ru .nil), ⟨_, hT2, rfl, _, rfl⟩⟩
    have I1 : Inv X pins σ (upd H s.heap.objs.size (.tup [.int (i : Nat), x])) { s with heap := h'', toks := tk + 1 } :=
      I.turnedNew (ch := [e, it]) (fun b ob hb q => (sb.2 b fun z => hb (by simp [z])).trans (hk b ob (fun z => hb (by simp [z])) (fun z => hb (by simp [z])) q)) hf (Nat.le_refl _) new
    refine ⟨.ref s.heap.objs.size, _, I1, rfl, ⟨_, x, rfl, I.hok.fresh (Nat.le_refl _), rfl, fun ys hy => by rw [I.tuple_inj hy hq]; exact hx⟩, ⟨⟨y, ?_⟩, hst.1.at fun o q => (sb.2 it (Ne.symm hne)).trans q, hne, hae⟩, fun b hb => ?_⟩
    · have e1 : ((i + 1 : Nat) : Int) = (i : Int) + 1 := by omega
      rw [e1]
      exact he'
    · have hb' : b < s.heap.objs.size := by
        rcases (show b = e ∨ b = it by simpa using hb) with z | z
        · exact z ▸ hel
        · exact z ▸ hil
      rw [upd_ne (Nat.ne_of_lt hb')]
      exact (hf b hb).1
  done := by
    intro X hP hw hK hc i pins s σ H E I hf st hg
    subst hP hw hK
    obtain ⟨⟨old, he⟩, hit, hne, hae⟩ := st
    obtain ⟨xs, hq, hx⟩ := hg
    obtain ⟨its, rv, p, hz⟩ := I.tuple hq
    obtain ⟨f0, f1, f2, f3, f4, f5⟩ := hf it (by simp)
    have hl := rv.length
    have D := Draws.tuple (prog := X.prog) (w := X.w) (A := X.A.in1) (I.ok.hd hc) it a hai its.toArray
    have hi : i = its.toArray.size := by rw [List.size_toArray, ← hl]; exact hx.symm
    subst hi
    exact wpAny_pyNext_enum_endD D he ⟨hit, show s.heap.IsTuple a its.toArray from p⟩ fun h' eb => ⟨rfl, I.turned (t' := s.toks) (fun b o hb q => eb b o hb q) f0 f1 f3 f4 f5⟩
  self := fun A i s Q E st h => let ⟨⟨_, he⟩, _⟩ := st; wpAny_pyIter_enum he h
/-! ### enumerate -/
def iEnumT (K : PySem.W.Frag) (ta : TA) : TI := fun σ H R => ta σ H fun vs H1 => ∃ a xs, vs = [.ref a] ∧ SqT K H1 a xs ∧ R (IteT K a) H1
section
variable {X : Cx} {e : Expr} {p pos tpos : Pos} {elts : List Expr} {kk : Nat} {f : EX}
def enumF : Nat → List D → List D
  | _, [] => []
  | i, d :: ds => .tup [.int (i : Nat), d] :: enumF (i + 1) ds
theorem enumF_get : ∀ (ds : List D) (k i : Nat) (d : D), (enumF k ds)[i]? = some d → ∃ x, ds[i]? = some x ∧ d = .tup [.int ((k + i : Nat) : Int), x]
  | [], _, _, _, h => by simp [enumF] at h
  | x :: ds, k, 0, d, h => by
    have h' : some (D.tup [.int (k : Nat), x]) = some d := h
    cases h'
    exact ⟨x, rfl, rfl⟩
  | x :: ds, k, i + 1, d, h => by
    obtain ⟨y, h1, h2⟩ := enumF_get ds (k + 1) i d h
    refine ⟨y, h1, ?_⟩
    rw [h2, show k + 1 + i = k + (i + 1) by omega]
theorem enumF_len : ∀ (ds : List D) (k : Nat), (enumF k ds).length = ds.length
  | [], _ => rfl
  | _ :: ds, k => by rw [enumF, List.length_cons, List.length_cons, enumF_len ds]
theorem rep_pair {K : PySem.W.Frag} {H : Hp} {T : Addr} {i : Int} {x : D} {v : V} {G : List Addr} (n : H T = none) (r : Rep K H x v G) : Rep K (upd H T (.tup [.int i, v])) (.tup [.int i, x]) (.ref T) G :=
  ⟨T, _, rfl, upd_same, .int i, [v], [], G, rfl, rfl, ⟨rfl, rfl⟩, Reps.one (r.same (same_upd n))⟩
theorem wk_enumL {K : PySem.W.Frag} {H1 : Hp} {p : Addr} {vs : List V} {its : List D} {Fs : List Addr} (q : ∀ H, Kp H1 Fs H → SqL K H p vs) {Gs : List Addr} (r : Reps K H1 its vs Gs) (sb : ∀ a ∈ Gs, a ∈ Fs) : Wk (Ite K p) K (enumF 0 its) H1 Fs where
  go := fun i H hi k => by
    rw [enumF_len] at hi
    have hl : i < vs.length := by rw [r.length]; exact hi
    exact ⟨vs, vs[i], q H k, List.getElem?_eq_getElem hl⟩
  stop := fun H k => ⟨vs, q H k, by rw [r.length, enumF_len]; exact Nat.le_refl _⟩
  yld := fun i H x H' d e k y => by
    obtain ⟨z, e1, rfl⟩ := enumF_get its 0 i d e
    obtain ⟨v, G, g1, g2, g3⟩ := r.get e1
    obtain ⟨T, w, rfl, n, rfl, f⟩ := y
    have := f vs (q _ k)
    rw [g1] at this
    cases this
    rw [Nat.zero_add]
    exact ⟨same_upd n, G, rep_pair n (k.rep g2 fun a ha => sb a (g3 a ha)), fun a ha => sb a (g3 a ha)⟩
def xEnT (f : EX) : IX := fun ρ => (xItT f ρ).bind fun xs => some (enumF 0 xs)
def xEnL (f : EX) : IX := fun ρ => (xItL f ρ).bind fun xs => some (enumF 0 xs)
end
end DL
namespace DL
open PySem PySem.Spec PyProof.Rows L2
/-! ### a name's value turned by a method or a store -/
/-- what a turn of x from d to d' asks: F is x's own, G the arguments' -/
def TurnK (K : PySem.W.Frag) (H : Hp) (x : V) (F G : List Addr) (d' res : D) (Q : VK) : Prop := ∀ v H' F1 G1, Frm [] H (fun a => a ∈ F) H' → Rep K H' d' x F1 → F1.Nodup → Rep K H' res v G1 → G1.Nodup → (∀ a ∈ F1, a ∉ G1) →
  (∀ a, a ∈ F1 ∨ a ∈ G1 → (a ∈ F ∨ a ∈ G ∨ H a = none) ∧ Mut (H' a)) → Q v H'
def MutD (K : PySem.W.Frag) (r : V → List V → Hp → VK → Prop) (o : D → List D → Option (D × D)) : Prop := ∀ H d ds x vs F G res d' Q, Rep K H d x F → F.Nodup → (∀ a ∈ F, Mut (H a)) → Reps K H ds vs G → G.Nodup → (∀ a ∈ G, Mut (H a)) → (∀ a ∈ F, a ∉ G) →
  o d ds = some (res, d') → TurnK K H x F G d' res Q → r x vs H Q
section
variable {K : PySem.W.Frag} {c : Ct} {σ : L2.St} {H H' : Hp} {ρ : Env} {fp : Nat → List Addr}
/-- a name's value turned, with others' parts taken in -/
theorem Ok.turnG {i : Nat} {m : Fl} {d d' res : D} {v w : V} {F1 G G1 : List Addr} {ds : List D} {vs : List V} (h : Ok K c σ H ρ fp) (q : ρ[i]? = some (some (m, d))) (hm : m ≠ Fl.bor) (hv : σ[i]? = some (some v)) (x : Vals' K c H ρ fp ds vs G)
    (fr : Frm [] H (fun a => a ∈ fp i) H') (r : Rep K H' d' v F1) (nd : F1.Nodup) (r2 : Rep K H' res w G1) (nd2 : G1.Nodup) (ap : ∀ a ∈ F1, a ∉ G1) (ow : ∀ a, a ∈ F1 ∨ a ∈ G1 → (a ∈ fp i ∨ a ∈ G ∨ H a = none) ∧ Mut (H' a)) :
    Ok K c σ H' (ρ.set i (some (m, d'))) (fun j => if j = i then F1 else fp j) ∧ Val K c H' (ρ.set i (some (m, d'))) (fun j => if j = i then F1 else fp j) res w G1 := by
  have hi : i < ρ.length := (List.getElem?_eq_some_iff.mp q).1
  have low : ∀ j n e, j ≠ i → (ρ.set i (some (m, d')))[j]? = some (some (n, e)) → ρ[j]? = some (some (n, e)) := fun j n e ne z => by
    rw [List.getElem?_set_ne (Ne.symm ne)] at z; exact z
  have at' : ∀ n e, (ρ.set i (some (m, d')))[i]? = some (some (n, e)) → n = m ∧ e = d' := fun n e z => by
    rw [List.getElem?_set_self hi] at z; cases z; exact ⟨rfl, rfl⟩
  have nin : ∀ j n e, j ≠ i → ρ[j]? = some (some (n, e)) → ∀ a ∈ fp j, a ∉ fp i := fun j n e ne z a ha hb => by
    by_cases hn : n = Fl.bor
    · subst hn
      exact ((h.nd i m d q hm).2 a hb).2.2 (h.bo j e z a ha)
    · exact h.dj i j m d n e (Ne.symm ne) q hm z hn a hb ha
  have mk : ∀ a, a ∉ fp i → Mut (H a) → Mut (H' a) := fun a n mu => by
    cases z : H a with
    | none => rw [z] at mu; exact mu.elim
    | some o => rw [fr.keepF z n]; rw [z] at mu; exact mu
  have own1 : ∀ a, a ∈ F1 ∨ a ∈ G1 → (c.O0 a ∨ Fr c.T c.H0 a) ∧ Mut (H' a) ∧ ¬ c.B a := fun a ha => by
    obtain ⟨z, mu⟩ := ow a ha
    rcases z with z | z | z
    · exact ⟨((h.nd i m d q hm).2 a z).1, mu, ((h.nd i m d q hm).2 a z).2.2⟩
    · exact ⟨(x.ow a z).1, mu, (x.ow a z).2.2⟩
    · exact ⟨sub_ow h (.inr z), mu, fun b => h.there b z⟩
  have cross : ∀ j n e, j ≠ i → ρ[j]? = some (some (n, e)) → n ≠ Fl.bor → ∀ a, a ∈ F1 ∨ a ∈ G1 → a ∉ fp j := fun j n e ne z hn a ha hb => by
    rcases (ow a ha).1 with y | y | y
    · exact nin j n e ne z a hb y
    · exact x.dj j n e z hn a y hb
    · obtain ⟨u, _, h2, _⟩ := h.rep j n e z
      exact h2.there a hb y
  refine ⟨⟨by rw [List.length_set]; exact h.len, fun j n e z => ?_, fun j n e z hn => ?_, fun j e z => ?_, fun j l n e n2 e2 ne z hn z2 hn2 a ha hl => ?_, h.frm.comp fr.up fun a z => ((h.nd i m d q hm).2 a z).1, h.bt, h.tb, fun j P e z => by
    by_cases hj : j = i
    · subst hj
      obtain ⟨rfl, rfl⟩ := at' _ e z
      exact h.tg _ P _ q
    · exact h.tg j P e (low j _ e hj z)⟩, r2, nd2, fun a ha => own1 a (.inr ha), fun j n e z hn a ha hl => ?_⟩
  · by_cases hj : j = i
    · subst hj
      obtain ⟨rfl, rfl⟩ := at' n e z
      obtain ⟨u, h1, _, h3⟩ := h.rep j n d q
      rw [hv] at h1
      cases h1
      exact ⟨v, hv, by rw [if_pos rfl]; exact r, h3⟩
    · obtain ⟨u, h1, h2, h3⟩ := h.rep j n e (low j n e hj z)
      exact ⟨u, h1, by rw [if_neg hj]; exact h2.frm fr (nin j n e hj (low j n e hj z)), h3⟩
  · by_cases hj : j = i
    · subst hj
      rw [if_pos rfl]
      exact ⟨nd, fun a ha => own1 a (.inl ha)⟩
    · rw [if_neg hj]
      obtain ⟨n1, n2⟩ := h.nd j n e (low j n e hj z) hn
      exact ⟨n1, fun a ha => ⟨(n2 a ha).1, mk a (nin j n e hj (low j n e hj z) a ha) (n2 a ha).2.1, (n2 a ha).2.2⟩⟩
  · by_cases hj : j = i
    · subst hj
      exact absurd (at' _ e z).1.symm hm
    · rw [if_neg hj]
      exact h.bo j e (low j _ e hj z)
  · by_cases hj : j = i
    · subst hj
      rw [if_pos rfl] at ha
      rw [if_neg (Ne.symm ne)] at hl
      exact cross l n2 e2 (Ne.symm ne) (low l n2 e2 (Ne.symm ne) z2) hn2 a (.inl ha) hl
    · rw [if_neg hj] at ha
      by_cases hl' : l = i
      · subst hl'
        rw [if_pos rfl] at hl
        exact cross j n e hj (low j n e hj z) hn a (.inl hl) ha
      · rw [if_neg hl'] at hl
        exact h.dj j l n e n2 e2 ne (low j n e hj z) hn (low l n2 e2 hl' z2) hn2 a ha hl
  · by_cases hj : j = i
    · subst hj
      have hl' : a ∈ F1 := by simpa using hl
      exact ap a hl' ha
    · have hl' : a ∈ fp j := by simpa [hj] using hl
      exact cross j n e hj (low j n e hj z) hn a (.inr ha) hl'
end
/-- the own name at i -/
def ownAt (i : Nat) (ρ : Env) : Option (Fl × D) := match ρ[i]? with
  | some (some (m, d)) => if m = Fl.bor then none else some (m, d)
  | _ => none
theorem ownAt_some {i : Nat} {ρ : Env} {m : Fl} {d : D} (e : ownAt i ρ = some (m, d)) : ρ[i]? = some (some (m, d)) ∧ m ≠ Fl.bor := by
  unfold ownAt at e
  split at e
  · split at e
    · cases e
    · cases e
      exact ⟨by assumption, by assumption⟩
  · cases e
def isL : D → Bool
  | .lst _ => true
  | _ => false
def isDc : D → Bool
  | .dK _ _ => true
  | .dT _ _ => true
  | _ => false
def mMut (ty : D → Bool) (o : D → List D → Option (D × D)) (i : Nat) (ms : EMs) : EM := fun ρ => (ownAt i ρ).bind fun z => if ty z.2 = true then (ms ρ).bind fun x => (ownAt i x.2).bind fun y => (o y.2 x.1).bind fun w => some (w.1, x.2.set i (some (y.1, w.2))) else none
section
variable {X : Cx} {e ob : Expr} {es : List Expr} {T id : String} {name : Str} {apos cpos : Pos} {r : V → List V → Hp → VK → Prop} {o : D → List D → Option (D × D)} {ty : D → Bool} {ms : EMs} {i : Nat}
def TyT (K : PySem.W.Frag) (T : String) (ty : D → Bool) : Prop := ∀ H d v F, ty d = true → Rep K H d v F → (∀ a ∈ F, Mut (H a)) → tyV K T v H
theorem mut_rd {H : Hp} {a : Addr} {o : HO} (m : Mut (H a)) (q : Rd H a o) : H a = some o := by
  rcases q with q | ⟨u, q⟩
  · exact q
  · rw [q] at m; exact m.elim
end
/-! ### lists -/
def appendD : D → List D → Option (D × D) := fun d ds => match d, ds with
  | .lst xs, [y] => if xs.length < sizeLine then some (.non, .lst (xs ++ [y])) else none
  | _, _ => none
theorem lst_own {K : PySem.W.Frag} {H : Hp} {xs : List D} {x : V} {F : List Addr} (r : Rep K H (.lst xs) x F) (mu : ∀ a ∈ F, Mut (H a)) : ∃ a vs G, x = .ref a ∧ H a = some (.lst vs) ∧ F = a :: G ∧ Reps K H xs vs G := by
  obtain ⟨a, vs, G, rfl, q, rfl, r⟩ := r
  exact ⟨a, vs, G, rfl, mut_rd (mu a (List.mem_cons_self ..)) q, rfl, r⟩
theorem frm_upd {H : Hp} {a : Addr} {F : List Addr} {o : HO} (mu : ∀ b ∈ F, Mut (H b)) (ha : a ∈ F) : Frm [] H (fun b => b ∈ F) (upd H a o) := .of mu fun b u e n => by
  rw [upd_ne (fun z => n (by rw [z]; exact ha))]
  exact e
theorem frm_one {H : Hp} {a : Addr} {o : HO} (mu : Mut (H a)) : Frm [] H (fun b => b = a) (upd H a o) := .of (fun b e => e ▸ mu) fun b u e n => by
  rw [upd_ne n]
  exact e
/-- pop of a plain item -/
def popD : D → List D → Option (D × D) := fun d ds => match d, ds with
  | .lst xs, [] => (xs[xs.length - 1]?).bind fun y => if pures xs = true then some (y, .lst xs.dropLast) else none
  | _, _ => none
theorem Reps.dropLast {K : PySem.W.Frag} {H : Hp} : ∀ {ds : List D} {vs : List V}, Reps K H ds vs [] → Reps K H ds.dropLast vs.dropLast []
  | [], vs, r => by rw [r.1]; exact ⟨rfl, rfl⟩
  | [d], vs, r => by
    obtain ⟨v, rfl, _⟩ := reps_one r
    exact ⟨rfl, rfl⟩
  | d :: e :: ds, vs, r => by
    obtain ⟨v, vr, F1, F2, rfl, z, r1, r2⟩ := r
    obtain ⟨rfl, rfl⟩ := List.append_eq_nil_iff.mp z.symm
    have ih := Reps.dropLast r2
    obtain ⟨w, wr, F3, F4, rfl, z2, r3, r4⟩ := r2
    exact ⟨v, _, [], [], rfl, rfl, r1, ih⟩
theorem pures_mem {ds : List D} (h : pures ds = true) {d : D} (hd : d ∈ ds) : pure d = true := by
  induction ds with
  | nil => cases hd
  | cons e es ih =>
    have h' : (pure e && pures es) = true := h
    rw [Bool.and_eq_true] at h'
    rcases List.mem_cons.mp hd with rfl | hd
    · exact h'.1
    · exact ih h'.2 hd
/-! ### x[i] = v -/
/-- the store by values: d the thing, k the place, v the value -/
def StD (K : PySem.W.Frag) (t : TSet) (o : D → D → D → Option D) : Prop := ∀ H d k w x y v F G Gk d' (Q : Hp → Prop), Rep K H d x F → F.Nodup → (∀ a ∈ F, Mut (H a)) → Rep K H k y Gk → Rep K H w v G → G.Nodup → (∀ a ∈ G, Mut (H a)) → (∀ a ∈ F, a ∉ G) →
  o d k w = some d' → (∀ H' F1, Frm [] H (fun a => a ∈ F) H' → Rep K H' d' x F1 → F1.Nodup → (∀ a ∈ F1, (a ∈ F ∨ a ∈ G ∨ H a = none) ∧ Mut (H' a)) → Q H') → t x y v H Q
def gSub' (i : Nat) (ix : EX) (o : D → D → D → Option D) : GX := fun v ρ => (ownAt i ρ).bind fun z => (ix ρ).bind fun k => (o z.2 k v).bind fun d' => some (ρ.set i (some (z.1, d')))
section
variable {X : Cx} {a b e : Expr} {pos : Pos} {i : Nat} {f : EX} {m : EM}
theorem gSub_of {t : TSet} {o : D → D → D → Option D} (ho : StD X.K t o) (v : V) (σ : L2.St) (H : Hp) (Q : L2.St → Hp → Prop) (h : tG X.K (gSub' i f o) v σ H Q) : gSub (tVar i) (tP X.K false f) t v σ H Q := by
  obtain ⟨c, ρ, fp, d, F, ρ', ok, x, e, k⟩ := h
  obtain ⟨⟨m, d0⟩, e0, e⟩ := Option.bind_eq_some_iff.mp e
  obtain ⟨kk, e1, e⟩ := Option.bind_eq_some_iff.mp e
  obtain ⟨d2, e2, e⟩ := Option.bind_eq_some_iff.mp e
  cases e
  obtain ⟨q, hm⟩ := ownAt_some e0
  obtain ⟨u, hu, _, _⟩ := ok.rep i m d0 q
  refine ⟨u, hu, ρ, kk, ok.sees, e1, fun y H1 Gk s rk _ => ?_⟩
  have ok1 := ok.same s
  have x1 := x.same s
  obtain ⟨u', hu', ru, _⟩ := ok1.rep i m d0 q
  rw [hu] at hu'
  cases hu'
  obtain ⟨n1, n2⟩ := ok1.nd i m d0 q hm
  refine ho H1 d0 kk d u y v (fp i) F Gk d2 _ ru n1 (fun a ha => (n2 a ha).2.1) rk x1.rep x1.nd (fun a ha => (x1.ow a ha).2.1) (fun a ha hg => x1.dj i m d0 q hm a hg ha) e2 fun H' F1 fr r1 nd1 ow => ?_
  obtain ⟨ok2, _⟩ := ok1.turnG (res := .non) (w := .non) (G1 := []) q hm hu x1.one fr r1 nd1 ⟨rfl, rfl⟩ List.nodup_nil (fun _ _ z => by cases z) fun a ha => ha.elim (ow a) fun z => by cases z
  exact k σ H' _ ok2
theorem g_sub {t : TSet} {o : D → D → D → Option D} (hv : PE X a (tVar i)) (hb : DB X b f) (ht : PSet X t) (ho : StD X.K t o)
    (ha : ∀ v, assign (.Subscript a b pos) X.env v = (do
      let ov ← holding [v] (eval a X.env)
      let iv ← holding [v, ov] (eval b X.env)
      standAt pos
      holding [v, ov, iv] (setItem ov iv v)
      release [v, ov, iv] []) := by intro _; rfl) : PG X (.Subscript a b pos) (tG X.K (gSub' i f o)) := (pg_sub hv hb ht ha).imp fun v σ H Q h => gSub_of ho v σ H Q h
end
/-- a plain item of a list of plain items is stored -/
def setL : D → D → D → Option D := fun d k w => match d, k with
  | .lst xs, .int i => if pures xs = true then if pure w = true then (ixN xs.length i).map fun j => .lst (xs.set j w) else none else none
  | _, _ => none
theorem Reps.set {K : PySem.W.Frag} {H : Hp} {w : D} {v : V} (rw' : Rep K H w v []) : ∀ {ds : List D} {vs : List V} {j : Nat}, Reps K H ds vs [] → Reps K H (ds.set j w) (vs.set j v) []
  | [], vs, j, r => by rw [r.1]; exact ⟨rfl, rfl⟩
  | d :: ds, vs, 0, r => by
    obtain ⟨u, ur, F1, F2, rfl, z, r1, r2⟩ := r
    obtain ⟨rfl, rfl⟩ := List.append_eq_nil_iff.mp z.symm
    exact ⟨v, ur, [], [], rfl, rfl, rw', r2⟩
  | d :: ds, vs, j + 1, r => by
    obtain ⟨u, ur, F1, F2, rfl, z, r1, r2⟩ := r
    obtain ⟨rfl, rfl⟩ := List.append_eq_nil_iff.mp z.symm
    exact ⟨u, _, [], [], rfl, rfl, r1, Reps.set rw' r2⟩
theorem st_list {K : PySem.W.Frag} : StD K rSetL setL := fun H d k w x y v F G Gk d' Q r nd mu rk rv ndG muG ap e kk => by
  unfold setL at e
  split at e
  · split at e
    · rename_i hp
      split at e
      · rename_i hw
        obtain ⟨j, e1, rfl⟩ := Option.map_eq_some_iff.mp e
        obtain ⟨a, us, F', rfl, hH, rfl, rr⟩ := lst_own r mu
        have z := rr.nil hp
        subst z
        have z := rv.nil hw
        subst z
        have hk := rk.1
        subst hk
        refine ⟨a, us, _, j, rfl, rfl, hH, by rw [rr.length]; exact e1, ?_⟩
        have one := frm_one (o := .lst (us.set j v)) (mu a (List.mem_cons_self ..))
        refine kk _ [a] (frm_upd mu (List.mem_cons_self ..)) ⟨a, _, [], rfl, .inl upd_same, rfl, Reps.set (rv.frm one fun b hb => by cases hb) (rr.frm one fun b hb => by cases hb)⟩ nd fun b hb => ?_
        rw [List.mem_singleton.mp hb]
        exact ⟨.inl (List.mem_cons_self ..), by rw [upd_same]; trivial⟩
      · cases e
    · cases e
  · cases e
end DL
namespace DL
open PySem PySem.Spec PyProof.Rows L2
/-! ### any sequence walked, whatever it is -/
def itemsOf : D → Option (List D)
  | .tup xs => some xs
  | .ctp xs => some xs
  | .lst xs => some xs
  | .frz xs => some xs
  | _ => none
def xIt (f : EX) : IX := fun ρ => (f ρ).bind itemsOf
def xEn (f : EX) : IX := fun ρ => (f ρ).bind fun d => (itemsOf d).bind fun xs => some (enumF 0 xs)
/-- a sequence in the heap: a tuple or a list -/
theorem itemsOf_rep {K : PySem.W.Frag} {H : Hp} {d : D} {v : V} {F : List Addr} {xs : List D} (r : Rep K H d v F) (e : itemsOf d = some xs) : ∃ a vs G, v = .ref a ∧ Reps K H xs vs G ∧ (∀ b ∈ G, b ∈ F) ∧ ((SqT K H a vs ∧ ∀ H', Kp H F H' → SqT K H' a vs) ∨ (SqL K H a vs ∧ ∀ H', Kp H F H' → SqL K H' a vs)) := by
  cases d <;> cases e
  · obtain ⟨a, vs, rfl, q, r⟩ := r
    exact ⟨a, vs, F, rfl, r, fun b hb => hb, .inl ⟨.of q, fun H' k => k.sqT (.of q)⟩⟩
  · obtain ⟨a, vs, G, rfl, q, rfl, r⟩ := r
    exact ⟨a, vs, G, rfl, r, fun b hb => List.mem_cons_of_mem _ hb, .inr ⟨.inl q, fun H' k => k.lst q (List.mem_cons_self ..)⟩⟩
  · obtain ⟨a, vs, rfl, q, r⟩ := r
    exact ⟨a, vs, F, rfl, r, fun b hb => hb, .inr ⟨q.sq, fun H' k => k.frz q⟩⟩
  · obtain ⟨a, vs, rfl, q, r⟩ := r
    exact ⟨a, vs, F, rfl, r, fun b hb => hb, .inl ⟨q.sq, fun H' k => q.sq⟩⟩
theorem wk_tup' {K : PySem.W.Frag} {H1 : Hp} {p : Addr} {vs : List V} {its : List D} {Fs G : List Addr} (q : ∀ H, Kp H1 Fs H → SqT K H p vs) (r : Reps K H1 its vs G) (sb : ∀ a ∈ G, a ∈ Fs) : Wk (Itt K p) K its H1 Fs where
  go := fun i H hi k => by
    have hl : i < vs.length := by rw [r.length]; exact hi
    exact ⟨vs, vs[i], q H k, List.getElem?_eq_getElem hl⟩
  stop := fun H k => ⟨vs, q H k, by rw [r.length]; exact Nat.le_refl _⟩
  yld := fun i H x H' d e k y => by
    obtain ⟨v, G', g1, g2, g3⟩ := r.get e
    obtain ⟨rfl, f⟩ := y
    have := f vs (q _ k)
    rw [g1] at this
    cases this
    exact ⟨Same.refl _, G', k.rep g2 fun a ha => sb a (g3 a ha), fun a ha => sb a (g3 a ha)⟩
theorem wk_enumT' {K : PySem.W.Frag} {H1 : Hp} {p : Addr} {vs : List V} {its : List D} {Fs G : List Addr} (q : ∀ H, Kp H1 Fs H → SqT K H p vs) (r : Reps K H1 its vs G) (sb : ∀ a ∈ G, a ∈ Fs) : Wk (IteT K p) K (enumF 0 its) H1 Fs where
  go := fun i H hi k => by
    rw [enumF_len] at hi
    have hl : i < vs.length := by rw [r.length]; exact hi
    exact ⟨vs, vs[i], q H k, List.getElem?_eq_getElem hl⟩
  stop := fun H k => ⟨vs, q H k, by rw [r.length, enumF_len]⟩
  yld := fun i H x H' d e k y => by
    obtain ⟨z, e1, rfl⟩ := enumF_get its 0 i d e
    obtain ⟨v, G', g1, g2, g3⟩ := r.get e1
    obtain ⟨T, w, rfl, n, rfl, f⟩ := y
    have := f vs (q _ k)
    rw [g1] at this
    cases this
    rw [Nat.zero_add]
    exact ⟨same_upd n, G', rep_pair n (k.rep g2 fun a ha => sb a (g3 a ha)), fun a ha => sb a (g3 a ha)⟩
section
variable {X : Cx} {tg iter e : Expr} {f : EX} {pos p tpos : Pos} {elts : List Expr} {kk : Nat} {pins : List (Addr × Obj)} {σ : L2.St} {H : Hp} {s : Shared} {R : It → Hp → Prop}
theorem iter_tup {a : Addr} {vs : List V} (I : Inv X pins σ H s) (q : SqT X.K H a vs) (h : R (Itt X.K a) H) : wpAny (model X.prog X.w) X.A (pyIter (.ref a)) (PIE X pins σ tg R) X.xe s := by
  obtain ⟨its, rv, pl, hz⟩ := I.tuple q
  refine wpAny_pyIter_tuple (show s.heap.IsTuple a its.toArray from pl) ?_
  refine ⟨s.heap.objs.size, [s.heap.objs.size], _, _, H, rfl, I.kept (t' := s.toks) fun b o e => Heap.get?_push_of_some _ e, turn_tuple a _, ⟨_, Heap.get?_push_size _ rfl, rfl, rfl⟩, fun b hb => ?_, h⟩
  rw [List.mem_singleton.mp hb]
  exact I.fpOk (Nat.le_refl _) (I.hok.fresh (Nat.le_refl _))
theorem iter_lst {a : Addr} {vs : List V} (I : Inv X pins σ H s) (q : SqL X.K H a vs) (h : R (Itl X.K a) H) : wpAny (model X.prog X.w) X.A (pyIter (.ref a)) (PIE X pins σ tg R) X.xe s := by
  obtain ⟨its, rv, pl, hz⟩ := I.list q
  refine wpAny_pyIter_list pl.isList ?_
  refine ⟨s.heap.objs.size, [s.heap.objs.size], _, _, H, rfl, I.kept (t' := s.toks) fun b o e => Heap.get?_push_of_some _ e, turn_list a _, ⟨_, Heap.get?_push_size _ rfl, rfl, rfl⟩, fun b hb => ?_, h⟩
  rw [List.mem_singleton.mp hb]
  exact I.fpOk (Nat.le_refl _) (I.hok.fresh (Nat.le_refl _))
theorem i_seq {own : Bool} (he : PE X iter (tP X.K own f)) : PI X tg iter (tI X.K own (xIt f)) := by
  refine ⟨fun pins s σ H R I ⟨ρ, its, sees, e0, k⟩ => ?_⟩
  obtain ⟨d, e1, e2⟩ := Option.bind_eq_some_iff.mp e0
  refine thn (he.run pins s σ H (fun v H1 => ∃ F, Same H H1 ∧ Rep X.K H1 d v F ∧ (own = true → New H H1 F)) I ⟨ρ, d, sees, e1, fun v H' F sm r n => ⟨F, sm, r, n⟩⟩) fun u s1 ⟨v, H1, I1, ru, F, sm, r, n⟩ => ?_
  obtain ⟨a, vs, G, rfl, rr, sb, h⟩ := itemsOf_rep r e2
  obtain rfl : u = Value.ref a := ru
  rcases h with ⟨q, qk⟩ | ⟨q, qk⟩
  · exact iter_tup I1 q (k _ H1 F sm (wk_tup' qk rr sb) fun z a ha => (n z).new a ha)
  · exact iter_lst I1 q (k _ H1 F sm (wk_lst qk rr sb) fun z a ha => (n z).new a ha)
theorem i_enum {own : Bool} (hg : Gl X "enumerate") (hm : X.mg "enumerate" = none) (he : PE X e (tP X.K own f)) (hs : starEach [e] X.env = (false, eval e X.env) :: starEach [] X.env := by rfl) (hs2 : starEach [e] X.env = [(false, eval e X.env)] := by rfl) :
    PI X (.Tuple elts kk tpos) (.Call (.Name "enumerate" p) [e] [] pos) (tI X.K own (xEn f)) := by
  refine ⟨fun pins s σ H R I ⟨ρ, its, sees, e0, k⟩ => ?_⟩
  obtain ⟨d, e1, e0⟩ := Option.bind_eq_some_iff.mp e0
  obtain ⟨xs, e2, e0⟩ := Option.bind_eq_some_iff.mp e0
  cases e0
  have hpa := pa_cons he pa_nil hs
  refine Call_ (ld_blt I hg hm boot_enumerate (PyProof.Rows.callWith_type1 (thn (hpa.run pos pins s σ H (fun ws H1 => ∃ v F, ws = [v] ∧ Same H H1 ∧ Rep X.K H1 d v F ∧ (own = true → New H H1 F)) I ⟨ρ, d, sees, e1, fun v H' F sm r n => ⟨v, F, rfl, sm, r, n⟩⟩) fun us s1 ⟨ws, H1, I1, r1, v, F, ew, sm, r, n⟩ => ?_) hs2 rfl))
  subst ew
  obtain ⟨u, rfl, ru⟩ := vals1 r1
  obtain ⟨a, vs, G, rfl, rr, sb, h⟩ := itemsOf_rep r e2
  obtain rfl : u = Value.ref a := ru
  have two : ∀ b : Addr, b ∈ [s1.heap.objs.size + 1, s1.heap.objs.size] → s1.heap.objs.size ≤ b := fun b hb => by
    rcases (show b = s1.heap.objs.size + 1 ∨ b = s1.heap.objs.size by simpa using hb) with z | z <;> (rw [z]; first | exact Nat.le_add_right _ _ | exact Nat.le_refl _)
  rcases h with ⟨q, qk⟩ | ⟨q, qk⟩
  · obtain ⟨its, rv, pl, hz⟩ := I1.tuple q
    have hT : s1.heap.IsTuple a its.toArray := pl
    have hlt : a < s1.heap.objs.size := by obtain ⟨o, ho, _⟩ := hT; exact Heap.lt_size ho
    refine call_enumB (begins_tuple a its.toArray) hT fun h' he hit hk => wpAny_pyIter_enum he ?_
    have I2 : Inv X pins σ H1 { s1 with heap := h' } := I1.kept (t' := s1.toks) hk
    exact ⟨s1.heap.objs.size + 1, [s1.heap.objs.size + 1, s1.heap.objs.size], _, _, H1, rfl, I2, turn_enumT a (s1.heap.objs.size + 1) s1.heap.objs.size (Nat.ne_of_lt hlt), ⟨⟨.none, he⟩, ⟨_, hit, rfl, rfl⟩, Nat.succ_ne_self _, Nat.ne_of_lt (Nat.lt_succ_of_lt hlt)⟩, fun b hb => I1.fpOk (two b hb) (I1.hok.fresh (two b hb)), k _ H1 F sm (wk_enumT' qk rr sb) fun z a ha => (n z).new a ha⟩
  · obtain ⟨its, rv, pl, hz⟩ := I1.list q
    refine call_enumerate_list pl.isList fun h' he hit hsz hk => wpAny_pyIter_enum he ?_
    have I2 : Inv X pins σ H1 { s1 with heap := h' } := I1.kept (t' := s1.toks) hk
    exact ⟨s1.heap.objs.size + 1, [s1.heap.objs.size + 1, s1.heap.objs.size], _, _, H1, rfl, I2, turn_enum a (s1.heap.objs.size + 1) s1.heap.objs.size, ⟨⟨.none, he⟩, hit, Nat.succ_ne_self _⟩, fun b hb => I1.fpOk (two b hb) (I1.hok.fresh (two b hb)), k _ H1 F sm (wk_enumL qk rr sb) fun z a ha => (n z).new a ha⟩
end
/-! ### own defs by name -/
def FnAt (P : Program) (w : World) (K : PySem.W.Frag) (mg : Str → Option Value) (base : Heap) (k : Nat) (x : Str) (ps : List Str) (sp : Sp) : Prop :=
  ∃ fa fd, mg x = some (.ref fa) ∧ PySem.W.keepIn K (.ref fa) = true ∧ Binds K fd ps [] ∧ FnOk P w K mg base CX0 k fa fd ps sp
def DefAt (K : PySem.W.Frag) (mg : Str → Option Value) (x : Str) (st : Stmt) (ps : List Str) : Prop := ∃ fa fd, L2.Fun K x x st fa fd ∧ mg x = some (.ref fa) ∧ Binds K fd ps []
theorem FnAt.mono {P : Program} {w : World} {K : PySem.W.Frag} {mg : Str → Option Value} {base : Heap} {j k : Nat} {x : Str} {ps : List Str} {sp : Sp} (h : FnAt P w K mg base j x ps sp) (l : j ≤ k) : FnAt P w K mg base k x ps sp := by
  obtain ⟨fa, fd, a, b, c, G⟩ := h
  exact ⟨fa, fd, a, b, c, G.mono l⟩
section
variable {P : Program} {w : World} {K : PySem.W.Frag} {mg : Str → Option Value} {base : Heap}
theorem at_p {x : Str} {st : Stmt} {N ps : List Str} {k : Nat} {g : ES} (F : DefAt K mg x st ps) (S : FnScope N ps (defScope st))
    (hb : ∀ (f : Addr) (cdv : Value) (A : Around) (outer : List PySem.Env) (s : Shared) (H : Hp) (E : XK), Room k (A.deeper (envOfC x (defScope st) s.heap.objs.size f cdv)) → DSs (cxOf CX0 P w K mg base N x (defScope st) f cdv A outer s H E).nox (defBody st) g) :
    FnAt P w K mg base (k + 1) x ps (spP K ps.length (fnP N g)) := by
  obtain ⟨fa, fd, F, hm, b⟩ := F
  exact ⟨fa, fd, hm, F.kp, b, f_p F S (hb fa)⟩
theorem at_r {x : Str} {st : Stmt} {N ps : List Str} {k n : Nat} {g : ES} (F : DefAt K mg x st ps) (S : FnScope N ps (defScope st)) (hps : ps.length = n + 1)
    (hb : ∀ (f : Addr) (cdv : Value) (A : Around) (outer : List PySem.Env) (s : Shared) (H : Hp) (E : XK), Room k (A.deeper (envOfC x (defScope st) s.heap.objs.size f cdv)) → DSs (cxOf CX0 P w K mg base N x (defScope st) f cdv A outer s H E).nox (defBody st) g) :
    FnAt P w K mg base (k + 1) x ps (spR K n (fnR N g)) := by
  obtain ⟨fa, fd, F, hm, b⟩ := F
  exact ⟨fa, fd, hm, F.kp, b, f_r F S hps (hb fa)⟩
end
section
variable {X : Cx} {x : Str} {po pos : Pos} {e : Expr} {es : List Expr} {fs : EXs} {ms : EMs}
theorem p_at {n k : Nat} {F : List D → Option D} {ps : List Str} (G : FnAt X.prog X.w X.K X.mg X.base k x ps (spP X.K n F)) (hr : Room k X.A) (hg : Gl X x) (ha : PA X (e :: es) (tPs X.K false fs))
    (hn : ∀ ρ ds, fs ρ = some ds → ds.length = n) (hdb : (x == ("__debug__" : Str)) = false := by decide) (he : starEach (e :: es) X.env = (false, eval e X.env) :: starEach es X.env := by rfl) (hpl : (backTo pos (starEach es X.env)).any (·.1) = false := by rfl) : DP X (.Call (.Name x po) (e :: es) [] pos) (xCall F fs) := by
  obtain ⟨fa, fd, hm, hk, hb, G⟩ := G
  exact p_call G hr hg hm hk hb ha hn hdb he hpl
theorem m_atR {n k i : Nat} {F : D → List D → Option (D × D)} {ps : List Str} (G : FnAt X.prog X.w X.K X.mg X.base k x ps (spR X.K n F)) (hr : Room k X.A) (hg : Gl X x)
    (hv : PE X e (tVar i)) (ha : PA X es (tMs X.K ms)) (hn : ∀ ρ ds ρ', ms ρ = some (ds, ρ') → ds.length = n) (hs : starEach (e :: es) X.env = (false, eval e X.env) :: starEach es X.env := by rfl) (hdb : (x == ("__debug__" : Str)) = false := by decide) (hpl : (backTo pos (starEach es X.env)).any (·.1) = false := by rfl) :
    DM X (.Call (.Name x po) (e :: es) [] pos) (mCallR F i ms) := by
  obtain ⟨fa, fd, hm, hk, hb, G⟩ := G
  exact m_callR G hr hg hm hk hb hv ha hn hs hdb hpl
end
end DL
namespace DL
open PySem PySem.Spec PyProof.Rows L2
/-! ### the module's constants -/
def IntAt (mg : Str → Option Value) (x : Str) (i : Int) : Prop := ∃ t, mg x = some (.int i t)
def TupAt (K : PySem.W.Frag) (mg : Str → Option Value) (x : Str) (d : D) : Prop := ∃ p, mg x = some (.ref p) ∧ ∀ H, Rep K H d (.ref p) []
section
variable {X : Cx} {a : Expr} {f : EX} {pos : Pos} {k : Nat}
theorem p_gI {x : Str} {i : Int} (hg : Gl X x) (hm : IntAt X.mg x i) (hd : (x == ("__debug__" : Str)) = false := by decide) : DP X (.Name x pos) (xC (.int i)) := by
  obtain ⟨t, hm⟩ := hm
  exact p_globI hg hm hd
def xNeg (f : EX) : EX := fun ρ => (f ρ).bind oNeg
theorem p_neg' (ha : DB X a f) : DP X (.UnaryOp .USub a pos) (xNeg f) := p_neg ha
def xIsi (ts : List String) (f : EX) : EX := fun ρ => (f ρ).bind (isiD ts)
end
/-! ### the end -/
theorem law_rep {K : PySem.W.Frag} {H : Hp} {a : Addr} {ns : List Int} (hO : Only H) (h : SqL K H a (ns.map V.int)) : Rep K H (.frz (ns.map D.int)) (.ref a) [] := by
  have allI : ∀ ns : List Int, Reps K H (ns.map D.int) (ns.map V.int) [] := fun ns => by
    induction ns with
    | nil => exact ⟨rfl, rfl⟩
    | cons n ns ih => exact ⟨_, _, [], [], rfl, rfl, ⟨rfl, rfl⟩, ih⟩
  refine ⟨a, _, rfl, ?_, allI ns⟩
  rcases h with (h | ⟨o, h⟩) | h
  · rcases hO a with z | ⟨o, xs, z⟩
    · rw [h] at z; cases z
    · rw [h] at z; cases z
  · exact .inl ⟨o, h⟩
  · exact .inr h
theorem law_sp {K : PySem.W.Frag} {F : List D → Option D} {H : Hp} {a : Addr} {ns : List Int} (hF : F [.frz (ns.map D.int)] = some (.bl true)) (hO : Only H) (h : SqL K H a (ns.map V.int)) : spP K 1 F [.ref a] H (fun v _ => v = .bl true) fun _ _ _ => False :=
  ⟨_, [], .bl true, rfl, Reps.one (law_rep hO h), hF, fun v H' F' _ r _ => r.1⟩
end DL
namespace DL
open PySem PySem.Spec PyProof.Rows L2
/-! ### the ends -/
theorem mk_def {K : PySem.W.Frag} {h : Heap} {mg : Str → Option Value} {x : Str} {st : Stmt} {ps : List Str} {f : Addr} {od an : Option Addr} {sl : Array (Option Value)} {oc kV dc pm cd ct : Value} (X : K.In h) (G : h.Ns mainGlobals mg)
    (a : PySem.W.nsIn K mainGlobals x = some (some (.ref f))) (l : K.lookup f = some ⟨oc, od, .func (PySem.W.fnOf x x (defArgs st) (defBody st) (defScope st) .none kV dc pm an cd ct), sl⟩) (c : PySem.W.codeIn K cd x = true) (k : PySem.W.keepIn K (.ref f) = true)
    (hb : ∀ (kV doc pm : Value) (an : Option Addr) (cdv ct : Value) (us : List Value), us.length = ps.length → bindArgs (PySem.W.fnOf x x (defArgs st) (defBody st) (defScope st) .none kV doc pm an cdv ct) ⟨us, []⟩ = Pure.pure (ps.zip us)) : DefAt K mg x st ps :=
  ⟨f, _, fun_mk l c k, PySem.W.mg_of X G a, (fun_mk (st := st) l c k).binds hb⟩
theorem mk_int {K : PySem.W.Frag} {h : Heap} {mg : Str → Option Value} {x : Str} {i : Int} {t : Nat} (X : K.In h) (G : h.Ns mainGlobals mg) (a : PySem.W.nsIn K mainGlobals x = some (some (.int i t))) : IntAt mg x i := ⟨t, PySem.W.mg_of X G a⟩
theorem mk_non {K : PySem.W.Frag} {h : Heap} {mg : Str → Option Value} {x : Str} (X : K.In h) (G : h.Ns mainGlobals mg) (a : PySem.W.nsIn K mainGlobals x = some none) : mg x = none := PySem.W.mg_none_of X G a
/-- the law's own def, over every base -/
def FnTop (P : Program) (w : World) (K : PySem.W.Frag) (mg : Str → Option Value) (k : Nat) (fa : Addr) (x : Str) (sp : Sp) : Prop :=
  ∃ fd : FuncData, (∀ (s : Shared) (v : Value), BindsTo s fd ⟨[v], []⟩ [(x, v)]) ∧ ∀ base : Heap, K.In base → base.Ns mainGlobals mg → FnOk P w K mg base CX0 k fa fd [x] sp
theorem at_law {P : Program} {w : World} {K : PySem.W.Frag} {mg : Str → Option Value} {fa : Addr} {x y : Str} {st : Stmt} {N : List Str} {k : Nat} {g : ES} (F : DefAt K mg x st [y]) (hfa : mg x = some (.ref fa)) (S : FnScope N [y] (defScope st))
    (h1 : ∀ (kV doc pm : Value) (an : Option Addr) (cdv ct v : Value), bindArgs (PySem.W.fnOf x x (defArgs st) (defBody st) (defScope st) .none kV doc pm an cdv ct) ⟨[v], []⟩ = Pure.pure [(y, v)])
    (hb : ∀ (base : Heap) (f : Addr) (cdv : Value) (A : Around) (outer : List PySem.Env) (s : Shared) (H : Hp) (E : XK), Room k (A.deeper (envOfC x (defScope st) s.heap.objs.size f cdv)) → DSs (cxOf CX0 P w K mg base N x (defScope st) f cdv A outer s H E).nox (defBody st) g) :
    FnTop P w K mg (k + 1) fa y (spP K 1 (fnP N g)) := by
  obtain ⟨f2, fd, F, hm, b⟩ := F
  have e := hfa.symm.trans hm
  cases e
  refine ⟨fd, fun s v => ?_, fun base _ _ => f_p F S (hb base fa)⟩
  obtain ⟨oc, od, kV, doc, pm, an, cdv, ct, osl, rfl, lk, hcd⟩ := F.ex
  exact .of_eq (h1 kV doc pm an cdv ct v)
theorem law_hsp {K : Params → PySem.W.Frag} {F : List D → Option D} {n : Nat} (hF : ∀ ns : List Int, ns.length ≤ n → F [.frz (ns.map D.int)] = some (.bl true)) (w : World) (H : Hp) (a : Addr) (ns : List Int) (hl : ns.length ≤ n) (hO : Only H) (h : SqL (K w.params) H a (ns.map V.int)) : spP (K w.params) 1 F [.ref a] H (fun v _ => v = .bl true) fun _ _ _ => False := law_sp (hF ns hl) hO h
end DL
namespace DL
open PySem PySem.Spec L2
def rng1F (ds : List D) : Option (List D) := match ds with
  | [.int j] => if rOk j = true then some (rng 0 j) else none
  | _ => none
def rng2F (ds : List D) : Option (List D) := match ds with
  | [.int i, .int j] => if rOk i = true then if rOk j = true then some (rng i j) else none else none
  | _ => none
/-! ### the plain side: how the readings compute -/
section
variable {ρ : Env} {s : Slt} {i j n : Nat} {f g h : EX} {d d' x y z : D} {m : Fl}
@[simp] theorem e_var : xVar i (s :: ρ) = ((s :: ρ)[i]?).bind fun s => s.map Prod.snd := by
  unfold xVar
  cases (s :: ρ)[i]? with
  | none => rfl
  | some z => cases z with
    | none => rfl
    | some z => rfl
@[simp] theorem e_pure : xPure f (s :: ρ) = (f (s :: ρ)).bind fun d => if pure d = true then some d else none := (rfl)
@[simp] theorem e_C : xC d (s :: ρ) = some d := (rfl)
@[simp] theorem e_op {o : D → D → Option D} : xOp o f g (s :: ρ) = (f (s :: ρ)).bind fun x => (g (s :: ρ)).bind fun y => o x y := (rfl)
@[simp] theorem e_bool : xBool f (s :: ρ) = (f (s :: ρ)).bind fun d => match d with | .bl b => some b | _ => none := (rfl)
@[simp] theorem e_chain {o o' : D → D → Option D} : xChain o o' f g h (s :: ρ) = (f (s :: ρ)).bind fun x => (g (s :: ρ)).bind fun y => (o x y).bind fun z => match z with | .bl true => (h (s :: ρ)).bind fun w => o' y w | .bl false => some (.bl false) | _ => none := by
  unfold xChain
  rfl
@[simp] theorem e_and : xAnd f g (s :: ρ) = (f (s :: ρ)).bind fun x => match x with | .bl true => g (s :: ρ) | .bl false => some (.bl false) | _ => none := (rfl)
@[simp] theorem e_or : xOr f g (s :: ρ) = (f (s :: ρ)).bind fun x => match x with | .bl false => g (s :: ρ) | .bl true => some (.bl true) | _ => none := (rfl)
@[simp] theorem e_not : xNot f (s :: ρ) = (f (s :: ρ)).bind fun x => match x with | .bl k => some (.bl (!k)) | _ => none := (rfl)
@[simp] theorem e_isi {ts : List String} : xIsi ts f (s :: ρ) = (f (s :: ρ)).bind (isiD ts) := (rfl)
@[simp] theorem e_neg : xNeg f (s :: ρ) = (f (s :: ρ)).bind oNeg := (rfl)
@[simp] theorem e_call {o : List D → Option D} {fs : EXs} : xCall o fs (s :: ρ) = (fs (s :: ρ)).bind o := (rfl)
@[simp] theorem e_nil : xsNil (s :: ρ) = some [] := (rfl)
@[simp] theorem e_cons {fs : EXs} : xsCons f fs (s :: ρ) = (f (s :: ρ)).bind fun x => (fs (s :: ρ)).bind fun xs => some (x :: xs) := (rfl)
@[simp] theorem e_tup {fs : EXs} : xTup fs (s :: ρ) = (fs (s :: ρ)).bind fun xs => if xs.length ≤ sizeLine then some (.tup xs) else none := (rfl)
@[simp] theorem e_lst {fs : EXs} : xLst fs (s :: ρ) = (fs (s :: ρ)).bind fun xs => if xs.length ≤ sizeLine then some (.lst xs) else none := (rfl)
@[simp] theorem e_yand {p q : QX} : yAnd p q (s :: ρ) = (p (s :: ρ)).bind fun k => if k = true then q (s :: ρ) else some false := (rfl)
@[simp] theorem e_yor {p q : QX} : yOr p q (s :: ρ) = (p (s :: ρ)).bind fun k => if k = true then some true else q (s :: ρ) := (rfl)
@[simp] theorem e_ynot {p : QX} : yNot p (s :: ρ) = (p (s :: ρ)).map not := (rfl)
@[simp] theorem e_yyes : yYes (s :: ρ) = some true := (rfl)
@[simp] theorem e_if {p : QX} : xIf p f g (s :: ρ) = (p (s :: ρ)).bind fun k => if k = true then f (s :: ρ) else g (s :: ρ) := (rfl)
@[simp] theorem e_mP : mP f (s :: ρ) = (f (s :: ρ)).bind fun d => some (d, (s :: ρ)) := (rfl)
@[simp] theorem e_move : mMove i (s :: ρ) = match (s :: ρ)[i]? with | some (some (.own, d)) => some (d, (s :: ρ).set i none) | _ => none := (rfl)
@[simp] theorem e_msNil : msNil (s :: ρ) = some ([], (s :: ρ)) := (rfl)
@[simp] theorem e_msCons {e : EM} {ms : EMs} : msCons e ms (s :: ρ) = (e (s :: ρ)).bind fun x => (ms x.2).bind fun xs => some (x.1 :: xs.1, xs.2) := (rfl)
@[simp] theorem e_mTup {ms : EMs} : mTup ms (s :: ρ) = (ms (s :: ρ)).bind fun xs => if xs.1.length ≤ sizeLine then some (.tup xs.1, xs.2) else none := (rfl)
@[simp] theorem e_mLst {ms : EMs} : mLst ms (s :: ρ) = (ms (s :: ρ)).bind fun xs => if xs.1.length ≤ sizeLine then some (.lst xs.1, xs.2) else none := (rfl)
@[simp] theorem e_mOp {o : D → D → Option D} {a b : EM} : mOp o a b (s :: ρ) = (a (s :: ρ)).bind fun x => if pure x.1 = true then (b x.2).bind fun y => (o x.1 y.1).bind fun z => some (z, y.2) else none := (rfl)
@[simp] theorem e_tP {p : QX} : tP' p (s :: ρ) = (p (s :: ρ)).bind fun k => some (k, (s :: ρ)) := (rfl)
@[simp] theorem e_mBool {e : EM} : mBool e (s :: ρ) = (e (s :: ρ)).bind fun x => match x.1 with | .bl b => some (b, x.2) | _ => none := by
  unfold mBool
  rfl
@[simp] theorem e_mNotT {t : ET} : mNotT t (s :: ρ) = (t (s :: ρ)).bind fun k => some (!k.1, k.2) := (rfl)
@[simp] theorem e_mIf {t : ET} {a b : EM} : mIf t a b (s :: ρ) = (t (s :: ρ)).bind fun k => if k.1 = true then a k.2 else b k.2 := (rfl)
@[simp] theorem e_next : sNext (s :: ρ) = some (.nx (s :: ρ)) := (rfl)
@[simp] theorem e_seq {a b : ES} : sSeq a b (s :: ρ) = (a (s :: ρ)).bind fun o => match o with | .nx ρ' => b ρ' | o => some o := by
  unfold sSeq
  rfl
@[simp] theorem e_break : sBreak (s :: ρ) = some (.bk (s :: ρ)) := (rfl)
@[simp] theorem e_cont : sCont (s :: ρ) = some (.ct (s :: ρ)) := (rfl)
@[simp] theorem e_never : sNever (s :: ρ) = none := (rfl)
@[simp] theorem e_sIf {t : ET} {a b : ES} : sIf t a b (s :: ρ) = (t (s :: ρ)).bind fun k => if k.1 = true then a k.2 else b k.2 := (rfl)
@[simp] theorem e_ret {e : EM} : sRet e (s :: ρ) = (e (s :: ρ)).bind fun x => some (.rt x.1 x.2) := (rfl)
@[simp] theorem e_retN : sRetN (s :: ρ) = some (.rt .non (s :: ρ)) := (rfl)
@[simp] theorem e_drop {e : EM} : sDrop e (s :: ρ) = (e (s :: ρ)).bind fun x => some (.nx x.2) := (rfl)
@[simp] theorem e_put : put i d (s :: ρ) = match (s :: ρ)[i]? with | some (some (.pin, _)) => none | some (some (.tag _, _)) => none | some _ => some ((s :: ρ).set i (some (.own, d))) | none => none := (rfl)
@[simp] theorem e_putB : putB i d (s :: ρ) = if i < (s :: ρ).length then some ((s :: ρ).set i (some (.bor, d))) else none := (rfl)
@[simp] theorem e_gsNil : gsNil [] (s :: ρ) = some (s :: ρ) := (rfl)
@[simp] theorem e_gsCons {a : GX} {as : GXs} {ds : List D} : gsCons a as (d :: ds) (s :: ρ) = (a d (s :: ρ)).bind (as ds) := (rfl)
@[simp] theorem e_gTup {gs : GXs} {ds : List D} : gTupD n gs (.tup ds) (s :: ρ) = if ds.length = n then gs ds (s :: ρ) else none := (rfl)
@[simp] theorem e_gTupC {gs : GXs} {ds : List D} : gTupD n gs (.ctp ds) (s :: ρ) = if ds.length = n then gs ds (s :: ρ) else none := (rfl)
@[simp] theorem e_asg {e : EM} {gx : GX} : sAsg e gx (s :: ρ) = (e (s :: ρ)).bind fun x => (gx x.1 x.2).bind fun ρ' => some (.nx ρ') := (rfl)
@[simp] theorem e_aug {o : D → D → Option D} {e : EM} : sAug i o e (s :: ρ) = (xPure (xVar i) (s :: ρ)).bind fun x => (e (s :: ρ)).bind fun y => (o x y.1).bind fun z => (put i z y.2).bind fun ρ' => some (.nx ρ') := (rfl)
@[simp] theorem e_iP {src : IX} : iP src (s :: ρ) = (src (s :: ρ)).bind fun its => some (its, (s :: ρ)) := (rfl)
@[simp] theorem e_for {src : IM} {gx : GX} {b : ES} : sFor src gx b (s :: ρ) = (src (s :: ρ)).bind fun x => forE gx b x.1 x.2 := (rfl)
@[simp] theorem e_rng1 {fs : EXs} : xRng1 fs (s :: ρ) = (fs (s :: ρ)).bind rng1F := by
  unfold xRng1
  rfl
@[simp] theorem e_rng2 {fs : EXs} : xRng2 fs (s :: ρ) = (fs (s :: ρ)).bind rng2F := by
  unfold xRng2
  rfl
@[simp] theorem e_comp {vs : List Nat} {src : IX} {gx : GX} {q : QX} : xComp vs src gx q f (s :: ρ) = (src (s :: ρ)).bind fun its => (compE gx q f (wipeE (s :: ρ) vs) its).bind fun ys => if ys.length ≤ sizeLine then some (.lst ys) else none := (rfl)
@[simp] theorem e_wipe0 : wipeE (s :: ρ) [] = (s :: ρ) := (rfl)
@[simp] theorem e_wipe1 {v : Nat} {vs : List Nat} : wipeE (s :: ρ) (v :: vs) = (wipeE (s :: ρ) vs).set v none := (rfl)
@[simp] theorem e_callR {F : D → List D → Option (D × D)} {ms : EMs} : mCallR F i ms (s :: ρ) = (xVar i (s :: ρ)).bind fun _ => (ms (s :: ρ)).bind fun x => match x.2[i]? with | some (some (m, d0)) => if m = .bor then none else (F d0 x.1).bind fun y => some (y.1, x.2.set i (some (m, y.2))) | _ => none := by
  unfold mCallR
  rfl
@[simp] theorem e_mut {ty : D → Bool} {o : D → List D → Option (D × D)} {ms : EMs} : mMut ty o i ms (s :: ρ) = (ownAt i (s :: ρ)).bind fun z => if ty z.2 = true then (ms (s :: ρ)).bind fun x => (ownAt i x.2).bind fun y => (o y.2 x.1).bind fun w => some (w.1, x.2.set i (some (y.1, w.2))) else none := (rfl)
@[simp] theorem e_gsub {ix : EX} {o : D → D → D → Option D} : gSub' i ix o d (s :: ρ) = (ownAt i (s :: ρ)).bind fun z => (ix (s :: ρ)).bind fun k => (o z.2 k d).bind fun d' => some ((s :: ρ).set i (some (z.1, d'))) := (rfl)
@[simp] theorem e_it : xIt f (s :: ρ) = (f (s :: ρ)).bind itemsOf := (rfl)
@[simp] theorem e_en : xEn f (s :: ρ) = (f (s :: ρ)).bind fun d => (itemsOf d).bind fun xs => some (enumF 0 xs) := (rfl)
@[simp] theorem e_fnP {N : List Str} {b : ES} {ds : List D} : fnP N b ds = (b (ds.map argSlot ++ List.replicate (N.length - ds.length) none)).bind fun o => match o with | .rt d _ => some d | .nx _ => some .non | _ => none := by
  unfold fnP outP env0
  rfl
@[simp] theorem e_fnR {N : List Str} {b : ES} {ds : List D} : fnR N b d ds = (b (some (.pin, d) :: (ds.map argSlot ++ List.replicate (N.length - (ds.length + 1)) none))).bind fun o => match o with
    | .rt r ρ => (match ρ[0]? with | some (some (Fl.pin, d')) => some (r, d') | _ => none)
    | .nx ρ => (match ρ[0]? with | some (some (Fl.pin, d')) => some (.non, d') | _ => none)
    | _ => none := by
  unfold fnR outR envR
  rfl
@[simp] theorem e_arg_int {k : Int} : argSlot (.int k) = some (.own, .int k) := (rfl)
@[simp] theorem e_arg_bl {k : Bool} : argSlot (.bl k) = some (.own, .bl k) := (rfl)
@[simp] theorem e_arg_non : argSlot .non = some (.own, .non) := (rfl)
@[simp] theorem e_arg_str {k : Str} : argSlot (.str k) = some (.own, .str k) := (rfl)
@[simp] theorem e_arg_lst {xs : List D} : argSlot (.lst xs) = some (.bor, .lst xs) := (rfl)
@[simp] theorem e_arg_dK {ks : List Key} {xs : List D} : argSlot (.dK ks xs) = some (.bor, .dK ks xs) := (rfl)
@[simp] theorem e_arg_dT {ks : List (List Key)} {xs : List D} : argSlot (.dT ks xs) = some (.bor, .dT ks xs) := (rfl)
@[simp] theorem e_arg_exc {a : Addr} {o : Option Addr} {ns : List Str} {xs : List D} : argSlot (.exc a o ns xs) = some (.bor, .exc a o ns xs) := (rfl)
theorem e_arg_pure (h : pure d = true) : argSlot d = some (.own, d) := by
  unfold argSlot
  rw [if_pos h]
theorem e_arg_tup {xs : List D} (h : pures xs = true) : argSlot (.tup xs) = some (.own, .tup xs) := e_arg_pure h
theorem e_arg_frz {xs : List D} (h : pures xs = true) : argSlot (.frz xs) = some (.own, .frz xs) := e_arg_pure h
@[simp] theorem e_own0 : ownAt i (s :: ρ) = match (s :: ρ)[i]? with | some (some (m, d)) => if m = .bor then none else some (m, d) | _ => none := by
  unfold ownAt
  rfl
@[simp] theorem l_get0 {α : Type} {u : α} {us : List α} : (u :: us)[0]? = some u := (rfl)
@[simp] theorem l_getS {α : Type} {u : α} {us : List α} {k : Nat} : (u :: us)[k + 1]? = us[k]? := (rfl)
/-! numbers -/
variable {a b c : Int}
@[simp] theorem v_add : oAdd (.int a) (.int b) = some (.int (a + b)) := (rfl)
@[simp] theorem v_sub : oSub (.int a) (.int b) = some (.int (a - b)) := (rfl)
@[simp] theorem v_neg : oNeg (.int a) = some (.int (-a)) := (rfl)
@[simp] theorem v_lt : oLt (.int a) (.int b) = some (.bl (decide (a < b))) := (rfl)
@[simp] theorem v_gt : oGt (.int a) (.int b) = some (.bl (decide (b < a))) := (rfl)
@[simp] theorem v_le : oLe (.int a) (.int b) = some (.bl (decide (a ≤ b))) := (rfl)
@[simp] theorem v_ge : oGe (.int a) (.int b) = some (.bl (decide (b ≤ a))) := (rfl)
theorem v_mul (h : -1000000000000000000 < b ∧ b < 1000000000000000000) : oMul (.int a) (.int b) = some (.int (a * b)) := by
  unfold oMul o2
  have : smallI b = true := by
    unfold smallI
    rw [decide_eq_true_eq]
    omega
  simp [this]
theorem v_mul' (h : -1000000000000000000 < a ∧ a < 1000000000000000000) : oMul (.int a) (.int b) = some (.int (a * b)) := by
  unfold oMul o2
  have : smallI a = true := by
    unfold smallI
    rw [decide_eq_true_eq]
    omega
  simp [this]
theorem v_fdiv (h : 0 < b ∧ b < 1073741824) : oFdiv (.int a) (.int b) = some (.int (a / b)) := by
  unfold oFdiv o2
  have h1 : (decide (b ≠ 0) && decide (b.natAbs < 1073741824)) = true := by
    simp only [Bool.and_eq_true, decide_eq_true_eq]
    omega
  simp only [h1, if_true]
  rw [Int.fdiv_eq_ediv_of_nonneg _ (by omega)]
theorem v_mod (h : 0 < b) : oMod (.int a) (.int b) = some (.int (a % b)) := by
  unfold oMod o2
  have h1 : decide (b ≠ 0) = true := by
    simp only [decide_eq_true_eq]
    omega
  simp only [h1, if_true]
  rw [Int.fmod_eq_emod_of_nonneg _ (by omega)]
theorem v_rOk (h : -1000000000000000000 < a ∧ a < 1000000000000000000) : rOk a = true := by
  unfold rOk
  rw [decide_eq_true_eq]
  omega
theorem v_rng1 (h : -1000000000000000000 < a ∧ a < 1000000000000000000) : rng1F [.int a] = some (rng 0 a) := by
  show (if rOk a = true then some (rng 0 a) else none) = _
  rw [v_rOk h, if_pos rfl]
theorem size_eq : sizeLine = 16777216 := by decide
theorem if_size {α : Type} {n : Nat} {p q : α} (h : n ≤ 16777216) : (if n ≤ sizeLine then p else q) = p := if_pos (by rw [size_eq]; exact h)
@[simp] theorem v_int : intD [.int a] = some (.int a) := (rfl)
@[simp] theorem v_intb {k : Bool} : intD [.bl k] = some (.int (if k then 1 else 0)) := (rfl)
@[simp] theorem v_max2 : max2D [.int a, .int b] = some (.int (if b > a then b else a)) := (rfl)
@[simp] theorem v_min2 : min2D [.int a, .int b] = some (.int (if b < a then b else a)) := (rfl)
@[simp] theorem v_abs : absD [.int a] = some (.int (if a < 0 then -a else a)) := (rfl)
variable {xs ys : List D}
@[simp] theorem v_len1 : lenD [.tup xs] = some (.int xs.length) := (rfl)
@[simp] theorem v_len2 : lenD [.lst xs] = some (.int xs.length) := (rfl)
@[simp] theorem v_len3 : lenD [.frz xs] = some (.int xs.length) := (rfl)
@[simp] theorem v_len4 : lenD [.ctp xs] = some (.int xs.length) := (rfl)
@[simp] theorem v_ix1 : ixD (.tup xs) (.int a) = atI xs a := (rfl)
@[simp] theorem v_ix2 : ixD (.lst xs) (.int a) = atI xs a := (rfl)
@[simp] theorem v_ix3 : ixD (.frz xs) (.int a) = atI xs a := (rfl)
@[simp] theorem v_ix4 : ixD (.ctp xs) (.int a) = atI xs a := (rfl)
@[simp] theorem v_items1 : itemsOf (.tup xs) = some xs := (rfl)
@[simp] theorem v_items2 : itemsOf (.lst xs) = some xs := (rfl)
@[simp] theorem v_items3 : itemsOf (.frz xs) = some xs := (rfl)
@[simp] theorem v_items4 : itemsOf (.ctp xs) = some xs := (rfl)
@[simp] theorem v_append : appendD (.lst xs) [y] = if xs.length < sizeLine then some (.non, .lst (xs ++ [y])) else none := (rfl)
theorem v_at (h : 0 ≤ a) : atI xs a = xs[a.toNat]? := by
  unfold atI ixN
  rw [if_pos h]
  by_cases c : a < xs.length
  · rw [if_pos c]
    rfl
  · rw [if_neg c]
    exact (List.getElem?_eq_none (by omega)).symm
theorem ok_int : okD (.int a) = true := by
  simp [okD, py, SeqAt.shaped, PyData.canLay0, PyData.depth]
theorem ok_bl {k : Bool} : okD (.bl k) = true := by
  simp [okD, py, SeqAt.shaped, PyData.canLay0, PyData.depth]
theorem eq_of {o : Bool} (h1 : okD x = true) (h2 : okD y = true) (h : eqv x y = o) : oEq x y = some (.bl o) := by
  unfold oEq
  rw [if_pos h1, if_pos h2, h]
theorem oNe_of {o : Bool} (h1 : okD x = true) (h2 : okD y = true) (h : eqv x y = o) : oNe x y = some (.bl (!o)) := by
  unfold oNe
  rw [if_pos h1, if_pos h2, h]
theorem eqv_int : eqv (.int a) (.int b) = decide (a = b) := by
  simp [eqv, py, PyData.eqv]
  rfl
@[simp] theorem v_eqI : oEq (.int a) (.int b) = some (.bl (decide (a = b))) := eq_of ok_int ok_int eqv_int
@[simp] theorem v_neI : oNe (.int a) (.int b) = some (.bl (!decide (a = b))) := oNe_of ok_int ok_int eqv_int
@[simp] theorem v_eqB {k l : Bool} : oEq (.bl k) (.bl l) = some (.bl (decide (k = l))) := eq_of ok_bl ok_bl (by cases k <;> cases l <;> simp [eqv, py, PyData.eqv])
@[simp] theorem v_neB {k l : Bool} : oNe (.bl k) (.bl l) = some (.bl (!decide (k = l))) := oNe_of ok_bl ok_bl (by cases k <;> cases l <;> simp [eqv, py, PyData.eqv])
theorem eqv_l0 (h : xs = []) : oEq (.lst xs) (.lst []) = some (.bl true) := by
  subst h
  exact eq_of (by simp [okD, py, pys, SeqAt.shaped, PyData.canLay0, PyData.canLayAll0, PyData.depth, PyData.depthAll]) (by simp [okD, py, pys, SeqAt.shaped, PyData.canLay0, PyData.canLayAll0, PyData.depth, PyData.depthAll]) (by simp [eqv, py, pys, PyData.eqv, PyData.eqvAll])
@[simp] theorem v_eqL0 : oEq (.lst []) (.lst []) = some (.bl true) := eqv_l0 rfl
@[simp] theorem v_neL0 : oNe (.lst []) (.lst []) = some (.bl false) := oNe_of (o := true) (by simp [okD, py, pys, SeqAt.shaped, PyData.canLay0, PyData.canLayAll0, PyData.depth, PyData.depthAll]) (by simp [okD, py, pys, SeqAt.shaped, PyData.canLay0, PyData.canLayAll0, PyData.depth, PyData.depthAll]) (by simp [eqv, py, pys, PyData.eqv, PyData.eqvAll])
@[simp] theorem pu_int : pure (.int a) = true := (rfl)
@[simp] theorem pu_bl {k : Bool} : pure (.bl k) = true := (rfl)
@[simp] theorem pu_str {k : Str} : pure (.str k) = true := (rfl)
@[simp] theorem pu_non : pure .non = true := (rfl)
@[simp] theorem pu_tup : pure (.tup xs) = pures xs := (rfl)
@[simp] theorem pu_ctp : pure (.ctp xs) = pures xs := (rfl)
@[simp] theorem pu_frz : pure (.frz xs) = pures xs := (rfl)
@[simp] theorem pu_lst : pure (.lst xs) = false := (rfl)
@[simp] theorem pu_dK {k : List Key} : pure (.dK k xs) = false := (rfl)
@[simp] theorem pu_dT {k : List (List Key)} : pure (.dT k xs) = false := (rfl)
@[simp] theorem pu_nil : pures [] = true := (rfl)
@[simp] theorem pu_cons : pures (x :: xs) = (pure x && pures xs) := (rfl)
@[simp] theorem v_isN : oIsN x .non = some (.bl (isNon x)) := (rfl)
@[simp] theorem v_notN : oNotN x .non = some (.bl (!isNon x)) := (rfl)
end
end DL
namespace DL
open PySem PySem.Spec L2
/-! ### the script's draws -/
def takenS : ES := (sSeq (sIf (tP' (xBool (xOp oGt (xOp ixD (xVar 0) (xC (.int 3))) (xC (.int 0))))) (sSeq (sAsg (mP (xOp oMod (xCall intD (xsCons (xOp ixD (xVar 0) (xC (.int 3))) xsNil)) (xVar 1))) (put 2))
  (sSeq (sAsg (mP (xOp oFdiv (xOp ixD (xVar 0) (xC (.int 3))) (xVar 1))) (gSub' 0 (xC (.int 3)) setL))
  (sRet (mP (xPure (xVar 2)))))) sNext)
  (sSeq (sAsg (mP (xOp oAdd (xOp ixD (xVar 0) (xC (.int 1))) (xC (.int 1)))) (gSub' 0 (xC (.int 1)) setL))
  (sSeq (sIf (tP' (xBool (xOp oGt (xOp ixD (xVar 0) (xC (.int 1))) (xCall lenD (xsCons (xOp ixD (xVar 0) (xC (.int 0))) xsNil))))) (sSeq (sAsg (mP (xOp oMod (xCall intD (xsCons (xOp oAdd (xOp oMul (xOp ixD (xVar 0) (xC (.int 2))) (xC (.int 48271))) (xC (.int 11))) xsNil)) (xC (.int 2147483647)))) (gSub' 0 (xC (.int 2)) setL))
  (sRet (mP (xOp oMod (xCall intD (xsCons (xOp oFdiv (xOp ixD (xVar 0) (xC (.int 2))) (xC (.int 7))) xsNil)) (xVar 1))))) sNext)
  (sSeq (sAsg (mP (xPure (xOp ixD (xOp ixD (xVar 0) (xC (.int 0))) (xOp oSub (xOp ixD (xVar 0) (xC (.int 1))) (xC (.int 1)))))) (put 3))
  (sSeq (sAsg (mP (xOp oMod (xCall intD (xsCons (xOp oAdd (xOp oAdd (xOp oMul (xOp ixD (xVar 0) (xC (.int 2))) (xC (.int 48271))) (xVar 3)) (xC (.int 11))) xsNil)) (xC (.int 2147483647)))) (gSub' 0 (xC (.int 2)) setL))
  (sSeq (sIf (tP' (xBool (xOp oGe (xVar 3) (xOp oPow (xC (.int 10)) (xC (.int 18)))))) (sAsg (mP (xOp oFdiv (xVar 3) (xVar 1))) (gSub' 0 (xC (.int 3)) setL)) sNext)
  (sRet (mP (xOp oMod (xCall intD (xsCons (xVar 3) xsNil)) (xVar 1))))))))))
def takenF : D → List D → Option (D × D) := fnR ["_law_row", "_law_many", "_law_found", "_law_cell"] takenS
/-- a row of draws that is in order -/
def Row (ns : List Int) (d : D) : Prop := ∃ i s e : Int, 0 ≤ i ∧ d = .lst [.frz (ns.map D.int), .int i, .int s, .int e]
theorem pures_ints (ns : List Int) : pures (ns.map D.int) = true := by
  induction ns with
  | nil => rfl
  | cons n ns ih => exact (by rw [List.map_cons, pures, ih]; rfl)
theorem row_mk {ns : List Int} (i s e : Int) (hi : 0 ≤ i) : Row ns (.lst [.frz (ns.map D.int), .int i, .int s, .int e]) := ⟨i, s, e, hi, rfl⟩
theorem taken_ok {ns : List Int} {d : D} {m : Int} (h : Row ns d) (hm : 0 < m ∧ m < 1073741824) : ∃ v d', takenF d [.int m] = some (.int v, d') ∧ 0 ≤ v ∧ v < m ∧ Row ns d' := by
  obtain ⟨i, s, e, hi, rfl⟩ := h
  unfold takenF takenS
  have p1 := pures_ints ns
  have pw : oPow (.int 10) (.int 18) = some (.int 1000000000000000000) := rfl
  by_cases h1 : 0 < e
  · exact ⟨e % m, _, by simp (disch := omega) [h1, v_at, v_mod, v_fdiv, setL, ixN, pures, pure, p1], Int.emod_nonneg _ (by omega), Int.emod_lt_of_pos _ hm.1, row_mk i s (e / m) hi⟩
  · by_cases h2 : (ns.length : Int) < i + 1
    · refine ⟨(s * 48271 + 11) % 2147483647 / 7 % m, _, by simp (disch := omega) [h1, h2, v_at, v_mul, v_mod, v_fdiv, setL, ixN, pures, pure, p1], Int.emod_nonneg _ (by omega), Int.emod_lt_of_pos _ hm.1, row_mk (i + 1) ((s * 48271 + 11) % 2147483647) e (by omega)⟩
    · have hl : i.toNat < ns.length := by omega
      have g : (ns.map D.int)[i.toNat]? = some (.int ns[i.toNat]) := by
        rw [List.getElem?_map, List.getElem?_eq_getElem hl]
        rfl
      have e1 : i + 1 - 1 = i := by omega
      generalize ns[i.toNat] = c at g
      by_cases h3 : (1000000000000000000 : Int) ≤ c
      · exact ⟨c % m, _, by simp (disch := omega) [h1, h2, h3, e1, g, pw, v_at, v_mul, v_mod, v_fdiv, setL, ixN, pures, pure, p1], Int.emod_nonneg _ (by omega), Int.emod_lt_of_pos _ hm.1, row_mk (i + 1) ((s * 48271 + c + 11) % 2147483647) (c / m) (by omega)⟩
      · exact ⟨c % m, _, by simp (disch := omega) [h1, h2, h3, e1, g, pw, v_at, v_mul, v_mod, v_fdiv, setL, ixN, pures, pure, p1], Int.emod_nonneg _ (by omega), Int.emod_lt_of_pos _ hm.1, row_mk (i + 1) ((s * 48271 + c + 11) % 2147483647) e (by omega)⟩
theorem row_start (ns : List Int) (c : Int) : Row ns (.lst [.frz (ns.map D.int), .int 0, .int c, .int 0]) := row_mk 0 c 0 (by omega)
/-! ### comprehensions and loops -/
theorem comp_map {α : Type} {gx : GX} {q : QX} {e : EX} {ρ : Env} (g : α → D) (p : α → Bool) (f : α → D) : ∀ l : List α, (∀ a ∈ l, ∃ ρ1, gx (g a) ρ = some ρ1 ∧ q ρ1 = some (p a) ∧ (p a = true → e ρ1 = some (f a))) → compE gx q e ρ (l.map g) = some ((l.filter p).map f)
  | [], _ => rfl
  | a :: l, h => by
    obtain ⟨ρ1, h1, h2, h3⟩ := h a (List.mem_cons_self ..)
    have ih := comp_map g p f l fun b hb => h b (List.mem_cons_of_mem _ hb)
    rw [List.map_cons, compE, h1, Option.bind_some, h2, Option.bind_some, ih]
    cases hp : p a with
    | true => rw [if_pos rfl, h3 hp, List.filter_cons_of_pos hp]; rfl
    | false => rw [if_neg (by decide), List.filter_cons_of_neg (by rw [hp]; decide)]
theorem comp_all {α : Type} {gx : GX} {q : QX} {e : EX} {ρ : Env} (g : α → D) (f : α → D) (l : List α) (h : ∀ a ∈ l, ∃ ρ1, gx (g a) ρ = some ρ1 ∧ q ρ1 = some true ∧ e ρ1 = some (f a)) : compE gx q e ρ (l.map g) = some (l.map f) := by
  rw [comp_map g (fun _ => true) f l fun a ha => by
    obtain ⟨ρ1, h1, h2, h3⟩ := h a ha
    exact ⟨ρ1, h1, h2, fun _ => h3⟩]
  rw [List.filter_eq_self.mpr fun _ _ => rfl]
theorem comp_none {α : Type} {gx : GX} {q : QX} {e : EX} {ρ : Env} (g : α → D) (l : List α) (h : ∀ a ∈ l, ∃ ρ1, gx (g a) ρ = some ρ1 ∧ q ρ1 = some false) : compE gx q e ρ (l.map g) = some [] := by
  rw [comp_map g (fun _ => false) (fun _ => .non) l fun a ha => by
    obtain ⟨ρ1, h1, h2⟩ := h a ha
    exact ⟨ρ1, h1, h2, fun h => by cases h⟩]
  rw [List.filter_eq_nil_iff.mpr fun _ _ => by decide]
  rfl
theorem for_inv {α : Type} {gx : GX} {b : ES} (g : α → D) (P : Nat → Env → Prop) : ∀ (l : List α) (i : Nat) (ρ : Env), P i ρ →
    (∀ j a ρ, l[j]? = some a → P (i + j) ρ → pure (g a) = true ∧ ∃ ρ1 ρ2, gx (g a) ρ = some ρ1 ∧ (b ρ1 = some (.nx ρ2) ∨ b ρ1 = some (.ct ρ2)) ∧ P (i + j + 1) ρ2) →
    ∃ ρ', forE gx b (l.map g) ρ = some (.nx ρ') ∧ P (i + l.length) ρ'
  | [], i, ρ, h, _ => ⟨ρ, rfl, h⟩
  | a :: l, i, ρ, h, k => by
    obtain ⟨pa, ρ1, ρ2, h1, h2, h3⟩ := k 0 a ρ rfl h
    obtain ⟨ρ', h4, h5⟩ := for_inv g P l (i + 1) ρ2 h3 fun j c ρ e q => by
      have := k (j + 1) c ρ e (by rw [show i + (j + 1) = i + 1 + j by omega]; exact q)
      rw [show i + (j + 1) = i + 1 + j by omega] at this
      exact this
    refine ⟨ρ', ?_, by rw [show i + (a :: l).length = i + 1 + l.length by simp only [List.length_cons]; omega]; exact h5⟩
    rw [List.map_cons, forE, if_pos pa, h1, Option.bind_some]
    rcases h2 with h2 | h2 <;> (rw [h2]; exact h4)
theorem for_ok {α : Type} {gx : GX} {b : ES} (g : α → D) (P : Nat → Env → Prop) (l : List α) (ρ : Env) (h : P 0 ρ)
    (k : ∀ j a ρ, l[j]? = some a → P j ρ → pure (g a) = true ∧ ∃ ρ1 ρ2, gx (g a) ρ = some ρ1 ∧ (b ρ1 = some (.nx ρ2) ∨ b ρ1 = some (.ct ρ2)) ∧ P (j + 1) ρ2) : ∃ ρ', forE gx b (l.map g) ρ = some (.nx ρ') ∧ P l.length ρ' := by
  have := for_inv g P l 0 ρ h fun j a ρ e q => by
    rw [Nat.zero_add] at q ⊢
    exact k j a ρ e q
  rw [Nat.zero_add] at this
  exact this
/-! ### two results alike -/
def alikeS (F : List D → Option D) : ES := (sSeq (sIf (tP' (xBool (xIsi ["tuple", "list"] (xVar 1)))) (sSeq (sIf (tP' (yOr (yNot (xBool (xIsi ["tuple", "list"] (xVar 0)))) (xBool (xOp oNe (xIsi ["list"] (xVar 0)) (xIsi ["list"] (xVar 1)))))) (sRet (mP (xC (.bl false)))) sNext)
  (sSeq (sIf (tP' (xBool (xOp oNe (xCall lenD (xsCons (xVar 0) xsNil)) (xCall lenD (xsCons (xVar 1) xsNil))))) (sRet (mP (xC (.bl false)))) sNext)
  (sRet (mP (xOp oEq (xComp [2] (xRng1 (xsCons (xCall lenD (xsCons (xVar 1) xsNil)) xsNil)) (putB 2) (yNot (xBool (xCall F (xsCons (xOp ixD (xVar 0) (xVar 2)) (xsCons (xOp ixD (xVar 1) (xVar 2)) xsNil))))) (xPure (xVar 2))) (xLst xsNil)))))) sNext)
  (sSeq (sIf (tP' (yOr (xBool (xOp oIsN (xVar 1) (xC .non))) (xBool (xIsi ["str"] (xVar 1))))) (sRet (mP (xAnd (xOp oEq (xVar 0) (xVar 1)) (xOp oEq (xIsi ["str"] (xVar 0)) (xIsi ["str"] (xVar 1)))))) sNext)
  (sRet (mP (xAnd (xIsi ["int"] (xVar 0)) (xAnd (xOp oEq (xIsi ["bool"] (xVar 0)) (xIsi ["bool"] (xVar 1))) (xOp oEq (xVar 0) (xVar 1))))))))
def alikeR : Nat → List D → Option D
  | 0 => fun _ => none
  | n + 1 => fnP ["_law_found", "_law_due", "_law_k"] (alikeS (alikeR n))
def kind : D → Option (Bool × List D)
  | .tup xs => some (false, xs)
  | .ctp xs => some (false, xs)
  | .lst xs => some (true, xs)
  | .frz xs => some (true, xs)
  | _ => none
def Alk : Nat → D → D → Prop
  | 0, _, _ => False
  | n + 1, f, d => (∃ b xs ys, kind f = some (b, xs) ∧ kind d = some (b, ys) ∧ xs.length = ys.length ∧ ys.length ≤ sizeLine ∧ ∀ (i : Nat) x y, xs[i]? = some x → ys[i]? = some y → Alk n x y) ∨ (f = d ∧ kind d = none ∧ okD d = true)
theorem kind_isi {d : D} {b : Bool} {xs : List D} (h : kind d = some (b, xs)) : isiD ["tuple", "list"] d = some (.bl true) ∧ isiD ["list"] d = some (.bl b) ∧ lenD [d] = some (.int xs.length) ∧ ∀ i : Int, ixD d (.int i) = atI xs i := by
  cases d <;> cases h <;> exact ⟨rfl, rfl, rfl, fun _ => rfl⟩
theorem arg_any (d : D) : ∃ m, argSlot d = some (m, d) := ⟨_, rfl⟩
theorem rng_len (n : Nat) : rng 0 (n : Int) = (List.range n).map fun i : Nat => D.int (i : Int) := by
  unfold rng
  simp
theorem atI_of {xs : List D} {i : Nat} : atI xs (i : Int) = xs[i]? := v_at (by omega)
theorem sizeLine_lt : sizeLine < 1000000000000000000 := by decide
theorem Alk.list {n : Nat} {f d : D} {b : Bool} {xs ys : List D} (k1 : kind f = some (b, xs)) (k2 : kind d = some (b, ys)) (hl : xs.length = ys.length) (hs : ys.length ≤ sizeLine) (h : ∀ (i : Nat) x y, xs[i]? = some x → ys[i]? = some y → alikeR n [x, y] = some (.bl true)) : alikeR (n + 1) [f, d] = some (.bl true) := by
  obtain ⟨mf, hf⟩ := arg_any f
  obtain ⟨md, hd⟩ := arg_any d
  obtain ⟨a1, a2, a3, a4⟩ := kind_isi k1
  obtain ⟨b1, b2, b3, b4⟩ := kind_isi k2
  have sz := sizeLine_lt
  have c3 : compE (putB 2) (yNot (xBool (xCall (alikeR n) (xsCons (xOp ixD (xVar 0) (xVar 2)) (xsCons (xOp ixD (xVar 1) (xVar 2)) xsNil))))) (xPure (xVar 2)) [some (mf, f), some (md, d), none] (rng 0 (ys.length : Int)) = some [] := by
    rw [rng_len]
    refine comp_none _ _ fun i hi => ?_
    have hi := List.mem_range.mp hi
    have e1 : ys[i]? = some ys[i] := List.getElem?_eq_getElem hi
    have e2 : xs[i]? = some (xs[i]'(by omega)) := List.getElem?_eq_getElem (by omega)
    have ih := h i _ _ e2 e1
    exact ⟨_, rfl, by simp (disch := omega) [a4, b4, atI_of, e1, e2, ih]⟩
  have c4 : rng1F [.int (ys.length : Int)] = some (rng 0 ys.length) := v_rng1 (by omega)
  rw [alikeR]
  unfold alikeS
  simp (disch := omega) [hf, hd, a1, b1, a2, b2, a3, b3, c3, c4, hl]
end DL
namespace DL
open PySem PySem.Spec L2
/-! ### slots of a loop -/
def isPin : Slt → Bool
  | some (.pin, _) => true
  | some (.tag _, _) => true
  | _ => false
@[simp] theorem pin_none : isPin none = false := rfl
@[simp] theorem pin_own {d : D} : isPin (some (.own, d)) = false := rfl
@[simp] theorem pin_bor {d : D} : isPin (some (.bor, d)) = false := rfl
@[simp] theorem pin_pin {d : D} : isPin (some (.pin, d)) = true := rfl
@[simp] theorem pin_tag {P : PySem.Addr} {d : D} : isPin (some (.tag P, d)) = true := rfl
theorem e_put' {i : Nat} {d : D} {s : Slt} {ρ : Env} : put i d (s :: ρ) = ((s :: ρ)[i]?).bind fun x => if isPin x = true then none else some ((s :: ρ).set i (some (.own, d))) := by
  unfold put
  cases (s :: ρ)[i]? with
  | none => rfl
  | some x => cases x with
    | none => rfl
    | some x =>
      obtain ⟨m, e⟩ := x
      cases m <;> rfl
/-! ### data that is alike to itself -/
def okA : Nat → D → Bool
  | 0, _ => false
  | n + 1, .tup xs => decide (xs.length ≤ sizeLine) && xs.all (okA n)
  | n + 1, .ctp xs => decide (xs.length ≤ sizeLine) && xs.all (okA n)
  | n + 1, .lst xs => decide (xs.length ≤ sizeLine) && xs.all (okA n)
  | n + 1, .frz xs => decide (xs.length ≤ sizeLine) && xs.all (okA n)
  | n + 1, .str z => okD (.str z)
  | n + 1, .dK _ _ => false
  | n + 1, .dT _ _ => false
  | n + 1, .fdT _ _ => false
  | n + 1, .exc _ _ _ _ => false
  | n + 1, _ => true
@[simp] theorem okA_int {n : Nat} {i : Int} : okA (n + 1) (.int i) = true := rfl
@[simp] theorem okA_bl {n : Nat} {b : Bool} : okA (n + 1) (.bl b) = true := rfl
@[simp] theorem okA_non {n : Nat} : okA (n + 1) .non = true := rfl
@[simp] theorem okA_tup {n : Nat} {xs : List D} : okA (n + 1) (.tup xs) = (decide (xs.length ≤ sizeLine) && xs.all (okA n)) := rfl
@[simp] theorem okA_lst {n : Nat} {xs : List D} : okA (n + 1) (.lst xs) = (decide (xs.length ≤ sizeLine) && xs.all (okA n)) := rfl
@[simp] theorem okA_frz {n : Nat} {xs : List D} : okA (n + 1) (.frz xs) = (decide (xs.length ≤ sizeLine) && xs.all (okA n)) := rfl
@[simp] theorem okA_ctp {n : Nat} {xs : List D} : okA (n + 1) (.ctp xs) = (decide (xs.length ≤ sizeLine) && xs.all (okA n)) := rfl
/-! ### sorting number tuples -/
def isI : D → Bool
  | .int _ => true
  | _ => false
def isIT : D → Bool
  | .tup xs => !xs.isEmpty && xs.all isI
  | _ => false
theorem isI_list : ∀ {xs : List D}, xs.all isI = true → ∃ ks : List Int, xs = ks.map D.int
  | [], _ => ⟨[], rfl⟩
  | x :: xs, h => by
    rw [List.all_cons, Bool.and_eq_true] at h
    obtain ⟨ks, rfl⟩ := isI_list h.2
    cases x with
    | int i => exact ⟨i :: ks, rfl⟩
    | _ => cases h.1
theorem isIT_list {d : D} (h : isIT d = true) : ∃ (i : Int) (ks : List Int), d = .tup (D.int i :: ks.map D.int) := by
  cases d with
  | tup xs =>
    have h : (!xs.isEmpty && xs.all isI) = true := h
    rw [Bool.and_eq_true] at h
    obtain ⟨ks, rfl⟩ := isI_list h.2
    cases ks with
    | nil => cases h.1
    | cons i ks => exact ⟨i, ks, rfl⟩
  | _ => cases h
theorem plains_ints : ∀ ks : List Int, plains (ks.map D.int) = true
  | [] => rfl
  | i :: ks => by
    rw [List.map_cons, plains, plains_ints ks]
    rfl
theorem pys_ints : ∀ ks : List Int, pys (ks.map D.int) = ks.map PyData.int
  | [] => rfl
  | i :: ks => by
    rw [List.map_cons, pys, pys_ints ks]
    rfl
theorem alikeAll_ints : ∀ ks js : List Int, PySem.W.alikeAll (ks.map PyData.int) (js.map PyData.int) = true
  | [], _ => by rw [List.map_nil, PySem.W.alikeAll]
  | i :: ks, [] => by rw [List.map_nil, List.map_cons, PySem.W.alikeAll]
  | i :: ks, j :: js => by
    rw [List.map_cons, List.map_cons, PySem.W.alikeAll, alikeAll_ints ks js, PySem.W.alike]
    rfl
theorem depthAll_ints : ∀ ks : List Int, PyData.depthAll (ks.map PyData.int) = 0
  | [] => rfl
  | i :: ks => by
    rw [List.map_cons, PyData.depthAll, depthAll_ints ks]
    rfl
theorem canLayAll_ints : ∀ ks : List Int, PyData.canLayAll0 (ks.map PyData.int) = true
  | [] => rfl
  | i :: ks => by
    rw [List.map_cons, PyData.canLayAll0, canLayAll_ints ks]
    rfl
theorem py_tup {i : Int} {ks : List Int} : py (.tup (D.int i :: ks.map D.int)) = .tuple (.int i :: ks.map PyData.int) := by
  rw [py, ← List.map_cons (f := D.int), pys_ints]
  rfl
theorem sortOk_IT {ds : List D} (h : ds.all isIT = true) : sortOk ds = true := by
  have h' : ∀ d ∈ ds, ∃ (i : Int) (ks : List Int), d = .tup (D.int i :: ks.map D.int) := fun d hd => isIT_list (List.all_eq_true.mp h d hd)
  unfold sortOk alikes
  rw [plains_all]
  simp only [Bool.and_eq_true, Bool.or_eq_true, List.all_eq_true, decide_eq_true_eq, List.mem_map]
  refine ⟨⟨⟨?_, ?_⟩, .inl ?_⟩, ?_⟩
  · intro d hd
    obtain ⟨i, ks, rfl⟩ := h' d hd
    exact plains_ints (i :: ks)
  · rintro _ ⟨d, hd, rfl⟩ _ ⟨e, he, rfl⟩
    obtain ⟨i, ks, rfl⟩ := h' d hd
    obtain ⟨j, js, rfl⟩ := h' e he
    rw [py_tup, py_tup, PySem.W.alike]
    exact alikeAll_ints (i :: ks) (j :: js)
  · rintro _ ⟨d, hd, rfl⟩
    obtain ⟨i, ks, rfl⟩ := h' d hd
    rw [py_tup]
    rfl
  · rintro _ ⟨d, hd, rfl⟩
    obtain ⟨i, ks, rfl⟩ := h' d hd
    rw [py_tup, PyData.depth, PyData.canLay0]
    have e1 := depthAll_ints (i :: ks)
    have e2 := canLayAll_ints (i :: ks)
    rw [List.map_cons] at e1 e2
    rw [e1, e2]
    exact ⟨by decide, rfl⟩
theorem sorted_IT {ds : List D} (h : ds.all isIT = true) : sortedD [.lst ds] = some (.lst (sortD ds)) := by
  show (if sortOk ds = true then some (D.lst (sortD ds)) else none) = _
  rw [sortOk_IT h, if_pos rfl]
/-! ### more of lists -/
theorem enumF_at : ∀ (xs : List D) (k i : Nat), (enumF k xs)[i]? = (xs[i]?).map fun x => D.tup [.int ((k + i : Nat) : Int), x]
  | [], k, i => by simp [enumF]
  | x :: xs, k, 0 => rfl
  | x :: xs, k, i + 1 => by
    rw [enumF, List.getElem?_cons_succ, List.getElem?_cons_succ, enumF_at xs (k + 1) i, show k + 1 + i = k + (i + 1) by omega]
end DL
namespace DL
open PySem PySem.Spec PyProof.Rows L2
/-! ### comprehensions whose tests and items may turn what the names own -/
section
variable {K : PySem.W.Frag} {c : Ct} {σ σ' : L2.St} {H H' : Hp} {ρ ρ' : Env} {fp fp' : Nat → List Addr}
theorem Ok.wipes (h : Ok K c σ H ρ fp) : ∀ vs : List Nat, Ok K c σ H (wipeE ρ vs) fp
  | [] => h
  | v :: vs => (Ok.wipes h vs).drop
theorem wipeE_in {ρ : Env} {i : Nat} {x : Slt} : ∀ {vs : List Nat}, i ∈ vs → (wipeE ρ vs)[i]? = some x → x = none
  | v :: vs, hi, e => by
    unfold wipeE at e
    rw [List.getElem?_set] at e
    split at e
    · split at e
      · exact (Option.some.inj e).symm
      · cases e
    · rename_i n
      rcases List.mem_cons.mp hi with z | z
      · exact absurd z.symm n
      · exact wipeE_in z e
theorem Ok.swap {vs : List Nat} (h : Ok K c σ H (wipeE ρ vs) fp) (hl : σ'.length = σ.length) (hs : ∀ i, i ∉ vs → σ'[i]? = σ[i]?) : Ok K c σ' H (wipeE ρ vs) fp := by
  refine ⟨by rw [hl]; exact h.len, fun i m d e => ?_, h.nd, h.bo, h.dj, h.frm, h.bt, h.tb, h.tg⟩
  have hi : i ∉ vs := fun z => by
    have := wipeE_in z e
    cases this
  rw [hs i hi]
  exact h.rep i m d e
theorem wipe_eq {vs : List Nat} (w : wipe σ' vs = wipe σ vs) : σ'.length = σ.length ∧ ∀ i, i ∉ vs → σ'[i]? = σ[i]? := by
  refine ⟨by rw [← wipe_length σ' vs, w, wipe_length], fun i hi => ?_⟩
  rw [← wipe_out (σ := σ') hi, w, wipe_out hi]
/-- an object that nobody here owns or sees is changed -/
theorem Ok.aside {D : Addr} {o : HO} (h : Ok K c σ H ρ fp) (h0 : c.H0 D = none) (hm : Mut (H D)) (nD : ¬ Ow ρ fp D) : Ok K c σ (upd H D o) ρ fp := by
  have fr : Frm c.T H (fun a => a = D) (upd H D o) := .of (fun a z => by subst z; exact hm) fun a o z n => by rw [upd_ne n]; exact z
  have out : ∀ i m d, ρ[i]? = some (some (m, d)) → ∀ a ∈ fp i, ¬ a = D := fun i m d e a ha z => by
    subst z
    by_cases hb : m = Fl.bor
    · subst hb
      exact (h.bt _ (h.bo i d e a ha)).1 (.inl h0)
    · exact nD ⟨i, m, d, e, hb, ha⟩
  refine ⟨h.len, fun i m d e => ?_, fun i m d e n => ?_, h.bo, h.dj, h.frm.comp fr fun a z => .inr (by rw [z]; exact .inl h0), h.bt, h.tb, h.tg⟩
  · obtain ⟨v, a, b, p⟩ := h.rep i m d e
    exact ⟨v, a, b.frm fr (out i m d e), p⟩
  · obtain ⟨q1, q2⟩ := h.nd i m d e n
    exact ⟨q1, fun a ha => ⟨(q2 a ha).1, by rw [upd_ne (out i m d e a ha)]; exact (q2 a ha).2.1, (q2 a ha).2.2⟩⟩
end
def compM (gx : GX) (t : ET) (e : EM) (vs : List Nat) : List D → Env → Option (List D × Env)
  | [], ρ => some ([], ρ)
  | d :: ds, ρ => if pure d = true then (gx d ρ).bind fun ρ1 => (t ρ1).bind fun b => if b.1 = true then (e b.2).bind fun y => if pure y.1 = true then (compM gx t e vs ds (wipeE y.2 vs)).bind fun r => some (y.1 :: r.1, r.2) else none
    else compM gx t e vs ds (wipeE b.2 vs) else none
def mComp (vs : List Nat) (src : IM) (gx : GX) (t : ET) (e : EM) : EM := fun ρ => (src ρ).bind fun x => (compM gx t e vs x.1 (wipeE x.2 vs)).bind fun r => if r.1.length ≤ sizeLine then some (.lst r.1, r.2) else none
/-- a block's target that owns -/
def tGM (K : PySem.W.Frag) (vs : List Nat) (g : GX) : TG := fun v σ H Q => ∃ c ρ fp d F ρ', Ok K c σ H ρ fp ∧ Val K c H ρ fp d v F ∧ g d ρ = some ρ' ∧ ∀ σ' H' fp', Ok K c σ' H' ρ' fp' → wipe σ' vs = wipe σ vs → Q σ' H'
def tGMs (K : PySem.W.Frag) (vs : List Nat) (g : GXs) : TGs := fun us σ H Q => ∃ c ρ fp ds F ρ', Ok K c σ H ρ fp ∧ Vals' K c H ρ fp ds us F ∧ g ds ρ = some ρ' ∧ ∀ σ' H' fp', Ok K c σ' H' ρ' fp' → wipe σ' vs = wipe σ vs → Q σ' H'
section
variable {X : Cx} {tg iter a : Expr} {pos : Pos} {vs : List Nat} {elt : Expr} {ifs : List Expr} {es : List Expr}
theorem gm_name {i : Nat} (h : PG X a (gName i)) (hi : i ∈ vs) : PG X a (tGM X.K vs (put i)) := h.imp fun v σ H Q ⟨c, ρ, fp, d, F, ρ', ok, x, e, k⟩ => by
  obtain ⟨hl, rfl⟩ := put_some e
  exact k _ _ _ (ok.put x.drop hl) (wipe_set σ _ vs i hi)
theorem tLc_m {src : IM} {gx : GX} {t : ET} {e : EM} (σ : L2.St) (H : Hp) (Q : VK) (h : tM X.K (mComp vs src gx t e) σ H Q) :
    tLc (tIM X.K src) (tGM X.K vs gx) (tT X.K t) (tM X.K e) vs σ H Q := by
  obtain ⟨c, ρ, fp, d, ρ', ok, e0, k⟩ := h
  obtain ⟨⟨its, ρ1⟩, e1, e0⟩ := Option.bind_eq_some_iff.mp e0
  obtain ⟨⟨ys, ρ2⟩, e2, e0⟩ := Option.bind_eq_some_iff.mp e0
  split at e0
  · rename_i hy
    cases e0
    refine ⟨c, ρ, fp, its, ρ1, ok, e1, fun J H1 fp1 Fs h1 w ap D hD => ?_⟩
    have sD : Same H1 (upd H1 D (.lst [])) := same_upd hD
    have owD : ∀ {ρ : Env} {fp : Nat → List Addr} {H : Hp} {c : Ct} {σ : L2.St}, Ok X.K c σ H ρ fp → H D = none → ¬ Ow ρ fp D := fun {ρ fp H c σ} ok hn ⟨i, m, d, q, _, ha⟩ => by
      obtain ⟨v, _, r, _⟩ := ok.rep i m d q
      exact r.there D ha hn
    have h1w : Ok X.K c σ H1 (wipeE ρ1 vs) fp1 := h1.wipes vs
    let cD := sub c H1 ρ1 fp1
    refine ⟨fun i m Hi => i + m = its.length ∧ ∃ ρi fpi acc av rest, Ok X.K cD σ Hi (wipeE ρi vs) fpi ∧ ¬ Ow (wipeE ρi vs) fpi D ∧ Hi D = some (.lst av) ∧ Reps X.K Hi acc av [] ∧ compM gx t e vs (its.drop i) (wipeE ρi vs) = some (rest, ρ2) ∧ acc ++ rest = ys,
      ⟨its.length, by simp, ρ1, fp1, [], [], ys, (h1.self.wipes vs).same sD, owD h1w hD, upd_same, ⟨rfl, rfl⟩, by simpa using e2, rfl⟩, ?_⟩
    rintro i m Hi ⟨hm, ρi, fpi, acc, av, rest, hi, nD, hDi, rep, ei, ey⟩
    have kp : Kp H1 Fs Hi := ⟨_, _, hi.frm, ap⟩
    by_cases hl : i < its.length
    · have hd : its.drop i = its[i] :: its.drop (i + 1) := List.drop_eq_getElem_cons hl
      rw [hd] at ei
      unfold compM at ei
      split at ei
      · rename_i pd
        obtain ⟨ρa, ea, ei⟩ := Option.bind_eq_some_iff.mp ei
        obtain ⟨⟨b, ρb⟩, eb, ei⟩ := Option.bind_eq_some_iff.mp ei
        refine .inr ⟨w.go i Hi hl kp, fun H' => i + 1 + (m - 1) = its.length ∧ ∃ ρi fpi acc av rest, Ok X.K cD σ H' (wipeE ρi vs) fpi ∧ ¬ Ow (wipeE ρi vs) fpi D ∧ H' D = some (.lst av) ∧ Reps X.K H' acc av [] ∧ compM gx t e vs (its.drop (i + 1)) (wipeE ρi vs) = some (rest, ρ2) ∧ acc ++ rest = ys, fun H' q => ⟨m - 1, by omega, q⟩, fun x H' y => ?_⟩
        obtain ⟨sy, G, rg, _⟩ := w.yld i Hi x H' its[i] (List.getElem?_eq_getElem hl) kp y
        have nf := rg.nil pd
        subst nf
        have hi' : Ok X.K cD σ H' (wipeE ρi vs) fpi := hi.same sy
        have hDs : H' D = some (.lst av) := sy _ _ hDi
        -- this turn's context
        have self : Ok X.K (sub cD H' (wipeE ρi vs) fpi) (wipe σ vs) H' (wipeE ρi vs) fpi := (Ok.swap (ρ := ρi) (vs := vs) hi'.self (wipe_length σ vs) fun i hi => wipe_out hi)
        -- back to the names' own state
        have back : ∀ {σ2 : L2.St} {H3 : Hp} {ρ3 : Env} {fp3 : Nat → List Addr}, wipe σ2 vs = wipe σ vs → Ok X.K (sub cD H' (wipeE ρi vs) fpi) σ2 H3 ρ3 fp3 → Ok X.K cD σ H3 (wipeE ρ3 vs) fp3 ∧ ¬ Ow (wipeE ρ3 vs) fp3 D ∧ H3 D = some (.lst av) ∧ Reps X.K H3 acc av [] := fun {σ2 H3 ρ3 fp3} w2 h3 => by
          obtain ⟨w3, w4⟩ := wipe_eq w2
          have h4 : Ok X.K (sub cD H' (wipeE ρi vs) fpi) σ H3 (wipeE ρ3 vs) fp3 := Ok.swap (h3.wipes vs) w3.symm fun i hi => (w4 i hi).symm
          refine ⟨hi'.trans h4, fun ⟨j, n, d, q, hn, ha⟩ => ?_, h3.frm.keep hDs (fun ps e => by cases e) nD, (rep.same sy).frm h3.frm fun a z => by cases z⟩
          rcases ((h4.nd j n d q hn).2 D ha).1 with z | z
          · exact nD z
          · exact (Fr.some z hDs fun _ ps e => by cases e).elim
        refine ⟨_, _, fpi, its[i], [], ρa, self, ⟨rg, List.nodup_nil, fun _ z => (by cases z), fun _ _ _ _ _ _ z => by cases z⟩, ea, fun σ2 H2 fp2 h2 w2 => ?_⟩
        have w2' : wipe σ2 vs = wipe σ vs := w2.trans (wipe_wipe σ vs vs fun v hv => hv)
        refine ⟨w2', _, ρa, fp2, b, ρb, h2, eb, fun H3 fp3 h3 => ?_⟩
        cases b with
        | true =>
          obtain ⟨⟨y1, ρy⟩, ey1, ei⟩ := Option.bind_eq_some_iff.mp ei
          split at ei
          · rename_i py1
            obtain ⟨⟨r1, ρr⟩, er1, ei⟩ := Option.bind_eq_some_iff.mp ei
            cases ei
            refine iteT ⟨_, ρb, fp3, y1, ρy, h3, ey1, fun v4 H4 fp4 F4 h4 x4 => ?_⟩
            have n4 : F4 = [] := x4.rep.nil py1
            subst n4
            obtain ⟨b1, b2, b3, b4⟩ := back w2' h4
            have hlen : av.length < sizeLine := by
              rw [rep.length]
              have : (acc ++ y1 :: r1).length ≤ sizeLine := by rw [ey]; exact hy
              rw [List.length_append, List.length_cons] at this
              omega
            have fr : Frm [] H4 (fun a => a = D) (upd H4 D (.lst (av ++ [v4]))) := .of (fun a z => by subst z; rw [b3]; trivial) fun a o z n => by rw [upd_ne n]; exact z
            have rr := (b4.frm fr fun a z => by cases z).append (Reps.one (x4.rep.frm fr fun a z => by cases z))
            exact ⟨av, b3, hlen, by omega, ρy, fp4, acc ++ [y1], av ++ [v4], r1, b1.aside hD (by rw [b3]; trivial) b2, b2, upd_same, rr, er1, by rw [List.append_assoc]; exact ey⟩
          · cases ei
        | false =>
          obtain ⟨b1, b2, b3, b4⟩ := back w2' h3
          exact iteF ⟨by omega, ρb, fp3, acc, av, rest, b1, b2, b3, b4, ei, ey⟩
      · cases ei
    · have hd : its.drop i = [] := List.drop_of_length_le (by omega)
      have hie : i = its.length := by omega
      rw [hd] at ei
      cases ei
      rw [List.append_nil] at ey
      subst ey
      refine .inl ⟨by rw [hie]; exact w.stop Hi kp, k _ Hi fpi [D] (h1.trans hi) ⟨⟨D, av, [], rfl, .inl hDi, rfl, rep⟩, List.nodup_cons.mpr ⟨(fun z => by cases z), List.nodup_nil⟩, fun a ha => ?_, fun j n d q hn a ha hj => ?_⟩⟩
      · rw [List.mem_singleton.mp ha]
        exact ⟨sub_ow h1 (.inr hD), by rw [hDi]; trivial, fun z => h1.there z hD⟩
      · rw [List.mem_singleton.mp ha] at hj
        exact nD ⟨j, n, d, q, hn, hj⟩
  · cases e0
theorem qm_one {q : Expr} {t : ET} (h : DT X q t) : PTs X [q] (tT X.K t) := pts_one h
theorem m_lc {scope : Scope} {own : List (Str × Nat)} {src : IM} {gx : GX} {t : ET} {e : EM} (hc : X.calm = true) (hN : X.N.Nodup) (hi : PI X tg iter (tIM X.K src)) (ok : BlkOk X.N X.env.scope scope own)
    (hg : ∀ (s : Shared) (H : Hp) (C : Addr) (cl : List (Str × Addr)) (fp : List Addr), PG (X.blk s H scope (compEnvC scope cl C X.env) fp) tg (tGM X.K (own.map (·.2)) gx)) (ht : ∀ (s : Shared) (H : Hp) (C : Addr) (cl : List (Str × Addr)) (fp : List Addr), PTs (X.blk s H scope (compEnvC scope cl C X.env) fp) ifs (tT X.K t))
    (he : ∀ (s : Shared) (H : Hp) (C : Addr) (cl : List (Str × Addr)) (fp : List Addr), PE (X.blk s H scope (compEnvC scope cl C X.env) fp) elt (tM X.K e)) (hs : ∀ x, foldedSetIterable iter X.env x = Pure.pure x := by intro _; rfl) :
    DM X (.ListComp elt [⟨tg, iter, ifs, 0⟩] scope pos) (mComp (own.map (·.2)) src gx t e) := (pe_lc hc hN hi ok hg ht he hs).imp (tLc_m)
end
end DL
namespace DL
open PySem PySem.Spec PyProof.Rows L2
/-! ### a name on the left, a turning expression on the right -/
def mOpV (o : D → D → Option D) (i : Nat) (m2 : EM) : EM := fun ρ => (xVar i ρ).bind fun _ => (m2 ρ).bind fun y => (xVar i y.2).bind fun x => (o x y.1).bind fun z => some (z, y.2)
def mIxV (i : Nat) (m2 : EM) : EM := fun ρ => (xVar i ρ).bind fun _ => (m2 ρ).bind fun y => (xVar i y.2).bind fun x => (ixD x y.1).bind fun z => if pure z = true then some (z, y.2) else none
section
variable {X : Cx} {a b e : Expr} {pos : Pos} {i k : Nat} {f g : EX} {m : EM}
theorem var_of {K : PySem.W.Frag} {c : Ct} {σ : L2.St} {H : Hp} {ρ : Env} {fp : Nat → List Addr} {i : Nat} {x : D} (h : Ok K c σ H ρ fp) (e : xVar i ρ = some x) : ∃ v, σ[i]? = some (some v) ∧ Rep K H x v (fp i) := by
  obtain ⟨fl, q⟩ := xVar_some e
  obtain ⟨v, hv, rv, _⟩ := h.rep i fl x q
  exact ⟨v, hv, rv⟩
theorem m_ixV (hr : Room k X.A) (ha : PE X a (tVar i)) (hb : DM X b m) (hs : PlainIx b) : DM X (.Subscript a b pos) (mIxV i m) := (pe_ix (r_ix hr) ha hb hs).imp fun σ H Q ⟨c, ρ, fp, d, ρ', h, e, k⟩ => by
  obtain ⟨x0, e0, e⟩ := Option.bind_eq_some_iff.mp e
  obtain ⟨⟨y, ρ1⟩, e1, e⟩ := Option.bind_eq_some_iff.mp e
  obtain ⟨x, e2, e⟩ := Option.bind_eq_some_iff.mp e
  obtain ⟨z, e3, e⟩ := Option.bind_eq_some_iff.mp e
  split at e
  · rename_i pz
    cases e
    obtain ⟨v, hv, _⟩ := var_of h e0
    refine ⟨v, hv, c, ρ, fp, y, ρ1, h, e1, fun w H1 fp1 F1 h1 x1 => ?_⟩
    obtain ⟨v', hv', rv⟩ := var_of h1 e2
    rw [hv] at hv'
    cases hv'
    exact d_ix H1 x y v w _ F1 d _ rv x1.rep e3 fun u G r => by
      have n := r.nil pz
      subst n
      exact k u H1 fp1 [] h1 ⟨r, List.nodup_nil, fun _ z => (by cases z), fun _ _ _ _ _ _ z => by cases z⟩
  · cases e
/-! ### list * number -/
def oRep : D → D → Option D := fun x y => match x, y with
  | .lst xs, .int j => if pures xs = true then if xs.length * j.toNat ≤ sizeLine then if j.natAbs < 2 ^ 62 then some (.lst (List.replicate j.toNat xs).flatten) else none else none else none
  | _, _ => none
theorem Reps.rep {K : PySem.W.Frag} {H : Hp} {xs : List D} {vs : List V} (r : Reps K H xs vs []) : ∀ n : Nat, Reps K H (List.replicate n xs).flatten (List.replicate n vs).flatten []
  | 0 => ⟨rfl, rfl⟩
  | n + 1 => by
    rw [List.replicate_succ, List.replicate_succ, List.flatten_cons, List.flatten_cons]
    exact r.append (G := []) (Reps.rep r n)
theorem p_rep (ha : DP X a f) (hb : DB X b g) : DP X (.BinOp a .Mult b pos) (xOp oRep f g) := (pe_op op_rep ha hb).imp fun σ H Q ⟨ρ, d, s, e, k⟩ => by
  obtain ⟨x, y, e1, e2, e3⟩ := xOp_some e
  refine ⟨ρ, x, s, e1, fun v H1 F1 s1 r1 n1 => ⟨ρ, y, s.same s1, e2, fun w H2 F2 s2 r2 _ => ?_⟩⟩
  unfold oRep at e3
  split at e3
  · split at e3
    · rename_i hp
      split at e3
      · rename_i hz
        split at e3
        · rename_i hj
          cases e3
          have n1' := n1 rfl
          obtain ⟨l, us, G, rfl, hl, rfl, rr⟩ := lst_own (r1.same s2) fun a ha => Mut.keep (n1'.mu a ha) s2
          have z := rr.nil hp
          subst z
          refine ⟨l, _, us, rfl, r2.1, hl, by omega, by omega, by rw [rr.length]; exact hz, fun p hp => ?_⟩
          exact k _ _ [p] ((s1.trans s2).trans (same_upd hp)) ⟨p, _, [], rfl, .inl upd_same, rfl, (Reps.rep rr _).same (same_upd hp)⟩ fun _ => (new_lst hp).of (s1.trans s2)
        · cases e3
      · cases e3
    · cases e3
  · cases e3
/-! ### x[k] op= v -/
def GetDb (K : PySem.W.Frag) (r : V → V → Hp → VK → Prop) (g : D → D → Option D) : Prop := ∀ H d1 d2 v1 v2 F1 F2 d (Q : VK), Rep K H d1 v1 F1 → Rep K H d2 v2 F2 → g d1 d2 = some d → (∀ v G, Rep K H d v G → Q v H) → r v1 v2 H Q
def getLD : D → D → Option D := fun x y => match x, y with
  | .lst xs, .int i => if 0 ≤ i then xs[i.toNat]? else none
  | _, _ => none
def rGetL (K : PySem.W.Frag) : V → V → Hp → VK → Prop := fun x y H Q => ∃ p xs i z, x = .ref p ∧ y = .int i ∧ SqL K H p xs ∧ 0 ≤ i ∧ xs[i.toNat]? = some z ∧ Q z H
def sAugS (i : Nat) (ix : EX) (gt o : D → D → Option D) (e : EX) (st : D → D → D → Option D) : ES := fun ρ => (ownAt i ρ).bind fun z => (ix ρ).bind fun k => (gt z.2 k).bind fun x => if pure x = true then (e ρ).bind fun y => (o x y).bind fun w => if pure w = true then (st z.2 k w).bind fun d' => some (.nx (ρ.set i (some (z.1, d')))) else none else none
end
end DL
namespace DL
open PySem PySem.Spec PyProof.Rows L2
/-! ### calls whose arguments turn something -/
def mCall (o : List D → Option D) (ms : EMs) : EM := fun ρ => (ms ρ).bind fun x => (o x.1).bind fun d => some (d, x.2)
section
variable {X : Cx} {x : Str} {po pos : Pos} {e : Expr} {es : List Expr} {ms : EMs} {id T : String}
theorem mCB_of {r : List V → Hp → VK → Prop} {o : List D → Option D} (ho : CallD X.K r o) (σ : L2.St) (H : Hp) (Q : VK) (h : tM X.K (mCall o ms) σ H Q) : tMs X.K ms σ H fun xs H1 => r xs H1 Q := by
  obtain ⟨c, ρ, fp, d, ρ', h, q, k⟩ := h
  obtain ⟨⟨ds, ρ1⟩, e1, q⟩ := Option.bind_eq_some_iff.mp q
  obtain ⟨d1, e2, q⟩ := Option.bind_eq_some_iff.mp q
  cases q
  exact ⟨c, ρ, fp, ds, ρ1, h, e1, fun vs H1 fp1 F1 h1 x1 => ho H1 ds vs F1 d Q x1.rep e2 fun v H2 F2 s2 r2 n2 => k v H2 fp1 F2 (h1.same s2) (h1.val r2 n2)⟩
theorem m_callTy {r : List V → Hp → VK → Prop} {o : List D → Option D} (hc : CallR X (.type T) r) (ho : CallD X.K r o) (hg : Gl X x) (hm : X.mg x = none) (hv : bootBuiltins x = some (.type T)) (ha : PA X (e :: es) (tMs X.K ms)) (hn : x ≠ "__name__" := by decide) (hdb : (x == ("__debug__" : Str)) = false := by decide)
    (he : starEach (e :: es) X.env = (false, eval e X.env) :: starEach es X.env := by rfl) (hpl : (backTo pos (starEach es X.env)).any (·.1) = false := by rfl) : DM X (.Call (.Name x po) (e :: es) [] pos) (mCall o ms) :=
  (pe_callTy hc hg hm hv ha hn hdb he hpl).imp (mCB_of ho)
variable {tg iter elt : Expr} {ifs : List Expr}
end
end DL
namespace DL
open PySem PySem.Spec L2
@[simp] theorem e_opV {i : Nat} {o : D → D → Option D} {e : EM} {s : Slt} {ρ : Env} : mOpV o i e (s :: ρ) = (xVar i (s :: ρ)).bind fun _ => (e (s :: ρ)).bind fun y => (xVar i y.2).bind fun x => (o x y.1).bind fun z => some (z, y.2) := (rfl)
@[simp] theorem e_ixV {i : Nat} {e : EM} {s : Slt} {ρ : Env} : mIxV i e (s :: ρ) = (xVar i (s :: ρ)).bind fun _ => (e (s :: ρ)).bind fun y => (xVar i y.2).bind fun x => (ixD x y.1).bind fun z => if pure z = true then some (z, y.2) else none := (rfl)
@[simp] theorem e_mcall {o : List D → Option D} {ms : EMs} {s : Slt} {ρ : Env} : mCall o ms (s :: ρ) = (ms (s :: ρ)).bind fun x => (o x.1).bind fun d => some (d, x.2) := (rfl)
@[simp] theorem e_mcomp {vs : List Nat} {src : IM} {gx : GX} {t : ET} {e : EM} {s : Slt} {ρ : Env} : mComp vs src gx t e (s :: ρ) = (src (s :: ρ)).bind fun x => (compM gx t e vs x.1 (wipeE x.2 vs)).bind fun r => if r.1.length ≤ sizeLine then some (.lst r.1, r.2) else none := (rfl)
@[simp] theorem e_augS {i : Nat} {ix e : EX} {gt o : D → D → Option D} {st : D → D → D → Option D} {s : Slt} {ρ : Env} : sAugS i ix gt o e st (s :: ρ) = (ownAt i (s :: ρ)).bind fun z => (ix (s :: ρ)).bind fun k => (gt z.2 k).bind fun x => if pure x = true then (e (s :: ρ)).bind fun y => (o x y).bind fun w => if pure w = true then (st z.2 k w).bind fun d' => some (.nx ((s :: ρ).set i (some (z.1, d')))) else none else none := (rfl)
@[simp] theorem e_par {i j : Nat} {ms : EMs} {s : Slt} {ρ : Env} : sPar i j ms (s :: ρ) = (ms (s :: ρ)).bind fun x => match x.1 with | [d, e] => (put i d x.2).bind fun ρ1 => (put j e ρ1).bind fun ρ2 => some (.nx ρ2) | _ => none := by
  unfold sPar
  rfl
/-! ### comprehensions that draw -/
theorem compM_filter {α : Type} {gx : GX} {t : ET} {e : EM} {vs : List Nat} (g f : α → D) (P : Env → Prop) : ∀ (l : List α) (ρ : Env), P ρ → (∀ a ∈ l, ∀ ρ, P ρ → pure (g a) = true ∧ ∃ ρ1 b ρ2, gx (g a) ρ = some ρ1 ∧ t ρ1 = some (b, ρ2) ∧ ((b = false ∧ P (wipeE ρ2 vs)) ∨ (b = true ∧ ∃ ρ3, e ρ2 = some (f a, ρ3) ∧ pure (f a) = true ∧ P (wipeE ρ3 vs)))) →
    ∃ (l' : List α) (ρ' : Env), l'.Sublist l ∧ compM gx t e vs (l.map g) ρ = some (l'.map f, ρ') ∧ P ρ'
  | [], ρ, h, _ => ⟨[], ρ, List.Sublist.slnil, rfl, h⟩
  | a :: l, ρ, h, k => by
    obtain ⟨pa, ρ1, b, ρ2, h1, h2, h3⟩ := k a (List.mem_cons_self ..) ρ h
    rcases h3 with ⟨rfl, h3⟩ | ⟨rfl, ρ3, h4, pf, h3⟩
    · obtain ⟨l', ρ', s, c, p⟩ := compM_filter g f P l _ h3 fun a ha => k a (List.mem_cons_of_mem _ ha)
      refine ⟨l', ρ', s.cons a, ?_, p⟩
      rw [List.map_cons, compM, if_pos pa, h1, Option.bind_some, h2, Option.bind_some]
      exact c
    · obtain ⟨l', ρ', s, c, p⟩ := compM_filter g f P l _ h3 fun a ha => k a (List.mem_cons_of_mem _ ha)
      refine ⟨a :: l', ρ', s.cons₂ a, ?_, p⟩
      rw [List.map_cons, compM, if_pos pa, h1, Option.bind_some, h2, Option.bind_some, if_pos rfl, h4, Option.bind_some, if_pos pf]
      show (compM gx t e vs (l.map g) (wipeE ρ3 vs)).bind _ = _
      rw [c]
      rfl
theorem enumF_map {α : Type} [Inhabited α] (g : α → D) (l : List α) : enumF 0 (l.map g) = (List.range l.length).map fun i : Nat => D.tup [.int (i : Int), g (l[i]?.getD default)] := by
  apply List.ext_getElem?
  intro i
  rw [enumF_at, List.getElem?_map, List.getElem?_map, Nat.zero_add]
  by_cases h : i < l.length
  · rw [List.getElem?_range h]
    simp only [Option.map_some]
    rw [List.getElem?_eq_getElem h]
    rfl
  · rw [List.getElem?_eq_none (by omega), List.getElem?_eq_none (by simpa using h)]
    rfl
/-! ### cells -/
abbrev Cell := Int × Int
def cellD (c : Cell) : D := .tup [.int c.1, .int c.2]
def inkD (cs : List Cell) : D := .tup (cs.map cellD)
def ltc (a b : Cell) : Prop := a.1 < b.1 ∨ (a.1 = b.1 ∧ a.2 < b.2)
instance (a b : Cell) : Decidable (ltc a b) := by unfold ltc; infer_instance
structure Good (cs : List Cell) : Prop where
  len : cs.length ≤ 400
  row : ∀ c ∈ cs, -60 ≤ c.1 ∧ c.1 ≤ 60
  col : ∀ c ∈ cs, -60 ≤ c.2 ∧ c.2 ≤ 60
  srt : cs.Pairwise ltc
theorem pure_cell {c : Cell} : pure (cellD c) = true := rfl
theorem pures_cells : ∀ cs : List Cell, pures (cs.map cellD) = true
  | [] => rfl
  | c :: cs => by
    rw [List.map_cons, pures, pures_cells cs]
    rfl
theorem py_cell (c : Cell) : py (cellD c) = .tuple [.int c.1, .int c.2] := by
  simp [cellD, py, pys]
theorem cmpOk_cell (a b : Cell) : cmpOk (py (cellD a)) (py (cellD b)) = true := by
  rw [py_cell, py_cell]
  simp [cmpOk, PySem.W.alike, PySem.W.alikeAll, PyData.depth, PyData.depthAll, PyData.canLay0, PyData.canLayAll0]
theorem lt_cell (a b : Cell) : PySem.W.dataLt (py (cellD a)) (py (cellD b)) = decide (ltc a b) := by
  rw [py_cell, py_cell, PySem.W.dataLt_ii]
  rfl
theorem le_cell (a b : Cell) : oLe (cellD a) (cellD b) = some (.bl (!decide (ltc b a))) := by
  show (if cmpOk (py (cellD a)) (py (cellD b)) = true then some (D.bl (!PySem.W.dataLt (py (cellD b)) (py (cellD a)))) else none) = _
  rw [cmpOk_cell, if_pos rfl, lt_cell]
theorem isIT_cells (cs : List Cell) : (cs.map cellD).all isIT = true := by
  rw [List.all_map]
  exact List.all_eq_true.mpr fun _ _ => rfl
namespace C
abbrev N_is_integer : List Str := ["value"]
def s_is_integer : ES := (sRet (mP (xAnd (xIsi ["int"] (xVar 0)) (xNot (xIsi ["bool"] (xVar 0))))))
def F_is_integer : List D → Option D := fnP N_is_integer s_is_integer
abbrev N_is_list : List Str := ["value", "least", "most"]
def s_is_list : ES := (sRet (mP (xAnd (xIsi ["tuple"] (xVar 0)) (xChain oLe oLe (xVar 1) (xCall lenD (xsCons (xVar 0) xsNil)) (xVar 2)))))
def F_is_list : List D → Option D := fnP N_is_list s_is_list
abbrev N_is_in : List Str := ["value", "least", "most"]
def s_is_in : ES := (sRet (mP (xAnd (xCall F_is_integer (xsCons (xVar 0) xsNil)) (xChain oLe oLe (xVar 1) (xVar 0) (xVar 2)))))
def F_is_in : List D → Option D := fnP N_is_in s_is_in
abbrev N_is_cell : List Str := ["value"]
def s_is_cell : ES := (sRet (mP (xAnd (xCall F_is_list (xsCons (xVar 0) (xsCons (xC (.int 2)) (xsCons (xC (.int 2)) xsNil)))) (xAnd (xCall F_is_in (xsCons (xOp ixD (xVar 0) (xC (.int 0))) (xsCons (xNeg (xC (.int 60))) (xsCons (xC (.int 60)) xsNil)))) (xCall F_is_in (xsCons (xOp ixD (xVar 0) (xC (.int 1))) (xsCons (xNeg (xC (.int 60))) (xsCons (xC (.int 60)) xsNil))))))))
def F_is_cell : List D → Option D := fnP N_is_cell s_is_cell
abbrev N_need_ink : List Str := ["value", "index", "cell"]
def s_need_ink : ES := (sSeq (sIf (tP' (yNot (xBool (xCall F_is_list (xsCons (xVar 0) (xsCons (xC (.int 0)) (xsCons (xC (.int 400)) xsNil))))))) sNever sNext)
  (sFor (iP (xEn (xPure (xVar 0)))) (gTupD 2 (gsCons (put 1) (gsCons (put 2) gsNil)))
  (sIf (tP' (yOr (yNot (xBool (xCall F_is_cell (xsCons (xVar 2) xsNil)))) (yAnd (xBool (xOp oGt (xVar 1) (xC (.int 0)))) (xBool (xOp oLe (xVar 2) (xOp ixD (xVar 0) (xOp oSub (xVar 1) (xC (.int 1))))))))) sNever sNext)))
def F_need_ink : List D → Option D := fnP N_need_ink s_need_ink
abbrev N_law_pick : List Str := ["_law_row", "_law_things"]
def s_law_pick : ES := (sRet (mIxV 1 (mCallR takenF 0 (msCons (mP (xCall lenD (xsCons (xVar 1) xsNil))) msNil))))
def F_law_pick : D → List D → Option (D × D) := fnR N_law_pick s_law_pick
abbrev N_law_framed : List Str := ["_law_row", "_law_high", "_law_wide", "_law_found", "_law_dense", "_law_line", "_law_column"]
def s_law_framed : ES := (sSeq (sAsg (mTup (msCons (mP (xLst xsNil)) (msCons (mCallR F_law_pick 0 (msCons (mP (xLst (xsCons (xC (.int 2)) (xsCons (xC (.int 2)) (xsCons (xC (.int 3)) (xsCons (xC (.int 4)) xsNil)))))) msNil)) msNil))) (gTupD 2 (gsCons (put 3) (gsCons (put 4) gsNil))))
  (sSeq (sFor (iP (xRng1 (xsCons (xVar 1) xsNil))) (put 5)
  (sAsg (mOpV oAdd 3 (mComp [6] (iP (xRng1 (xsCons (xVar 2) xsNil))) (put 6) (mBool (mOp oEq (mCallR takenF 0 (msCons (mP (xPure (xVar 4))) msNil)) (mP (xC (.int 0))))) (mP (xTup (xsCons (xPure (xVar 5)) (xsCons (xPure (xVar 6)) xsNil)))))) (put 3)))
  (sRet (mP (xCall tupleD (xsCons (xVar 3) xsNil))))))
def F_law_framed : D → List D → Option (D × D) := fnR N_law_framed s_law_framed
theorem is_integer_ok (v : Int) : F_is_integer [.int v] = some (.bl true) := by
  unfold F_is_integer s_is_integer
  simp [isiD, isTy, tyD]
theorem is_in_ok (v a b : Int) : F_is_in [.int v, .int a, .int b] = some (.bl (decide (a ≤ v) && decide (v ≤ b))) := by
  unfold F_is_in s_is_in
  simp [is_integer_ok]
  by_cases h1 : a ≤ v
  · simp [h1]
  · simp [h1]
theorem is_list_ok {xs : List D} (p : pures xs = true) (a b : Int) : F_is_list [.tup xs, .int a, .int b] = some (.bl (decide (a ≤ xs.length) && decide ((xs.length : Int) ≤ b))) := by
  unfold F_is_list s_is_list
  simp [e_arg_tup p, isiD, isTy, tyD]
  by_cases h1 : a ≤ xs.length
  · simp [h1]
  · simp [h1]
theorem is_cell_ok {c : Cell} (h1 : -60 ≤ c.1 ∧ c.1 ≤ 60) (h2 : -60 ≤ c.2 ∧ c.2 ≤ 60) : F_is_cell [cellD c] = some (.bl true) := by
  have hl : F_is_list [.tup [.int c.1, .int c.2], .int 2, .int 2] = some (.bl true) := by
    rw [is_list_ok rfl]
    rfl
  unfold F_is_cell s_is_cell cellD
  simp [e_arg_tup (show pures [D.int c.1, D.int c.2] = true from rfl), hl, v_at, is_in_ok, h1, h2]
theorem need_ink_ok {cs : List Cell} (h : Good cs) : F_need_ink [inkD cs] = some .non := by
  have p := pures_cells cs
  have hl : F_is_list [.tup (cs.map cellD), .int 0, .int 400] = some (.bl true) := by
    rw [is_list_ok p, List.length_map]
    have := h.len
    rw [decide_eq_true (show (0 : Int) ≤ (cs.length : Int) by omega), decide_eq_true (show (cs.length : Int) ≤ 400 by omega)]
    rfl
  obtain ⟨ρ', f1, f2⟩ := for_ok (gx := gTupD 2 (gsCons (put 1) (gsCons (put 2) gsNil))) (b := sIf (tP' (yOr (yNot (xBool (xCall F_is_cell (xsCons (xVar 2) xsNil)))) (yAnd (xBool (xOp oGt (xVar 1) (xC (.int 0)))) (xBool (xOp oLe (xVar 2) (xOp ixD (xVar 0) (xOp oSub (xVar 1) (xC (.int 1))))))))) sNever sNext) (fun i : Nat => D.tup [.int (i : Int), cellD (cs[i]?.getD default)]) (fun _ ρ => ∃ x y, isPin x = false ∧ isPin y = false ∧ ρ = [some (.own, .tup (cs.map cellD)), x, y]) (List.range cs.length) [some (.own, .tup (cs.map cellD)), none, none] ⟨none, none, rfl, rfl, rfl⟩ fun j a ρ e q => by
    obtain ⟨x, y, px, py, rfl⟩ := q
    have ha : a < cs.length := by
      have := List.mem_of_getElem? e
      exact List.mem_range.mp this
    have ea : cs[a]? = some cs[a] := List.getElem?_eq_getElem ha
    have m : cs[a] ∈ cs := List.getElem_mem ha
    refine ⟨by simp [cellD], [some (.own, .tup (cs.map cellD)), some (.own, .int a), some (.own, cellD cs[a])], [some (.own, .tup (cs.map cellD)), some (.own, .int a), some (.own, cellD cs[a])], ?_, .inl ?_, ⟨_, _, rfl, rfl, rfl⟩⟩
    · simp [-e_put, e_put', px, py, ea]
    · have c1 := is_cell_ok (h.row _ m) (h.col _ m)
      by_cases h0 : 0 < a
      · have h0' : (0 : Int) < (a : Int) := by omega
        have i1 : ((a : Int) - 1).toNat = a - 1 := by omega
        have e2 : cs[a - 1]? = some (cs[a - 1]'(by omega)) := List.getElem?_eq_getElem (by omega)
        have e1 : atI (cs.map cellD) ((a : Int) - 1) = some (cellD (cs[a - 1]'(by omega))) := by
          rw [v_at (by omega), i1, List.getElem?_map, e2]
          rfl
        have lt : ltc (cs[a - 1]'(by omega)) cs[a] := List.pairwise_iff_getElem.mp h.srt (a - 1) a (by omega) ha (by omega)
        simp [c1, h0', e1, le_cell, lt, h0]
      · have h0' : ¬ (0 : Int) < (a : Int) := by omega
        simp [c1, h0', h0]
  unfold F_need_ink s_need_ink inkD
  simp [e_arg_tup p, hl, p, enumF_map, f1]
variable {ns : List Int}
theorem pick_ok {d : D} {xs : List D} (h : Row ns d) (h0 : 0 < xs.length) (h1 : xs.length < 1000000) (p : pures xs = true) : ∃ (j : Nat) (hj : j < xs.length) (d' : D), F_law_pick d [.lst xs] = some (xs[j], d') ∧ Row ns d' := by
  obtain ⟨v, d', e, a, b, r⟩ := taken_ok (m := (xs.length : Int)) h (by omega)
  obtain ⟨j, rfl⟩ := Int.eq_ofNat_of_zero_le a
  have hj : j < xs.length := by omega
  have ej : xs[j]? = some xs[j] := List.getElem?_eq_getElem hj
  have pj : pure xs[j] = true := pures_mem p (List.getElem_mem hj)
  refine ⟨j, hj, d', ?_, r⟩
  unfold F_law_pick s_law_pick
  have e' : atI xs (j : Int) = some xs[j] := atI_of.trans ej
  simp [e, e', pj]
end C
end DL
namespace DL
open PySem PySem.Spec L2
theorem rep_ok {xs : List D} {j : Nat} (p : pures xs = true) (h : xs.length * j ≤ sizeLine) (h2 : j < 1000000000) : oRep (.lst xs) (.int (j : Int)) = some (.lst (List.replicate j xs).flatten) := by
  show (if pures xs = true then if xs.length * ((j : Int)).toNat ≤ sizeLine then if ((j : Int)).natAbs < 2 ^ 62 then some (D.lst (List.replicate ((j : Int)).toNat xs).flatten) else none else none else none) = _
  rw [Int.toNat_natCast, if_pos p, if_pos h, if_pos (show ((j : Int)).natAbs < 2 ^ 62 by omega)]
namespace C
variable {ns : List Int}
/-- cells of the frame's lines above i -/
structure Framed (cs : List Cell) (i w : Nat) : Prop where
  len : cs.length ≤ i * w
  row : ∀ c ∈ cs, 0 ≤ c.1 ∧ c.1 < (i : Int)
  col : ∀ c ∈ cs, 0 ≤ c.2 ∧ c.2 < (w : Int)
  srt : cs.Pairwise ltc
theorem Framed.good {cs : List Cell} {i w : Nat} (h : Framed cs i w) (h1 : i * w ≤ 400) (h2 : i ≤ 61) (h3 : w ≤ 61) : Good cs := by
  have hl := h.len
  exact ⟨by omega, fun c hc => by have := h.row c hc; omega, fun c hc => by have := h.col c hc; omega, h.srt⟩
theorem Framed.more {cs : List Cell} {i w : Nat} {l : List Nat} (h : Framed cs i w) (s : l.Sublist (List.range w)) : Framed (cs ++ l.map fun k : Nat => (((i : Nat) : Int), ((k : Nat) : Int))) (i + 1) w := by
  have hl := h.len
  have sl := s.length_le
  rw [List.length_range] at sl
  refine ⟨?_, fun c hc => ?_, fun c hc => ?_, List.pairwise_append.mpr ⟨h.srt, ?_, fun a ha b hb => ?_⟩⟩
  · rw [List.length_append, List.length_map, Nat.add_mul, Nat.one_mul]
    omega
  · rcases List.mem_append.mp hc with hc | hc
    · have := h.row c hc
      omega
    · obtain ⟨k, _, rfl⟩ := List.mem_map.mp hc
      show 0 ≤ (i : Int) ∧ (i : Int) < ((i + 1 : Nat) : Int)
      omega
  · rcases List.mem_append.mp hc with hc | hc
    · exact h.col c hc
    · obtain ⟨k, hk, rfl⟩ := List.mem_map.mp hc
      have := List.mem_range.mp (s.subset hk)
      show 0 ≤ (k : Int) ∧ (k : Int) < (w : Int)
      omega
  · rw [List.pairwise_map]
    refine (List.pairwise_lt_range.sublist s).imp fun {a b} hab => .inr ⟨rfl, ?_⟩
    show (a : Int) < (b : Int)
    omega
  · obtain ⟨k, _, rfl⟩ := List.mem_map.mp hb
    have := h.row a ha
    exact .inl this.2
end C
/-! ### a law that draws and looks some turns long -/
def calm (t : Env) : Bool := t.all fun x => !isPin x
/-- one turn: the row stays in order, the names behind are anything of one's own -/
def Turn (m : Nat) (turn : ES) : Prop := ∀ (ns : List Int) (row : D) (a : Int) (t : Env), Row ns row → t.length = m → calm t = true →
  ∃ (row' : D) (t' : Env), turn (some (.own, .frz (ns.map D.int)) :: some (.own, row) :: some (.own, .int a) :: t) = some (.nx (some (.own, .frz (ns.map D.int)) :: some (.own, row') :: some (.own, .int a) :: t')) ∧ Row ns row' ∧ t'.length = m ∧ calm t' = true
def lawS (c n : Int) (turn : ES) : ES := sSeq (sAsg (mP (xLst (xsCons (xPure (xVar 0)) (xsCons (xC (.int 0)) (xsCons (xC (.int c)) (xsCons (xC (.int 0)) xsNil)))))) (put 1)) (sSeq (sFor (iP (xRng1 (xsCons (xC (.int n)) xsNil))) (put 2) turn) (sRet (mP (xC (.bl true)))))
end DL
namespace DL
open PySem PySem.Spec PyProof.Rows L2
/-! ### dicts whose keys are tuples -/
theorem new_obj {H : Hp} {p : Addr} {o : HO} (hp : H p = none) (hm : Mut (some o)) : New H (upd H p o) [p] :=
  ⟨List.nodup_cons.mpr ⟨fun q => (by cases q), List.nodup_nil⟩, fun a ha => (by rw [List.mem_singleton.mp ha]; exact hp), fun a ha => by rw [List.mem_singleton.mp ha, upd_same]; exact hm⟩
section
variable {X : Cx} {pos : Pos} {k : Nat}
theorem p_dict0 : DP X (.Dict [] [] pos) (xC (.dT [] [])) := pe_dnewT.imp fun σ H Q ⟨ρ, d, s, e, k⟩ => by
  cases e
  exact fun p hp => k _ _ [p] (same_upd hp) ⟨p, [], [], rfl, .inl upd_same, rfl, rfl, rfl, rfl⟩ fun _ => new_obj hp trivial
end
def putKs {κ : Type} [DecidableEq κ] (ks : List κ) (q : κ) : List κ := if q ∈ ks then ks else ks ++ [q]
def putVs {κ α : Type} [DecidableEq κ] (ks : List κ) (xs : List α) (q : κ) (w : α) : List α := if q ∈ ks then List.zipWith (fun k x => if k = q then w else x) ks xs else xs ++ [w]
theorem any_zip {κ : Type} [DecidableEq κ] {q : κ} : ∀ {ks : List κ} {vs : List V}, ks.length = vs.length → ((ks.zip vs).any fun kv => decide (kv.1 = q)) = decide (q ∈ ks)
  | [], [], _ => rfl
  | k :: ks, v :: vs, h => by
    rw [List.zip_cons_cons, List.any_cons, any_zip (by simpa using h)]
    by_cases e : k = q
    · simp [e]
    · have e' : ¬ q = k := fun z => e z.symm
      simp [e, e']
theorem map_zip {κ : Type} [DecidableEq κ] {q : κ} {v : V} : ∀ {ks : List κ} {vs : List V}, ks.length = vs.length → ((ks.zip vs).map fun kv => if kv.1 = q then (kv.1, v) else kv) = ks.zip (List.zipWith (fun k x => if k = q then v else x) ks vs)
  | [], [], _ => rfl
  | k :: ks, u :: vs, h => by
    rw [List.zip_cons_cons, List.map_cons, map_zip (by simpa using h), List.zipWith_cons_cons, List.zip_cons_cons]
    by_cases e : k = q
    · simp [e]
    · simp [e]
theorem putK_zip {κ : Type} [DecidableEq κ] {q : κ} {v : V} {ks : List κ} {vs : List V} (h : ks.length = vs.length) : putK (ks.zip vs) q v = (putKs ks q).zip (putVs ks vs q v) := by
  unfold putK putKs putVs
  rw [any_zip h]
  by_cases e : q ∈ ks
  · rw [if_pos (decide_eq_true e), if_pos e, if_pos e, map_zip h]
  · rw [if_neg (by simpa using e), if_neg e, if_neg e, List.zip_append h]
    rfl
theorem putVs_len {κ α : Type} [DecidableEq κ] {q : κ} {v : α} {ks : List κ} {vs : List α} (h : ks.length = vs.length) : (putKs ks q).length = (putVs ks vs q v).length := by
  unfold putKs putVs
  by_cases e : q ∈ ks
  · rw [if_pos e, if_pos e, List.length_zipWith, h, Nat.min_self]
  · rw [if_neg e, if_neg e, List.length_append, List.length_append, h]
    rfl
theorem zip_put {K : PySem.W.Frag} {H : Hp} {κ : Type} [DecidableEq κ] {q : κ} {w : D} {v : V} (rw' : Rep K H w v []) : ∀ {ks : List κ} {xs : List D} {vs : List V}, ks.length = xs.length → Reps K H xs vs [] → Reps K H (List.zipWith (fun k x => if k = q then w else x) ks xs) (List.zipWith (fun k x => if k = q then v else x) ks vs) []
  | [], [], vs, _, r => by
    rw [r.1]
    exact ⟨rfl, rfl⟩
  | k :: ks, x :: xs, vs, h, r => by
    obtain ⟨u, ur, F1, F2, rfl, z, r1, r2⟩ := r
    obtain ⟨rfl, rfl⟩ := List.append_eq_nil_iff.mp z.symm
    rw [List.zipWith_cons_cons, List.zipWith_cons_cons]
    refine ⟨_, _, [], [], rfl, rfl, ?_, zip_put rw' (by simpa using h) r2⟩
    by_cases e : k = q
    · rw [if_pos e, if_pos e]
      exact rw'
    · rw [if_neg e, if_neg e]
      exact r1
theorem Reps.put {K : PySem.W.Frag} {H : Hp} {κ : Type} [DecidableEq κ] {q : κ} {w : D} {v : V} {ks : List κ} {xs : List D} {vs : List V} (rw' : Rep K H w v []) (h : ks.length = xs.length) (r : Reps K H xs vs []) : Reps K H (putVs ks xs q w) (putVs ks vs q v) [] := by
  unfold putVs
  by_cases e : q ∈ ks
  · rw [if_pos e, if_pos e]
    exact zip_put rw' h r
  · rw [if_neg e, if_neg e]
    exact r.append (G := []) (Reps.one rw')
/-- a plain value is stored at a tuple of numbers and texts -/
def setT : D → D → D → Option D := fun d k w => match d with
  | .dT ks xs => (toKeyT k).bind fun q => if pures xs = true then if pure w = true then if ks.length < sizeLine then some (.dT (putKs ks q) (putVs ks xs q w)) else none else none else none
  | _ => none
theorem st_dict {K : PySem.W.Frag} : StD K rSetD setT := fun H d k w x y v F G Gk d' Q r nd mu rk rv ndG muG ap e kk => by
  unfold setT at e
  split at e
  · rename_i ks xs
    obtain ⟨q, e1, e⟩ := Option.bind_eq_some_iff.mp e
    split at e
    · rename_i hp
      split at e
      · rename_i hw
        split at e
        · rename_i hl
          cases e
          obtain ⟨a, us, F', rfl, hr, hlen, rfl, rr⟩ := r
          have z := rr.nil hp
          subst z
          have z := rv.nil hw
          subst z
          have hH : H a = some (.dT (ks.zip us)) := mut_rd (mu a (List.mem_cons_self ..)) hr
          cases k with
          | tup ds =>
            obtain ⟨b, ws, rfl, hb, rb⟩ := rk
            obtain ⟨hk, _⟩ := toKeys_rep rb e1
            subst hk
            have hl2 : ks.length = us.length := by rw [rr.length]; exact hlen
            have hz : (ks.zip us).length = ks.length := by rw [List.length_zip, ← hl2, Nat.min_self]
            refine ⟨a, _, rfl, .t hH hb (by rw [hz]; exact hl), ?_⟩
            rw [putK_zip hl2]
            have one := frm_one (o := .dT ((putKs ks q).zip (putVs ks us q v))) (mu a (List.mem_cons_self ..))
            refine kk _ [a] (frm_upd mu (List.mem_cons_self ..)) ⟨a, _, [], rfl, .inl upd_same, putVs_len hlen, rfl, Reps.put (rv.frm one fun b hb => by cases hb) hlen (rr.frm one fun b hb => by cases hb)⟩ nd fun b hb => ?_
            rw [List.mem_singleton.mp hb]
            exact ⟨.inl (List.mem_cons_self ..), by rw [upd_same]; trivial⟩
          | _ => cases e1
        · cases e
      · cases e
    · cases e
  · cases e
/-! ### in -/
def inOk (ys : List D) (x : D) : Bool := PyData.plainAll (pys ys) && (py x).plain && PyData.canLayAll0 (pys ys) && (py x).canLay0 && decide (PyData.depthAll (pys ys) ≤ 60)
def inSeq (x : D) (ys : List D) : Option Bool := if inOk ys x = true then some (ys.any fun y => eqv y x) else none
def inD (x c : D) : Option Bool := match c with
  | .dK _ _ => (getD c x).map Option.isSome
  | .dT _ _ => (getD c x).map Option.isSome
  | .lst ys => inSeq x ys
  | .frz ys => inSeq x ys
  | .tup ys => inSeq x ys
  | .ctp ys => inSeq x ys
  | _ => none
def oIn : D → D → Option D := fun x c => (inD x c).map .bl
def oNin : D → D → Option D := fun x c => (inD x c).map fun b => .bl (!b)
def rInA (K : PySem.W.Frag) (f : Bool → Bool) : R2 := fun x y H Q => (∃ a o, y = .ref a ∧ DGet H a x o ∧ Q (.bl (f o.isSome)) H) ∨
  ∃ d ds, Dp K H x d ∧ (Dp K H y (.list ds) ∨ Dp K H y (.tuple ds)) ∧ PyData.plainAll ds = true ∧ d.plain = true ∧ PyData.depthAll ds ≤ 60 ∧ Q (.bl (f (ds.any fun z => PyData.eqv z d))) H
section
variable {X : Cx} {k : Nat}
theorem r_in (hr : Room k X.A) : OpR X (compareOp .In) (rInA X.K id) := by
  intro pins s σ H x y v u Q I rx ry h
  have hu := hr.units
  rcases h with ⟨a, o, rfl, g, q⟩ | ⟨d, ds, hd, he, h1, h2, h3, q⟩
  · obtain rfl : u = Value.ref a := ry
    exact d_in (hu_of hr) I g rx fun s' I' => ⟨.bl o.isSome, H, I', rfl, q⟩
  · obtain ⟨as, r1⟩ := Dp.reads I d x v hd rx
    have hm : min (PyData.depthAll ds) d.depth ≤ PyData.depthAll ds := Nat.min_le_left _ _
    rcases he with he | he
    · obtain ⟨bs, r2⟩ := Dp.reads I _ y u he ry
      exact SeqAt.in_list_data r2 r1 h1 h2 (by omega) ⟨.bl _, H, I, rfl, q⟩
    · obtain ⟨bs, r2⟩ := Dp.reads I _ y u he ry
      exact SeqAt.in_tuple_data r2 r1 h1 h2 (by omega) ⟨.bl _, H, I, rfl, q⟩
theorem r_nin (hr : Room k X.A) : OpR X (compareOp .NotIn) (rInA X.K not) := by
  intro pins s σ H x y v u Q I rx ry h
  have hu := hr.units
  rcases h with ⟨a, o, rfl, g, q⟩ | ⟨d, ds, hd, he, h1, h2, h3, q⟩
  · obtain rfl : u = Value.ref a := ry
    exact d_notIn (hu_of hr) I g rx fun s' I' => ⟨.bl (!o.isSome), H, I', rfl, q⟩
  · obtain ⟨as, r1⟩ := Dp.reads I d x v hd rx
    have hm : min (PyData.depthAll ds) d.depth ≤ PyData.depthAll ds := Nat.min_le_left _ _
    rcases he with he | he
    · obtain ⟨bs, r2⟩ := Dp.reads I _ y u he ry
      exact SeqAt.notIn_list_data r2 r1 h1 h2 (by omega) ⟨.bl _, H, I, rfl, q⟩
    · obtain ⟨bs, r2⟩ := Dp.reads I _ y u he ry
      exact SeqAt.notIn_tuple_data r2 r1 h1 h2 (by omega) ⟨.bl _, H, I, rfl, q⟩
end
theorem in_any {K : PySem.W.Frag} {f : Bool → Bool} {H : Hp} {x c : D} {v w : V} {F G : List Addr} {b : Bool} {Q : VK} (r1 : Rep K H x v F) (r2 : Rep K H c w G) (e : inD x c = some b) (k : Q (.bl (f b)) H) : rInA K f v w H Q := by
  have dic : ∀ {o : Option D}, getD c x = some o → o.isSome = b → rInA K f v w H Q := fun {o} e1 e2 => by
    obtain ⟨a, rfl, h1, h2⟩ := getD_rep r2 r1 e1
    cases o with
    | none => exact .inl ⟨a, none, rfl, h2 rfl, by subst e2; exact k⟩
    | some z =>
      obtain ⟨u, G', g1, _, _⟩ := h1 z rfl
      exact .inl ⟨a, some u, rfl, g1, by subst e2; exact k⟩
  have sq : ∀ {ys : List D} {vs : List V} {G : List Addr}, Reps K H ys vs G → inSeq x ys = some b → ((∀ ds, DpAll K H vs ds → Dp K H w (.list ds)) ∨ (∀ ds, DpAll K H vs ds → Dp K H w (.tuple ds))) → rInA K f v w H Q := fun {ys vs G} rr es mk => by
    unfold inSeq at es
    split at es
    · rename_i ho
      cases es
      unfold inOk at ho
      simp only [Bool.and_eq_true, decide_eq_true_eq] at ho
      obtain ⟨⟨⟨⟨o1, o2⟩, o3⟩, o4⟩, o5⟩ := ho
      have dd := Reps.dp o3 rr
      have ee : (pys ys).any (fun z => PyData.eqv z (py x)) = ys.any fun y => eqv y x := by
        rw [pys_map, List.any_map]
        rfl
      refine .inr ⟨py x, pys ys, r1.dp o4, mk.imp (fun m => m _ dd) (fun m => m _ dd), o1, o2, o5, ?_⟩
      rw [ee]
      exact k
    · cases es
  unfold inD at e
  split at e
  · obtain ⟨o, e1, e2⟩ := Option.map_eq_some_iff.mp e
    exact dic e1 e2
  · obtain ⟨o, e1, e2⟩ := Option.map_eq_some_iff.mp e
    exact dic e1 e2
  · obtain ⟨a, vs, G', rfl, q, _, rr⟩ := r2
    exact sq rr e (.inl fun ds dd => .lst (.inl q) dd)
  · obtain ⟨a, vs, rfl, q, rr⟩ := r2
    exact sq rr e (.inl fun ds dd => .lst q.sq dd)
  · obtain ⟨a, vs, rfl, q, rr⟩ := r2
    exact sq rr e (.inr fun ds dd => .tup (.of q) dd)
  · obtain ⟨a, vs, rfl, q, rr⟩ := r2
    exact sq rr e (.inr fun ds dd => .tup q.sq dd)
  · cases e
theorem d_in' {K : PySem.W.Frag} : OpD K (rInA K id) oIn := fun H d1 d2 v1 v2 F1 F2 d Q r1 r2 e k => by
  obtain ⟨b, e1, rfl⟩ := Option.map_eq_some_iff.mp e
  exact in_any r1 r2 e1 (k _ H [] (Same.refl H) ⟨rfl, rfl⟩ New.nil)
theorem d_nin' {K : PySem.W.Frag} : OpD K (rInA K not) oNin := fun H d1 d2 v1 v2 F1 F2 d Q r1 r2 e k => by
  obtain ⟨b, e1, rfl⟩ := Option.map_eq_some_iff.mp e
  exact in_any r1 r2 e1 (k _ H [] (Same.refl H) ⟨rfl, rfl⟩ New.nil)
end DL
namespace DL
open PySem PySem.Spec PyProof.Rows L2
/-! ### a dict's keys, as a list and sorted -/
def tupK (k : List Key) : D := .tup (k.map keyD)
theorem rep_key {K : PySem.W.Frag} {H : Hp} : ∀ k : Key, Rep K H (keyD k) (kV k) []
  | .inl i => ⟨rfl, rfl⟩
  | .inr x => ⟨rfl, rfl⟩
theorem reps_keys {K : PySem.W.Frag} {H : Hp} : ∀ k : List Key, Reps K H (k.map keyD) (k.map kV) []
  | [] => ⟨rfl, rfl⟩
  | k :: ks => ⟨_, _, [], [], rfl, rfl, rep_key k, reps_keys ks⟩
/-- the key tuples' addresses -/
abbrev KeysAt (H : Hp) (ks : List (List Key)) (bs : List Addr) : Prop := Paired (fun k b => H b = some (.tup (k.map kV))) ks bs
theorem reps_tupK {K : PySem.W.Frag} {H : Hp} {ks : List (List Key)} {bs : List Addr} (p : KeysAt H ks bs) : Reps K H (ks.map tupK) (bs.map V.ref) [] := by
  induction p with
  | nil => exact ⟨rfl, rfl⟩
  | cons h t ih => exact ⟨_, _, [], [], rfl, rfl, ⟨_, _, rfl, h, reps_keys _⟩, ih⟩
theorem keysAt_of {H : Hp} {kvs : List (List Key × V)} {bs : List Addr} (p : IsKeys H kvs bs) : KeysAt H (kvs.map Prod.fst) bs := by
  unfold IsKeys at p
  induction p with
  | nil => exact .nil
  | cons h t ih => exact .cons h ih
theorem fst_zip {κ : Type} {ks : List κ} {vs : List V} (h : ks.length = vs.length) : (ks.zip vs).map Prod.fst = ks := List.map_fst_zip (by omega)
def listA : List D → Option D := fun ds => match ds with
  | [.dT ks xs] => some (.lst (ks.map tupK))
  | ds => listD ds
theorem c_listA {X : Cx} (hc : X.calm = true) : CallR X (.type "list") (fun xs H Q => rListOf X.K xs H Q ∨ ∃ d kvs, xs = [V.ref d] ∧ Rd H d (.dT kvs) ∧ ∀ p bs, H p = none → IsKeys H kvs bs → Q (.ref p) (upd H p (.lst (bs.map V.ref)))) := call_list_of.or (call_list_dT hc)
theorem d_listA {K : PySem.W.Frag} : CallD K (fun xs H Q => rListOf K xs H Q ∨ ∃ d kvs, xs = [V.ref d] ∧ Rd H d (.dT kvs) ∧ ∀ p bs, H p = none → IsKeys H kvs bs → Q (.ref p) (upd H p (.lst (bs.map V.ref)))) listA := fun H ds vs F d Q r e k => by
  unfold listA at e
  split at e
  · rename_i ks xs
    cases e
    obtain ⟨v, rfl, a, us, G, rfl, q, hl, _, rr⟩ := reps_one r
    have hl2 : ks.length = us.length := by rw [rr.length]; exact hl
    refine .inr ⟨a, _, rfl, q, fun p bs hp ik => ?_⟩
    have ka := keysAt_of ik
    rw [fst_zip hl2] at ka
    exact k _ _ [p] (same_upd hp) ⟨p, _, [], rfl, .inl upd_same, rfl, (reps_tupK ka).same (same_upd hp)⟩ (new_lst hp)
  · exact .inl (d_list H ds vs F d Q r e k)
/-! sorted(d) -/
def pyT (k : List Key) : PyData := py (tupK k)
theorem paired_each {H : Hp} {ks : List (List Key)} {bs : List Addr} (p : KeysAt H ks bs) : PySem.W.EachIs (fun u (k : List Key) => ∃ b, u = Value.ref b ∧ H b = some (.tup (k.map kV))) (bs.map Value.ref) ks := by
  induction p with
  | nil => exact .nil
  | cons h t ih => exact .cons ⟨_, rfl, h⟩ ih
theorem each_paired {H : Hp} : ∀ {us : List Value} {ks : List (List Key)}, PySem.W.EachIs (fun u (k : List Key) => ∃ b, u = Value.ref b ∧ H b = some (.tup (k.map kV))) us ks → ∃ bs, us = bs.map Value.ref ∧ KeysAt H ks bs
  | _, _, .nil => ⟨[], rfl, .nil⟩
  | _, _, .cons ⟨b, e, h⟩ t => by
    obtain ⟨bs, rfl, p⟩ := each_paired t
    exact ⟨b :: bs, by rw [e]; rfl, .cons h p⟩
def rSortT : List V → Hp → VK → Prop := fun vs H Q => ∃ (a : Addr) (kvs : List (List Key × V)), vs = [.ref a] ∧ Rd H a (.dT kvs) ∧ sortOk ((kvs.map Prod.fst).map tupK) = true ∧
  ∀ p bs, H p = none → KeysAt H ((kvs.map Prod.fst).mergeSort (PySem.W.dataLe false pyT)) bs → Q (.ref p) (upd H p (.lst (bs.map V.ref)))
theorem reads_key {h : Heap} {v : Value} {as : List Addr} : ∀ k : Key, Reads h v (py (keyD k)) as → as = []
  | .inl i, r => by cases r; rfl
  | .inr x, r => by cases r; rfl
theorem reads_keys {h : Heap} : ∀ {k : List Key} {vs : List Value} {as : List Addr}, ReadsAll h vs (pys (k.map keyD)) as → as = []
  | [], _, _, r => by cases r; rfl
  | k :: ks, _, _, r => by
    rw [List.map_cons, pys] at r
    cases r with
    | cons r1 r2 => rw [reads_key k r1, reads_keys r2]; rfl
theorem reads_tup {h : Heap} {k : List Key} {v : Value} {as : List Addr} (r : Reads h v (pyT k) as) : as = [] := by
  have r' : Reads h v (.tuple (pys (k.map keyD))) as := r
  cases r' with
  | tuple _ _ _ q => exact reads_keys q
section
variable {X : Cx} {k : Nat}
theorem sorted_src {prog : Program} {w : World} {A : Around} {E : Value → Shared → Prop} {s : Shared} {T : String} {r d : Addr} {n : Nat} {P : Nat → Value → Prop} {OK : Heap → Prop} {Q : Value → Shared → Prop} (S : PySem.W.KdlSrc prog w T r d n P OK) (hh : A.handled = none) (hok : OK s.heap) (hn : n ≤ sizeLine)
    (h : ∀ (h' : Heap) (tk : Nat) (acc : List Value), (∀ b o, s.heap.get? b = some o → h'.get? b = some o) → acc.length = n → (∀ (j : Nat) (v : Value), acc[j]? = some v → P j v) →
      wpAny (model prog w) A.in1 (call (.builtin "list.sort") [.ref h'.objs.size]) (fun _ s' => Q (.ref h'.objs.size) s') E { s with heap := h'.push { cls := .type "list", data := .seq acc.toArray }, toks := tk }) :
    wpAny (model prog w) A (call (.builtin "sorted") [.ref r]) Q E s := by
  refine PySem.Calls.call_function_entry kind_sorted plain_sorted entry_sorted (args_sorted1 _) ?_
  unfold Builtin.«sorted»
  refine wpAny_bind (m := checkCount "sorted" 1 1 _) (wpAny_pure (wpAny_bind (PySem.W.kdu_collect (A := A.in1) S hh hok hn fun h' tk acc hk it => ?_)))
  have hl : acc.toList.length = n := (Array.length_toList ..).trans it.1
  exact wpAny_bind (wpAny_newList (wpAny_bind (wpAny_holding (wpAny_mono (h h' tk acc.toList hk hl fun j v e => it.2 j v ((Array.getElem?_toList ..).symm.trans e)) (fun _ s' x => wpAny_pure ⟨_, rfl, x⟩) fun _ _ e => e))) (hl ▸ hn))
theorem c_sortedT (hc : X.calm = true) (hr : Room k X.A) : CallR X (.builtin "sorted") rSortT := by
  intro pins s σ H vs us Q I r h
  obtain ⟨a, kvs, rfl, ha, so, q⟩ := h
  rw [Vals.ref1 r]
  obtain ⟨z, hs, xs, pr, o, es, ep, ho, hx, hdt, he, hn⟩ := (show ObjOk X.prog X.w H s.heap a (.dT kvs) from ha.ok I.hok)
  have hes : es.size = xs.length := size_of_entries he
  have hkv : kvs.length = xs.length := Paired.length pr
  have hu := hr.units
  obtain ⟨s1, s2, s3, s4⟩ := sortOk_iff so
  have keys : KeysAt H (kvs.map Prod.fst) (xs.map fun x => x.2.1) := keysAt_of (isKeys_of pr)
  have emap : ((kvs.map Prod.fst).map tupK).map py = (kvs.map Prod.fst).map pyT := by rw [List.map_map]; rfl
  rw [emap] at s2 s3
  refine sorted_src (kdl_raw hs hx hdt) (I.ok.hd hc) ho (by omega) fun h' tk acc kp hl hP => ?_
  have ea : acc = (xs.map fun x => x.2.1).map Value.ref := by
    apply List.ext_getElem?
    intro j
    by_cases hj : j < acc.length
    · obtain ⟨en, h1, h2⟩ := hP j acc[j] (List.getElem?_eq_getElem hj)
      have h3 := entry_at he j
      have hj2 : j < xs.length := by omega
      rw [h1, List.getElem?_eq_getElem hj2] at h3
      have h4 : en = entryOfKey (tupleKind (mixKind X.prog X.w)) xs[j] := Option.some.inj h3
      rw [List.getElem?_eq_getElem hj, h2, h4, List.getElem?_map, List.getElem?_map, List.getElem?_eq_getElem hj2]
      rfl
    · rw [List.getElem?_eq_none (by omega), List.getElem?_eq_none (by rw [List.length_map, List.length_map]; omega)]
  subst ea
  have E1 := paired_each keys
  -- the heap with the list of keys
  have keep : ∀ b ob, s.heap.get? b = some ob → (h'.push { cls := .type "list", data := .seq ((xs.map fun x => x.2.1).map Value.ref).toArray }).get? b = some ob := fun b ob e => Heap.get?_push_of_some _ (kp b ob e)
  have noA : s.heap.get? h'.objs.size = none := by
    cases c : s.heap.get? h'.objs.size with
    | none => rfl
    | some u => exact absurd (Heap.lt_size (kp _ _ c)) (Nat.lt_irrefl _)
  have noH : H h'.objs.size = none := (I.kept (t' := tk) kp).hok.fresh (Nat.le_refl _)
  have er : PySem.W.EachIs (fun u (k : List Key) => ∃ as, Reads (h'.push { cls := .type "list", data := .seq ((xs.map fun x => x.2.1).map Value.ref).toArray }) u (pyT k) as ∧ h'.objs.size ∉ as) ((xs.map fun x => x.2.1).map Value.ref) (kvs.map Prod.fst) := by
    refine (PySem.W.each_mem E1).mono fun u kk ⟨⟨b, e, hb⟩, hm⟩ => ?_
    subst e
    have ok : ((py (tupK kk)).depth ≤ 60 ∧ (py (tupK kk)).canLay0 = true) := s4 (tupK kk) (List.mem_map.mpr ⟨kk, hm, rfl⟩)
    have rp : Rep X.K H (tupK kk) (.ref b) [] := ⟨b, _, rfl, hb, reps_keys kk⟩
    obtain ⟨as, rd⟩ := Dp.reads I _ _ (Value.ref b) (rp.dp ok.2) rfl
    have ne := reads_tup rd
    subst ne
    exact ⟨[], PyProof.Rows.Reads.keeps keep rd, fun z => by cases z⟩
  have hat : (h'.push { cls := .type "list", data := .seq ((xs.map fun x => x.2.1).map Value.ref).toArray }).get? h'.objs.size = some (seqObj "list" ((xs.map fun x => x.2.1).map Value.ref).toArray 0) := Heap.get?_push_size _ rfl
  have hz : ((xs.map fun x => x.2.1).map Value.ref).length ≤ sizeLine := by rw [List.length_map, List.length_map]; omega
  refine PySem.W.list_sort_data (A := X.A.in1) (s := { s with heap := h'.push { cls := .type "list", data := .seq ((xs.map fun x => x.2.1).map Value.ref).toArray }, toks := tk }) (enc := pyT) (R := fun u (k : List Key) => ∃ b, u = Value.ref b ∧ H b = some (.tup (k.map kV))) hat E1 er s2 s3 (by rw [List.length_map]; omega) (fun b hb => ?_) fun out ho2 eo => ?_
  · have := (s4 (tupK b) (List.mem_map.mpr ⟨b, hb, rfl⟩)).1
    show X.A.units + 1 + 1 + (py (tupK b)).depth < cLine
    omega
  · obtain ⟨bs, rfl, ka⟩ := each_paired eo
    obtain ⟨ep', he'⟩ := sortedHeap_at (out := (bs.map Value.ref).toArray) hat
    refine ⟨.ref h'.objs.size, upd H h'.objs.size (.lst (bs.map V.ref)), I.laidN (t' := tk) (fun b u e => ?_) noA noH ⟨?_, bs.map Value.ref, ep', vals_refs bs, he'⟩, rfl, q _ bs noH ka⟩
    · have h1 := keep b u e
      have nb : b ≠ h'.objs.size := fun z => by
        subst z
        rw [noA] at e
        cases e
      exact (sortedHeap_old nb (Heap.lt_size h1)).trans h1
    · rw [List.length_map] at ho2 ⊢
      rw [ho2, List.length_map]
      omega
/-- sorted of a list or of a dict with tuple keys -/
def sortedA : List D → Option D := fun ds => match ds with
  | [.dT ks xs] => if sortOk (ks.map tupK) = true then some (.lst (sortD (ks.map tupK))) else none
  | ds => sortedD ds
theorem c_sortedA (hc : X.calm = true) (hr : Room k X.A) : CallR X (.builtin "sorted") (fun xs H Q => rSortD X.K xs H Q ∨ rSortT xs H Q) := (c_sorted hr).or (c_sortedT hc hr)
end
theorem sort_map {ks : List (List Key)} : (ks.mergeSort (PySem.W.dataLe false pyT)).map tupK = (ks.map tupK).mergeSort leD := PySem.W.sort_maps tupK fun a _ b _ => rfl
theorem d_sortedA {K : PySem.W.Frag} : CallD K (fun xs H Q => rSortD K xs H Q ∨ rSortT xs H Q) sortedA := fun H ds vs F d Q r e k => by
  unfold sortedA at e
  split at e
  · rename_i ks xs
    split at e
    · rename_i so
      cases e
      obtain ⟨v, rfl, a, us, G, rfl, q, hl, _, rr⟩ := reps_one r
      have hl2 : ks.length = us.length := by rw [rr.length]; exact hl
      refine .inr ⟨a, _, rfl, q, by rw [fst_zip hl2]; exact so, fun p bs hp ka => ?_⟩
      rw [fst_zip hl2] at ka
      have rk := (reps_tupK (K := K) ka).same (same_upd (o := .lst (bs.map V.ref)) hp)
      rw [sort_map] at rk
      exact k _ _ [p] (same_upd hp) ⟨p, _, [], rfl, .inl upd_same, rfl, rk⟩ (new_lst hp)
    · cases e
  · exact .inl (d_sorted H ds vs F d Q r e k)
end DL
namespace DL
open PySem PySem.Spec PyProof.Rows L2
/-! ### dict comprehensions whose keys are tuples -/
/-- a store of the loop: the dict at D, the key tuple at b -/
theorem store_tup {X : Cx} {pins : List (Addr × Obj)} {σ : L2.St} {H : Hp} {s : Shared} {E : Value → Shared → Prop} {D b : Addr} {kvs : List (List Key × V)} {k : List Key} {v : V} {r : Value} {Q : Unit → Shared → Prop} (hu : X.A.units + 1 < cLine) (I : Inv X pins σ H s)
    (hD : H D = some (.dT kvs)) (hb : H b = some (.tup (k.map kV))) (hz : kvs.length < sizeLine) (rv : RelV v r) (h : ∀ s', Inv X pins σ (upd H D (.dT (putK kvs k v))) s' → Q () s') : wpAny (model X.prog X.w) X.A (dictSet D (.ref b) r) Q E s := by
  obtain ⟨z, hd, xs, rel, dd⟩ := dt_of I.hok hD
  have hx : xs.length ≤ sizeLine := (Paired.length rel) ▸ z
  have hl := length_putK kvs k v
  refine wpAny_dictSet_heap (hsz := hx) (show X.A.units < cLine by omega) (key_of I.hok hb) dd fun h' dd' hs => h _ ?_
  obtain ⟨q, es, ep, hq, h2, h3, h4, _, h5⟩ := dd'
  refine d_write I (by rw [hD]; trivial) hs ⟨q, hq⟩ ⟨by omega, hd, _, (rel.put k hb rv).keeps fun c ys ec => ?_, q, es, ep, hq, h2, h3, h4, h5⟩
  rw [upd_ne (ne_of ec hD (fun z => nomatch z))]
  exact ec
def tDt (wi : TI) (g : TG) (tt : TT) (tk tv : TE) (vs : List Nat) : TE := fun σ H Q => wi σ H fun J H1 => ∀ D, H1 D = none → ∃ W : Nat → Nat → Hp → Prop, (∃ m, W 0 m (upd H1 D (.dT []))) ∧
  ∀ i m H, W i m H → (J.stop i H ∧ Q (.ref D) H) ∨ (J.go i H ∧ ∃ Nx : Hp → Prop, (∀ H', Nx H' → ∃ m', m' < m ∧ W (i + 1) m' H') ∧ ∀ x H', J.yld i H x H' → g x (wipe σ vs) H' fun σ2 H2 => wipe σ2 vs = wipe σ vs ∧
    tt σ2 H2 fun b H3 => if b = true then tk σ2 H3 fun y H4 => tv σ2 H4 fun z H5 => ∃ kvs k a, y = V.ref a ∧ H5 a = some (.tup (k.map kV)) ∧ H5 D = some (.dT kvs) ∧ kvs.length < sizeLine ∧ Nx (upd H5 D (.dT (putK kvs k z))) else Nx H3)
section
variable {X : Cx}
theorem dt_core {pins : List (Addr × Obj)} {s : Shared} {σ : L2.St} {H : Hp} {Q : VK} {kx vx tg iter : Expr} {ifs : List Expr} {scope : Scope} {own : List (Str × Nat)} {pos pos' : Pos} {wi : TI} {g : TG} {tt : TT} {tk tv : TE} {use : Option (Value → Sem Unit)} {Qf : Value → Shared → Prop}
    (hu : X.A.units + 1 < cLine) (hc : X.calm = true) (hN : X.N.Nodup) (I : Inv X pins σ H s) (hi : PI X tg iter wi) (ok : BlkOk X.N X.env.scope scope own)
    (hg : ∀ (s : Shared) (H : Hp) (C : Addr) (cl : List (Str × Addr)) (fp : List Addr), PG (X.blk s H scope (compEnvC scope cl C X.env) fp) tg g)
    (ht : ∀ (s : Shared) (H : Hp) (C : Addr) (cl : List (Str × Addr)) (fp : List Addr), PTs (X.blk s H scope (compEnvC scope cl C X.env) fp) ifs tt)
    (hk : ∀ (s : Shared) (H : Hp) (C : Addr) (cl : List (Str × Addr)) (fp : List Addr), PE (X.blk s H scope (compEnvC scope cl C X.env) fp) kx tk)
    (he : ∀ (s : Shared) (H : Hp) (C : Addr) (cl : List (Str × Addr)) (fp : List Addr), PE (X.blk s H scope (compEnvC scope cl C X.env) fp) vx tv)
    (hs : ∀ x, foldedSetIterable iter X.env x = Pure.pure x) (h : tDt wi g tt tk tv (own.map (·.2)) σ H Q)
    (hRR : ∀ D C s' m H', Inv X pins σ H' s' → Q (.ref D) H' → s'.heap.Ns C m → FpOk X pins H' C → compPost (model X.prog X.w) X.A X.xe use Qf (.ref D) C (.ok .next) s') :
    wpAny (model X.prog X.w) X.A (comprehension (.DictComp kx vx [⟨tg, iter, ifs, 0⟩] scope pos) scope X.env pos' newDict false (eval iter X.env) use) Qf X.xe s := by
  have cellOf : ∀ y ∈ scope.names, y.2 = .free → ∃ c, X.env.cells.lookup y.1 = some c := fun y hy e => (ok.free y hy e).elim (fun q => I.ok.has _ (.inl q)) fun q => I.ok.has _ (.inr q)
  refine wpAny_comprehension_free (use := use) rfl hs (closure_ok cellOf) ok.kind (fun y hy e => (ok.uniq y hy).trans (congrArg some e)) (thn (hi.run pins s σ H _ I h) fun xv s1 hx => thn hx fun itv s2 w2 => ?_)
  obtain ⟨it, fp, tn, J, H2, rfl, I2, T, at2, fr2, nxt⟩ := w2
  refine wpAny_newObj_type (newEnv_comp ?_)
  -- the new dict stands at the heap's end
  generalize hD : s2.heap.objs.size = D
  have noD : H2 D = none := I2.hok.fresh (Nat.le_of_eq hD)
  obtain ⟨W, ⟨m0, w0⟩, turn⟩ := nxt D noD
  have keeps2 : ∀ b o, s2.heap.get? b = some o → (s2.heap.push { cls := .type "dict", data := .dict #[] }).get? b = some o := fun b o e => Heap.get?_push_of_some _ e
  obtain ⟨s3, es3⟩ : ∃ s3 : Shared, s3 = { s2 with heap := s2.heap.push { cls := .type "dict", data := .dict #[] } } := ⟨_, rfl⟩
  rw [← es3]
  have hp3 : s3.heap = s2.heap.push { cls := .type "dict", data := .dict #[] } := congrArg Shared.heap es3
  have I3 : Inv X pins σ (upd H2 D (.dT [])) s3 := by
    rw [es3]
    exact I2.laid (t' := s2.toks) keeps2 (Nat.le_of_eq hD) (by rw [← hD]; exact dt_empty s2.heap I2.big)
  have low : ∀ b ∈ fp, b < s2.heap.objs.size := fun b hb => let ⟨o, e, _⟩ := T.obj _ _ at2 b hb; Heap.lt_size e
  have fr3 : ∀ b ∈ fp, FpOk X pins (upd H2 D (.dT [])) b ∧ b < s3.heap.objs.size := fun b hb => ⟨⟨(upd_ne (hD ▸ Nat.ne_of_lt (low b hb))).trans (fr2 b hb).1, (fr2 b hb).2⟩, by rw [hp3, Heap.size_push]; exact Nat.lt_succ_of_lt (low b hb)⟩
  have at3 : tn 0 s3.heap := T.keep _ _ _ at2 fun b _ o e => hp3 ▸ keeps2 b o e
  have I4 := block_start I3 ok hN fr3
  have none3 : ∀ b ∈ fp, (upd H2 D (.dT [])) b = none := fun b hb => (fr3 b hb).1.1
  obtain ⟨cl, ecl⟩ : ∃ cl, cl = cellsFrom (s3.heap.objs.size + 1) scope.names (cloFrom X.env.cells scope.names []) := ⟨_, rfl⟩
  rw [← ecl] at I4 ⊢
  have pg := hg s3 (upd H2 D (.dT [])) s3.heap.objs.size cl fp
  have pt := ht s3 (upd H2 D (.dT [])) s3.heap.objs.size cl fp
  have pk := hk s3 (upd H2 D (.dT [])) s3.heap.objs.size cl fp
  have pe := he s3 (upd H2 D (.dT [])) s3.heap.objs.size cl fp
  obtain ⟨ce, ece⟩ : ∃ ce, ce = compEnvC scope cl s3.heap.objs.size X.env := ⟨_, rfl⟩
  have cL : ce.locals = s3.heap.objs.size := by rw [ece]; rfl
  show codeAny _ _ (.compStart (.DictComp kx vx [⟨tg, iter, ifs, 0⟩] scope pos) 0 (.ref it) (.ref D) (compEnvC scope cl s3.heap.objs.size X.env)) (compPost (model X.prog X.w) X.A X.xe use Qf (.ref D) s3.heap.objs.size) { s3 with heap := pushCells (s3.heap.push { cls := .type "dict", data := .dict #[] }) scope.names }
  rw [← ece] at I4 pg pt pk pe ⊢
  obtain ⟨H3, eH3⟩ : ∃ H3, H3 = upd H2 D (.dT []) := ⟨_, rfl⟩
  rw [← eH3] at I3 I4 pg pt pk pe w0 none3 fr3
  obtain ⟨s4, es4⟩ : ∃ s4 : Shared, s4 = { s3 with heap := pushCells (s3.heap.push { cls := .type "dict", data := .dict #[] }) scope.names } := ⟨_, rfl⟩
  rw [← es4] at I4 ⊢
  have at4 : tn 0 s4.heap := T.keep _ _ _ at3 fun b _ o e => by rw [es4]; exact pushCells_keeps _ _ _ _ (Heap.get?_push_of_some _ e)
  have mine : ∀ {σ' : L2.St} {H' : Hp} {s' : Shared}, Inv (X.blk s3 H3 scope ce fp) [] σ' H' s' → (∀ b ∈ fp, H' b = none) → ∀ b ∈ fp, FpOk (X.blk s3 H3 scope ce fp) [] H' b := fun {σ' H' s'} J' hn b hb =>
    ⟨hn b hb, (J'.ok.exf b hb).1, J'.ok.exfs b hb, .inl hb, fun x c e => (J'.ok.exf b hb).2 x c e, fun p hp => by simp at hp⟩
  refine (fun loop => codeAny_compStart_dict loop (T.self X.A 0 _ _ _ at4 loop)) (?_ : codeAny (model X.prog X.w) X.A (.compLoop (.DictComp kx vx [⟨tg, iter, ifs, 0⟩] scope pos) 0 (.ref it) (.ref D) ce) (compPost (model X.prog X.w) X.A X.xe use Qf (.ref D) s3.heap.objs.size) s4)
  refine compLoop_anyD (fun n s' => ∃ i H', Inv (X.blk s3 H3 scope ce fp) [] (wipe σ (own.map (·.2))) H' s' ∧ tn i s'.heap ∧ (∀ b ∈ fp, H' b = none) ∧ W i n H') ?_ m0 ⟨0, H3, I4, at4, none3, w0⟩
  rintro n s5 ⟨i, H5, I5, at5, none5, w5⟩
  rcases turn i n H5 w5 with ⟨stop, qq⟩ | ⟨go, Nx, hNx, step⟩
  · refine thnF (T.done (X.blk s3 H3 scope ce fp) rfl rfl rfl hc i [] s5 _ H5 (fun _ _ => False) I5 (mine I5 none5) at5 stop) fun r s6 ⟨hr, I6⟩ => ?_
    subst hr
    have back : Inv X pins σ H5 s6 := I3.call' (ch := fp) I6.os I6.base I6.hok I6.bare fun b hb => ⟨(fr3 b hb).1.2.2.2.1, (fr3 b hb).1.2.1, (fr3 b hb).1.2.2.2.2.1, (fr3 b hb).1.2.2.2.2.2⟩
    have noC : H5 s3.heap.objs.size = none := cL ▸ (I6.free : H5 ce.locals = none)
    obtain ⟨m, hn, _⟩ := I6.loc
    exact hRR D s3.heap.objs.size s6 m H5 back qq (cL ▸ (hn : s6.heap.Ns ce.locals m)) (I3.fpOk (Nat.le_refl _) noC)
  · refine thnF (T.item (X.blk s3 H3 scope ce fp) rfl rfl rfl hc i [] s5 _ H5 (fun _ _ => False) I5 (mine I5 none5) at5 go) fun r s6 ⟨u, hr, w6⟩ => ?_
    subst hr
    refine thnF w6 fun _ s7 ⟨x, H7, I7, r7, y7, at7, none7⟩ => ?_
    refine thnF (pg.run _ s7 _ H7 x u _ (I7.pinned (mine I7 none7) (T.obj _ _ at7)) r7 (step x H7 y7)) fun _ s8 ⟨σ8, H8, I8, hw8, q8⟩ => ?_
    refine thnF (pt.run _ s8 σ8 H8 _ I8 q8) fun b s9 ⟨H9, I9, q9⟩ => ?_
    have over : ∀ {s' : Shared} {H' : Hp}, Inv (X.blk s3 H3 scope ce fp) ([] ++ pinsAt fp s7.heap) σ8 H' s' → Nx H' → ∃ m, m < n ∧ ∃ i H', Inv (X.blk s3 H3 scope ce fp) [] (wipe σ (own.map (·.2))) H' s' ∧ tn i s'.heap ∧ (∀ b ∈ fp, H' b = none) ∧ W i m H' := fun {s' H'} J' nx => by
      obtain ⟨m', lt, w'⟩ := hNx H' nx
      have pinned : ∀ b ∈ fp, ∀ o, s7.heap.get? b = some o → s'.heap.get? b = some o ∧ H' b = none := fun b hb o e => let z := J'.pin (b, o) (List.mem_append_right _ (List.mem_append_right _ (mem_pinsAt hb e))); ⟨z.1, z.2.1⟩
      refine ⟨m', lt, i + 1, H', (J'.unpinned (pins := [])).weak (by rw [← hw8, wipe_length]) (fun j v e => (wipe_some (hw8 ▸ e)).1), T.keep _ _ _ at7 fun b hb o e => (pinned b hb o e).1, fun b hb => ?_, w'⟩
      obtain ⟨o, e, _⟩ := T.obj _ _ at7 b hb
      exact (pinned b hb o e).2
    cases b with
    | false => exact over I9 q9
    | true =>
      refine thnF (pk.run _ s9 σ8 H9 _ I9 q9) fun z s10 ⟨yk, H10, I10, r10, q10⟩ => ?_
      refine thnF (pe.run _ s10 σ8 H10 _ I10 q10) fun z2 s11 ⟨yv, H11, I11, r11, kvs, k, a, ek, ha, hD11, hz11, nx⟩ => ?_
      subst ek
      obtain rfl : z = Value.ref a := r10
      exact store_tup (X := X.blk s3 H3 scope ce fp) hu I11 hD11 ha hz11 r11 fun s12 I12 => over I12 nx
theorem pe_dt {kx vx tg iter : Expr} {ifs : List Expr} {scope : Scope} {own : List (Str × Nat)} {pos : Pos} {wi : TI} {g : TG} {tt : TT} {tk tv : TE} (hu : X.A.units + 1 < cLine) (hc : X.calm = true) (hN : X.N.Nodup) (hi : PI X tg iter wi) (ok : BlkOk X.N X.env.scope scope own)
    (hg : ∀ (s : Shared) (H : Hp) (C : Addr) (cl : List (Str × Addr)) (fp : List Addr), PG (X.blk s H scope (compEnvC scope cl C X.env) fp) tg g)
    (ht : ∀ (s : Shared) (H : Hp) (C : Addr) (cl : List (Str × Addr)) (fp : List Addr), PTs (X.blk s H scope (compEnvC scope cl C X.env) fp) ifs tt)
    (hk : ∀ (s : Shared) (H : Hp) (C : Addr) (cl : List (Str × Addr)) (fp : List Addr), PE (X.blk s H scope (compEnvC scope cl C X.env) fp) kx tk)
    (he : ∀ (s : Shared) (H : Hp) (C : Addr) (cl : List (Str × Addr)) (fp : List Addr), PE (X.blk s H scope (compEnvC scope cl C X.env) fp) vx tv) (hs : ∀ x, foldedSetIterable iter X.env x = Pure.pure x := by intro _; rfl) :
    PE X (.DictComp kx vx [⟨tg, iter, ifs, 0⟩] scope pos) (tDt wi g tt tk tv (own.map (·.2))) := ⟨fun pins s σ H Q I h => by
  rw [arm_eval_DictComp]
  refine dt_core hu hc hN I hi ok hg ht hk he hs h fun D C s' m H' I' q hn f => ⟨m, hn, fun h'' sb => ?_⟩
  exact ⟨.ref D, H', I'.turned (t' := s'.toks) (fun b o hb e => (sb.2 b hb).trans e) f.1 f.2.1 f.2.2.2.1 f.2.2.2.2.1 f.2.2.2.2.2, rfl, q⟩⟩
def dictE (gx : GX) (q : QX) (fk fe : EX) (ρ : Env) : List D → List (List Key) → List D → Option (List (List Key) × List D)
  | [], ks, xs => some (ks, xs)
  | d :: ds, ks, xs => (gx d ρ).bind fun ρ1 => (q ρ1).bind fun b => if b = true then (fk ρ1).bind fun y => (toKeyT y).bind fun kk => (fe ρ1).bind fun w => if pure w = true then if ks.length < sizeLine then dictE gx q fk fe ρ ds (putKs ks kk) (putVs ks xs kk w) else none else none
    else dictE gx q fk fe ρ ds ks xs
def xDict (vs : List Nat) (src : IX) (gx : GX) (q : QX) (fk fe : EX) : EX := fun ρ => (src ρ).bind fun its => (dictE gx q fk fe (wipeE ρ vs) its [] []).bind fun r => some (.dT r.1 r.2)
theorem key_rep {K : PySem.W.Frag} {H : Hp} {d : D} {v : V} {F : List Addr} {kk : List Key} (r : Rep K H d v F) (e : toKeyT d = some kk) : ∃ b, v = .ref b ∧ H b = some (.tup (kk.map kV)) := by
  cases d with
  | tup ds =>
    obtain ⟨b, ws, rfl, hb, rb⟩ := r
    obtain ⟨hk, _⟩ := toKeys_rep rb e
    subst hk
    exact ⟨b, rfl, hb⟩
  | _ => cases e
theorem tDt_of {src : IX} {gx : GX} {q : QX} {fk fe : EX} {own : Bool} {vs : List Nat} (σ : L2.St) (H : Hp) (Q : VK) (h : tP X.K true (xDict vs src gx q fk fe) σ H Q) :
    tDt (tI X.K own src) (tGP X.K vs gx) (tPT X.K q) (tP X.K true fk) (tP X.K true fe) vs σ H Q := by
  obtain ⟨ρ, d, s, e0, k⟩ := h
  obtain ⟨its, e1, e0⟩ := Option.bind_eq_some_iff.mp e0
  obtain ⟨⟨K1, X1⟩, e2, e0⟩ := Option.bind_eq_some_iff.mp e0
  cases e0
  refine ⟨ρ, its, s, e1, fun J H1 Fs s1 w _ D hD => ?_⟩
  have sees1 := (s.same s1).wipe vs
  refine ⟨fun i m Hi => i + m = its.length ∧ ∃ ks xs us, Same H1 Hi ∧ Hi D = some (.dT (ks.zip us)) ∧ ks.length = xs.length ∧ Reps X.K Hi xs us [] ∧ dictE gx q fk fe (wipeE ρ vs) (its.drop i) ks xs = some (K1, X1),
    ⟨its.length, by simp, [], [], [], same_upd hD, upd_same, rfl, ⟨rfl, rfl⟩, by simpa using e2⟩, ?_⟩
  rintro i m Hi ⟨hm, ks, xs, us, si, hDi, hl, rep, ei⟩
  have kp : Kp H1 Fs Hi := ⟨[], No, .of_same si, fun _ _ z => z⟩
  have hlu : ks.length = us.length := by rw [rep.length]; exact hl
  by_cases hi : i < its.length
  · have hd : its.drop i = its[i] :: its.drop (i + 1) := List.drop_eq_getElem_cons hi
    rw [hd] at ei
    unfold dictE at ei
    obtain ⟨ρa, ea, ei⟩ := Option.bind_eq_some_iff.mp ei
    obtain ⟨b, eb, ei⟩ := Option.bind_eq_some_iff.mp ei
    refine .inr ⟨w.go i Hi hi kp, fun H' => i + 1 + (m - 1) = its.length ∧ ∃ ks xs us, Same H1 H' ∧ H' D = some (.dT (ks.zip us)) ∧ ks.length = xs.length ∧ Reps X.K H' xs us [] ∧ dictE gx q fk fe (wipeE ρ vs) (its.drop (i + 1)) ks xs = some (K1, X1), fun H' q => ⟨m - 1, by omega, q⟩, fun x H' y => ?_⟩
    obtain ⟨sy, G, rg, _⟩ := w.yld i Hi x H' its[i] (List.getElem?_eq_getElem hi) kp y
    refine ⟨_, its[i], G, ρa, (sees1.same si).same sy, rg, ea, fun σ2 s2 w2 => ⟨w2.trans (wipe_wipe σ vs vs fun v hv => hv), ρa, b, s2, eb, fun H3 s3 => ?_⟩⟩
    have s13 : Same Hi H3 := sy.trans s3
    cases b with
    | true =>
      obtain ⟨y1, ey, ei⟩ := Option.bind_eq_some_iff.mp ei
      obtain ⟨kk, ek, ei⟩ := Option.bind_eq_some_iff.mp ei
      obtain ⟨w1, ew, ei⟩ := Option.bind_eq_some_iff.mp ei
      split at ei
      · rename_i pw
        split at ei
        · rename_i hz
          refine iteT ⟨ρa, y1, s2.same s3, ey, fun v4 H4 F4 s4 rep4 _ => ⟨ρa, w1, (s2.same s3).same s4, ew, fun v5 H5 F5 s5 rep5 _ => ?_⟩⟩
          obtain ⟨bk, rfl, hbk⟩ := key_rep rep4 ek
          have n5 := rep5.nil pw
          subst n5
          have s15 : Same Hi H5 := (s13.trans s4).trans s5
          have hD5 : H5 D = some (.dT (ks.zip us)) := s15 _ _ hDi
          have hz2 : (ks.zip us).length < sizeLine := by rw [List.length_zip, ← hlu, Nat.min_self]; exact hz
          refine ⟨ks.zip us, kk, bk, rfl, s5 _ _ hbk, hD5, hz2, by omega, putKs ks kk, putVs ks xs kk w1, putVs ks us kk v5, fun a o z => ?_, by rw [upd_same, putK_zip hlu], putVs_len hl, ?_, ei⟩
          · rw [upd_ne (ne_of_none z hD)]
            exact s15 _ _ (si _ _ z)
          · have fr := frm_one (o := .dT (putK (ks.zip us) kk v5)) (show Mut (H5 D) by rw [hD5]; trivial)
            exact Reps.put (rep5.frm fr fun a ha => by cases ha) hl ((rep.same s15).frm fr fun a ha => by cases ha)
        · cases ei
      · cases ei
    | false => exact iteF ⟨by omega, ks, xs, us, si.trans s13, s13 _ _ hDi, hl, rep.same s13, ei⟩
  · have hd : its.drop i = [] := List.drop_of_length_le (by omega)
    have hie : i = its.length := by omega
    rw [hd] at ei
    cases ei
    refine .inl ⟨by rw [hie]; exact w.stop Hi kp, k _ Hi [D] (s1.trans si) ⟨D, us, [], rfl, .inl hDi, hl, rfl, rep⟩ fun _ => ⟨List.nodup_cons.mpr ⟨(fun z => by cases z), List.nodup_nil⟩, fun a ha => ?_, fun a ha => ?_⟩⟩
    · rw [List.mem_singleton.mp ha]
      exact s1.free hD
    · rw [List.mem_singleton.mp ha, hDi]
      trivial
theorem p_dt {kx vx tg iter : Expr} {ifs : List Expr} {scope : Scope} {own : List (Str × Nat)} {pos : Pos} {src : IX} {gx : GX} {q : QX} {fk fe : EX} {ow : Bool} {k : Nat} (hr : Room k X.A) (hc : X.calm = true) (hN : X.N.Nodup) (hi : PI X tg iter (tI X.K ow src)) (ok : BlkOk X.N X.env.scope scope own)
    (hg : ∀ (s : Shared) (H : Hp) (C : Addr) (cl : List (Str × Addr)) (fp : List Addr), PG (X.blk s H scope (compEnvC scope cl C X.env) fp) tg (tGP X.K (own.map (·.2)) gx))
    (ht : ∀ (s : Shared) (H : Hp) (C : Addr) (cl : List (Str × Addr)) (fp : List Addr), PTs (X.blk s H scope (compEnvC scope cl C X.env) fp) ifs (tPT X.K q))
    (hk : ∀ (s : Shared) (H : Hp) (C : Addr) (cl : List (Str × Addr)) (fp : List Addr), PE (X.blk s H scope (compEnvC scope cl C X.env) fp) kx (tP X.K true fk))
    (he : ∀ (s : Shared) (H : Hp) (C : Addr) (cl : List (Str × Addr)) (fp : List Addr), PE (X.blk s H scope (compEnvC scope cl C X.env) fp) vx (tP X.K true fe)) (hs : ∀ x, foldedSetIterable iter X.env x = Pure.pure x := by intro _; rfl) :
    DP X (.DictComp kx vx [⟨tg, iter, ifs, 0⟩] scope pos) (xDict (own.map (·.2)) src gx q fk fe) := (pe_dt (hu_of hr) hc hN hi ok hg ht hk he hs).imp tDt_of
end
end DL
namespace DL
open PySem PySem.Spec PyProof.Rows L2
/-! ### comprehensions of two clauses -/
/-- a block's target leaves the names outside alone -/
def GxOk (gx : GX) (vs : List Nat) : Prop := ∀ d ρ ρ', gx d ρ = some ρ' → ∀ i, i ∉ vs → ρ'[i]? = ρ[i]?
def GxsOk (gs : GXs) (vs : List Nat) : Prop := ∀ ds ρ ρ', gs ds ρ = some ρ' → ∀ i, i ∉ vs → ρ'[i]? = ρ[i]?
theorem go_put {i : Nat} {vs : List Nat} (h : i ∈ vs) : GxOk (putB i) vs := fun d ρ ρ' e j hj => by
  unfold putB at e
  split at e
  · cases e
    exact List.getElem?_set_ne (fun (z : i = j) => hj (z ▸ h))
  · cases e
theorem gos_nil {vs : List Nat} : GxsOk gsNil vs := fun ds ρ ρ' e j hj => by
  unfold gsNil at e
  split at e
  · cases e; rfl
  · cases e
theorem gos_cons {g : GX} {gs : GXs} {vs : List Nat} (h : GxOk g vs) (k : GxsOk gs vs) : GxsOk (gsCons g gs) vs := fun ds ρ ρ' e j hj => by
  cases ds with
  | nil => cases e
  | cons d ds =>
    obtain ⟨ρ1, e1, e2⟩ := Option.bind_eq_some_iff.mp e
    exact (k ds ρ1 ρ' e2 j hj).trans (h d ρ ρ1 e1 j hj)
theorem go_tup {n : Nat} {gs : GXs} {vs : List Nat} (k : GxsOk gs vs) : GxOk (gTupD n gs) vs := fun d ρ ρ' e j hj => by
  unfold gTupD at e
  split at e
  · split at e
    · exact k _ ρ ρ' e j hj
    · cases e
  · split at e
    · exact k _ ρ ρ' e j hj
    · cases e
  · cases e
def plainAt (vs : List Nat) (ρ : Env) : Bool := vs.all fun v => match ρ[v]? with
  | some (some (_, d)) => pure d
  | _ => true
def comp2E (vs vs1 : List Nat) (gx : GX) (q : QX) (src1 : IX) (gx1 : GX) (q1 : QX) (e : EX) (ρ : Env) : List D → Option (List D)
  | [] => some []
  | d :: ds => (gx d ρ).bind fun ρ1 => if plainAt vs ρ1 = true then (q ρ1).bind fun b => if b = true then (src1 ρ1).bind fun its => (compE gx1 q1 e (wipeE ρ1 vs1) its).bind fun ys => if pures ys = true then (comp2E vs vs1 gx q src1 gx1 q1 e ρ ds).bind fun zs => some (ys ++ zs) else none
    else comp2E vs vs1 gx q src1 gx1 q1 e ρ ds else none
def xComp2 (vs vs1 : List Nat) (src : IX) (gx : GX) (q : QX) (src1 : IX) (gx1 : GX) (q1 : QX) (e : EX) : EX := fun ρ => (src ρ).bind fun its => (comp2E vs vs1 gx q src1 gx1 q1 e (wipeE ρ vs) its).bind fun ys => if ys.length ≤ sizeLine then some (.lst ys) else none
theorem tLc2_of {src : IX} {gx : GX} {q : QX} {src1 : IX} {gx1 : GX} {q1 : QX} {e : EX} {own : Bool} {vs vs1 : List Nat} {K : PySem.W.Frag} (go : GxOk gx vs) (σ : L2.St) (H : Hp) (Q : VK) (h : tP K true (xComp2 vs vs1 src gx q src1 gx1 q1 e) σ H Q) :
    tLc2 (tI K own src) (tGP K vs gx) (tPT K q) (tI K true src1) (tGP K vs1 gx1) (tPT K q1) (tP K true e) vs vs1 σ H Q := by
  obtain ⟨ρ, d, s, e0, k⟩ := h
  obtain ⟨its, e1, e0⟩ := Option.bind_eq_some_iff.mp e0
  obtain ⟨ys, e2, e0⟩ := Option.bind_eq_some_iff.mp e0
  split at e0
  · rename_i hy
    cases e0
    refine ⟨ρ, its, s, e1, fun J H1 Fs s1 w _ D hD => ?_⟩
    have sees1 := (s.same s1).wipe vs
    refine ⟨fun i m Hi => i + m = its.length ∧ ∃ acc av rest, Same H1 Hi ∧ Hi D = some (.lst av) ∧ Reps K Hi acc av [] ∧ comp2E vs vs1 gx q src1 gx1 q1 e (wipeE ρ vs) (its.drop i) = some rest ∧ acc ++ rest = ys,
      ⟨its.length, by simp, [], [], ys, same_upd hD, upd_same, ⟨rfl, rfl⟩, by simpa using e2, rfl⟩, ?_⟩
    rintro i m Hi ⟨hm, acc, av, rest, si, hDi, rep, ei, ey⟩
    have kp : Kp H1 Fs Hi := ⟨[], No, .of_same si, fun _ _ z => z⟩
    by_cases hl : i < its.length
    · have hd : its.drop i = its[i] :: its.drop (i + 1) := List.drop_eq_getElem_cons hl
      rw [hd] at ei
      unfold comp2E at ei
      obtain ⟨ρa, ea, ei⟩ := Option.bind_eq_some_iff.mp ei
      split at ei
      · rename_i pl
        obtain ⟨b, eb, ei⟩ := Option.bind_eq_some_iff.mp ei
        refine .inr ⟨w.go i Hi hl kp, fun H' => i + 1 + (m - 1) = its.length ∧ ∃ acc av rest, Same H1 H' ∧ H' D = some (.lst av) ∧ Reps K H' acc av [] ∧ comp2E vs vs1 gx q src1 gx1 q1 e (wipeE ρ vs) (its.drop (i + 1)) = some rest ∧ acc ++ rest = ys, fun H' q => ⟨m - 1, by omega, q⟩, fun x H' y => ?_⟩
        obtain ⟨sy, G, rg, _⟩ := w.yld i Hi x H' its[i] (List.getElem?_eq_getElem hl) kp y
        refine ⟨_, its[i], G, ρa, (sees1.same si).same sy, rg, ea, fun σ2 s2 w2 => ?_⟩
        have w2' : wipe σ2 vs = wipe σ vs := w2.trans (wipe_wipe σ vs vs fun v hv => hv)
        refine ⟨w2', ρa, b, s2, eb, fun H3 s3 => ?_⟩
        have s13 : Same Hi H3 := sy.trans s3
        cases b with
        | true =>
          obtain ⟨it1, ei1, ei⟩ := Option.bind_eq_some_iff.mp ei
          obtain ⟨ys1, ec, ei⟩ := Option.bind_eq_some_iff.mp ei
          split at ei
          · rename_i py1
            obtain ⟨zs, ez, ei⟩ := Option.bind_eq_some_iff.mp ei
            cases ei
            refine iteT ⟨ρa, it1, s2.same s3, ei1, fun J1 H4 Fs1 s4 w4 nw => ?_⟩
            have h14 : Same Hi H4 := s13.trans s4
            have hD4 : H4 D = some (.lst av) := h14 _ _ hDi
            have hD3 : H3 D = some (.lst av) := s13 _ _ hDi
            have nD : D ∉ Fs1 := fun z => by
              have := nw rfl D z
              rw [hD3] at this
              cases this
            -- the names are seen at every later heap
            have later : ∀ {H5 : Hp}, Same H1 H5 → Frm [] H4 (fun a => a = D) H5 → Sees K σ2 H5 ρa := fun {H5} a1 a4 => by
              refine ⟨s2.1, fun j n dd q => ?_⟩
              by_cases hj : j ∈ vs
              · obtain ⟨v, F, c1, c2⟩ := (s2.same (s3.trans s4)).2 j n dd q
                have pd : pure dd = true := by
                  have := List.all_eq_true.mp pl j hj
                  rw [q] at this
                  exact this
                have nf := c2.nil pd
                subst nf
                exact ⟨v, [], c1, c2.frm a4 fun a z => by cases z⟩
              · have q' : (wipeE ρ vs)[j]? = some (some (n, dd)) := (go _ _ _ ea j hj) ▸ q
                obtain ⟨v, F, c1, c2⟩ := sees1.2 j n dd q'
                refine ⟨v, F, ?_, c2.same a1⟩
                rw [(wipe_eq w2').2 j hj, ← wipe_out (σ := σ) hj]
                exact c1
            refine ⟨fun j k H' => j + k = it1.length ∧ ∃ ac1 av1 rs1, Same H1 H' ∧ Frm [] H4 (fun a => a = D) H' ∧ H' D = some (.lst av1) ∧ Reps K H' (acc ++ ac1) av1 [] ∧ compE gx1 q1 e (wipeE ρa vs1) (it1.drop j) = some rs1 ∧ ac1 ++ rs1 = ys1,
              ⟨it1.length, by simp, [], av, ys1, si.trans h14, .of (fun a z => by subst z; rw [hD4]; trivial) (fun a o z _ => z), hD4, by rw [List.append_nil]; exact rep.same h14, by simpa using ec, rfl⟩, ?_⟩
            rintro j kk H5 ⟨hk, ac1, av1, rs1, a1, a4, hD5, rep5, ej, ek⟩
            have kp1 : Kp H4 Fs1 H5 := ⟨_, _, a4, fun a ha z => nD (z ▸ ha)⟩
            by_cases hj : j < it1.length
            · have hd1 : it1.drop j = it1[j] :: it1.drop (j + 1) := List.drop_eq_getElem_cons hj
              rw [hd1] at ej
              unfold compE at ej
              obtain ⟨ρb, eb1, ej⟩ := Option.bind_eq_some_iff.mp ej
              obtain ⟨b1, ebb, ej⟩ := Option.bind_eq_some_iff.mp ej
              refine .inr ⟨w4.go j H5 hj kp1, fun H' => j + 1 + (kk - 1) = it1.length ∧ ∃ ac1 av1 rs1, Same H1 H' ∧ Frm [] H4 (fun a => a = D) H' ∧ H' D = some (.lst av1) ∧ Reps K H' (acc ++ ac1) av1 [] ∧ compE gx1 q1 e (wipeE ρa vs1) (it1.drop (j + 1)) = some rs1 ∧ ac1 ++ rs1 = ys1, fun H' q => ⟨kk - 1, by omega, q⟩, fun x1 H6 y6 => ?_⟩
              obtain ⟨sy6, G6, rg6, _⟩ := w4.yld j H5 x1 H6 it1[j] (List.getElem?_eq_getElem hj) kp1 y6
              refine ⟨_, it1[j], G6, ρb, ((later a1 a4).wipe vs1).same sy6, rg6, eb1, fun σ3 s3' w3' => ⟨w3'.trans (wipe_wipe σ2 vs1 vs1 fun v hv => hv), ρb, b1, s3', ebb, fun H7 s7 => ?_⟩⟩
              have s57 : Same H5 H7 := sy6.trans s7
              have step : ∀ {H8 : Hp}, Same H5 H8 → Frm [] H4 (fun a => a = D) H8 := fun {H8} sm => a4.andSame sm
              cases b1 with
              | true =>
                obtain ⟨y1, ey1, ej⟩ := Option.bind_eq_some_iff.mp ej
                obtain ⟨r1, er1, ej⟩ := Option.bind_eq_some_iff.mp ej
                cases ej
                have pyy : pure y1 = true := pures_mem py1 (by rw [← ek]; simp)
                refine iteT ⟨ρb, y1, s3'.same s7, ey1, fun v8 H8 F8 s8 rep8 _ => ?_⟩
                have nf := rep8.nil pyy
                subst nf
                have s58 : Same H5 H8 := s57.trans s8
                have hD8 : H8 D = some (.lst av1) := s58 _ _ hD5
                have hlen : av1.length < sizeLine := by
                  rw [rep5.length]
                  have e9 : (acc ++ (ys1 ++ zs)).length ≤ sizeLine := by rw [ey]; exact hy
                  rw [← ek] at e9
                  simp only [List.length_append, List.length_cons] at e9 ⊢
                  omega
                have fr := frm_one (o := .lst (av1 ++ [v8])) (show Mut (H8 D) by rw [hD8]; trivial)
                have rr := ((rep5.same s58).frm fr fun a z => by cases z).append (G := []) (Reps.one (rep8.frm fr fun a z => by cases z))
                refine ⟨av1, hD8, hlen, by omega, ac1 ++ [y1], av1 ++ [v8], r1, fun a o z => ?_, .of a4.mu fun a o z n => ?_, upd_same, by rw [← List.append_assoc]; exact rr, er1, by rw [List.append_assoc]; exact ek⟩
                · rw [upd_ne (ne_of_none z hD)]
                  exact s58 _ _ (a1 _ _ z)
                · rw [upd_ne n]
                  exact (step s58).keepF z n
              | false => exact iteF ⟨by omega, ac1, av1, rs1, a1.trans s57, step s57, s57 _ _ hD5, rep5.same s57, ej, ek⟩
            · have hd1 : it1.drop j = [] := List.drop_of_length_le (by omega)
              have hje : j = it1.length := by omega
              rw [hd1] at ej
              cases ej
              rw [List.append_nil] at ek
              subst ek
              exact .inl ⟨by rw [hje]; exact w4.stop H5 kp1, by omega, acc ++ ac1, av1, zs, a1, hD5, rep5, ez, by rw [List.append_assoc]; exact ey⟩
          · cases ei
        | false => exact iteF ⟨by omega, acc, av, rest, si.trans s13, s13 _ _ hDi, rep.same s13, ei, ey⟩
      · cases ei
    · have hd : its.drop i = [] := List.drop_of_length_le (by omega)
      have hie : i = its.length := by omega
      rw [hd] at ei
      cases ei
      rw [List.append_nil] at ey
      subst ey
      refine .inl ⟨by rw [hie]; exact w.stop Hi kp, k _ Hi [D] (s1.trans si) ⟨D, av, [], rfl, .inl hDi, rfl, rep⟩ fun _ => ⟨List.nodup_cons.mpr ⟨(fun z => by cases z), List.nodup_nil⟩, fun a ha => ?_, fun a ha => ?_⟩⟩
      · rw [List.mem_singleton.mp ha]
        exact s1.free hD
      · rw [List.mem_singleton.mp ha, hDi]
        trivial
  · cases e0
section
variable {X : Cx} {elt tg iter tg1 iter1 : Expr} {ifs ifs1 : List Expr} {scope : Scope} {own : List (Str × Nat)} {vs1 : List Nat} {pos : Pos} {src src1 : IX} {gx gx1 : GX} {q q1 : QX} {e : EX} {ow : Bool}
theorem p_lc2 (hc : X.calm = true) (hN : X.N.Nodup) (hi : PI X tg iter (tI X.K ow src)) (ok : BlkOk X.N X.env.scope scope own) (hv : ∀ i ∈ vs1, i ∈ own.map (·.2)) (go : GxOk gx (own.map (·.2)))
    (hg : ∀ (s : Shared) (H : Hp) (C : Addr) (cl : List (Str × Addr)) (fp : List Addr), PG (X.blk s H scope (compEnvC scope cl C X.env) fp) tg (tGP X.K (own.map (·.2)) gx)) (ht : ∀ (s : Shared) (H : Hp) (C : Addr) (cl : List (Str × Addr)) (fp : List Addr), PTs (X.blk s H scope (compEnvC scope cl C X.env) fp) ifs (tPT X.K q))
    (hi1 : ∀ (s : Shared) (H : Hp) (C : Addr) (cl : List (Str × Addr)) (fp : List Addr), PI (X.blk s H scope (compEnvC scope cl C X.env) fp) tg1 iter1 (tI X.K true src1))
    (hg1 : ∀ (s : Shared) (H : Hp) (C : Addr) (cl : List (Str × Addr)) (fp : List Addr), PG (X.blk s H scope (compEnvC scope cl C X.env) fp) tg1 (tGP X.K vs1 gx1)) (ht1 : ∀ (s : Shared) (H : Hp) (C : Addr) (cl : List (Str × Addr)) (fp : List Addr), PTs (X.blk s H scope (compEnvC scope cl C X.env) fp) ifs1 (tPT X.K q1))
    (he : ∀ (s : Shared) (H : Hp) (C : Addr) (cl : List (Str × Addr)) (fp : List Addr), PE (X.blk s H scope (compEnvC scope cl C X.env) fp) elt (tP X.K true e)) (hs : ∀ x, foldedSetIterable iter X.env x = Pure.pure x := by intro _; rfl) (hs1 : ∀ env x, foldedSetIterable iter1 env x = Pure.pure x := by intro _ _; rfl) :
    DP X (.ListComp elt [⟨tg, iter, ifs, 0⟩, ⟨tg1, iter1, ifs1, 0⟩] scope pos) (xComp2 (own.map (·.2)) vs1 src gx q src1 gx1 q1 e) := (pe_lc2 hc hN hi ok hv hg ht hi1 hg1 ht1 he hs hs1).imp (tLc2_of go)
end
end DL
namespace DL
open PySem PySem.Spec PyProof.Rows L2
/-! ### a name's list lent while a statement runs -/
def isBor : Slt → Bool
  | some (.bor, _) => true
  | _ => false
def borOnly (x : Slt) : Slt := if isBor x = true then x else none
def isPn : Slt → Bool
  | some (.pin, _) => true
  | some (.tag _, _) => true
  | _ => false
def backS (i k : Nat) (x y : Slt) : Slt := if isBor y = true then (if k = i then x else borOnly x) else if k = i then (if isPn y = true then none else y) else y
def backL (i : Nat) : Nat → Env → Env → Env
  | k, x :: xs, y :: ys => backS i k x y :: backL i (k + 1) xs ys
  | _, _, ys => ys
theorem backL_len {i : Nat} : ∀ {k : Nat} {xs ys : Env}, (backL i k xs ys).length = ys.length
  | k, [], ys => by cases ys <;> rfl
  | k, x :: xs, [] => rfl
  | k, x :: xs, y :: ys => by
    rw [backL, List.length_cons, backL_len, List.length_cons]
theorem backL_at {i : Nat} : ∀ {k : Nat} {xs ys : Env} {j : Nat} {z : Slt}, ys.length = xs.length → (backL i k xs ys)[j]? = some z → ∃ x y, xs[j]? = some x ∧ ys[j]? = some y ∧ z = backS i (k + j) x y
  | k, [], [], j, z, _, e => by simp [backL] at e
  | k, x :: xs, [], j, z, h, _ => by simp at h
  | k, [], y :: ys, j, z, h, _ => by simp at h
  | k, x :: xs, y :: ys, 0, z, _, e => ⟨x, y, rfl, rfl, (Option.some.inj e).symm⟩
  | k, x :: xs, y :: ys, j + 1, z, h, e => by
    obtain ⟨a, b, h1, h2, h3⟩ := backL_at (k := k + 1) (xs := xs) (ys := ys) (j := j) (by simpa using h) e
    exact ⟨a, b, h1, h2, by rw [h3, show k + 1 + j = k + (j + 1) by omega]⟩
def backO (i : Nat) (ρ : Env) : Out → Option Out
  | .nx ρ' => if ρ'.length = ρ.length then some (.nx (backL i 0 ρ ρ')) else none
  | .rt d ρ' => if ρ'.length = ρ.length then some (.rt d (backL i 0 ρ ρ')) else none
  | .bk ρ' => if ρ'.length = ρ.length then some (.bk (backL i 0 ρ ρ')) else none
  | .ct ρ' => if ρ'.length = ρ.length then some (.ct (backL i 0 ρ ρ')) else none
def sLend (i : Nat) (g : ES) : ES := fun ρ => match ρ[i]? with
  | some (some (.own, d)) => (g (ρ.set i (some (.bor, d)))).bind (backO i ρ)
  | _ => g ρ
section
variable {K : PySem.W.Frag} {c : Ct} {σ σ' : L2.St} {H H' : Hp} {ρ ρ' : Env} {fp fp' : Nat → List Addr} {i : Nat} {d : D} {v : V}
def lendC (c : Ct) (H : Hp) (ρ : Env) (fp : Nat → List Addr) (i : Nat) (v : V) : Ct := ⟨H, Ow (ρ.set i none) fp, fun j => if j = i then some v else c.pv j, fun a => c.B a ∨ a ∈ fp i, c.T⟩
theorem ow_less {a : Addr} (z : Ow (ρ.set i none) fp a) : Ow ρ fp a := by
  obtain ⟨j, n, e, q, hn, ha⟩ := z
  exact ⟨j, n, e, (drop_low q).1, hn, ha⟩
theorem lend_out (h : Ok K c σ H ρ fp) (q : ρ[i]? = some (some (.own, d))) : ∀ a ∈ fp i, ¬ Ow (ρ.set i none) fp a := fun a ha ⟨j, n, e, q2, hn, hj⟩ => h.dj i j .own d n e (Ne.symm (drop_low q2).2) q (by decide) (drop_low q2).1 hn a ha hj
theorem set_low {j : Nat} {n : Fl} {e : D} {x : Slt} (hj : j ≠ i) (q : (ρ.set i x)[j]? = some (some (n, e))) : ρ[j]? = some (some (n, e)) := by
  rw [List.getElem?_set_ne (Ne.symm hj)] at q
  exact q
theorem Ok.lend (h : Ok K c σ H ρ fp) (q : ρ[i]? = some (some (.own, d))) (hv : σ[i]? = some (some v)) : Ok K (lendC c H ρ fp i v) σ H (ρ.set i (some (.bor, d))) fp := by
  have hi := Ok.len_lt q
  have at_ : ∀ {n : Fl} {e : D}, (ρ.set i (some (.bor, d)))[i]? = some (some (n, e)) → n = .bor ∧ e = d := fun {n e} z => by
    rw [List.getElem?_set_self hi] at z
    cases z
    exact ⟨rfl, rfl⟩
  have neq : ∀ {j : Nat} {n : Fl} {e : D}, (ρ.set i (some (.bor, d)))[j]? = some (some (n, e)) → n ≠ .bor → j ≠ i := fun {j n e} z hn hj => by
    subst hj
    exact hn (at_ z).1
  refine ⟨by rw [List.length_set]; exact h.len, fun j n e z => ?_, fun j n e z hn => ?_, fun j e z a ha => ?_, fun j l n e n2 e2 ne z hn z2 hn2 a ha => ?_, .of (fun a z => ?_) fun a o z _ => z, fun a z => ?_, h.frm.tab h.tb, fun j P e z => h.tg j P e (set_low (fun hj => by subst hj; cases (at_ z).1) z)⟩
  · by_cases hj : j = i
    · subst hj
      obtain ⟨rfl, rfl⟩ := at_ z
      obtain ⟨u, h1, h2, _⟩ := h.rep j _ _ q
      rw [hv] at h1
      cases h1
      exact ⟨v, hv, h2, fun _ => if_pos rfl⟩
    · obtain ⟨u, h1, h2, h3⟩ := h.rep j n e (set_low hj z)
      exact ⟨u, h1, h2, fun z => (if_neg hj).trans (h3 z)⟩
  · have hj := neq z hn
    have z' := set_low hj z
    obtain ⟨n1, n2⟩ := h.nd j n e z' hn
    refine ⟨n1, fun a ha => ⟨.inl ⟨j, n, e, ?_, hn, ha⟩, (n2 a ha).2.1, fun zb => ?_⟩⟩
    · rw [List.getElem?_set_ne (Ne.symm hj)]
      exact z'
    · rcases zb with zb | zb
      · exact (n2 a ha).2.2 zb
      · exact h.dj j i n e .own d hj z' hn q (by decide) a ha zb
  · by_cases hj : j = i
    · subst hj
      exact .inr ha
    · exact .inl (h.bo j e (set_low hj z) a ha)
  · exact h.dj j l n e n2 e2 ne (set_low (neq z hn) z) hn (set_low (neq z2 hn2) z2) hn2 a ha
  · obtain ⟨j, n, e, z1, z2, z3⟩ := z
    exact ((h.nd j n e (drop_low z1).1 z2).2 a z3).2.1
  · rcases z with z | z
    · refine ⟨h.nf z, fun ⟨j, n, e, z1, z2, z3⟩ => ((h.nd j n e (drop_low z1).1 z2).2 a z3).2.2 z⟩
    · obtain ⟨u, _, h2, _⟩ := h.rep i _ _ q
      exact ⟨h2.nf a z, lend_out h q a z⟩
theorem Ok.unlend (h : Ok K c σ H ρ fp) (q : ρ[i]? = some (some (.own, d))) (hv : σ[i]? = some (some v)) (h' : Ok K (lendC c H ρ fp i v) σ' H' ρ' fp') (hl : ρ'.length = ρ.length) :
    ∃ fp2, Ok K c σ' H' (backL i 0 ρ ρ') fp2 ∧ ∀ {dd : D} {vv : V} {F : List Addr}, Val K (lendC c H ρ fp i v) H' ρ' fp' dd vv F → Val K c H' (backL i 0 ρ ρ') fp2 dd vv F := by
  obtain ⟨u0, hu0, r0, _⟩ := h.rep i _ _ q
  rw [hv] at hu0
  cases hu0
  obtain ⟨nd0, ow0⟩ := h.nd i _ _ q (by decide)
  have out0 := lend_out h q
  -- what a slot of the result is
  have cases' : ∀ {j : Nat} {n : Fl} {e : D}, (backL i 0 ρ ρ')[j]? = some (some (n, e)) →
      (∃ e', ρ'[j]? = some (some (.bor, e')) ∧ j = i ∧ n = .own ∧ e = d) ∨ (∃ e', ρ'[j]? = some (some (.bor, e')) ∧ j ≠ i ∧ n = .bor ∧ ρ[j]? = some (some (.bor, e))) ∨ (ρ'[j]? = some (some (n, e)) ∧ n ≠ .bor ∧ (j = i → n = .own)) := fun {j n e} z => by
    obtain ⟨x, y, h1, h2, h3⟩ := backL_at hl z
    rw [Nat.zero_add] at h3
    unfold backS at h3
    by_cases hb : isBor y = true
    · rw [if_pos hb] at h3
      obtain ⟨e', rfl⟩ : ∃ e', y = some (.bor, e') := by
        cases y with
        | none => cases hb
        | some y =>
          obtain ⟨m, e'⟩ := y
          cases m
          · cases hb
          · exact ⟨e', rfl⟩
          · cases hb
          · cases hb
      by_cases hj : j = i
      · subst hj
        rw [if_pos rfl] at h3
        subst h3
        rw [q] at h1
        cases h1
        exact .inl ⟨e', h2, rfl, rfl, rfl⟩
      · rw [if_neg hj] at h3
        unfold borOnly at h3
        by_cases hx : isBor x = true
        · rw [if_pos hx] at h3
          subst h3
          have hn : n = .bor := by
            cases n
            · cases hx
            · rfl
            · cases hx
            · cases hx
          subst hn
          exact .inr (.inl ⟨e', h2, hj, rfl, h1⟩)
        · rw [if_neg hx] at h3
          cases h3
    · rw [if_neg hb] at h3
      have nb : ∀ {n : Fl} {e : D}, y = some (n, e) → n ≠ .bor := fun {n e} hy hn => hb (by rw [hy, hn]; rfl)
      by_cases hj : j = i
      · rw [if_pos hj] at h3
        by_cases hp : isPn y = true
        · rw [if_pos hp] at h3
          cases h3
        · rw [if_neg hp] at h3
          subst h3
          refine .inr (.inr ⟨h2, nb rfl, fun _ => ?_⟩)
          cases n
          · rfl
          · exact absurd rfl (nb (n := .bor) rfl)
          · exact absurd rfl hp
          · exact absurd rfl hp
      · rw [if_neg hj] at h3
        subst h3
        exact .inr (.inr ⟨h2, nb rfl, fun z => absurd z hj⟩)
  have nbor : ∀ {j : Nat} {n : Fl} {e : D}, ρ'[j]? = some (some (n, e)) → n ≠ .bor → isBor ((ρ'[j]?).getD none) = false := fun {j n e} z hn => by
    rw [z]
    cases n
    · rfl
    · exact absurd rfl hn
    · rfl
    · rfl
  have pvj : ∀ {j : Nat}, j ≠ i → (lendC c H ρ fp i v).pv j = c.pv j := fun {j} hj => if_neg hj
  refine ⟨fun j => if isBor ((ρ'[j]?).getD none) = true then fp j else fp' j, ⟨by rw [backL_len]; exact h'.len, fun j n e z => ?_, fun j n e z hn => ?_, fun j e z a ha => ?_, fun j l n e n2 e2 ne z hn z2 hn2 a ha hla => ?_, h.frm.comp h'.frm fun a k => sub_ow h (.inl (ow_less k)), h.bt, h.tb, fun j P e z => by
    rcases cases' z with ⟨e', z1, _, k, _⟩ | ⟨e', z1, hj, k, z2⟩ | ⟨z1, hn, hji⟩
    · cases k
    · cases k
    · exact h'.tg j P e z1⟩, fun {dd vv F} x => ⟨x.rep, x.nd, fun a ha => ?_, fun j n e z hn a ha hja => ?_⟩⟩
  · rcases cases' z with ⟨e', z1, rfl, rfl, rfl⟩ | ⟨e', z1, hj, rfl, z2⟩ | ⟨z1, hn, hji⟩
    · obtain ⟨w, w1, w2, w3⟩ := h'.rep j _ _ z1
      have w4 : some v = some w := (if_pos rfl : (if j = j then some v else c.pv j) = some v).symm.trans (w3 (by decide))
      cases w4
      exact ⟨v, w1, by rw [z1]; exact r0.frm h'.frm out0, fun k => absurd rfl k⟩
    · obtain ⟨w, w1, w2, w3⟩ := h'.rep j _ _ z1
      obtain ⟨u, u1, u2, u3⟩ := h.rep j _ _ z2
      have e1 := u3 (by decide)
      have e2 := (pvj hj).symm.trans (w3 (by decide))
      rw [e1] at e2
      cases e2
      refine ⟨_, w1, ?_, fun _ => e1⟩
      rw [z1]
      exact u2.frm h'.frm fun a ha zo => (h'.bt a (.inl (h.bo j _ z2 a ha))).2 zo
    · obtain ⟨w, w1, w2, w3⟩ := h'.rep j _ _ z1
      refine ⟨w, w1, by rw [nbor z1 hn]; exact w2, fun hk => ?_⟩
      by_cases hj : j = i
      · exact absurd (hji hj) hk
      · exact (pvj hj).symm.trans (w3 hk)
  · rcases cases' z with ⟨e', z1, rfl, rfl, rfl⟩ | ⟨e', z1, hj, rfl, z2⟩ | ⟨z1, _, hji⟩
    · rw [z1]
      refine ⟨nd0, fun a ha => ⟨(ow0 a ha).1, ?_, (ow0 a ha).2.2⟩⟩
      have m := (ow0 a ha).2.1
      cases ho : H a with
      | none => rw [ho] at m; cases m
      | some o => rw [ho] at m; rw [h'.frm.keep ho m.nt (out0 a ha)]; exact m
    · exact absurd rfl hn
    · rw [nbor z1 hn]
      obtain ⟨n1, n2⟩ := h'.nd j n e z1 hn
      exact ⟨n1, fun a ha => ⟨sub_owF h ((n2 a ha).1.imp ow_less id), (n2 a ha).2.1, fun zb => (n2 a ha).2.2 (.inl zb)⟩⟩
  · rcases cases' z with ⟨e', z1, _, k, _⟩ | ⟨e', z1, hj, _, z2⟩ | ⟨z1, hn, hji⟩
    · cases k
    · rw [z1] at ha
      exact h.bo j e z2 a ha
    · exact absurd rfl hn
  · rcases cases' z with ⟨e', z1, rfl, rfl, rfl⟩ | ⟨e', z1, hj, rfl, z3⟩ | ⟨z1, _, hji⟩
    · rw [z1] at ha
      rcases cases' z2 with ⟨_, _, k, _, _⟩ | ⟨_, _, _, k, _⟩ | ⟨y1, _, _⟩
      · exact ne k.symm
      · exact hn2 k
      · rw [nbor y1 hn2] at hla
        exact ((h'.nd l n2 e2 y1 hn2).2 a hla).2.2 (.inr ha)
    · exact absurd rfl hn
    · rw [nbor z1 hn] at ha
      rcases cases' z2 with ⟨_, y1, k, _, _⟩ | ⟨_, _, _, k, _⟩ | ⟨y1, _, _⟩
      · subst k
        rw [y1] at hla
        exact ((h'.nd j n e z1 hn).2 a ha).2.2 (.inr hla)
      · exact hn2 k
      · rw [nbor y1 hn2] at hla
        exact h'.dj j l n e n2 e2 ne z1 hn y1 hn2 a ha hla
  · exact ⟨sub_owF h ((x.ow a ha).1.imp ow_less id), (x.ow a ha).2.1, fun zb => (x.ow a ha).2.2 (.inl zb)⟩
  · rcases cases' z with ⟨e', z1, rfl, rfl, rfl⟩ | ⟨e', z1, hj, rfl, z2⟩ | ⟨z1, _, hji⟩
    · rw [z1] at hja
      exact (x.ow a ha).2.2 (.inr hja)
    · exact absurd rfl hn
    · rw [nbor z1 hn] at hja
      exact x.dj j n e z1 hn a ha hja
end
section
variable {X : Cx} {i : Nat} {g : ES} {st : Stmt}
theorem s_lend (h : DS X st g) : DS X st (sLend i g) := h.imp fun E σ H ⟨c, ρ, fp, out, ok, e, k⟩ => by
  unfold sLend at e
  split at e
  · rename_i d q
    obtain ⟨o, e1, e2⟩ := Option.bind_eq_some_iff.mp e
    obtain ⟨v, hv, _, _⟩ := ok.rep i _ _ q
    refine ⟨_, _, fp, o, ok.lend q hv, e1, ?_⟩
    cases o with
    | nx ρ' =>
      replace e2 : (if ρ'.length = ρ.length then some (Out.nx (backL i 0 ρ ρ')) else none) = some out := e2
      split at e2
      · rename_i hl
        cases e2
        intro σ' H' fp' h'
        obtain ⟨fp2, h2, _⟩ := ok.unlend q hv h' hl
        exact k σ' H' fp2 h2
      · cases e2
    | bk ρ' =>
      replace e2 : (if ρ'.length = ρ.length then some (Out.bk (backL i 0 ρ ρ')) else none) = some out := e2
      split at e2
      · rename_i hl
        cases e2
        intro σ' H' fp' h'
        obtain ⟨fp2, h2, _⟩ := ok.unlend q hv h' hl
        exact k σ' H' fp2 h2
      · cases e2
    | ct ρ' =>
      replace e2 : (if ρ'.length = ρ.length then some (Out.ct (backL i 0 ρ ρ')) else none) = some out := e2
      split at e2
      · rename_i hl
        cases e2
        intro σ' H' fp' h'
        obtain ⟨fp2, h2, _⟩ := ok.unlend q hv h' hl
        exact k σ' H' fp2 h2
      · cases e2
    | rt d' ρ' =>
      replace e2 : (if ρ'.length = ρ.length then some (Out.rt d' (backL i 0 ρ ρ')) else none) = some out := e2
      split at e2
      · rename_i hl
        cases e2
        intro v' σ' H' fp' F h' x
        obtain ⟨fp2, h2, x2⟩ := ok.unlend q hv h' hl
        exact k v' σ' H' fp2 F h2 (x2 x)
      · cases e2
  · exact ⟨c, ρ, fp, out, ok, e, k⟩
/-- over the list that a lent (or borrowed) name holds -/
def srcB (i : Nat) : IM := fun ρ => match ρ[i]? with
  | some (some (.bor, d)) => (itemsOf d).bind fun its => some (its, ρ)
  | _ => none
variable {tg iter : Expr}
theorem i_varB (he : PE X iter (tVar i)) : PI X tg iter (tIM X.K (srcB i)) := by
  refine ⟨fun pins s σ H R I ⟨c, ρ, fp, its, ρ', ok, e, k⟩ => ?_⟩
  unfold srcB at e
  split at e
  · rename_i d q
    obtain ⟨xs, e1, e2⟩ := Option.bind_eq_some_iff.mp e
    cases e2
    obtain ⟨v, hv, r, _⟩ := ok.rep i _ _ q
    refine thn (he.run pins s σ H (fun w H1 => w = v ∧ H1 = H) I ⟨v, hv, rfl, rfl⟩) fun u s1 ⟨w, H1, I1, ru, ew, eH⟩ => ?_
    subst ew eH
    obtain ⟨a, vs, G, rfl, rr, sb, hh⟩ := itemsOf_rep r e1
    obtain rfl : u = Value.ref a := ru
    have ap : ∀ b ∈ fp i, ¬ Ow ρ fp b := fun b hb ⟨j, n, dd, z1, z2, z3⟩ => ((ok.nd j n dd z1 z2).2 b z3).2.2 (ok.bo i d q b hb)
    rcases hh with ⟨q1, qk⟩ | ⟨q1, qk⟩
    · exact iter_tup I1 q1 (k _ H1 fp (fp i) ok (wk_tup' qk rr sb) ap)
    · exact iter_lst I1 q1 (k _ H1 fp (fp i) ok (wk_lst qk rr sb) ap)
  · cases e
end
end DL
namespace DL
open PySem PySem.Spec PyProof.Rows L2
/-! ### min and max of a list -/
def minF (x : D) (xs : List D) : D := xs.foldl (fun a y => if PySem.W.dataLt (py y) (py a) = true then y else a) x
def maxF (x : D) (xs : List D) : D := xs.foldl (fun a y => if PySem.W.dataLt (py a) (py y) = true then y else a) x
def minOk (xs : List D) : Bool := plains xs && alikes (xs.map py) && (xs.all fun d => !isNon d) && decide (PyData.depthAll (pys xs) ≤ 60) && PyData.canLayAll0 (pys xs)
def minLD : List D → Option D := fun ds => match ds with
  | [d] => (seqOf d).bind fun xs => match xs with
    | x :: xs => if minOk (x :: xs) = true then some (minF x xs) else none
    | [] => none
  | _ => none
def maxLD : List D → Option D := fun ds => match ds with
  | [d] => (seqOf d).bind fun xs => match xs with
    | x :: xs => if minOk (x :: xs) = true then some (maxF x xs) else none
    | [] => none
  | _ => none
def rMinD (K : PySem.W.Frag) (mm : PyData → List PyData → PyData) : List V → Hp → VK → Prop := fun vs H Q => ∃ (p : Addr) (ws : List V) (x : PyData) (xs : List PyData), vs = [.ref p] ∧ SqL K H p ws ∧ DpAll K H ws (x :: xs) ∧ PySem.W.AlikeAll (x :: xs) ∧ PyData.depthAll (x :: xs) ≤ 60 ∧ PyData.canLayAll0 (x :: xs) = true ∧
  ∀ (i : Nat) v d, ws[i]? = some v → (x :: xs)[i]? = some d → d = mm x xs → Q v H
section
variable {X : Cx} {k : Nat}
end
end DL
namespace DL
open PySem PySem.Spec PyProof.Rows L2
/-! ### name = {..} and name = [.. for .. for ..] -/
section
variable {X : Cx} {i : Nat} {y : Str} {py : Pos} {scope : Scope} {own : List (Str × Nat)} {pos spos : Pos} {ow : Bool}
end
end DL
namespace DL
open PySem PySem.Spec L2
/-! ### the plain side of dicts and cells -/
section
variable {s : Slt} {ρ : Env} {f g : EX} {i : Nat}
@[simp] theorem e_dict {vs : List Nat} {src : IX} {gx : GX} {q : QX} {fk fe : EX} : xDict vs src gx q fk fe (s :: ρ) = (src (s :: ρ)).bind fun its => (dictE gx q fk fe (wipeE (s :: ρ) vs) its [] []).bind fun r => some (.dT r.1 r.2) := (rfl)
@[simp] theorem e_comp2 {vs vs1 : List Nat} {src : IX} {gx : GX} {q : QX} {src1 : IX} {gx1 : GX} {q1 : QX} {e : EX} : xComp2 vs vs1 src gx q src1 gx1 q1 e (s :: ρ) = (src (s :: ρ)).bind fun its => (comp2E vs vs1 gx q src1 gx1 q1 e (wipeE (s :: ρ) vs) its).bind fun ys => if ys.length ≤ sizeLine then some (.lst ys) else none := (rfl)
@[simp] theorem e_srcB : srcB i (s :: ρ) = match (s :: ρ)[i]? with | some (some (.bor, d)) => (itemsOf d).bind fun its => some (its, s :: ρ) | _ => none := (rfl)
@[simp] theorem e_lend {g : ES} : sLend i g (s :: ρ) = match (s :: ρ)[i]? with | some (some (.own, d)) => (g ((s :: ρ).set i (some (.bor, d)))).bind (backO i (s :: ρ)) | _ => g (s :: ρ) := (rfl)
def mRng1F (x : List D × Env) : Option (List D × Env) := (rng1F x.1).bind fun its => some (its, x.2)
@[simp] theorem e_mrng1 {ms : EMs} : mRng1 ms (s :: ρ) = (ms (s :: ρ)).bind mRng1F := by
  unfold mRng1 mRng1F rng1F
  congr 1
  funext x
  obtain ⟨ds, ρ1⟩ := x
  match ds with
  | [] => rfl
  | [.int j] =>
    show (if rOk j = true then some (rng 0 j, ρ1) else none) = (if rOk j = true then some (rng 0 j) else none).bind _
    by_cases c : rOk j = true
    · rw [if_pos c, if_pos c]; rfl
    · rw [if_neg c, if_neg c]; rfl
  | [.non] => rfl
  | [.bl _] => rfl
  | [.str _] => rfl
  | [.tup _] => rfl
  | [.lst _] => rfl
  | [.frz _] => rfl
  | [.ctp _] => rfl
  | [.dK _ _] => rfl
  | [.dT _ _] => rfl
  | [.fdT _ _] => rfl
  | [.exc _ _ _ _] => rfl
  | a :: _ :: _ => cases a <;> rfl
end
@[simp] theorem bor_none : isBor none = false := rfl
@[simp] theorem bor_own {d : D} : isBor (some (.own, d)) = false := rfl
@[simp] theorem bor_pin {d : D} : isBor (some (.pin, d)) = false := rfl
@[simp] theorem bor_bor {d : D} : isBor (some (.bor, d)) = true := rfl
/-! cells sorted -/
def leC (a b : Cell) : Bool := !decide (ltc b a)
theorem leD_cell (a b : Cell) : leD (cellD a) (cellD b) = leC a b := by
  show (!PySem.W.dataLt (py (cellD b)) (py (cellD a))) = _
  rw [lt_cell]
  rfl
theorem sortD_cells (cs : List Cell) : sortD (cs.map cellD) = (cs.mergeSort leC).map cellD := (PySem.W.sort_maps cellD fun a _ b _ => (leD_cell a b).symm).symm
theorem leC_iff {a b : Cell} : leC a b = true ↔ ¬ (b.1 < a.1 ∨ (b.1 = a.1 ∧ b.2 < a.2)) := by
  unfold leC
  rw [Bool.not_eq_true', decide_eq_false_iff_not]
  exact Iff.rfl
theorem ltc_iff {a b : Cell} : ltc a b ↔ (a.1 < b.1 ∨ (a.1 = b.1 ∧ a.2 < b.2)) := Iff.rfl
theorem leC_trans (a b c : Cell) (h1 : leC a b = true) (h2 : leC b c = true) : leC a c = true := by
  rw [leC_iff] at *
  omega
theorem leC_total (a b : Cell) : (leC a b || leC b a) = true := by
  rw [Bool.or_eq_true, leC_iff, leC_iff]
  omega
def srt (cs : List Cell) : List Cell := cs.mergeSort leC
theorem srt_mem {cs : List Cell} {c : Cell} : c ∈ srt cs ↔ c ∈ cs := List.mem_mergeSort
theorem srt_len {cs : List Cell} : (srt cs).length = cs.length := List.length_mergeSort ..
theorem srt_pair {cs : List Cell} (h : cs.Nodup) : (srt cs).Pairwise ltc := by
  have h1 : (srt cs).Pairwise (fun a b => leC a b = true) := List.pairwise_mergeSort leC_trans leC_total cs
  have h2 : (srt cs).Nodup := (List.mergeSort_perm cs leC).nodup_iff.mpr h
  refine (h1.and h2).imp fun {a b} ⟨q, ne⟩ => ?_
  rw [leC_iff] at q
  rw [ltc_iff]
  have : a.1 ≠ b.1 ∨ a.2 ≠ b.2 := by
    by_cases e : a.1 = b.1
    · exact .inr fun e2 => ne (Prod.ext e e2)
    · exact .inl e
  omega
theorem ltc_irrefl (a : Cell) : ¬ ltc a a := by
  rw [ltc_iff]
  omega
theorem pair_nodup {cs : List Cell} (h : cs.Pairwise ltc) : cs.Nodup := h.imp fun {a b} q (e : a = b) => ltc_irrefl b (by rw [e] at q; exact q)
/-- two strictly sorted lists with the same cells are one -/
theorem srt_ext : ∀ {as bs : List Cell}, as.Pairwise ltc → bs.Pairwise ltc → (∀ c, c ∈ as ↔ c ∈ bs) → as = bs
  | [], [], _, _, _ => rfl
  | [], b :: bs, _, _, h => by have := (h b).mpr (List.mem_cons_self ..); cases this
  | a :: as, [], _, _, h => by have := (h a).mp (List.mem_cons_self ..); cases this
  | a :: as, b :: bs, ha, hb, h => by
    rw [List.pairwise_cons] at ha hb
    have e : a = b := by
      rcases List.mem_cons.mp ((h a).mp (List.mem_cons_self ..)) with e | m
      · exact e
      · rcases List.mem_cons.mp ((h b).mpr (List.mem_cons_self ..)) with e | m2
        · exact e.symm
        · have q1 := hb.1 a m
          have q2 := ha.1 b m2
          rw [ltc_iff] at q1 q2
          omega
    subst e
    congr 1
    refine srt_ext ha.2 hb.2 fun c => ⟨fun m => ?_, fun m => ?_⟩
    · rcases List.mem_cons.mp ((h c).mp (List.mem_cons_of_mem _ m)) with e | m2
      · exact absurd (show ltc a a by have := ha.1 c m; rw [e] at this; exact this) (ltc_irrefl _)
      · exact m2
    · rcases List.mem_cons.mp ((h c).mpr (List.mem_cons_of_mem _ m)) with e | m2
      · exact absurd (show ltc a a by have := hb.1 c m; rw [e] at this; exact this) (ltc_irrefl _)
      · exact m2
/-! a dict of cells -/
def keyC (c : Cell) : List Key := [.inl c.1, .inl c.2]
theorem keyC_inj {a b : Cell} (h : keyC a = keyC b) : a = b := by
  unfold keyC at h
  simp only [List.cons.injEq, Sum.inl.injEq, and_true] at h
  exact Prod.ext h.1 h.2
def fd (cs : List Cell) : D := .dT (cs.map keyC) (cs.map fun _ => .bl true)
theorem toKey_cell (c : Cell) : toKeyT (cellD c) = some (keyC c) := rfl
theorem mem_keyC {cs : List Cell} {c : Cell} : keyC c ∈ cs.map keyC ↔ c ∈ cs := by
  rw [List.mem_map]
  exact ⟨fun ⟨b, hb, e⟩ => keyC_inj e ▸ hb, fun h => ⟨c, h, rfl⟩⟩
def ins (cs : List Cell) (c : Cell) : List Cell := if c ∈ cs then cs else cs ++ [c]
theorem mem_ins {cs : List Cell} {c b : Cell} : b ∈ ins cs c ↔ b ∈ cs ∨ b = c := by
  unfold ins
  by_cases h : c ∈ cs
  · rw [if_pos h]
    exact ⟨.inl, fun z => z.elim id fun e => e ▸ h⟩
  · rw [if_neg h, List.mem_append, List.mem_singleton]
theorem nodup_ins {cs : List Cell} {c : Cell} (h : cs.Nodup) : (ins cs c).Nodup := by
  unfold ins
  by_cases m : c ∈ cs
  · rw [if_pos m]; exact h
  · rw [if_neg m]
    exact List.nodup_append.mpr ⟨h, List.nodup_cons.mpr ⟨(fun z => by cases z), List.nodup_nil⟩, fun a ha b hb e => m (by rw [← List.mem_singleton.mp hb, ← e]; exact ha)⟩
theorem pures_true : ∀ cs : List Cell, pures (cs.map fun _ => D.bl true) = true
  | [] => rfl
  | _ :: cs => by rw [List.map_cons, pures, pures_true cs]; rfl
theorem putKs_c (cs : List Cell) (c : Cell) : putKs (cs.map keyC) (keyC c) = (ins cs c).map keyC := by
  unfold putKs ins
  by_cases h : c ∈ cs
  · rw [if_pos (mem_keyC.mpr h), if_pos h]
  · rw [if_neg (fun z => h (mem_keyC.mp z)), if_neg h, List.map_append]
    rfl
theorem zip_true (q : List Key) : ∀ cs : List Cell, List.zipWith (fun k x => if k = q then D.bl true else x) (cs.map keyC) (cs.map fun _ => D.bl true) = cs.map fun _ => D.bl true
  | [] => rfl
  | c :: cs => by
    rw [List.map_cons, List.map_cons, List.zipWith_cons_cons, zip_true q cs]
    split <;> rfl
theorem putVs_c (cs : List Cell) (c : Cell) : putVs (cs.map keyC) (cs.map fun _ => D.bl true) (keyC c) (.bl true) = (ins cs c).map fun _ => D.bl true := by
  unfold putVs ins
  by_cases h : c ∈ cs
  · rw [if_pos (mem_keyC.mpr h), if_pos h, zip_true]
  · rw [if_neg (fun z => h (mem_keyC.mp z)), if_neg h, List.map_append]
    rfl
theorem setT_c {cs : List Cell} {c : Cell} (h : cs.length < 1000000) : setT (fd cs) (cellD c) (.bl true) = some (fd (ins cs c)) := by
  show (some (keyC c)).bind (fun q => if pures (cs.map fun _ => D.bl true) = true then if pure (.bl true) = true then if (cs.map keyC).length < sizeLine then some (D.dT (putKs (cs.map keyC) q) (putVs (cs.map keyC) (cs.map fun _ => D.bl true) q (.bl true))) else none else none else none) = _
  rw [Option.bind_some, pures_true, if_pos rfl, if_pos (show pure (.bl true) = true from rfl), if_pos (by rw [size_eq, List.length_map]; omega), putKs_c, putVs_c]
  rfl
theorem look_c (cs : List Cell) (c : Cell) : (lookD (cs.map keyC) (cs.map fun _ => D.bl true) (keyC c)).isSome = decide (c ∈ cs) := by
  induction cs with
  | nil => rfl
  | cons b cs ih =>
    rw [List.map_cons, List.map_cons, lookD]
    by_cases e : keyC b = keyC c
    · rw [if_pos e, decide_eq_true (by rw [keyC_inj e]; exact List.mem_cons_self ..)]
      rfl
    · rw [if_neg e, ih]
      have : c ∈ b :: cs ↔ c ∈ cs := by
        rw [List.mem_cons]
        exact ⟨fun z => z.elim (fun q => absurd (by rw [q]) e) id, .inr⟩
      simp only [this]
theorem in_c (cs : List Cell) (c : Cell) : oIn (cellD c) (fd cs) = some (.bl (decide (c ∈ cs))) := by
  show ((some (lookD (cs.map keyC) (cs.map fun _ => D.bl true) (keyC c))).map Option.isSome).map D.bl = _
  rw [Option.map_some, Option.map_some, look_c]
theorem map_tupK (cs : List Cell) : (cs.map keyC).map tupK = cs.map cellD := by
  rw [List.map_map]
  rfl
theorem listA_c (cs : List Cell) : listA [fd cs] = some (.lst (cs.map cellD)) := by
  show some (D.lst ((cs.map keyC).map tupK)) = _
  rw [map_tupK]
theorem sortedA_c (cs : List Cell) : sortedA [fd cs] = some (.lst ((srt cs).map cellD)) := by
  show (if sortOk ((cs.map keyC).map tupK) = true then some (D.lst (sortD ((cs.map keyC).map tupK))) else none) = _
  rw [map_tupK, sortOk_IT (isIT_cells cs), if_pos rfl, sortD_cells]
  rfl
theorem sortedA_l (cs : List Cell) : sortedA [.lst (cs.map cellD)] = some (.lst ((srt cs).map cellD)) := by
  show sortedD [.lst (cs.map cellD)] = _
  rw [sorted_IT (isIT_cells cs), sortD_cells]
  rfl
/-! as many as fit into a box -/
theorem few_nats : ∀ (n : Nat) (l : List Nat), l.Nodup → (∀ x ∈ l, x < n) → l.length ≤ n
  | 0, l, _, h => by
    cases l with
    | nil => exact Nat.le_refl _
    | cons x l => exact absurd (h x (List.mem_cons_self ..)) (Nat.not_lt_zero _)
  | n + 1, l, nd, h => by
    by_cases m : n ∈ l
    · have ih := few_nats n (l.erase n) (nd.erase n) fun x hx => by
        have q := (nd.mem_erase_iff).mp hx
        have := h x q.2
        omega
      rw [List.length_erase_of_mem m] at ih
      omega
    · have ih := few_nats n l nd fun x hx => by
        have := h x hx
        have ne : x ≠ n := fun e => m (e ▸ hx)
        omega
      omega
structure Box (cs : List Cell) (h w : Nat) : Prop where
  nd : cs.Nodup
  box : ∀ c ∈ cs, 0 ≤ c.1 ∧ c.1 < (h : Int) ∧ 0 ≤ c.2 ∧ c.2 < (w : Int)
theorem Box.few {cs : List Cell} {h w : Nat} (b : Box cs h w) : cs.length ≤ h * w := by
  have q := few_nats (h * w) (cs.map fun c => c.1.toNat * w + c.2.toNat) ?_ ?_
  · rw [List.length_map] at q
    exact q
  · refine List.pairwise_map.mpr ((List.Pairwise.and_mem.mp b.nd).imp fun {x y} ⟨hx, hy, ne⟩ e => ne ?_)
    have bx := b.box x hx
    have by' := b.box y hy
    have e1 : x.2.toNat = y.2.toNat := by
      have := congrArg (· % w) e
      simp only [Nat.mul_comm _ w, Nat.mul_add_mod] at this
      rw [Nat.mod_eq_of_lt (by omega), Nat.mod_eq_of_lt (by omega)] at this
      exact this
    have e2 : x.1.toNat * w = y.1.toNat * w := by omega
    have e3 := Nat.eq_of_mul_eq_mul_right (by omega) e2
    exact Prod.ext (by omega) (by omega)
  · intro x hx
    obtain ⟨c, hc, rfl⟩ := List.mem_map.mp hx
    have bc := b.box c hc
    have h1 : c.1.toNat + 1 ≤ h := by omega
    have h2 := Nat.mul_le_mul_right w h1
    rw [Nat.add_mul, Nat.one_mul] at h2
    omega
theorem Box.ins {cs : List Cell} {h w : Nat} {c : Cell} (b : Box cs h w) (hc : 0 ≤ c.1 ∧ c.1 < (h : Int) ∧ 0 ≤ c.2 ∧ c.2 < (w : Int)) : Box (ins cs c) h w := ⟨nodup_ins b.nd, fun x hx => (mem_ins.mp hx).elim (b.box x) fun e => e ▸ hc⟩
end DL
namespace DL
open PySem PySem.Spec L2
namespace C
/-! ### the laws' drawn inks -/
abbrev N_law_signed : List Str := ["_law_row", "_law_most"]
def s_law_signed : ES := (sRet (mOp oSub (mCallR takenF 0 (msCons (mP (xOp oAdd (xOp oMul (xC (.int 2)) (xVar 1)) (xC (.int 1)))) msNil)) (mP (xPure (xVar 1)))))
def F_law_signed : D → List D → Option (D × D) := fnR N_law_signed s_law_signed
abbrev N_law_ink : List Str := ["_law_row", "_law_high", "_law_wide", "_law_way", "_law_found", "_law_every", "_law_line", "_law_dense", "_law_cell", "_law_turn", "_law_top", "_law_left", "_law_bottom", "_law_right", "_law_column", "_law_inner", "_law_here", "_law_down"]
def s_law_ink : ES := (sSeq (sPar 3 4 (msCons (mCallR takenF 0 (msCons (mP (xC (.int 6))) msNil)) (msCons (mP (xC (.dT [] []))) msNil)))
  (sSeq (sAsg (mP (xLst xsNil)) (put 5))
  (sSeq (sFor (iP (xRng1 (xsCons (xVar 1) xsNil))) (put 6)
  (sAsg (mP (xOp oAdd (xVar 5) (xComp [14] (xRng1 (xsCons (xVar 2) xsNil)) (putB 14) yYes (xTup (xsCons (xPure (xVar 6)) (xsCons (xPure (xVar 14)) xsNil)))))) (put 5)))
  (sSeq (sIf (tP' (xBool (xOp oLt (xVar 3) (xC (.int 2))))) (sSeq (sAsg (mCallR F_law_pick 0 (msCons (mP (xLst (xsCons (xC (.int 2)) (xsCons (xC (.int 2)) (xsCons (xC (.int 3)) (xsCons (xC (.int 4)) xsNil)))))) msNil)) (put 7))
  (sLend 5 (sFor (srcB 5) (put 8)
  (sIf (mBool (mOp oEq (mOp oEq (mCallR takenF 0 (msCons (mP (xPure (xVar 7))) msNil)) (mP (xC (.int 0)))) (mP (xOp oEq (xVar 3) (xC (.int 0)))))) (sAsg (mP (xC (.bl true))) (gSub' 4 (xVar 8) setT)) sNext)))) (sIf (tP' (xBool (xOp oLt (xVar 3) (xC (.int 4))))) (sFor (mRng1 (msCons (mOp oAdd (mP (xC (.int 1))) (mCallR takenF 0 (msCons (mP (xC (.int 4))) msNil))) msNil)) (put 9)
  (sSeq (sPar 10 11 (msCons (mCallR takenF 0 (msCons (mP (xPure (xVar 1))) msNil)) (msCons (mCallR takenF 0 (msCons (mP (xPure (xVar 2))) msNil)) msNil)))
  (sSeq (sAsg (mTup (msCons (mOp oAdd (mP (xOp oAdd (xVar 10) (xC (.int 1)))) (mCallR takenF 0 (msCons (mP (xOp oSub (xVar 1) (xVar 10))) msNil))) (msCons (mOp oAdd (mP (xOp oAdd (xVar 11) (xC (.int 1)))) (mCallR takenF 0 (msCons (mP (xOp oSub (xVar 2) (xVar 11))) msNil))) msNil))) (gTupD 2 (gsCons (put 12) (gsCons (put 13) gsNil))))
  (sLend 5 (sFor (srcB 5) (gTupD 2 (gsCons (put 6) (gsCons (put 14) gsNil)))
  (sSeq (sAsg (mP (xAnd (xChain oLt oLt (xVar 10) (xVar 6) (xOp oSub (xVar 12) (xC (.int 1)))) (xChain oLt oLt (xVar 11) (xVar 14) (xOp oSub (xVar 13) (xC (.int 1)))))) (put 15))
  (sIf (tP' (yAnd (xBool (xChain oLe oLt (xVar 10) (xVar 6) (xVar 12))) (yAnd (xBool (xChain oLe oLt (xVar 11) (xVar 14) (xVar 13))) (yOr (xBool (xOp oEq (xVar 3) (xC (.int 2)))) (yNot (xBool (xVar 15))))))) (sAsg (mP (xC (.bl true))) (gSub' 4 (xTup (xsCons (xPure (xVar 6)) (xsCons (xPure (xVar 14)) xsNil))) setT)) sNext))))))) (sSeq (sAsg (mTup (msCons (mCallR takenF 0 (msCons (mP (xPure (xVar 1))) msNil)) (msCons (mCallR takenF 0 (msCons (mP (xPure (xVar 2))) msNil)) msNil))) (put 16))
  (sFor (mRng1 (msCons (mOp oAdd (mP (xC (.int 1))) (mCallR takenF 0 (msCons (mP (xOp oMul (xVar 1) (xVar 2))) msNil))) msNil)) (put 9)
  (sSeq (sAsg (mP (xC (.bl true))) (gSub' 4 (xVar 16) setT))
  (sSeq (sAsg (mCallR F_law_pick 0 (msCons (mP (xOp oAdd (xLst (xsCons (xTup (xsCons (xC (.int 0)) (xsCons (xC (.int 1)) xsNil))) (xsCons (xTup (xsCons (xC (.int 0)) (xsCons (xNeg (xC (.int 1))) xsNil))) (xsCons (xTup (xsCons (xC (.int 1)) (xsCons (xC (.int 0)) xsNil))) (xsCons (xTup (xsCons (xNeg (xC (.int 1))) (xsCons (xC (.int 0)) xsNil))) xsNil))))) (xOp oRep (xLst (xsCons (xTup (xsCons (xC (.int 1)) (xsCons (xC (.int 1)) xsNil))) (xsCons (xTup (xsCons (xNeg (xC (.int 1))) (xsCons (xC (.int 1)) xsNil))) xsNil))) (xOp oSub (xVar 3) (xC (.int 4)))))) msNil)) (gTupD 2 (gsCons (put 17) (gsCons (put 13) gsNil))))
  (sIf (tP' (yAnd (xBool (xChain oLe oLt (xC (.int 0)) (xOp oAdd (xOp ixD (xVar 16) (xC (.int 0))) (xVar 17)) (xVar 1))) (xBool (xChain oLe oLt (xC (.int 0)) (xOp oAdd (xOp ixD (xVar 16) (xC (.int 1))) (xVar 13)) (xVar 2))))) (sAsg (mP (xTup (xsCons (xOp oAdd (xOp ixD (xVar 16) (xC (.int 0))) (xVar 17)) (xsCons (xOp oAdd (xOp ixD (xVar 16) (xC (.int 1))) (xVar 13)) xsNil)))) (put 16)) sNext)))))))
  (sSeq (sAsg (mIf (mBool (mOp oEq (mCallR takenF 0 (msCons (mP (xC (.int 4))) msNil)) (mP (xC (.int 0))))) (mTup (msCons (mCallR F_law_signed 0 (msCons (mP (xC (.int 9))) msNil)) (msCons (mCallR F_law_signed 0 (msCons (mP (xC (.int 9))) msNil)) msNil))) (mP (xTup (xsCons (xC (.int 0)) (xsCons (xC (.int 0)) xsNil))))) (gTupD 2 (gsCons (put 17) (gsCons (put 13) gsNil))))
  (sRet (mP (xCall tupleD (xsCons (xCall sortedA (xsCons (xComp [6, 14] (xIt (xCall listA (xsCons (xVar 4) xsNil))) (gTupD 2 (gsCons (putB 6) (gsCons (putB 14) gsNil))) yYes (xTup (xsCons (xOp oAdd (xVar 6) (xVar 17)) (xsCons (xOp oAdd (xVar 14) (xVar 13)) xsNil)))) xsNil)) xsNil)))))))))
def F_law_ink : D → List D → Option (D × D) := fnR N_law_ink s_law_ink
variable {ns : List Int}
theorem signed_ok {d : D} {m : Int} (h : Row ns d) (hm : 0 ≤ m ∧ m < 1000000) : ∃ v d', F_law_signed d [.int m] = some (.int v, d') ∧ -m ≤ v ∧ v ≤ m ∧ Row ns d' := by
  obtain ⟨v, d', e, a, b, r⟩ := taken_ok (m := 2 * m + 1) h (by omega)
  refine ⟨v - m, d', ?_, by omega, by omega, r⟩
  unfold F_law_signed s_law_signed
  simp (disch := omega) [v_mul', e]
/-- all cells of the frame's first i lines -/
def allC (i w : Nat) : List Cell := (List.range i).flatMap fun r : Nat => (List.range w).map fun c : Nat => ((r : Int), (c : Int))
theorem allC_succ (i w : Nat) : allC (i + 1) w = allC i w ++ (List.range w).map fun c : Nat => ((i : Int), (c : Int)) := by
  unfold allC
  rw [List.range_succ, List.flatMap_append]
  simp
theorem allC_mem {i w : Nat} {c : Cell} (h : c ∈ allC i w) : 0 ≤ c.1 ∧ c.1 < (i : Int) ∧ 0 ≤ c.2 ∧ c.2 < (w : Int) := by
  unfold allC at h
  obtain ⟨r, hr, h⟩ := List.mem_flatMap.mp h
  obtain ⟨k, hk, rfl⟩ := List.mem_map.mp h
  have h1 := List.mem_range.mp hr
  have h2 := List.mem_range.mp hk
  refine ⟨?_, ?_, ?_, ?_⟩ <;> (simp only) <;> omega
theorem allC_len (i w : Nat) : (allC i w).length = i * w := by
  induction i with
  | zero => simp [allC]
  | succ i ih => rw [allC_succ, List.length_append, ih, List.length_map, List.length_range, Nat.add_mul, Nat.one_mul]
theorem ea_cells {as bs : List Cell} (h : as.length + bs.length < 1000000) : oAdd (.lst (as.map cellD)) (.lst (bs.map cellD)) = some (.lst ((as ++ bs).map cellD)) := by
  show (if (as.map cellD).length + (bs.map cellD).length ≤ sizeLine then (if pures (as.map cellD) = true then if pures (bs.map cellD) = true then some (D.lst (as.map cellD ++ bs.map cellD)) else none else none) else none) = _
  rw [List.length_map, List.length_map, if_pos (by rw [size_eq]; omega), pures_cells, pures_cells, if_pos rfl, if_pos rfl, List.map_append]
section
variable {h w : Nat} {x6 x7 x8 x9 x10 x11 x12 x13 x14 x15 x16 x17 : Slt} {d : D} {wy : Int} {cs : List Cell}
/-- the names of the ink while it is drawn -/
abbrev en (d : D) (h w : Nat) (wy : Int) (cs : List Cell) (t : Env) : Env := some (.pin, d) :: some (.own, .int (h : Int)) :: some (.own, .int (w : Int)) :: some (.own, .int wy) :: some (.own, fd cs) :: t
theorem every_ok (hh : h ≤ 60) (hw : w ≤ 60) (p6 : isPin x6 = false) (b6 : isBor x6 = false) : ∃ x6', isPin x6' = false ∧ isBor x6' = false ∧ forE (put 6) (sAsg (mP (xOp oAdd (xVar 5) (xComp [14] (xRng1 (xsCons (xVar 2) xsNil)) (putB 14) yYes (xTup (xsCons (xPure (xVar 6)) (xsCons (xPure (xVar 14)) xsNil)))))) (put 5)) (rng 0 (h : Int)) (en d h w wy cs [some (.own, .lst []), x6, x7, x8, x9, x10, x11, x12, x13, x14, x15, x16, x17]) =
    some (.nx (en d h w wy cs [some (.own, .lst ((allC h w).map cellD)), x6', x7, x8, x9, x10, x11, x12, x13, x14, x15, x16, x17])) := by
  obtain ⟨ρ', f1, x6', p6', b6', f2⟩ := for_ok (gx := put 6) (b := sAsg (mP (xOp oAdd (xVar 5) (xComp [14] (xRng1 (xsCons (xVar 2) xsNil)) (putB 14) yYes (xTup (xsCons (xPure (xVar 6)) (xsCons (xPure (xVar 14)) xsNil)))))) (put 5)) (fun k : Nat => D.int (k : Int))
    (fun k ρ => ∃ x6, isPin x6 = false ∧ isBor x6 = false ∧ ρ = en d h w wy cs [some (.own, .lst ((allC k w).map cellD)), x6, x7, x8, x9, x10, x11, x12, x13, x14, x15, x16, x17]) (List.range h) (en d h w wy cs [some (.own, .lst []), x6, x7, x8, x9, x10, x11, x12, x13, x14, x15, x16, x17]) ⟨x6, p6, b6, rfl⟩ fun k a ρ e q => by
    obtain ⟨x6, p6, b6, rfl⟩ := q
    have hk : k < h := by simpa using (List.getElem?_eq_some_iff.mp e).1
    rw [List.getElem?_range hk] at e
    cases e
    have c : compE (putB 14) yYes (xTup (xsCons (xPure (xVar 6)) (xsCons (xPure (xVar 14)) xsNil))) (en d h w wy cs [some (.own, .lst ((allC k w).map cellD)), some (.own, .int k), x7, x8, x9, x10, x11, x12, x13, none, x15, x16, x17]) (rng 0 (w : Int)) = some (((List.range w).map fun c : Nat => ((k : Int), (c : Int))).map cellD) := by
      rw [rng_len, List.map_map]
      refine comp_all _ _ _ fun c hc => ⟨_, rfl, rfl, ?_⟩
      simp (disch := omega) [if_size]
      rfl
    have hkw : k * w ≤ 60 * 60 := Nat.mul_le_mul (by omega) hw
    have ea := ea_cells (as := allC k w) (bs := (List.range w).map fun c : Nat => ((k : Int), (c : Int))) (by rw [allC_len, List.length_map, List.length_range]; omega)
    rw [← allC_succ] at ea
    have zl : (((List.range w).map fun c : Nat => ((k : Int), (c : Int))).map cellD).length ≤ sizeLine := by
      rw [List.length_map, List.length_map, List.length_range, size_eq]
      omega
    refine ⟨rfl, en d h w wy cs [some (.own, .lst ((allC k w).map cellD)), some (.own, .int k), x7, x8, x9, x10, x11, x12, x13, x14, x15, x16, x17], _, by simp [-e_put, e_put', p6], .inl ?_, some (.own, .int k), rfl, rfl, rfl⟩
    simp (disch := omega) [-List.map_map, -List.length_map, v_rng1, c, zl, ea]
  rw [List.length_range] at f2
  subst f2
  rw [rng_len]
  exact ⟨x6', p6', b6', f1⟩
variable {x5 : Slt} {m : Int}
def inkB : ES := sIf (mBool (mOp oEq (mOp oEq (mCallR takenF 0 (msCons (mP (xPure (xVar 7))) msNil)) (mP (xC (.int 0)))) (mP (xOp oEq (xVar 3) (xC (.int 0)))))) (sAsg (mP (xC (.bl true))) (gSub' 4 (xVar 8) setT)) sNext
theorem inkB_ok {c : Cell} (r : Row ns d) (hm : 2 ≤ m ∧ m ≤ 4) (bx : Box cs h w) (hc : 0 ≤ c.1 ∧ c.1 < (h : Int) ∧ 0 ≤ c.2 ∧ c.2 < (w : Int)) (hs : h * w ≤ 10000) : ∃ d' cs', inkB (en d h w wy cs [x5, x6, some (.own, .int m), some (.own, cellD c), x9, x10, x11, x12, x13, x14, x15, x16, x17]) = some (.nx (en d' h w wy cs' [x5, x6, some (.own, .int m), some (.own, cellD c), x9, x10, x11, x12, x13, x14, x15, x16, x17])) ∧ Row ns d' ∧ Box cs' h w := by
  obtain ⟨v, d', e, a, b, r'⟩ := taken_ok (m := m) r (by omega)
  have few := bx.few
  have st := setT_c (c := c) (show cs.length < 1000000 by omega)
  by_cases q : decide (v = 0) = decide (wy = 0)
  · refine ⟨d', ins cs c, ?_, r', bx.ins hc⟩
    unfold inkB
    have q' : (v = 0) = (wy = 0) := by simpa using q
    simp [e, q', st]
  · refine ⟨d', cs, ?_, r', bx⟩
    unfold inkB
    have q' : ¬ ((v = 0) ↔ (wy = 0)) := by simpa using q
    simp [e, q']
theorem loopB_ok (b6 : isBor x6 = false) (r : Row ns d) (hm : 2 ≤ m ∧ m ≤ 4) (bx : Box cs h w) (hs : h * w ≤ 10000) : ∃ d' cs' x8', isPin x8' = false ∧ isBor x8' = false ∧ sLend 5 (sFor (srcB 5) (put 8) inkB) (en d h w wy cs [some (.own, .lst ((allC h w).map cellD)), x6, some (.own, .int m), none, none, none, none, none, none, none, none, none, none]) =
    some (.nx (en d' h w wy cs' [some (.own, .lst ((allC h w).map cellD)), x6, some (.own, .int m), x8', none, none, none, none, none, none, none, none, none])) ∧ Row ns d' ∧ Box cs' h w := by
  obtain ⟨ρ', f1, d', cs', x8', p8, b8, r', bx', f2⟩ := for_ok (gx := put 8) (b := inkB) cellD
    (fun _ ρ => ∃ (d : D) (cs : List Cell) (x8 : Slt), isPin x8 = false ∧ isBor x8 = false ∧ Row ns d ∧ Box cs h w ∧ ρ = en d h w wy cs [some (.bor, .lst ((allC h w).map cellD)), x6, some (.own, .int m), x8, none, none, none, none, none, none, none, none, none]) (allC h w) (en d h w wy cs [some (.bor, .lst ((allC h w).map cellD)), x6, some (.own, .int m), none, none, none, none, none, none, none, none, none, none])
    ⟨d, cs, none, rfl, rfl, r, bx, rfl⟩ fun k c ρ e q => by
    obtain ⟨d, cs, x8, p8, b8, r, bx, rfl⟩ := q
    obtain ⟨d', cs', e1, r', bx'⟩ := inkB_ok (wy := wy) (x5 := some (.bor, .lst ((allC h w).map cellD))) (x6 := x6) (x9 := none) (x10 := none) (x11 := none) (x12 := none) (x13 := none) (x14 := none) (x15 := none) (x16 := none) (x17 := none) (c := c) r hm bx (allC_mem (List.mem_of_getElem? e)) hs
    exact ⟨rfl, _, _, by simp [-e_put, e_put', p8], .inl e1, d', cs', _, rfl, rfl, r', bx', rfl⟩
  subst f2
  refine ⟨d', cs', x8', p8, b8, ?_, r', bx'⟩
  simp [f1, backO, backL, backS, b6, b8]
end
end C
end DL
namespace DL
open PySem PySem.Spec L2
/-! ### tests that are truths, whichever -/
section
variable {ρ : Env} {f g h : EX} {p q : QX} {o o' : D → D → Option D}
def IB (o : D → D → Option D) : Prop := ∀ i j : Int, ∃ b, o (.int i) (.int j) = some (.bl b)
theorem ib_lt : IB oLt := fun i j => ⟨_, rfl⟩
theorem ib_le : IB oLe := fun i j => ⟨_, rfl⟩
theorem ib_eq : IB oEq := fun i j => ⟨_, v_eqI⟩
theorem ex_chain (h1 : IB o) (h2 : IB o') (hf : ∃ i, f ρ = some (.int i)) (hg : ∃ i, g ρ = some (.int i)) (hh : ∃ i, h ρ = some (.int i)) : ∃ b, xChain o o' f g h ρ = some (.bl b) := by
  obtain ⟨i, hf⟩ := hf
  obtain ⟨j, hg⟩ := hg
  obtain ⟨k, hh⟩ := hh
  obtain ⟨b, e⟩ := h1 i j
  obtain ⟨c, e'⟩ := h2 j k
  unfold xChain
  rw [hf, Option.bind_some, hg, Option.bind_some, e, Option.bind_some]
  cases b with
  | true => exact ⟨c, by show (h ρ).bind _ = _; rw [hh]; exact e'⟩
  | false => exact ⟨false, rfl⟩
theorem ex_op (h1 : IB o) (hf : ∃ i, f ρ = some (.int i)) (hg : ∃ i, g ρ = some (.int i)) : ∃ b, xOp o f g ρ = some (.bl b) := by
  obtain ⟨i, hf⟩ := hf
  obtain ⟨j, hg⟩ := hg
  obtain ⟨b, e⟩ := h1 i j
  exact ⟨b, by unfold xOp; rw [hf, Option.bind_some, hg, Option.bind_some, e]⟩
theorem ex_and (hf : ∃ b, f ρ = some (.bl b)) (hg : ∃ b, g ρ = some (.bl b)) : ∃ b, xAnd f g ρ = some (.bl b) := by
  obtain ⟨b, hf⟩ := hf
  obtain ⟨c, hg⟩ := hg
  unfold xAnd
  rw [hf, Option.bind_some]
  cases b with
  | true => exact ⟨c, hg⟩
  | false => exact ⟨false, rfl⟩
theorem ex_bool (hf : ∃ b, f ρ = some (.bl b)) : ∃ b, xBool f ρ = some b := by
  obtain ⟨b, hf⟩ := hf
  exact ⟨b, by unfold xBool; rw [hf]; rfl⟩
theorem ex_yand (hp : ∃ b, p ρ = some b) (hq : ∃ b, q ρ = some b) : ∃ b, yAnd p q ρ = some b := by
  obtain ⟨b, hp⟩ := hp
  obtain ⟨c, hq⟩ := hq
  unfold yAnd
  rw [hp, Option.bind_some]
  cases b with
  | true => exact ⟨c, hq⟩
  | false => exact ⟨false, rfl⟩
theorem ex_yor (hp : ∃ b, p ρ = some b) (hq : ∃ b, q ρ = some b) : ∃ b, yOr p q ρ = some b := by
  obtain ⟨b, hp⟩ := hp
  obtain ⟨c, hq⟩ := hq
  unfold yOr
  rw [hp, Option.bind_some]
  cases b with
  | true => exact ⟨true, rfl⟩
  | false => exact ⟨c, hq⟩
theorem ex_ynot (hp : ∃ b, p ρ = some b) : ∃ b, yNot p ρ = some b := by
  obtain ⟨b, hp⟩ := hp
  exact ⟨!b, by unfold yNot; rw [hp]; rfl⟩
end
namespace C
variable {ns : List Int}
section
variable {h w : Nat} {x5 x6 x7 x8 x9 x10 x11 x12 x13 x14 x15 x16 x17 : Slt} {d : D} {wy tp lf bt rt : Int} {cs : List Cell}
def innX : EX := xAnd (xChain oLt oLt (xVar 10) (xVar 6) (xOp oSub (xVar 12) (xC (.int 1)))) (xChain oLt oLt (xVar 11) (xVar 14) (xOp oSub (xVar 13) (xC (.int 1))))
def condX : QX := yAnd (xBool (xChain oLe oLt (xVar 10) (xVar 6) (xVar 12))) (yAnd (xBool (xChain oLe oLt (xVar 11) (xVar 14) (xVar 13))) (yOr (xBool (xOp oEq (xVar 3) (xC (.int 2)))) (yNot (xBool (xVar 15)))))
def inkC1 : ES := sSeq (sAsg (mP innX) (put 15)) (sIf (tP' condX) (sAsg (mP (xC (.bl true))) (gSub' 4 (xTup (xsCons (xPure (xVar 6)) (xsCons (xPure (xVar 14)) xsNil))) setT)) sNext)
theorem inkC1_ok {c : Cell} (p15 : isPin x15 = false) (bx : Box cs h w) (hc : 0 ≤ c.1 ∧ c.1 < (h : Int) ∧ 0 ≤ c.2 ∧ c.2 < (w : Int)) (hs : h * w ≤ 10000) : ∃ cs' b, inkC1 (en d h w wy cs [x5, some (.own, .int c.1), x7, x8, x9, some (.own, .int tp), some (.own, .int lf), some (.own, .int bt), some (.own, .int rt), some (.own, .int c.2), x15, x16, x17]) =
    some (.nx (en d h w wy cs' [x5, some (.own, .int c.1), x7, x8, x9, some (.own, .int tp), some (.own, .int lf), some (.own, .int bt), some (.own, .int rt), some (.own, .int c.2), some (.own, .bl b), x16, x17])) ∧ Box cs' h w := by
  have few := bx.few
  have st := setT_c (c := c) (show cs.length < 1000000 by omega)
  unfold cellD at st
  have v : ∀ {x15 : Slt} (i : Nat) (z : Int), (en d h w wy cs [x5, some (.own, .int c.1), x7, x8, x9, some (.own, .int tp), some (.own, .int lf), some (.own, .int bt), some (.own, .int rt), some (.own, .int c.2), x15, x16, x17])[i]? = some (some (.own, .int z)) → ∃ z, xVar i (en d h w wy cs [x5, some (.own, .int c.1), x7, x8, x9, some (.own, .int tp), some (.own, .int lf), some (.own, .int bt), some (.own, .int rt), some (.own, .int c.2), x15, x16, x17]) = some (.int z) := fun i z e => ⟨z, by rw [e_var, e]; rfl⟩
  have v12 : ∃ z, xOp oSub (xVar 12) (xC (.int 1)) (en d h w wy cs [x5, some (.own, .int c.1), x7, x8, x9, some (.own, .int tp), some (.own, .int lf), some (.own, .int bt), some (.own, .int rt), some (.own, .int c.2), x15, x16, x17]) = some (.int z) := ⟨bt - 1, by simp⟩
  have v13 : ∃ z, xOp oSub (xVar 13) (xC (.int 1)) (en d h w wy cs [x5, some (.own, .int c.1), x7, x8, x9, some (.own, .int tp), some (.own, .int lf), some (.own, .int bt), some (.own, .int rt), some (.own, .int c.2), x15, x16, x17]) = some (.int z) := ⟨rt - 1, by simp⟩
  obtain ⟨inn, hin⟩ := ex_and (ex_chain ib_lt ib_lt (v 10 tp rfl) (v 6 c.1 rfl) v12) (ex_chain ib_lt ib_lt (v 11 lf rfl) (v 14 c.2 rfl) v13)
  have hin' : innX (en d h w wy cs [x5, some (.own, .int c.1), x7, x8, x9, some (.own, .int tp), some (.own, .int lf), some (.own, .int bt), some (.own, .int rt), some (.own, .int c.2), x15, x16, x17]) = some (.bl inn) := hin
  have e15 : ∃ b, xVar 15 (en d h w wy cs [x5, some (.own, .int c.1), x7, x8, x9, some (.own, .int tp), some (.own, .int lf), some (.own, .int bt), some (.own, .int rt), some (.own, .int c.2), some (.own, .bl inn), x16, x17]) = some (.bl b) := ⟨inn, by simp⟩
  have e3 : ∃ z, xC (.int 2) (en d h w wy cs [x5, some (.own, .int c.1), x7, x8, x9, some (.own, .int tp), some (.own, .int lf), some (.own, .int bt), some (.own, .int rt), some (.own, .int c.2), some (.own, .bl inn), x16, x17]) = some (.int z) := ⟨2, rfl⟩
  obtain ⟨b, hb⟩ := ex_yand (ex_bool (ex_chain ib_le ib_lt (v (x15 := some (.own, .bl inn)) 10 tp rfl) (v 6 c.1 rfl) (v 12 bt rfl))) (ex_yand (ex_bool (ex_chain ib_le ib_lt (v 11 lf rfl) (v 14 c.2 rfl) (v 13 rt rfl))) (ex_yor (ex_bool (ex_op ib_eq (v 3 wy rfl) e3)) (ex_ynot (ex_bool e15))))
  have hb' : condX (en d h w wy cs [x5, some (.own, .int c.1), x7, x8, x9, some (.own, .int tp), some (.own, .int lf), some (.own, .int bt), some (.own, .int rt), some (.own, .int c.2), some (.own, .bl inn), x16, x17]) = some b := hb
  cases b with
  | true =>
    refine ⟨ins cs c, inn, ?_, bx.ins hc⟩
    unfold inkC1
    simp (disch := omega) [-e_put, e_put', hin', hb', p15, if_size, st]
  | false =>
    refine ⟨cs, inn, ?_, bx⟩
    unfold inkC1
    simp (disch := omega) [-e_put, e_put', hin', hb', p15]
def inkC : ES := sSeq (sPar 10 11 (msCons (mCallR takenF 0 (msCons (mP (xPure (xVar 1))) msNil)) (msCons (mCallR takenF 0 (msCons (mP (xPure (xVar 2))) msNil)) msNil)))
  (sSeq (sAsg (mTup (msCons (mOp oAdd (mP (xOp oAdd (xVar 10) (xC (.int 1)))) (mCallR takenF 0 (msCons (mP (xOp oSub (xVar 1) (xVar 10))) msNil))) (msCons (mOp oAdd (mP (xOp oAdd (xVar 11) (xC (.int 1)))) (mCallR takenF 0 (msCons (mP (xOp oSub (xVar 2) (xVar 11))) msNil))) msNil))) (gTupD 2 (gsCons (put 12) (gsCons (put 13) gsNil))))
  (sLend 5 (sFor (srcB 5) (gTupD 2 (gsCons (put 6) (gsCons (put 14) gsNil))) inkC1)))
theorem inkC_ok (r : Row ns d) (bx : Box cs h w) (h1 : 1 ≤ h ∧ h ≤ 60) (h2 : 1 ≤ w ∧ w ≤ 60) (p6 : isPin x6 = false) (p10 : isPin x10 = false) (p11 : isPin x11 = false) (p12 : isPin x12 = false) (p13 : isPin x13 = false) (p14 : isPin x14 = false) (p15 : isPin x15 = false)
    (b6 : isBor x6 = false) (b14 : isBor x14 = false) (b15 : isBor x15 = false) (b9 : isBor x9 = false) : ∃ d' cs' y6 y14 y15 tp lf bt rt, inkC (en d h w wy cs [some (.own, .lst ((allC h w).map cellD)), x6, none, none, x9, x10, x11, x12, x13, x14, x15, none, none]) =
    some (.nx (en d' h w wy cs' [some (.own, .lst ((allC h w).map cellD)), y6, none, none, x9, some (.own, .int tp), some (.own, .int lf), some (.own, .int bt), some (.own, .int rt), y14, y15, none, none])) ∧ Row ns d' ∧ Box cs' h w ∧ isPin y6 = false ∧ isPin y14 = false ∧ isPin y15 = false ∧ isBor y6 = false ∧ isBor y14 = false ∧ isBor y15 = false := by
  have hs : h * w ≤ 10000 := Nat.le_trans (Nat.mul_le_mul h1.2 h2.2) (by decide)
  obtain ⟨tp, d1, e1, a1, b1, r1⟩ := taken_ok (m := (h : Int)) r (by omega)
  obtain ⟨lf, d2, e2, a2, b2, r2⟩ := taken_ok (m := (w : Int)) r1 (by omega)
  obtain ⟨u, d3, e3, a3, b3, r3⟩ := taken_ok (m := (h : Int) - tp) r2 (by omega)
  obtain ⟨v, d4, e4, a4, b4, r4⟩ := taken_ok (m := (w : Int) - lf) r3 (by omega)
  obtain ⟨ρ', f1, cs', y6, y14, y15, q6, q14, q15, c6, c14, c15, bx', f2⟩ := for_ok (gx := gTupD 2 (gsCons (put 6) (gsCons (put 14) gsNil))) (b := inkC1) cellD
    (fun _ ρ => ∃ (cs : List Cell) (y6 y14 y15 : Slt), isPin y6 = false ∧ isPin y14 = false ∧ isPin y15 = false ∧ isBor y6 = false ∧ isBor y14 = false ∧ isBor y15 = false ∧ Box cs h w ∧ ρ = en d4 h w wy cs [some (.bor, .lst ((allC h w).map cellD)), y6, none, none, x9, some (.own, .int tp), some (.own, .int lf), some (.own, .int (tp + 1 + u)), some (.own, .int (lf + 1 + v)), y14, y15, none, none]) (allC h w) (en d4 h w wy cs [some (.bor, .lst ((allC h w).map cellD)), x6, none, none, x9, some (.own, .int tp), some (.own, .int lf), some (.own, .int (tp + 1 + u)), some (.own, .int (lf + 1 + v)), x14, x15, none, none])
    ⟨cs, x6, x14, x15, p6, p14, p15, b6, b14, b15, bx, rfl⟩ fun k c ρ e q => by
    obtain ⟨cs, y6, y14, y15, q6, q14, q15, c6, c14, c15, bx, rfl⟩ := q
    obtain ⟨cs', b, e1, bx'⟩ := inkC1_ok (d := d4) (wy := wy) (tp := tp) (lf := lf) (bt := tp + 1 + u) (rt := lf + 1 + v) (x5 := some (.bor, .lst ((allC h w).map cellD))) (x7 := none) (x8 := none) (x9 := x9) (x16 := none) (x17 := none) (c := c) q15 bx (allC_mem (List.mem_of_getElem? e)) hs
    exact ⟨rfl, _, _, by simp [-e_put, e_put', q6, q14, cellD], .inl e1, cs', _, _, _, rfl, rfl, rfl, rfl, rfl, rfl, bx', rfl⟩
  subst f2
  refine ⟨d4, cs', y6, y14, y15, tp, lf, tp + 1 + u, lf + 1 + v, ?_, r4, bx', q6, q14, q15, c6, c14, c15⟩
  unfold inkC
  simp (disch := omega) [-e_put, e_put', e1, e2, e3, e4, p10, p11, p12, p13, if_size, f1, backO, backL, backS, c6, c14, c15, b9]
end
end C
end DL
namespace DL
open PySem PySem.Spec L2
namespace C
variable {ns : List Int}
section
variable {h w n : Nat} {x5 x6 x7 x8 x9 x10 x11 x12 x13 x14 x15 x16 x17 : Slt} {d : D} {wy : Int} {cs : List Cell}
theorem loopC_ok (r : Row ns d) (bx : Box cs h w) (h1 : 1 ≤ h ∧ h ≤ 60) (h2 : 1 ≤ w ∧ w ≤ 60) (p6 : isPin x6 = false) (b6 : isBor x6 = false) : ∃ d' cs' y6 y9 y10 y11 y12 y13 y14 y15, forE (put 9) inkC (rng 0 (n : Int)) (en d h w wy cs [some (.own, .lst ((allC h w).map cellD)), x6, none, none, none, none, none, none, none, none, none, none, none]) =
    some (.nx (en d' h w wy cs' [some (.own, .lst ((allC h w).map cellD)), y6, none, none, y9, y10, y11, y12, y13, y14, y15, none, none])) ∧ Row ns d' ∧ Box cs' h w ∧ isPin y13 = false := by
  obtain ⟨ρ', f1, d', cs', y6, y9, y10, y11, y12, y13, y14, y15, q6, q9, q10, q11, q12, q13, q14, q15, c6, c9, c14, c15, r', bx', f2⟩ := for_ok (gx := put 9) (b := inkC) (fun k : Nat => D.int (k : Int))
    (fun _ ρ => ∃ (d : D) (cs : List Cell) (y6 y9 y10 y11 y12 y13 y14 y15 : Slt), isPin y6 = false ∧ isPin y9 = false ∧ isPin y10 = false ∧ isPin y11 = false ∧ isPin y12 = false ∧ isPin y13 = false ∧ isPin y14 = false ∧ isPin y15 = false ∧ isBor y6 = false ∧ isBor y9 = false ∧ isBor y14 = false ∧ isBor y15 = false ∧ Row ns d ∧ Box cs h w ∧ ρ = en d h w wy cs [some (.own, .lst ((allC h w).map cellD)), y6, none, none, y9, y10, y11, y12, y13, y14, y15, none, none]) (List.range n) (en d h w wy cs [some (.own, .lst ((allC h w).map cellD)), x6, none, none, none, none, none, none, none, none, none, none, none])
    ⟨d, cs, x6, _, _, _, _, _, _, _, p6, rfl, rfl, rfl, rfl, rfl, rfl, rfl, b6, rfl, rfl, rfl, r, bx, rfl⟩ fun k a ρ e q => by
    obtain ⟨d, cs, y6, y9, y10, y11, y12, y13, y14, y15, q6, q9, q10, q11, q12, q13, q14, q15, c6, c9, c14, c15, r, bx, rfl⟩ := q
    obtain ⟨d', cs', z6, z14, z15, tp, lf, bt, rt, e1, r', bx', g6, g14, g15, k6, k14, k15⟩ := inkC_ok (wy := wy) (x9 := some (.own, .int (a : Int))) r bx h1 h2 q6 q10 q11 q12 q13 q14 q15 c6 c14 c15 rfl
    exact ⟨rfl, _, _, by simp [-e_put, e_put', q9], .inl e1, d', cs', _, _, _, _, _, _, _, _, g6, rfl, rfl, rfl, rfl, rfl, g14, g15, k6, rfl, k14, k15, r', bx', rfl⟩
  subst f2
  rw [rng_len]
  exact ⟨d', cs', y6, y9, y10, y11, y12, y13, y14, y15, f1, r', bx', q13⟩
/-! the walker -/
def wayL : EX := xOp oAdd (xLst (xsCons (xTup (xsCons (xC (.int 0)) (xsCons (xC (.int 1)) xsNil))) (xsCons (xTup (xsCons (xC (.int 0)) (xsCons (xNeg (xC (.int 1))) xsNil))) (xsCons (xTup (xsCons (xC (.int 1)) (xsCons (xC (.int 0)) xsNil))) (xsCons (xTup (xsCons (xNeg (xC (.int 1))) (xsCons (xC (.int 0)) xsNil))) xsNil))))) (xOp oRep (xLst (xsCons (xTup (xsCons (xC (.int 1)) (xsCons (xC (.int 1)) xsNil))) (xsCons (xTup (xsCons (xNeg (xC (.int 1))) (xsCons (xC (.int 1)) xsNil))) xsNil))) (xOp oSub (xVar 3) (xC (.int 4))))
def inkE : ES := sSeq (sAsg (mP (xC (.bl true))) (gSub' 4 (xVar 16) setT)) (sSeq (sAsg (mCallR F_law_pick 0 (msCons (mP wayL) msNil)) (gTupD 2 (gsCons (put 17) (gsCons (put 13) gsNil))))
  (sIf (tP' (yAnd (xBool (xChain oLe oLt (xC (.int 0)) (xOp oAdd (xOp ixD (xVar 16) (xC (.int 0))) (xVar 17)) (xVar 1))) (xBool (xChain oLe oLt (xC (.int 0)) (xOp oAdd (xOp ixD (xVar 16) (xC (.int 1))) (xVar 13)) (xVar 2))))) (sAsg (mP (xTup (xsCons (xOp oAdd (xOp ixD (xVar 16) (xC (.int 0))) (xVar 17)) (xsCons (xOp oAdd (xOp ixD (xVar 16) (xC (.int 1))) (xVar 13)) xsNil)))) (put 16)) sNext))
theorem ways {t : Env} (hw : wy = 4 ∨ wy = 5) : ∃ xs : List D, wayL (en d h w wy cs t) = some (.lst xs) ∧ 0 < xs.length ∧ xs.length < 1000000 ∧ pures xs = true ∧ ∀ (j : Nat) (hj : j < xs.length), ∃ a b : Int, xs[j] = .tup [.int a, .int b] := by
  rcases hw with rfl | rfl
  · refine ⟨[.tup [.int 0, .int 1], .tup [.int 0, .int (-1)], .tup [.int 1, .int 0], .tup [.int (-1), .int 0]], ?_, by decide, by decide, rfl, fun j hj => ?_⟩
    · have e1 := rep_ok (xs := [.tup [.int 1, .int 1], .tup [.int (-1), .int 1]]) (j := 0) rfl (by rw [size_eq]; decide) (by decide)
      have e1' : oRep (.lst [.tup [.int 1, .int 1], .tup [.int (-1), .int 1]]) (.int 0) = some (.lst []) := e1
      unfold wayL
      simp (disch := omega) [if_size, e1', oAdd]
    · have hj' : j < 4 := hj
      match j, hj' with
      | 0, _ => exact ⟨_, _, rfl⟩
      | 1, _ => exact ⟨_, _, rfl⟩
      | 2, _ => exact ⟨_, _, rfl⟩
      | 3, _ => exact ⟨_, _, rfl⟩
  · refine ⟨[.tup [.int 0, .int 1], .tup [.int 0, .int (-1)], .tup [.int 1, .int 0], .tup [.int (-1), .int 0], .tup [.int 1, .int 1], .tup [.int (-1), .int 1]], ?_, by decide, by decide, rfl, fun j hj => ?_⟩
    · have e1 := rep_ok (xs := [.tup [.int 1, .int 1], .tup [.int (-1), .int 1]]) (j := 1) rfl (by rw [size_eq]; decide) (by decide)
      have e1' : oRep (.lst [.tup [.int 1, .int 1], .tup [.int (-1), .int 1]]) (.int 1) = some (.lst [.tup [.int 1, .int 1], .tup [.int (-1), .int 1]]) := e1
      unfold wayL
      simp (disch := omega) [if_size, e1', oAdd]
    · have hj' : j < 6 := hj
      match j, hj' with
      | 0, _ => exact ⟨_, _, rfl⟩
      | 1, _ => exact ⟨_, _, rfl⟩
      | 2, _ => exact ⟨_, _, rfl⟩
      | 3, _ => exact ⟨_, _, rfl⟩
      | 4, _ => exact ⟨_, _, rfl⟩
      | 5, _ => exact ⟨_, _, rfl⟩
theorem inkE_ok {c : Cell} (hw : wy = 4 ∨ wy = 5) (r : Row ns d) (bx : Box cs h w) (hc : 0 ≤ c.1 ∧ c.1 < (h : Int) ∧ 0 ≤ c.2 ∧ c.2 < (w : Int)) (hs : h * w ≤ 10000) (p13 : isPin x13 = false) (p17 : isPin x17 = false) : ∃ d' cs' c' y13 y17, inkE (en d h w wy cs [x5, x6, x7, x8, x9, x10, x11, x12, x13, x14, x15, some (.own, cellD c), x17]) =
    some (.nx (en d' h w wy cs' [x5, x6, x7, x8, x9, x10, x11, x12, y13, x14, x15, some (.own, cellD c'), y17])) ∧ Row ns d' ∧ Box cs' h w ∧ (0 ≤ c'.1 ∧ c'.1 < (h : Int) ∧ 0 ≤ c'.2 ∧ c'.2 < (w : Int)) ∧ isPin y13 = false ∧ isPin y17 = false := by
  have few := bx.few
  have st := setT_c (c := c) (show cs.length < 1000000 by omega)
  obtain ⟨xs, e0, l0, l1, px, at_⟩ := ways (d := d) (h := h) (w := w) (cs := ins cs c) (t := [x5, x6, x7, x8, x9, x10, x11, x12, x13, x14, x15, some (.own, cellD c), x17]) hw
  obtain ⟨j, hj, d', e1, r'⟩ := pick_ok r l0 l1 px
  obtain ⟨a, b, eab⟩ := at_ j hj
  rw [eab] at e1
  have i0 : ixD (cellD c) (.int 0) = some (.int c.1) := rfl
  have i1 : ixD (cellD c) (.int 1) = some (.int c.2) := rfl
  by_cases q : (0 ≤ c.1 + a ∧ c.1 + a < (h : Int)) ∧ (0 ≤ c.2 + b ∧ c.2 + b < (w : Int))
  · obtain ⟨⟨q1, q2⟩, q3, q4⟩ := q
    refine ⟨d', ins cs c, (c.1 + a, c.2 + b), some (.own, .int b), some (.own, .int a), ?_, r', bx.ins hc, ⟨q1, q2, q3, q4⟩, rfl, rfl⟩
    unfold inkE
    simp (disch := omega) [-e_put, e_put', st, e0, e1, p13, p17, i0, i1, q1, q2, q3, q4, if_size]
    rfl
  · refine ⟨d', ins cs c, c, some (.own, .int b), some (.own, .int a), ?_, r', bx.ins hc, hc, rfl, rfl⟩
    unfold inkE
    simp (disch := omega) [-e_put, e_put', st, e0, e1, p13, p17, i0, i1, if_size]
    by_cases q1 : 0 ≤ c.1 + a
    · by_cases q2 : c.1 + a < (h : Int)
      · by_cases q3 : 0 ≤ c.2 + b
        · have q4 : ¬ c.2 + b < (w : Int) := fun z => q ⟨⟨q1, q2⟩, q3, z⟩
          simp [q1, q2, q3, q4]
        · simp [q1, q2, q3]
      · simp [q1, q2]
    · simp [q1]
theorem loopE_ok {c : Cell} (hw : wy = 4 ∨ wy = 5) (r : Row ns d) (bx : Box cs h w) (hc : 0 ≤ c.1 ∧ c.1 < (h : Int) ∧ 0 ≤ c.2 ∧ c.2 < (w : Int)) (hs : h * w ≤ 10000) : ∃ d' cs' x9' c' y13 y17, forE (put 9) inkE (rng 0 (n : Int)) (en d h w wy cs [x5, x6, x7, x8, none, x10, x11, x12, none, x14, x15, some (.own, cellD c), none]) =
    some (.nx (en d' h w wy cs' [x5, x6, x7, x8, x9', x10, x11, x12, y13, x14, x15, some (.own, cellD c'), y17])) ∧ Row ns d' ∧ Box cs' h w ∧ isPin y13 = false ∧ isPin y17 = false := by
  obtain ⟨ρ', f1, d', cs', x9', c', y13, y17, p9, p13, p17, r', bx', hc', f2⟩ := for_ok (gx := put 9) (b := inkE) (fun k : Nat => D.int (k : Int))
    (fun _ ρ => ∃ (d : D) (cs : List Cell) (x9 : Slt) (c : Cell) (y13 y17 : Slt), isPin x9 = false ∧ isPin y13 = false ∧ isPin y17 = false ∧ Row ns d ∧ Box cs h w ∧ (0 ≤ c.1 ∧ c.1 < (h : Int) ∧ 0 ≤ c.2 ∧ c.2 < (w : Int)) ∧ ρ = en d h w wy cs [x5, x6, x7, x8, x9, x10, x11, x12, y13, x14, x15, some (.own, cellD c), y17]) (List.range n) (en d h w wy cs [x5, x6, x7, x8, none, x10, x11, x12, none, x14, x15, some (.own, cellD c), none])
    ⟨d, cs, none, c, none, none, rfl, rfl, rfl, r, bx, hc, rfl⟩ fun k a ρ e q => by
    obtain ⟨d, cs, x9, c, y13, y17, p9, p13, p17, r, bx, hc, rfl⟩ := q
    obtain ⟨d', cs', c', z13, z17, e1, r', bx', hc', g13, g17⟩ := inkE_ok (x5 := x5) (x6 := x6) (x7 := x7) (x8 := x8) (x9 := some (.own, .int (a : Int))) (x10 := x10) (x11 := x11) (x12 := x12) (x14 := x14) (x15 := x15) hw r bx hc hs p13 p17
    exact ⟨rfl, _, _, by simp [-e_put, e_put', p9], .inl e1, d', cs', _, c', _, _, rfl, g13, g17, r', bx', hc', rfl⟩
  subst f2
  rw [rng_len]
  exact ⟨d', cs', x9', c', y13, y17, f1, r', bx', p13, p17⟩
end
end C
end DL
namespace DL
open PySem PySem.Spec L2
namespace C
variable {ns : List Int}
/-- an ink of the laws: strictly sorted cells, at most high * wide of them, nine cells off the frame at most -/
structure Inked (cs : List Cell) (h w : Nat) : Prop where
  len : cs.length ≤ h * w
  row : ∀ c ∈ cs, -9 ≤ c.1 ∧ c.1 < (h : Int) + 9
  col : ∀ c ∈ cs, -9 ≤ c.2 ∧ c.2 < (w : Int) + 9
  srt : cs.Pairwise ltc
  box : ∃ t l : Int, (-9 ≤ t ∧ t ≤ 9) ∧ (-9 ≤ l ∧ l ≤ 9) ∧ ∀ c ∈ cs, (t ≤ c.1 ∧ c.1 < t + (h : Int)) ∧ (l ≤ c.2 ∧ c.2 < l + (w : Int))
theorem Inked.good {cs : List Cell} {h w : Nat} (i : Inked cs h w) (hh : h ≤ 20) (hw : w ≤ 20) : Good cs := by
  have hl := i.len
  have hm : h * w ≤ 20 * 20 := Nat.mul_le_mul hh hw
  exact ⟨by omega, fun c hc => by have := i.row c hc; omega, fun c hc => by have := i.col c hc; omega, i.srt⟩
def shiftS : ES := sRet (mP (xCall tupleD (xsCons (xCall sortedA (xsCons (xComp [6, 14] (xIt (xCall listA (xsCons (xVar 4) xsNil))) (gTupD 2 (gsCons (putB 6) (gsCons (putB 14) gsNil))) yYes (xTup (xsCons (xOp oAdd (xVar 6) (xVar 17)) (xsCons (xOp oAdd (xVar 14) (xVar 13)) xsNil)))) xsNil)) xsNil)))
def shiftC (a b : Int) (c : Cell) : Cell := (c.1 + a, c.2 + b)
theorem shiftS_ok {h w : Nat} {x5 x6 x7 x8 x9 x10 x11 x12 x14 x15 x16 : Slt} {d : D} {wy a b : Int} {cs : List Cell} (hl : cs.length < 1000000) : shiftS (en d h w wy cs [x5, x6, x7, x8, x9, x10, x11, x12, some (.own, .int b), x14, x15, x16, some (.own, .int a)]) = some (.rt (inkD (srt (cs.map (shiftC a b)))) (en d h w wy cs [x5, x6, x7, x8, x9, x10, x11, x12, some (.own, .int b), x14, x15, x16, some (.own, .int a)])) := by
  have c : compE (gTupD 2 (gsCons (putB 6) (gsCons (putB 14) gsNil))) yYes (xTup (xsCons (xOp oAdd (xVar 6) (xVar 17)) (xsCons (xOp oAdd (xVar 14) (xVar 13)) xsNil))) (en d h w wy cs [x5, none, x7, x8, x9, x10, x11, x12, some (.own, .int b), none, x15, x16, some (.own, .int a)]) (cs.map cellD) = some ((cs.map (shiftC a b)).map cellD) := by
    rw [List.map_map]
    refine comp_all _ _ _ fun c hc => ⟨en d h w wy cs [x5, some (.bor, .int c.1), x7, x8, x9, x10, x11, x12, some (.own, .int b), some (.bor, .int c.2), x15, x16, some (.own, .int a)], by simp [cellD], rfl, ?_⟩
    simp (disch := omega) [if_size]
    rfl
  have zl : ((cs.map (shiftC a b)).map cellD).length ≤ sizeLine := by
    rw [List.length_map, List.length_map, size_eq]
    omega
  have ps := pures_cells (srt (cs.map (shiftC a b)))
  have so := sortedA_l (cs.map (shiftC a b))
  unfold shiftS inkD
  simp [-List.map_map, -List.length_map, listA_c, c, zl, so, tupleD, ps]
theorem shift_inked {h w : Nat} {a b : Int} {cs : List Cell} (bx : Box cs h w) (ha : -9 ≤ a ∧ a ≤ 9) (hb : -9 ≤ b ∧ b ≤ 9) : Inked (srt (cs.map (shiftC a b))) h w := by
  have nd : (cs.map (shiftC a b)).Nodup := by
    refine List.pairwise_map.mpr (bx.nd.imp fun {x y} ne e => ne ?_)
    unfold shiftC at e
    have e1 := congrArg Prod.fst e
    have e2 := congrArg Prod.snd e
    simp only at e1 e2
    exact Prod.ext (by omega) (by omega)
  refine ⟨by rw [srt_len, List.length_map]; exact bx.few, fun c hc => ?_, fun c hc => ?_, srt_pair nd, a, b, ha, hb, fun c hc => ?_⟩
  · obtain ⟨z, hz, rfl⟩ := List.mem_map.mp (srt_mem.mp hc)
    have := bx.box z hz
    unfold shiftC
    simp only
    omega
  · obtain ⟨z, hz, rfl⟩ := List.mem_map.mp (srt_mem.mp hc)
    have := bx.box z hz
    unfold shiftC
    simp only
    omega
  · obtain ⟨z, hz, rfl⟩ := List.mem_map.mp (srt_mem.mp hc)
    have := bx.box z hz
    unfold shiftC
    simp only
    omega
/-- the last two statements -/
def endS : ES := sSeq (sAsg (mIf (mBool (mOp oEq (mCallR takenF 0 (msCons (mP (xC (.int 4))) msNil)) (mP (xC (.int 0))))) (mTup (msCons (mCallR F_law_signed 0 (msCons (mP (xC (.int 9))) msNil)) (msCons (mCallR F_law_signed 0 (msCons (mP (xC (.int 9))) msNil)) msNil))) (mP (xTup (xsCons (xC (.int 0)) (xsCons (xC (.int 0)) xsNil))))) (gTupD 2 (gsCons (put 17) (gsCons (put 13) gsNil)))) shiftS
theorem endS_ok {h w : Nat} {x5 x6 x7 x8 x9 x10 x11 x12 x13 x14 x15 x16 x17 : Slt} {d : D} {wy : Int} {cs : List Cell} (r : Row ns d) (bx : Box cs h w) (hs : h * w ≤ 10000) (p13 : isPin x13 = false) (p17 : isPin x17 = false) :
    ∃ cs' d' ρ', endS (en d h w wy cs [x5, x6, x7, x8, x9, x10, x11, x12, x13, x14, x15, x16, x17]) = some (.rt (inkD cs') ρ') ∧ ρ'[0]? = some (some (.pin, d')) ∧ Inked cs' h w ∧ Row ns d' := by
  have few := bx.few
  obtain ⟨v, d1, e1, a1, b1, r1⟩ := taken_ok (m := 4) r (by omega)
  by_cases q : v = 0
  · obtain ⟨a, d2, e2, a2, b2, r2⟩ := signed_ok (m := 9) r1 (by omega)
    obtain ⟨b, d3, e3, a3, b3, r3⟩ := signed_ok (m := 9) r2 (by omega)
    have sh := shiftS_ok (d := d3) (h := h) (w := w) (wy := wy) (a := a) (b := b) (cs := cs) (x5 := x5) (x6 := x6) (x7 := x7) (x8 := x8) (x9 := x9) (x10 := x10) (x11 := x11) (x12 := x12) (x14 := x14) (x15 := x15) (x16 := x16) (by omega)
    refine ⟨_, d3, en d3 h w wy cs [x5, x6, x7, x8, x9, x10, x11, x12, some (.own, .int b), x14, x15, x16, some (.own, .int a)], ?_, rfl, shift_inked bx ⟨a2, b2⟩ ⟨a3, b3⟩, r3⟩
    unfold endS
    simp (disch := omega) [-e_put, e_put', e1, q, e2, e3, if_size, p13, p17, sh]
  · have sh := shiftS_ok (d := d1) (h := h) (w := w) (wy := wy) (a := 0) (b := 0) (cs := cs) (x5 := x5) (x6 := x6) (x7 := x7) (x8 := x8) (x9 := x9) (x10 := x10) (x11 := x11) (x12 := x12) (x14 := x14) (x15 := x15) (x16 := x16) (by omega)
    refine ⟨_, d1, en d1 h w wy cs [x5, x6, x7, x8, x9, x10, x11, x12, some (.own, .int 0), x14, x15, x16, some (.own, .int 0)], ?_, rfl, shift_inked bx (a := 0) (b := 0) (by omega) (by omega), r1⟩
    unfold endS
    simp (disch := omega) [-e_put, e_put', e1, q, if_size, p13, p17, sh]
theorem ink_ok {d : D} {h w : Nat} (r : Row ns d) (h1 : 1 ≤ h ∧ h ≤ 20) (h2 : 1 ≤ w ∧ w ≤ 20) : ∃ (cs : List Cell) (d' : D), F_law_ink d [.int (h : Int), .int (w : Int)] = some (inkD cs, d') ∧ Inked cs h w ∧ Row ns d' := by
  have hs : h * w ≤ 10000 := Nat.le_trans (Nat.mul_le_mul h1.2 h2.2) (by decide)
  have bx0 : Box [] h w := ⟨.nil, fun c hc => by cases hc⟩
  obtain ⟨wy, d1, e1, a1, b1, r1⟩ := taken_ok (m := 6) r (by omega)
  obtain ⟨x6, p6, b6, f1⟩ := every_ok (h := h) (w := w) (d := d1) (wy := wy) (cs := []) (x6 := none) (x7 := none) (x8 := none) (x9 := none) (x10 := none) (x11 := none) (x12 := none) (x13 := none) (x14 := none) (x15 := none) (x16 := none) (x17 := none) (by omega) (by omega) rfl rfl
  have e0 : s_law_ink = (sSeq (sPar 3 4 (msCons (mCallR takenF 0 (msCons (mP (xC (.int 6))) msNil)) (msCons (mP (xC (.dT [] []))) msNil)))
    (sSeq (sAsg (mP (xLst xsNil)) (put 5))
    (sSeq (sFor (iP (xRng1 (xsCons (xVar 1) xsNil))) (put 6) (sAsg (mP (xOp oAdd (xVar 5) (xComp [14] (xRng1 (xsCons (xVar 2) xsNil)) (putB 14) yYes (xTup (xsCons (xPure (xVar 6)) (xsCons (xPure (xVar 14)) xsNil)))))) (put 5)))
    (sSeq (sIf (tP' (xBool (xOp oLt (xVar 3) (xC (.int 2))))) (sSeq (sAsg (mCallR F_law_pick 0 (msCons (mP (xLst (xsCons (xC (.int 2)) (xsCons (xC (.int 2)) (xsCons (xC (.int 3)) (xsCons (xC (.int 4)) xsNil)))))) msNil)) (put 7)) (sLend 5 (sFor (srcB 5) (put 8) inkB)))
      (sIf (tP' (xBool (xOp oLt (xVar 3) (xC (.int 4))))) (sFor (mRng1 (msCons (mOp oAdd (mP (xC (.int 1))) (mCallR takenF 0 (msCons (mP (xC (.int 4))) msNil))) msNil)) (put 9) inkC)
        (sSeq (sAsg (mTup (msCons (mCallR takenF 0 (msCons (mP (xPure (xVar 1))) msNil)) (msCons (mCallR takenF 0 (msCons (mP (xPure (xVar 2))) msNil)) msNil))) (put 16))
          (sFor (mRng1 (msCons (mOp oAdd (mP (xC (.int 1))) (mCallR takenF 0 (msCons (mP (xOp oMul (xVar 1) (xVar 2))) msNil))) msNil)) (put 9) inkE)))) endS)))) := rfl
  have fd0 : D.dT [] [] = fd [] := rfl
  by_cases q1 : wy < 2
  · obtain ⟨j, hj, d2, e2, r2⟩ := pick_ok (xs := [.int 2, .int 2, .int 3, .int 4]) r1 (by decide) (by decide) rfl
    obtain ⟨m, em, c1, c2⟩ : ∃ m : Int, [D.int 2, .int 2, .int 3, .int 4][j] = .int m ∧ 2 ≤ m ∧ m ≤ 4 := by
      have hj' : j < 4 := hj
      match j, hj' with
      | 0, _ => exact ⟨2, rfl, by omega, by omega⟩
      | 1, _ => exact ⟨2, rfl, by omega, by omega⟩
      | 2, _ => exact ⟨3, rfl, by omega, by omega⟩
      | 3, _ => exact ⟨4, rfl, by omega, by omega⟩
    rw [em] at e2
    obtain ⟨d3, cs, x8, p8, b8, f2, r3, bx⟩ := loopB_ok (wy := wy) (x6 := x6) b6 r2 ⟨c1, c2⟩ bx0 hs
    obtain ⟨cs', d4, ρ', f3, g0, ik, r4⟩ := endS_ok (x5 := some (.own, .lst ((allC h w).map cellD))) (x6 := x6) (x7 := some (.own, .int m)) (x8 := x8) (x9 := none) (x10 := none) (x11 := none) (x12 := none) (x13 := none) (x14 := none) (x15 := none) (x16 := none) (x17 := none) (wy := wy) r3 bx hs rfl rfl
    refine ⟨cs', d4, ?_, ik, r4⟩
    unfold F_law_ink
    rw [e0]
    simp (disch := omega) [-e_put, e_put', -e_lend, fd0, e1, if_size, v_rng1, f1, q1, e2, f2, f3, g0]
  · by_cases q2 : wy < 4
    · obtain ⟨u, d2, e2, a2, b2, r2⟩ := taken_ok (m := 4) r1 (by omega)
      obtain ⟨u, rfl⟩ := Int.eq_ofNat_of_zero_le a2
      have c1 : (1 : Int) + (u : Int) = ((u + 1 : Nat) : Int) := by omega
      obtain ⟨d3, cs, y6, y9, y10, y11, y12, y13, y14, y15, f2, r3, bx, p13⟩ := loopC_ok (n := u + 1) (wy := wy) r2 bx0 (by omega) (by omega) p6 b6
      obtain ⟨cs', d4, ρ', f3, g0, ik, r4⟩ := endS_ok (x5 := some (.own, .lst ((allC h w).map cellD))) (x6 := y6) (x7 := none) (x8 := none) (x9 := y9) (x10 := y10) (x11 := y11) (x12 := y12) (x14 := y14) (x15 := y15) (x16 := none) (x17 := none) (wy := wy) r3 bx hs p13 rfl
      refine ⟨cs', d4, ?_, ik, r4⟩
      unfold F_law_ink
      rw [e0]
      simp (disch := omega) [-e_put, e_put', -e_lend, -Int.natCast_add, fd0, e1, if_size, v_rng1, f1, q1, q2, e2, c1, mRng1F, f2, f3, g0]
    · obtain ⟨u, d2, e2, a2, b2, r2⟩ := taken_ok (m := (h : Int)) r1 (by omega)
      obtain ⟨v, d3, e3, a3, b3, r3⟩ := taken_ok (m := (w : Int)) r2 (by omega)
      have hw1 : 1 * 1 ≤ h * w := Nat.mul_le_mul h1.1 h2.1
      obtain ⟨z, d4, e4, a4, b4, r4⟩ := taken_ok (m := (h : Int) * (w : Int)) r3 (by
        rw [← Int.natCast_mul]
        omega)
      obtain ⟨z, rfl⟩ := Int.eq_ofNat_of_zero_le a4
      have c1 : (1 : Int) + (z : Int) = ((z + 1 : Nat) : Int) := by omega
      obtain ⟨d5, cs, x9, c', y13, y17, f2, r5, bx, p13, p17⟩ := loopE_ok (n := z + 1) (wy := wy) (c := (u, v)) (x5 := some (.own, .lst ((allC h w).map cellD))) (x6 := x6) (x7 := none) (x8 := none) (x10 := none) (x11 := none) (x12 := none) (x14 := none) (x15 := none) (by omega) r4 bx0 ⟨a2, b2, a3, b3⟩ hs
      obtain ⟨cs', d6, ρ', f3, g0, ik, r6⟩ := endS_ok (x5 := some (.own, .lst ((allC h w).map cellD))) (x6 := x6) (x7 := none) (x8 := none) (x9 := x9) (x10 := none) (x11 := none) (x12 := none) (x14 := none) (x15 := none) (x16 := some (.own, cellD c')) (wy := wy) r5 bx hs p13 p17
      have uv : D.tup [.int u, .int v] = cellD (u, v) := rfl
      refine ⟨cs', d6, ?_, ik, r6⟩
      unfold F_law_ink
      rw [e0]
      simp (disch := omega) [-e_put, e_put', -e_lend, -Int.natCast_add, fd0, e1, if_size, v_rng1, f1, q1, q2, e2, e3, e4, v_mul, c1, uv, mRng1F, f2, f3, g0]
end C
end DL
namespace DL
open PySem PySem.Spec PyProof.Rows L2
/-! ### the module's own tuples -/
def atomD : Value → Option D
  | .int i _ => some (.int i)
  | .str x _ => some (.str x)
  | .bool b => some (.bl b)
  | .none => some .non
  | _ => none
def atomsD : List Value → Option (List D)
  | [] => some []
  | u :: us => (atomD u).bind fun d => (atomsD us).bind fun ds => some (d :: ds)
end DL
namespace DL
open PySem PySem.Spec L2
/-! ### inks and lists compared; min and max of numbers -/
theorem pys_cells (cs : List Cell) : pys (cs.map cellD) = cs.map fun c => PyData.tuple [.int c.1, .int c.2] := by
  rw [pys_map, List.map_map]
  exact List.map_congr_left fun c _ => py_cell c
theorem depth_cells : ∀ cs : List Cell, PyData.depthAll (cs.map fun c => PyData.tuple [.int c.1, .int c.2]) ≤ 1
  | [] => Nat.zero_le _
  | c :: cs => by
    rw [List.map_cons, PyData.depthAll]
    have := depth_cells cs
    have e : (PyData.tuple [.int c.1, .int c.2]).depth = 1 := by simp [PyData.depth, PyData.depthAll]
    omega
theorem lay_cells : ∀ cs : List Cell, PyData.canLayAll0 (cs.map fun c => PyData.tuple [.int c.1, .int c.2]) = true
  | [] => rfl
  | c :: cs => by
    rw [List.map_cons, PyData.canLayAll0, lay_cells cs]
    simp [PyData.canLay0, PyData.canLayAll0]
theorem ok_ink (cs : List Cell) : okD (inkD cs) = true := by
  unfold okD inkD SeqAt.shaped
  rw [py, pys_cells, PyData.canLay0, PyData.depth, lay_cells, Bool.true_and, decide_eq_true_eq]
  have := depth_cells cs
  omega
theorem eqv_cells : ∀ as bs : List Cell, PyData.eqvAll (as.map fun c => PyData.tuple [.int c.1, .int c.2]) (bs.map fun c => PyData.tuple [.int c.1, .int c.2]) = decide (as = bs)
  | [], [] => by simp [PyData.eqvAll]
  | [], b :: bs => by simp [PyData.eqvAll]
  | a :: as, [] => by simp [PyData.eqvAll]
  | a :: as, b :: bs => by
    rw [List.map_cons, List.map_cons, PyData.eqvAll, eqv_cells as bs]
    have e : PyData.eqv (.tuple [.int a.1, .int a.2]) (.tuple [.int b.1, .int b.2]) = decide (a = b) := by
      by_cases h1 : a = b
      · subst h1
        simp [PyData.eqv, PyData.eqvAll]
      · rw [decide_eq_false h1]
        have z : ¬ (a.1 = b.1 ∧ a.2 = b.2) := fun h => h1 (Prod.ext h.1 h.2)
        simpa [PyData.eqv, PyData.eqvAll] using z
    rw [e]
    by_cases h1 : a = b
    · by_cases h2 : as = bs
      · simp [h1, h2]
      · simp [h1, h2]
    · simp [h1]
theorem eqv_ink (as bs : List Cell) : eqv (inkD as) (inkD bs) = decide (as = bs) := by
  unfold eqv inkD
  rw [py, py, pys_cells, pys_cells, PyData.eqv]
  exact eqv_cells as bs
theorem eq_ink (as bs : List Cell) : oEq (inkD as) (inkD bs) = some (.bl (decide (as = bs))) := eq_of (ok_ink as) (ok_ink bs) (eqv_ink as bs)
theorem ne_ink (as bs : List Cell) : oNe (inkD as) (inkD bs) = some (.bl (!decide (as = bs))) := oNe_of (ok_ink as) (ok_ink bs) (eqv_ink as bs)
theorem eq_ink0 (as : List Cell) : oEq (inkD as) (.tup []) = some (.bl (decide (as = []))) := eq_ink as []
def minI : List Int → Int
  | [] => 0
  | n :: ns => ns.foldl min n
def maxI : List Int → Int
  | [] => 0
  | n :: ns => ns.foldl max n
theorem foldl_min_le : ∀ (ns : List Int) (n : Int), ns.foldl min n ≤ n ∧ ∀ m ∈ ns, ns.foldl min n ≤ m
  | [], n => ⟨Int.le_refl _, fun m h => by cases h⟩
  | k :: ns, n => by
    obtain ⟨h1, h2⟩ := foldl_min_le ns (min n k)
    refine ⟨Int.le_trans h1 (Int.min_le_left ..), fun m hm => ?_⟩
    rcases List.mem_cons.mp hm with rfl | hm
    · exact Int.le_trans h1 (Int.min_le_right ..)
    · exact h2 m hm
theorem foldl_min_mem : ∀ (ns : List Int) (n : Int), ns.foldl min n ∈ n :: ns
  | [], n => List.mem_cons_self ..
  | k :: ns, n => by
    have := foldl_min_mem ns (min n k)
    show ns.foldl min (min n k) ∈ n :: k :: ns
    rcases List.mem_cons.mp this with h | h
    · rw [h]
      by_cases c : n ≤ k
      · rw [Int.min_eq_left c]; simp
      · rw [Int.min_eq_right (by omega)]; simp
    · exact List.mem_cons_of_mem _ (List.mem_cons_of_mem _ h)
theorem foldl_max_ge : ∀ (ns : List Int) (n : Int), n ≤ ns.foldl max n ∧ ∀ m ∈ ns, m ≤ ns.foldl max n
  | [], n => ⟨Int.le_refl _, fun m h => by cases h⟩
  | k :: ns, n => by
    obtain ⟨h1, h2⟩ := foldl_max_ge ns (max n k)
    refine ⟨Int.le_trans (Int.le_max_left ..) h1, fun m hm => ?_⟩
    rcases List.mem_cons.mp hm with rfl | hm
    · exact Int.le_trans (Int.le_max_right ..) h1
    · exact h2 m hm
theorem foldl_max_mem : ∀ (ns : List Int) (n : Int), ns.foldl max n ∈ n :: ns
  | [], n => List.mem_cons_self ..
  | k :: ns, n => by
    have := foldl_max_mem ns (max n k)
    show ns.foldl max (max n k) ∈ n :: k :: ns
    rcases List.mem_cons.mp this with h | h
    · rw [h]
      by_cases c : n ≤ k
      · rw [Int.max_eq_right c]; simp
      · rw [Int.max_eq_left (by omega)]; simp
    · exact List.mem_cons_of_mem _ (List.mem_cons_of_mem _ h)
theorem minI_mem {ns : List Int} (h : ns ≠ []) : minI ns ∈ ns := by
  cases ns with
  | nil => exact absurd rfl h
  | cons n ns => exact foldl_min_mem ns n
theorem minI_le {ns : List Int} {m : Int} (h : m ∈ ns) : minI ns ≤ m := by
  cases ns with
  | nil => cases h
  | cons n ns => exact (List.mem_cons.mp h).elim (fun e => e ▸ (foldl_min_le ns n).1) fun q => (foldl_min_le ns n).2 m q
theorem maxI_mem {ns : List Int} (h : ns ≠ []) : maxI ns ∈ ns := by
  cases ns with
  | nil => exact absurd rfl h
  | cons n ns => exact foldl_max_mem ns n
theorem maxI_ge {ns : List Int} {m : Int} (h : m ∈ ns) : m ≤ maxI ns := by
  cases ns with
  | nil => cases h
  | cons n ns => exact (List.mem_cons.mp h).elim (fun e => e ▸ (foldl_max_ge ns n).1) fun q => (foldl_max_ge ns n).2 m q
end DL
namespace DL
open PySem PySem.Spec PyProof.Rows L2
/-! ### {k: v, ..} with tuples as keys -/
def flatP : List (V × V) → List V
  | [] => []
  | p :: r => p.1 :: p.2 :: flatP r
def tPM (K : PySem.W.Frag) (ms : EMs) (σ : L2.St) (H : Hp) (Q : List (V × V) → Hp → Prop) : Prop := ∃ c ρ fp ds ρ', Ok K c σ H ρ fp ∧ ms ρ = some (ds, ρ') ∧ ∀ ps H' fp' F, Ok K c σ H' ρ' fp' → Vals' K c H' ρ' fp' ds (flatP ps) F → Q ps H'
structure DPP (X : Cx) (pos : Pos) (keys : List (Option Expr)) (values : List Expr) (ms : EMs) : Prop where
  run : ∀ (pins : List (Addr × Obj)) (s : Shared) (σ : L2.St) (H : Hp) (Q : List (V × V) → Hp → Prop), Inv X pins σ H s → tPM X.K ms σ H Q →
    wpAny (model X.prog X.w) X.A (evalPairs (pairTrees keys values X.env pos)) (fun vs s' => ∃ ps H', Inv X pins σ H' s' ∧ VV ps vs ∧ Q ps H') X.xe s
section
variable {X : Cx} {pos : Pos} {k v : Expr} {ks keys : List (Option Expr)} {vs values : List Expr} {mk mv : EM} {ms : EMs}
theorem dpp_nil : DPP X pos [] [] msNil := ⟨fun pins s σ H Q I ⟨c, ρ, fp, d, ρ', h, e, k⟩ => by
  cases e
  exact pairTrees_nil_walk ⟨[], H, I, .nil, k [] H fp [] h ⟨⟨rfl, rfl⟩, List.nodup_nil, fun _ z => (by cases z), fun _ _ _ _ _ _ z => by cases z⟩⟩⟩
theorem dpp_cons (hk : DM X k mk) (hv : DM X v mv) (hr : DPP X pos ks vs ms) : DPP X pos (some k :: ks) (v :: vs) (msCons mk (msCons mv ms)) := ⟨fun pins s σ H Q I ⟨c, ρ, fp, d, ρ', h, e, kk⟩ => by
  obtain ⟨⟨x, ρ1⟩, e1, e⟩ := Option.bind_eq_some_iff.mp e
  obtain ⟨⟨xs, ρ2⟩, e2, e⟩ := Option.bind_eq_some_iff.mp e
  cases e
  obtain ⟨⟨y, ρ3⟩, e3, e2⟩ := Option.bind_eq_some_iff.mp e2
  obtain ⟨⟨zs, ρ4⟩, e4, e2⟩ := Option.bind_eq_some_iff.mp e2
  cases e2
  refine pairTrees_cons_walk (thn (hk.run pins s σ H (fun u H1 => tM X.K mv σ H1 fun w H2 => tPM X.K ms σ H2 fun ps H3 => Q ((u, w) :: ps) H3) I ⟨c, ρ, fp, x, ρ1, h, e1, fun v1 H1 fp1 F1 h1 x1 => ⟨sub c H1 ρ1 fp1, ρ1, fp1, y, ρ3, h1.self, e3, fun v2 H2 fp2 F2 h2 x2 => ⟨sub (sub c H1 ρ1 fp1) H2 ρ3 fp2, ρ3, fp2, zs, ρ4, h2.self, e4, fun ps H3 fp3 F3 h3 x3 => ?_⟩⟩⟩) fun u s1 ⟨v1, H1, I1, r1, q1⟩ => thn (hv.run pins s1 σ H1 _ I1 q1) fun w s2 ⟨v2, H2, I2, r2, q2⟩ => thn (hr.run pins s2 σ H2 _ I2 q2) fun ws s3 ⟨ps, H3, I3, rel, q3⟩ => ⟨(v1, v2) :: ps, H3, I3, .cons ⟨r1, r2⟩ rel, q3⟩)
  have h23 := h2.trans h3
  have y := Vals'.cons (x2.later h2 h3) (x3.trans h2) (x2.apart fun a ha => (x3.ow a ha).1)
  exact kk ((v1, v2) :: ps) H3 fp3 (F1 ++ (F2 ++ F3)) (h1.trans h23) (Vals'.cons (x1.later h1 h23) (y.trans h1) (x1.apart fun a ha => (y.ow a ha).1))⟩
end
def dispD : List D → List (List Key) → List D → Option D
  | [], ks, xs => some (.dT ks xs)
  | [_], _, _ => none
  | k :: v :: r, ks, xs => (toKeyT k).bind fun q => if pure v = true then dispD r (putKs ks q) (putVs ks xs q v) else none
def mDisp (ms : EMs) : EM := fun ρ => (ms ρ).bind fun x => (dispD x.1 [] []).bind fun d => some (d, x.2)
theorem upd_twice {H : Hp} {a : Addr} {o u : HO} : upd (upd H a o) a u = upd H a u := by
  funext b
  by_cases e : b = a
  · subst e
    rw [upd_same, upd_same]
  · rw [upd_ne e, upd_ne e, upd_ne e]
theorem putKs_len {κ : Type} [DecidableEq κ] (ks : List κ) (q : κ) : (putKs ks q).length ≤ ks.length + 1 := by
  unfold putKs
  split
  · omega
  · rw [List.length_append]
    exact Nat.le_refl _
theorem store_all {X : Cx} {pins : List (Addr × Obj)} {σ : L2.St} {p : Addr} {d : D} {Q : PUnit → Shared → Prop} (hu : X.A.units + 1 < cLine) : ∀ (ps : List (V × V)) (vs : List (Value × Value)) (ds : List D) (ks : List (List Key)) (xs : List D) (us : List V) (F : List Addr) (H : Hp) (s : Shared),
    Inv X pins σ H s → VV ps vs → H p = some (.dT (ks.zip us)) → ks.length = xs.length → Reps X.K H xs us [] → Reps X.K H ds (flatP ps) F → p ∉ F → dispD ds ks xs = some d → ks.length + ps.length ≤ 64 →
    (∀ s' ks' xs' us', Inv X pins σ (upd H p (.dT (ks'.zip us'))) s' → d = .dT ks' xs' → ks'.length = xs'.length → Reps X.K (upd H p (.dT (ks'.zip us'))) xs' us' [] → Q PUnit.unit s') →
    wpAny (model X.prog X.w) X.A (storeAll p vs) Q X.xe s
  | [], vs, ds, ks, xs, us, F, H, s, I, rel, hp, hl, rr, rd, nf, e, hz, k => by
    cases rel
    obtain ⟨v0, _⟩ : ds = [] ∧ True := by
      cases ds with
      | nil => exact ⟨rfl, trivial⟩
      | cons x ds =>
        obtain ⟨v, vr, F1, F2, z, _⟩ := rd
        cases z
    subst v0
    cases e
    unfold storeAll
    rw [List.forIn_nil]
    have hs : upd H p (.dT (ks.zip us)) = H := by
      funext b
      by_cases e : b = p
      · subst e
        rw [upd_same, hp]
      · rw [upd_ne e]
    exact wpAny_pure (k s ks xs us (by rw [hs]; exact I) rfl hl (by rw [hs]; exact rr))
  | q :: ps, vs, ds, ks, xs, us, F, H, s, I, rel, hp, hl, rr, rd, nf, e, hz, k => by
    obtain ⟨w, ws, rfl, h1, h2, rel⟩ : ∃ w ws, vs = w :: ws ∧ RelV q.1 w.1 ∧ RelV q.2 w.2 ∧ VV ps ws := by
      cases rel with
      | cons h t => exact ⟨_, _, rfl, h.1, h.2, t⟩
    match ds, rd, e with
    | [], rd, _ => cases rd.1
    | [_], rd, _ =>
      obtain ⟨v, vr, F1, F2, z, _, _, r2⟩ := rd
      cases z
      cases r2.1
    | dk :: dv :: ds, rd, e =>
      obtain ⟨v, vr, F1, F2, z, rfl, rk, rd1⟩ := rd
      cases z
      obtain ⟨v, vr, F3, F4, z, rfl, rv, rd2⟩ := rd1
      cases z
      unfold dispD at e
      obtain ⟨kk, e1, e⟩ := Option.bind_eq_some_iff.mp e
      split at e
      · rename_i hpv
        have z := rv.nil hpv
        subst z
        obtain ⟨b, eb, hb⟩ := key_rep rk e1
        have h1' : RelV (V.ref b) w.1 := eb ▸ h1
        have hw : w.1 = Value.ref b := h1'
        unfold storeAll
        rw [List.forIn_cons]
        have hlu : ks.length = us.length := by rw [rr.length]; exact hl
        have hzl : (ks.zip us).length = ks.length := by rw [List.length_zip, ← hlu, Nat.min_self]
        rw [hw]
        rw [List.length_cons] at hz
        have szl : (1000000 : Nat) < sizeLine := by rw [sizeLine_eq]; omega
        have hm : Mut (H p) := by rw [hp]; trivial
        have one := frm_one (o := .dT ((putKs ks kk).zip (putVs ks us kk q.2))) hm
        refine wpAny_bind (wpAny_bind (store_tup hu I hp hb (by rw [hzl]; omega) h2 fun s1 I1 => wpAny_pure ?_))
        rw [putK_zip hlu] at I1
        have hk := putKs_len ks kk
        refine store_all hu ps ws ds (putKs ks kk) (putVs ks xs kk dv) (putVs ks us kk q.2) F4 _ s1 I1 rel upd_same (putVs_len hl) (Reps.put (rv.frm one fun b hb => by cases hb) hl (rr.frm one fun b hb => by cases hb)) (rd2.frm one fun a ha z => nf (z ▸ List.mem_append_right _ (List.mem_append_right _ ha))) (fun z => nf (List.mem_append_right _ (List.mem_append_right _ z))) e (by omega) fun s' ks' xs' us' I' ed l' r' => ?_
        · rw [upd_twice] at I' r'
          exact k s' ks' xs' us' I' ed l' r'
      · cases e
theorem flatP_len : ∀ ps : List (V × V), (flatP ps).length = 2 * ps.length
  | [] => rfl
  | p :: r => by
    show (flatP r).length + 1 + 1 = 2 * (r.length + 1)
    rw [flatP_len r]
    omega
theorem m_disp {X : Cx} {pos : Pos} {keys : List (Option Expr)} {values : List Expr} {ms : EMs} {k : Nat} (hr : Room k X.A) (hpp : DPP X pos keys values ms) {n : Nat} (hn : ∀ ρ ds ρ', ms ρ = some (ds, ρ') → ds.length = n) (h30 : n ≤ 30) (hall : keys.all (·.isSome) = true) (hl : keys.length = values.length) (h0 : keys ≠ []) (h15 : keys.length ≤ 15) : DM X (.Dict keys values pos) (mDisp ms) := ⟨fun pins s σ H Q I ⟨c, ρ, fp, d, ρ', h, e, kk⟩ => by
  obtain ⟨⟨ds, ρ1⟩, e1, e⟩ := Option.bind_eq_some_iff.mp e
  obtain ⟨d', e2, e⟩ := Option.bind_eq_some_iff.mp e
  cases e
  have no := I.hok.fresh (Nat.le_refl s.heap.objs.size)
  have I1 := I.laid (a := s.heap.objs.size) (o := .dT []) (h' := s.heap.push { cls := .type "dict", data := .dict #[] }) (t' := s.toks) (fun _ _ q => Heap.get?_push_of_some _ q) (Nat.le_refl _) (dt_empty s.heap I.big)
  have ok1 := h.self.same (same_upd (o := .dT []) no)
  have x1 : Val X.K (sub c H ρ fp) (upd H s.heap.objs.size (.dT [])) ρ fp (.dT [] []) (.ref s.heap.objs.size) [s.heap.objs.size] := h.self.val ⟨_, [], [], rfl, .inl upd_same, rfl, rfl, rfl, rfl⟩ (new_obj no trivial)
  refine wpAny_Dict_any hall hl h0 h15 (thn (hpp.run pins _ σ _ (fun ps H2 => ∃ fp2 F2, Ok X.K (sub c H ρ fp) σ H2 ρ1 fp2 ∧ Val X.K (sub c H ρ fp) H2 ρ1 fp2 (.dT [] []) (.ref s.heap.objs.size) [s.heap.objs.size] ∧ Vals' X.K (sub c H ρ fp) H2 ρ1 fp2 ds (flatP ps) F2 ∧ s.heap.objs.size ∉ F2) I1 ⟨sub (sub c H ρ fp) _ ρ fp, ρ, fp, ds, ρ1, ok1.self, e1, fun ps H2 fp2 F2 h2 x2 => ⟨fp2, F2, ok1.trans h2, x1.later ok1 h2, x2.trans ok1, (x1.apart fun a ha => (x2.ow a ha).1) _ (List.mem_singleton.mpr rfl)⟩⟩) fun ws s2 ⟨ps, H2, I2, rel, fp2, F2, ok2, xd, xs2, nf⟩ => ?_)
  have hp2 : H2 s.heap.objs.size = some (.dT []) := by
    obtain ⟨a, us, F', ea, hr', hlen, _, rr⟩ := xd.rep
    cases ea
    have hm := (xd.ow _ (List.mem_singleton.mpr rfl)).2.1
    have hz : us = [] := rr.1
    subst hz
    exact mut_rd hm hr'
  have hps : ps.length ≤ 15 := by
    have q1 := hn _ _ _ e1
    have q2 := xs2.rep.length
    rw [flatP_len] at q2
    omega
  refine store_all (hu_of hr) ps ws ds [] [] [] F2 H2 s2 I2 rel hp2 rfl ⟨rfl, rfl⟩ xs2.rep nf e2 (by rw [List.length_nil]; omega) fun s' ks' xs' us' I' ed l' r' => ?_
  subst ed
  have nO : ¬ Ow ρ1 fp2 s.heap.objs.size := fun ⟨i, m, e, e1, hm, ha⟩ => xd.dj i m e e1 hm _ (List.mem_singleton.mpr rfl) ha
  have ok3 := ok2.aside (o := .dT (ks'.zip us')) no (by rw [hp2]; trivial) nO
  exact ⟨.ref s.heap.objs.size, _, I', rfl, kk _ _ fp2 [s.heap.objs.size] (h.trans ok3) (Val.trans h ⟨⟨_, us', [], rfl, .inl upd_same, l', rfl, r'⟩, xd.nd, fun a ha => ⟨(xd.ow a ha).1, by rw [List.mem_singleton.mp ha, upd_same]; trivial, (xd.ow a ha).2.2⟩, xd.dj⟩)⟩⟩
/-! ### x[k] = v, the key an expression that turns the state -/
def gSubM (i : Nat) (ix : EM) (o : D → D → D → Option D) : GX := fun v ρ => (ownAt i ρ).bind fun _ => (ix ρ).bind fun kk => (ownAt i kk.2).bind fun z => (o z.2 kk.1 v).bind fun d' => some (kk.2.set i (some (z.1, d')))
section
variable {X : Cx} {a b e : Expr} {pos : Pos} {i : Nat} {m : EM}
theorem gSubM_of {t : TSet} {o : D → D → D → Option D} (ho : StD X.K t o) (v : V) (σ : L2.St) (H : Hp) (Q : L2.St → Hp → Prop) (h : tG X.K (gSubM i m o) v σ H Q) : gSub (tVar i) (tM X.K m) t v σ H Q := by
  obtain ⟨c, ρ, fp, d, F, ρ', ok, x, e, k⟩ := h
  obtain ⟨⟨m0, d00⟩, e0, e⟩ := Option.bind_eq_some_iff.mp e
  obtain ⟨⟨kk, ρ1⟩, e1, e⟩ := Option.bind_eq_some_iff.mp e
  obtain ⟨⟨m, d0⟩, e3, e⟩ := Option.bind_eq_some_iff.mp e
  obtain ⟨d2, e2, e⟩ := Option.bind_eq_some_iff.mp e
  cases e
  obtain ⟨q0, _⟩ := ownAt_some e0
  obtain ⟨q, hm⟩ := ownAt_some e3
  obtain ⟨u, hu, _, _⟩ := ok.rep i m0 d00 q0
  refine ⟨u, hu, sub c H ρ fp, ρ, fp, kk, ρ1, ok.self, e1, fun y H1 fp1 Gk h1 xk => ?_⟩
  have ok1 := ok.trans h1
  have x1 := x.later ok h1
  obtain ⟨u', hu', ru, _⟩ := ok1.rep i m d0 q
  rw [hu] at hu'
  cases hu'
  obtain ⟨n1, n2⟩ := ok1.nd i m d0 q hm
  refine ho H1 d0 kk d u y v (fp1 i) F Gk d2 _ ru n1 (fun a ha => (n2 a ha).2.1) xk.rep x1.rep x1.nd (fun a ha => (x1.ow a ha).2.1) (fun a ha hg => x1.dj i m d0 q hm a hg ha) e2 fun H' F1 fr r1 nd1 ow => ?_
  obtain ⟨ok2, _⟩ := ok1.turnG (res := .non) (w := .non) (G1 := []) q hm hu x1.one fr r1 nd1 ⟨rfl, rfl⟩ List.nodup_nil (fun _ _ z => by cases z) fun a ha => ha.elim (ow a) fun z => by cases z
  exact k σ H' _ ok2
theorem g_subM {t : TSet} {o : D → D → D → Option D} (hv : PE X a (tVar i)) (hb : DM X b m) (ht : PSet X t) (ho : StD X.K t o)
    (ha : ∀ v, assign (.Subscript a b pos) X.env v = (do
      let ov ← holding [v] (eval a X.env)
      let iv ← holding [v, ov] (eval b X.env)
      standAt pos
      holding [v, ov, iv] (setItem ov iv v)
      release [v, ov, iv] []) := by intro _; rfl) : PG X (.Subscript a b pos) (tG X.K (gSubM i m o)) := (pg_sub hv hb ht ha).imp fun v σ H Q h => gSubM_of ho v σ H Q h
end
end DL
namespace DL
open PySem PySem.Spec L2
/-! ### inks made of cells, plain side -/
def In60 (c : Cell) : Prop := (-60 ≤ c.1 ∧ c.1 ≤ 60) ∧ (-60 ≤ c.2 ∧ c.2 ≤ 60)
theorem good_len {cs : List Cell} (g : Good cs) : cs.length ≤ sizeLine := by
  have := g.len
  rw [size_eq]
  omega
theorem good_in {cs : List Cell} (g : Good cs) {c : Cell} (h : c ∈ cs) : In60 c := ⟨g.row c h, g.col c h⟩
def uniq (cs : List Cell) : List Cell := cs.foldl ins []
theorem mem_fold : ∀ (cs as : List Cell) {b : Cell}, b ∈ cs.foldl ins as ↔ b ∈ as ∨ b ∈ cs
  | [], as, b => by simp
  | c :: cs, as, b => by
    rw [List.foldl_cons, mem_fold cs, mem_ins, List.mem_cons, or_assoc]
theorem nodup_fold : ∀ (cs as : List Cell), as.Nodup → (cs.foldl ins as).Nodup
  | [], _, h => h
  | c :: cs, as, h => nodup_fold cs _ (nodup_ins h)
theorem ins_len (as : List Cell) (c : Cell) : (ins as c).length ≤ as.length + 1 := by
  unfold ins
  split
  · omega
  · rw [List.length_append]
    exact Nat.le_refl _
theorem fold_len : ∀ (cs as : List Cell), (cs.foldl ins as).length ≤ as.length + cs.length
  | [], _ => Nat.le_refl _
  | c :: cs, as => by
    have h1 := fold_len cs (ins as c)
    have h2 := ins_len as c
    rw [List.foldl_cons, List.length_cons]
    omega
theorem fold_same : ∀ (cs as : List Cell), (∀ c ∈ cs, c ∉ as) → cs.Nodup → cs.foldl ins as = as ++ cs
  | [], as, _, _ => (List.append_nil _).symm
  | c :: cs, as, h, nd => by
    rw [List.nodup_cons] at nd
    have e : ins as c = as ++ [c] := if_neg (h c (List.mem_cons_self ..))
    rw [List.foldl_cons, e, fold_same cs _ (fun b hb => ?_) nd.2, List.append_assoc]
    · rfl
    · rw [List.mem_append, List.mem_singleton]
      exact fun z => z.elim (h b (List.mem_cons_of_mem _ hb)) fun q => nd.1 (q ▸ hb)
theorem mem_uniq {cs : List Cell} {b : Cell} : b ∈ uniq cs ↔ b ∈ cs := by
  unfold uniq
  rw [mem_fold]
  simp
theorem nodup_uniq (cs : List Cell) : (uniq cs).Nodup := nodup_fold cs [] List.nodup_nil
theorem uniq_len (cs : List Cell) : (uniq cs).length ≤ cs.length := by
  have := fold_len cs []
  rw [List.length_nil] at this
  unfold uniq
  omega
theorem uniq_self {cs : List Cell} (h : cs.Nodup) : uniq cs = cs := fold_same cs [] (fun _ _ z => by cases z) h
/-- the ink of some cells -/
def mk (cs : List Cell) : List Cell := srt (uniq cs)
theorem mk_mem {cs : List Cell} {c : Cell} : c ∈ mk cs ↔ c ∈ cs := srt_mem.trans mem_uniq
theorem mk_pair (cs : List Cell) : (mk cs).Pairwise ltc := srt_pair (nodup_uniq cs)
theorem mk_len (cs : List Cell) : (mk cs).length ≤ cs.length := by
  unfold mk
  rw [srt_len]
  exact uniq_len cs
theorem mk_ext {as bs : List Cell} (h : ∀ c, c ∈ as ↔ c ∈ bs) : mk as = mk bs := srt_ext (mk_pair as) (mk_pair bs) fun c => by rw [mk_mem, mk_mem, h]
theorem mk_good {cs : List Cell} (h : ∀ c ∈ cs, In60 c) (hl : (mk cs).length ≤ 400) : Good (mk cs) := ⟨hl, fun c hc => (h c (mk_mem.mp hc)).1, fun c hc => (h c (mk_mem.mp hc)).2, mk_pair cs⟩
/-! comprehensions -/
theorem dict_gen {α : Type} {gx : GX} {q : QX} {fk fe : EX} {ρ : Env} (g : α → D) (p : α → Bool) (f : α → Cell) : ∀ (xs : List α) (as : List Cell), as.length + xs.length < 1000000 → (∀ x ∈ xs, ∃ ρ1, gx (g x) ρ = some ρ1 ∧ q ρ1 = some (p x) ∧ (p x = true → fk ρ1 = some (cellD (f x)) ∧ fe ρ1 = some (.bl true))) →
    dictE gx q fk fe ρ (xs.map g) (as.map keyC) (as.map fun _ => .bl true) = some ((((xs.filter p).map f).foldl ins as).map keyC, (((xs.filter p).map f).foldl ins as).map fun _ => .bl true)
  | [], as, _, _ => rfl
  | x :: xs, as, hl, h => by
    obtain ⟨ρ1, h1, h2, h3⟩ := h x (List.mem_cons_self ..)
    rw [List.length_cons] at hl
    rw [List.map_cons, dictE, h1, Option.bind_some, h2, Option.bind_some]
    by_cases c : p x = true
    · obtain ⟨k1, k2⟩ := h3 c
      have il := ins_len as (f x)
      rw [if_pos c, k1, Option.bind_some, toKey_cell, Option.bind_some, k2, Option.bind_some, if_pos (show pure (.bl true) = true from rfl), if_pos (by rw [size_eq, List.length_map]; omega), putKs_c, putVs_c,
        dict_gen g p f xs (ins as (f x)) (by omega) fun y hy => h y (List.mem_cons_of_mem _ hy), List.filter_cons_of_pos c]
      rfl
    · rw [if_neg c, dict_gen g p f xs as (by omega) fun y hy => h y (List.mem_cons_of_mem _ hy), List.filter_cons_of_neg c]
/-- {cell: True for cell in cells} -/
theorem dict_all {gx : GX} {fk fe : EX} {ρ : Env} (cs : List Cell) (hl : cs.length < 1000000) (h : ∀ x ∈ cs, ∃ ρ1, gx (cellD x) ρ = some ρ1 ∧ fk ρ1 = some (cellD x) ∧ fe ρ1 = some (.bl true)) :
    dictE gx yYes fk fe ρ (cs.map cellD) [] [] = some ((uniq cs).map keyC, (uniq cs).map fun _ => .bl true) := by
  have := dict_gen (gx := gx) (q := yYes) (fk := fk) (fe := fe) (ρ := ρ) cellD (fun _ => true) id cs [] (by rw [List.length_nil]; omega) fun x hx => by
    obtain ⟨ρ1, h1, h2, h3⟩ := h x hx
    exact ⟨ρ1, h1, rfl, fun _ => ⟨h2, h3⟩⟩
  rw [List.filter_eq_self.mpr fun _ _ => rfl, List.map_id] at this
  exact this
theorem comp2_gen {α β : Type} {vs vs1 : List Nat} {gx : GX} {src1 : IX} {gx1 : GX} {q1 : QX} {e : EX} {ρ : Env} (g : α → D) (gb : α → β → D) (ys : α → List β) (p : α → β → Bool) (f : α → β → D) (hp : ∀ a b, pure (f a b) = true) : ∀ xs : List α,
    (∀ a ∈ xs, ∃ ρ1, gx (g a) ρ = some ρ1 ∧ plainAt vs ρ1 = true ∧ src1 ρ1 = some ((ys a).map (gb a)) ∧ ∀ b ∈ ys a, ∃ ρ2, gx1 (gb a b) (wipeE ρ1 vs1) = some ρ2 ∧ q1 ρ2 = some (p a b) ∧ (p a b = true → e ρ2 = some (f a b))) →
    comp2E vs vs1 gx yYes src1 gx1 q1 e ρ (xs.map g) = some (xs.flatMap fun a => ((ys a).filter (p a)).map (f a))
  | [], _ => rfl
  | a :: xs, h => by
    obtain ⟨ρ1, h1, h2, h3, h4⟩ := h a (List.mem_cons_self ..)
    have ih := comp2_gen g gb ys p f hp xs fun b hb => h b (List.mem_cons_of_mem _ hb)
    have c := comp_map (gx := gx1) (q := q1) (e := e) (ρ := wipeE ρ1 vs1) (gb a) (p a) (f a) (ys a) h4
    have pz : ∀ l : List β, pures (l.map (f a)) = true := fun l => by
      induction l with
      | nil => rfl
      | cons b l ih => rw [List.map_cons, pures, hp, ih]; rfl
    rw [List.map_cons, comp2E, h1, Option.bind_some, if_pos h2]
    show (some true).bind _ = _
    rw [Option.bind_some, if_pos rfl, h3, Option.bind_some, c, Option.bind_some, if_pos (pz _), ih, Option.bind_some, List.flatMap_cons]
theorem toBls_map {α : Type} (f : α → Bool) : ∀ l : List α, toBls (l.map fun a => D.bl (f a)) = some (l.map f)
  | [] => rfl
  | a :: l => by
    rw [List.map_cons, toBls, toBls_map f l]
    rfl
theorem all_map {α : Type} (f : α → Bool) (l : List α) : allD [.lst (l.map fun a => D.bl (f a))] = some (.bl (l.all f)) := by
  show (toBls (l.map fun a => D.bl (f a))).map (fun ns => D.bl (ns.all id)) = _
  rw [toBls_map, Option.map_some, List.all_map]
  rfl
theorem any_map {α : Type} (f : α → Bool) (l : List α) : anyD [.lst (l.map fun a => D.bl (f a))] = some (.bl (l.any f)) := by
  show (toBls (l.map fun a => D.bl (f a))).map (fun ns => D.bl (ns.any id)) = _
  rw [toBls_map, Option.map_some, List.any_map]
  rfl
theorem all_trues (l : List D) (h : ∀ d ∈ l, d = .bl true) : allD [.lst l] = some (.bl true) := by
  have : l = l.map fun _ => D.bl true := by
    induction l with
    | nil => rfl
    | cons d l ih => rw [List.map_cons, ← ih fun x hx => h x (List.mem_cons_of_mem _ hx), h d (List.mem_cons_self ..)]
  rw [this, all_map (fun _ => true)]
  congr 2
  exact List.all_eq_true.mpr fun _ _ => rfl
theorem sortedA_f (cs : List Cell) : sortedA [.dT (cs.map keyC) (cs.map fun _ => .bl true)] = some (.lst ((srt cs).map cellD)) := sortedA_c cs
theorem tupleD_c (cs : List Cell) : tupleD [.lst (cs.map cellD)] = some (inkD cs) := by
  have := pures_cells cs
  show (if _ then _ else _) = _
  simp [this]
  rfl
theorem lenD_ink (cs : List Cell) : lenD [inkD cs] = some (.int cs.length) := by
  show some (D.int ((cs.map cellD).length : Int)) = _
  rw [List.length_map]
theorem itemsD_ink (cs : List Cell) : itemsOf (inkD cs) = some (cs.map cellD) := rfl
theorem pure_ink (cs : List Cell) : pure (inkD cs) = true := pures_cells cs
namespace C
abbrev N_made : List Str := ["cells", "found", "cell", "part"]
def s_made : ES := (sSeq (sAsg (mP (xCall tupleD (xsCons (xCall sortedA (xsCons (xDict [2] (xIt (xVar 0)) (putB 2) yYes (xPure (xVar 2)) (xC (.bl true))) xsNil)) xsNil))) (put 1))
  (sSeq (sIf (tP' (yNot (xBool (xCall allD (xsCons (xComp2 [2, 3] [3] (xIt (xVar 1)) (putB 2) yYes (xIt (xPure (xVar 2))) (putB 3) yYes (xChain oLe oLe (xNeg (xC (.int 60))) (xVar 3) (xC (.int 60)))) xsNil))))) sNever sNext)
  (sSeq (sIf (tP' (xBool (xOp oGt (xCall lenD (xsCons (xVar 1) xsNil)) (xC (.int 400))))) sNever sNext)
  (sRet (mP (xPure (xVar 1)))))))
def F_made : List D → Option D := fnP N_made s_made
abbrev N_moved_in : List Str := ["ink", "down", "right", "row", "column"]
def s_moved_in : ES := (sRet (mP (xComp [3, 4] (xIt (xVar 0)) (gTupD 2 (gsCons (putB 3) (gsCons (putB 4) gsNil))) yYes (xTup (xsCons (xOp oAdd (xVar 3) (xVar 1)) (xsCons (xOp oAdd (xVar 4) (xVar 2)) xsNil))))))
def F_moved_in : List D → Option D := fnP N_moved_in s_moved_in
def tr2 (l : List Cell) : List D := l.flatMap fun _ : Cell => ([0, 1] : List Nat).map fun _ : Nat => D.bl true
theorem two_parts {l : List Cell} {d : D} (h : d ∈ tr2 l) : d = .bl true := by
  obtain ⟨_, _, h⟩ := List.mem_flatMap.mp h
  obtain ⟨_, _, h⟩ := List.mem_map.mp h
  exact h.symm
theorem made_ok {cs : List Cell} (h : ∀ c ∈ cs, In60 c) (hl : cs.length < 100000) (hu : (mk cs).length ≤ 400) : F_made [.lst (cs.map cellD)] = some (inkD (mk cs)) := by
  have de : dictE (putB 2) yYes (xPure (xVar 2)) (xC (.bl true)) [some (.bor, .lst (cs.map cellD)), none, none, none] (cs.map cellD) [] [] = some ((uniq cs).map keyC, (uniq cs).map fun _ => .bl true) :=
    dict_all cs (by omega) fun c _ => ⟨[some (.bor, .lst (cs.map cellD)), none, some (.bor, cellD c), none], rfl, by simp [pure_cell], rfl⟩
  have pk := pure_ink (mk cs)
  have hc : ∀ c ∈ mk cs, In60 c := fun c hc => h c (mk_mem.mp hc)
  have ce : comp2E [2, 3] [3] (putB 2) yYes (xIt (xPure (xVar 2))) (putB 3) yYes (xChain oLe oLe (xNeg (xC (.int 60))) (xVar 3) (xC (.int 60))) [some (.bor, .lst (cs.map cellD)), some (.own, inkD (mk cs)), none, none] ((mk cs).map cellD) = some (tr2 (mk cs)) := by
    have := comp2_gen (vs := [2, 3]) (vs1 := [3]) (gx := putB 2) (src1 := xIt (xPure (xVar 2))) (gx1 := putB 3) (q1 := yYes) (e := xChain oLe oLe (xNeg (xC (.int 60))) (xVar 3) (xC (.int 60))) (ρ := [some (.bor, .lst (cs.map cellD)), some (.own, inkD (mk cs)), none, none])
      cellD (fun a (b : Nat) => D.int (if b = 0 then a.1 else a.2)) (fun _ => [0, 1]) (fun _ _ => true) (fun _ _ => D.bl true) (fun _ _ => rfl) (mk cs) fun a ha => ⟨[some (.bor, .lst (cs.map cellD)), some (.own, inkD (mk cs)), some (.bor, cellD a), none], rfl, rfl, rfl, fun b hb => ⟨[some (.bor, .lst (cs.map cellD)), some (.own, inkD (mk cs)), some (.bor, cellD a), some (.bor, .int (if b = 0 then a.1 else a.2))], rfl, rfl, fun _ => ?_⟩⟩
    · rw [this]
      rfl
    · have hh := hc a ha
      have h1 : -60 ≤ (if b = 0 then a.1 else a.2) ∧ (if b = 0 then a.1 else a.2) ≤ 60 := by
        split
        · exact hh.1
        · exact hh.2
      simp [h1.1, h1.2]
  have al := all_trues _ fun d hd => two_parts (l := mk cs) hd
  have zl : (tr2 (mk cs)).length ≤ sizeLine := by
    have : ∀ l : List Cell, (tr2 l).length = 2 * l.length := fun l => by
      induction l with
      | nil => rfl
      | cons a l ih =>
        unfold tr2 at ih ⊢
        rw [List.flatMap_cons, List.length_append, ih]
        show 2 + 2 * l.length = 2 * (l.length + 1)
        omega
    rw [this, size_eq]
    omega
  have hs : sortedA [.dT ((uniq cs).map keyC) ((uniq cs).map fun _ => .bl true)] = some (.lst ((mk cs).map cellD)) := sortedA_f _
  have ht := tupleD_c (mk cs)
  have ll := lenD_ink (mk cs)
  have lt : ¬ (400 : Int) < ((mk cs).length : Int) := by omega
  unfold F_made s_made
  simp [-List.map_const, de, hs, ht, pk, itemsD_ink, ce, al, zl, ll, lt]
end C
end DL
namespace DL
open PySem PySem.Spec L2
/-! ### loops as folds; sums of inks -/
abbrev addC (a b : Cell) : Cell := (a.1 + b.1, a.2 + b.2)
abbrev subC (a b : Cell) : Cell := (a.1 - b.1, a.2 - b.2)
def sumC (as bs : List Cell) : List Cell := as.flatMap fun a => bs.map (addC a)
theorem mem_sumC {as bs : List Cell} {c : Cell} : c ∈ sumC as bs ↔ ∃ a ∈ as, ∃ b ∈ bs, addC a b = c := by
  unfold sumC
  simp only [List.mem_flatMap, List.mem_map]
theorem sumC_len (as bs : List Cell) : (sumC as bs).length = as.length * bs.length := by
  unfold sumC
  induction as with
  | nil => simp
  | cons a as ih => rw [List.flatMap_cons, List.length_append, ih, List.length_map, List.length_cons, Nat.add_mul, Nat.one_mul, Nat.add_comm]
def fitC (as : List Cell) (p : Cell) (bs : List Cell) : Bool := bs.all fun b => decide (addC p b ∈ as)
def b0 (bs : List Cell) : Cell := bs.headD (0, 0)
def shrC (as bs : List Cell) : List Cell := (as.map fun a => subC a (b0 bs)).filter fun p => fitC as p bs
theorem mem_shrC {as bs : List Cell} (h : bs ≠ []) {p : Cell} : p ∈ shrC as bs ↔ ∀ b ∈ bs, addC p b ∈ as := by
  have h0 : b0 bs ∈ bs := by
    cases bs with
    | nil => exact absurd rfl h
    | cons b bs => exact List.mem_cons_self ..
  unfold shrC fitC
  rw [List.mem_filter, List.all_eq_true, List.mem_map]
  constructor
  · intro ⟨_, q⟩ b hb
    exact of_decide_eq_true (q b hb)
  · intro q
    refine ⟨⟨addC p (b0 bs), q _ h0, ?_⟩, fun b hb => decide_eq_true (q b hb)⟩
    simp only [subC, addC]
    exact Prod.ext (by simp) (by simp)
theorem shrC_len (as bs : List Cell) : (shrC as bs).length ≤ as.length := by
  unfold shrC
  refine Nat.le_trans (List.length_filter_le _ _) ?_
  rw [List.length_map]
  exact Nat.le_refl _
namespace C
abbrev N_need_shape : List Str := ["shape"]
def s_need_shape : ES := (sSeq (sDrop (mP (xCall F_need_ink (xsCons (xVar 0) xsNil))))
  (sIf (tP' (xBool (xOp oEq (xVar 0) (xTup xsNil)))) sNever sNext))
def F_need_shape : List D → Option D := fnP N_need_shape s_need_shape
abbrev N_sum_of : List Str := ["ink", "shape", "row", "column", "down", "right"]
def s_sum_of : ES := (sRet (mP (xCall F_made (xsCons (xComp2 [2, 3, 4, 5] [4, 5] (xIt (xVar 0)) (gTupD 2 (gsCons (putB 2) (gsCons (putB 3) gsNil))) yYes (xIt (xPure (xVar 1))) (gTupD 2 (gsCons (putB 4) (gsCons (putB 5) gsNil))) yYes (xTup (xsCons (xOp oAdd (xVar 2) (xVar 4)) (xsCons (xOp oAdd (xVar 3) (xVar 5)) xsNil)))) xsNil))))
def F_sum_of : List D → Option D := fnP N_sum_of s_sum_of
abbrev N_fits : List Str := ["cells", "place", "shape", "down", "right"]
def s_fits : ES := (sRet (mP (xCall allD (xsCons (xComp [3, 4] (xIt (xVar 2)) (gTupD 2 (gsCons (putB 3) (gsCons (putB 4) gsNil))) yYes (xOp oIn (xTup (xsCons (xOp oAdd (xOp ixD (xVar 1) (xC (.int 0))) (xVar 3)) (xsCons (xOp oAdd (xOp ixD (xVar 1) (xC (.int 1))) (xVar 4)) xsNil))) (xVar 0))) xsNil))))
def F_fits : List D → Option D := fnP N_fits s_fits
abbrev N_shrunk : List Str := ["ink", "shape", "cells", "down", "right", "places", "cell", "row", "column", "place"]
def s_shrunk : ES := (sSeq (sAsg (mP (xTup (xsCons (xDict [6] (xIt (xVar 0)) (putB 6) yYes (xPure (xVar 6)) (xC (.bl true))) (xsCons (xPure (xOp ixD (xVar 1) (xC (.int 0)))) xsNil)))) (gTupD 2 (gsCons (put 2) (gsCons (gTupD 2 (gsCons (put 3) (gsCons (put 4) gsNil))) gsNil))))
  (sSeq (sAsg (mP (xComp [7, 8] (xIt (xVar 0)) (gTupD 2 (gsCons (putB 7) (gsCons (putB 8) gsNil))) yYes (xTup (xsCons (xOp oSub (xVar 7) (xVar 3)) (xsCons (xOp oSub (xVar 8) (xVar 4)) xsNil))))) (put 5))
  (sRet (mP (xCall F_made (xsCons (xComp [9] (xIt (xVar 5)) (putB 9) (xBool (xCall F_fits (xsCons (xVar 2) (xsCons (xVar 9) (xsCons (xVar 1) xsNil))))) (xPure (xVar 9))) xsNil))))))
def F_shrunk : List D → Option D := fnP N_shrunk s_shrunk
abbrev N_dilated : List Str := ["ink", "shape"]
def s_dilated : ES := (sSeq (sDrop (mP (xCall F_need_ink (xsCons (xVar 0) xsNil))))
  (sSeq (sDrop (mP (xCall F_need_shape (xsCons (xVar 1) xsNil))))
  (sRet (mP (xCall F_sum_of (xsCons (xVar 0) (xsCons (xVar 1) xsNil)))))))
def F_dilated : List D → Option D := fnP N_dilated s_dilated
abbrev N_eroded : List Str := ["ink", "shape"]
def s_eroded : ES := (sSeq (sDrop (mP (xCall F_need_ink (xsCons (xVar 0) xsNil))))
  (sSeq (sDrop (mP (xCall F_need_shape (xsCons (xVar 1) xsNil))))
  (sRet (mP (xCall F_shrunk (xsCons (xVar 0) (xsCons (xVar 1) xsNil)))))))
def F_eroded : List D → Option D := fnP N_eroded s_eroded
abbrev N_opened : List Str := ["ink", "shape"]
def s_opened : ES := (sSeq (sDrop (mP (xCall F_need_ink (xsCons (xVar 0) xsNil))))
  (sSeq (sDrop (mP (xCall F_need_shape (xsCons (xVar 1) xsNil))))
  (sRet (mP (xCall F_sum_of (xsCons (xCall F_shrunk (xsCons (xVar 0) (xsCons (xVar 1) xsNil))) (xsCons (xVar 1) xsNil)))))))
def F_opened : List D → Option D := fnP N_opened s_opened
abbrev N_closed : List Str := ["ink", "shape"]
def s_closed : ES := (sSeq (sDrop (mP (xCall F_need_ink (xsCons (xVar 0) xsNil))))
  (sSeq (sDrop (mP (xCall F_need_shape (xsCons (xVar 1) xsNil))))
  (sRet (mP (xCall F_shrunk (xsCons (xCall F_sum_of (xsCons (xVar 0) (xsCons (xVar 1) xsNil))) (xsCons (xVar 1) xsNil)))))))
def F_closed : List D → Option D := fnP N_closed s_closed
theorem need_shape_ok {bs : List Cell} (gb : Good bs) (h : bs ≠ []) : F_need_shape [inkD bs] = some .non := by
  have n := need_ink_ok gb
  unfold F_need_shape s_need_shape
  simp [e_arg_pure (pure_ink bs), n, eq_ink0, h, pure_ink]
theorem sum_of_ok {as bs : List Cell} (ga : Good as) (gb : Good bs) (hi : ∀ a ∈ as, ∀ b ∈ bs, In60 (addC a b)) (hl : (mk (sumC as bs)).length ≤ 400) (hm : as.length * bs.length < 100000) : F_sum_of [inkD as, inkD bs] = some (inkD (mk (sumC as bs))) := by
  have pa := pure_ink as
  have pb := pure_ink bs
  have ce : comp2E [2, 3, 4, 5] [4, 5] (gTupD 2 (gsCons (putB 2) (gsCons (putB 3) gsNil))) yYes (xIt (xPure (xVar 1))) (gTupD 2 (gsCons (putB 4) (gsCons (putB 5) gsNil))) yYes (xTup (xsCons (xOp oAdd (xVar 2) (xVar 4)) (xsCons (xOp oAdd (xVar 3) (xVar 5)) xsNil)))
      [some (.own, inkD as), some (.own, inkD bs), none, none, none, none] (as.map cellD) = some ((sumC as bs).map cellD) := by
    have := comp2_gen (vs := [2, 3, 4, 5]) (vs1 := [4, 5]) (gx := gTupD 2 (gsCons (putB 2) (gsCons (putB 3) gsNil))) (src1 := xIt (xPure (xVar 1))) (gx1 := gTupD 2 (gsCons (putB 4) (gsCons (putB 5) gsNil))) (q1 := yYes) (e := xTup (xsCons (xOp oAdd (xVar 2) (xVar 4)) (xsCons (xOp oAdd (xVar 3) (xVar 5)) xsNil)))
      (ρ := [some (.own, inkD as), some (.own, inkD bs), none, none, none, none]) cellD (fun _ b => cellD b) (fun _ => bs) (fun _ _ => true) (fun a b => cellD (addC a b)) (fun _ _ => rfl) as fun a ha =>
      ⟨[some (.own, inkD as), some (.own, inkD bs), some (.bor, .int a.1), some (.bor, .int a.2), none, none], rfl, rfl, by simp [pb, itemsD_ink], fun b hb =>
        ⟨[some (.own, inkD as), some (.own, inkD bs), some (.bor, .int a.1), some (.bor, .int a.2), some (.bor, .int b.1), some (.bor, .int b.2)], rfl, rfl, fun _ => by simp (disch := omega) [if_size, cellD]⟩⟩
    rw [this]
    unfold sumC
    rw [List.map_flatMap]
    congr 2
    funext a
    rw [List.filter_eq_self.mpr fun _ _ => rfl, List.map_map]
    rfl
  have mo := made_ok (cs := sumC as bs) (fun c hc => by
    obtain ⟨a, ha, b, hb, rfl⟩ := mem_sumC.mp hc
    exact hi a ha b hb) (by rw [sumC_len]; exact hm) hl
  have zl : ((sumC as bs).map cellD).length ≤ sizeLine := by
    rw [List.length_map, sumC_len, size_eq]
    omega
  unfold F_sum_of s_sum_of
  simp [-List.length_map, e_arg_pure pa, e_arg_pure pb, itemsD_ink, ce, zl, mo]
theorem fits_ok (cs bs : List Cell) (p : Cell) (gb : Good bs) : F_fits [fd cs, cellD p, inkD bs] = some (.bl (fitC cs p bs)) := by
  have pb := pure_ink bs
  have ea : argSlot (fd cs) = some (.bor, fd cs) := rfl
  have i0 : ixD (cellD p) (.int 0) = some (.int p.1) := rfl
  have i1 : ixD (cellD p) (.int 1) = some (.int p.2) := rfl
  have c : compE (gTupD 2 (gsCons (putB 3) (gsCons (putB 4) gsNil))) yYes (xOp oIn (xTup (xsCons (xOp oAdd (xOp ixD (xVar 1) (xC (.int 0))) (xVar 3)) (xsCons (xOp oAdd (xOp ixD (xVar 1) (xC (.int 1))) (xVar 4)) xsNil))) (xVar 0))
      [some (.bor, fd cs), some (.own, cellD p), some (.own, inkD bs), none, none] (bs.map cellD) = some (bs.map fun b => D.bl (decide (addC p b ∈ cs))) := comp_all _ _ _ fun b hb => ⟨[some (.bor, fd cs), some (.own, cellD p), some (.own, inkD bs), some (.bor, .int b.1), some (.bor, .int b.2)], rfl, rfl, by
    have := in_c cs (addC p b)
    simp (disch := omega) [i0, i1, if_size]
    exact this⟩
  have zl : (bs.map fun b => D.bl (decide (addC p b ∈ cs))).length ≤ sizeLine := by
    rw [List.length_map]
    exact good_len gb
  have al := all_map (fun b => decide (addC p b ∈ cs)) bs
  unfold F_fits s_fits
  simp [-List.length_map, ea, e_arg_pure (pure_cell (c := p)), e_arg_pure pb, itemsD_ink, c, zl, al]
  rfl
theorem shrunk_ok {as bs : List Cell} (ga : Good as) (gb : Good bs) (h0 : bs ≠ []) (hi : ∀ a ∈ as, In60 (subC a (b0 bs))) : F_shrunk [inkD as, inkD bs] = some (inkD (mk (shrC as bs))) := by
  have pa := pure_ink as
  have pb := pure_ink bs
  have i0 : ixD (inkD bs) (.int 0) = some (cellD (b0 bs)) := by
    cases bs with
    | nil => exact absurd rfl h0
    | cons b bs =>
      show atI (cellD b :: bs.map cellD) 0 = _
      rw [v_at (by omega)]
      rfl
  have la := ga.len
  have de : dictE (putB 6) yYes (xPure (xVar 6)) (xC (.bl true)) [some (.own, inkD as), some (.own, inkD bs), none, none, none, none, none, none, none, none] (as.map cellD) [] [] = some (as.map keyC, as.map fun _ => .bl true) := by
    have := dict_all (gx := putB 6) (fk := xPure (xVar 6)) (fe := xC (.bl true)) (ρ := [some (.own, inkD as), some (.own, inkD bs), none, none, none, none, none, none, none, none]) as (by omega) fun c _ => ⟨[some (.own, inkD as), some (.own, inkD bs), none, none, none, none, some (.bor, cellD c), none, none, none], rfl, by simp [pure_cell], rfl⟩
    rw [this, uniq_self (pair_nodup ga.srt)]
  have c1 : compE (gTupD 2 (gsCons (putB 7) (gsCons (putB 8) gsNil))) yYes (xTup (xsCons (xOp oSub (xVar 7) (xVar 3)) (xsCons (xOp oSub (xVar 8) (xVar 4)) xsNil))) [some (.own, inkD as), some (.own, inkD bs), some (.own, fd as), some (.own, .int (b0 bs).1), some (.own, .int (b0 bs).2), none, none, none, none, none] (as.map cellD) = some ((as.map fun a => subC a (b0 bs)).map cellD) := by
    rw [List.map_map]
    exact comp_all _ _ _ fun a ha => ⟨[some (.own, inkD as), some (.own, inkD bs), some (.own, fd as), some (.own, .int (b0 bs).1), some (.own, .int (b0 bs).2), none, none, some (.bor, .int a.1), some (.bor, .int a.2), none], rfl, rfl, by simp (disch := omega) [if_size, cellD]⟩
  have c2 : compE (putB 9) (xBool (xCall F_fits (xsCons (xVar 2) (xsCons (xVar 9) (xsCons (xVar 1) xsNil))))) (xPure (xVar 9)) [some (.own, inkD as), some (.own, inkD bs), some (.own, fd as), some (.own, .int (b0 bs).1), some (.own, .int (b0 bs).2), some (.own, .lst ((as.map fun a => subC a (b0 bs)).map cellD)), none, none, none, none] ((as.map fun a => subC a (b0 bs)).map cellD) = some ((shrC as bs).map cellD) :=
    comp_map cellD (fun p => fitC as p bs) cellD _ fun p hp => ⟨[some (.own, inkD as), some (.own, inkD bs), some (.own, fd as), some (.own, .int (b0 bs).1), some (.own, .int (b0 bs).2), some (.own, .lst ((as.map fun a => subC a (b0 bs)).map cellD)), none, none, none, some (.bor, cellD p)], rfl, by simp [fits_ok as bs p gb], fun _ => by simp [pure_cell]⟩
  have z1 : ((as.map fun a => subC a (b0 bs)).map cellD).length ≤ sizeLine := by
    rw [List.length_map, List.length_map]
    exact good_len ga
  have sl := shrC_len as bs
  have z2 : ((shrC as bs).map cellD).length ≤ sizeLine := by
    rw [List.length_map, size_eq]
    omega
  have ml := mk_len (shrC as bs)
  have mo := made_ok (cs := shrC as bs) (fun c hc => by
    obtain ⟨a, ha, rfl⟩ := List.mem_map.mp (List.mem_filter.mp hc).1
    exact hi a ha) (by omega) (by omega)
  have ed : D.dT (as.map keyC) (as.map fun _ => .bl true) = fd as := rfl
  have ec : D.tup [.int (b0 bs).1, .int (b0 bs).2] = cellD (b0 bs) := rfl
  have pc : pure (cellD (b0 bs)) = true := rfl
  unfold F_shrunk s_shrunk
  simp (disch := omega) [-List.length_map, -List.map_map, -List.map_const, -List.map_const', -List.map_inj_left, e_arg_pure pa, e_arg_pure pb, itemsD_ink, de, ed, i0, pc, if_size, gTupD, cellD, c1, z1, c2, z2, mo]
end C
end DL
namespace DL
open PySem PySem.Spec L2
theorem sub_len : ∀ (l m : List Cell), l.Nodup → (∀ x ∈ l, x ∈ m) → l.length ≤ m.length
  | [], _, _, _ => Nat.zero_le _
  | a :: l, m, nd, h => by
    rw [List.nodup_cons] at nd
    have ha := h a (List.mem_cons_self ..)
    have ih := sub_len l (m.erase a) nd.2 fun x hx => by
      have ne : x ≠ a := fun e => nd.1 (e ▸ hx)
      exact (List.mem_erase_of_ne ne).mpr (h x (List.mem_cons_of_mem _ hx))
    rw [List.length_erase_of_mem ha] at ih
    have := List.length_pos_of_mem ha
    rw [List.length_cons]
    omega
theorem mk_sub {cs ds : List Cell} (h : ∀ c ∈ cs, c ∈ ds) : (mk cs).length ≤ ds.length := sub_len _ _ (pair_nodup (mk_pair cs)) fun c hc => h c (mk_mem.mp hc)
/-- a small shape with a cell -/
structure Shp (bs : List Cell) : Prop where
  ne : bs ≠ []
  len : bs.length ≤ 6
  row : ∀ c ∈ bs, -2 ≤ c.1 ∧ c.1 ≤ 2
  col : ∀ c ∈ bs, -2 ≤ c.2 ∧ c.2 ≤ 2
  srt : bs.Pairwise ltc
theorem Shp.good {bs : List Cell} (s : Shp bs) : Good bs := ⟨by have := s.len; omega, fun c hc => by have := s.row c hc; omega, fun c hc => by have := s.col c hc; omega, s.srt⟩
theorem Shp.b0 {bs : List Cell} (s : Shp bs) : b0 bs ∈ bs := by
  have := s.ne
  cases bs with
  | nil => exact absurd rfl this
  | cons b bs => exact List.mem_cons_self ..
namespace C
theorem dilated_ok {as bs : List Cell} (ga : Good as) (gb : Good bs) (h0 : bs ≠ []) (hi : ∀ a ∈ as, ∀ b ∈ bs, In60 (addC a b)) (hl : (mk (sumC as bs)).length ≤ 400) (hm : as.length * bs.length < 100000) : F_dilated [inkD as, inkD bs] = some (inkD (mk (sumC as bs))) := by
  have n1 := need_ink_ok ga
  have n2 := need_shape_ok gb h0
  have so := sum_of_ok ga gb hi hl hm
  unfold F_dilated s_dilated
  simp [e_arg_pure (pure_ink as), e_arg_pure (pure_ink bs), n1, n2, so]
theorem eroded_ok {as bs : List Cell} (ga : Good as) (gb : Good bs) (h0 : bs ≠ []) (hi : ∀ a ∈ as, In60 (subC a (b0 bs))) : F_eroded [inkD as, inkD bs] = some (inkD (mk (shrC as bs))) := by
  have n1 := need_ink_ok ga
  have n2 := need_shape_ok gb h0
  have so := shrunk_ok ga gb h0 hi
  unfold F_eroded s_eroded
  simp [e_arg_pure (pure_ink as), e_arg_pure (pure_ink bs), n1, n2, so]
theorem shr_in {as bs : List Cell} (hi : ∀ a ∈ as, In60 (subC a (b0 bs))) : ∀ c ∈ shrC as bs, In60 c := fun c hc => by
  obtain ⟨a, ha, rfl⟩ := List.mem_map.mp (List.mem_filter.mp hc).1
  exact hi a ha
theorem shr_good {as bs : List Cell} (ga : Good as) (hi : ∀ a ∈ as, In60 (subC a (b0 bs))) : Good (mk (shrC as bs)) := mk_good (shr_in hi) (by
  have h1 := mk_len (shrC as bs)
  have h2 := shrC_len as bs
  have h3 := ga.len
  omega)
theorem open_sub {as bs : List Cell} (h0 : bs ≠ []) {c : Cell} (h : c ∈ sumC (mk (shrC as bs)) bs) : c ∈ as := by
  obtain ⟨p, hp, b, hb, rfl⟩ := mem_sumC.mp h
  exact (mem_shrC h0).mp (mk_mem.mp hp) b hb
theorem opened_ok {as bs : List Cell} (ga : Good as) (gb : Good bs) (h0 : bs ≠ []) (hi : ∀ a ∈ as, In60 (subC a (b0 bs))) (hm : as.length * bs.length < 100000) : F_opened [inkD as, inkD bs] = some (inkD (mk (sumC (mk (shrC as bs)) bs))) := by
  have n1 := need_ink_ok ga
  have n2 := need_shape_ok gb h0
  have gs := shr_good ga hi
  have so := shrunk_ok ga gb h0 hi
  have l1 := mk_len (shrC as bs)
  have l2 := shrC_len as bs
  have su := sum_of_ok gs gb (fun a ha b hb => good_in ga (open_sub h0 (mem_sumC.mpr ⟨a, ha, b, hb, rfl⟩))) (Nat.le_trans (mk_sub fun c hc => open_sub h0 hc) ga.len) (Nat.lt_of_le_of_lt (Nat.mul_le_mul_right _ (Nat.le_trans l1 l2)) hm)
  unfold F_opened s_opened
  simp [e_arg_pure (pure_ink as), e_arg_pure (pure_ink bs), n1, n2, so, su]
theorem closed_ok {as bs : List Cell} (ga : Good as) (gb : Good bs) (h0 : bs ≠ []) (hi : ∀ a ∈ as, ∀ b ∈ bs, In60 (addC a b)) (hj : ∀ a ∈ as, ∀ b ∈ bs, In60 (subC (addC a b) (b0 bs))) (hl : (mk (sumC as bs)).length ≤ 400) (hm : as.length * bs.length < 100000) : F_closed [inkD as, inkD bs] = some (inkD (mk (shrC (mk (sumC as bs)) bs))) := by
  have n1 := need_ink_ok ga
  have n2 := need_shape_ok gb h0
  have so := sum_of_ok ga gb hi hl hm
  have gs : Good (mk (sumC as bs)) := mk_good (fun c hc => by
    obtain ⟨a, ha, b, hb, rfl⟩ := mem_sumC.mp hc
    exact hi a ha b hb) hl
  have su := shrunk_ok gs gb h0 fun c hc => by
    obtain ⟨a, ha, b, hb, rfl⟩ := mem_sumC.mp (mk_mem.mp hc)
    exact hj a ha b hb
  unfold F_closed s_closed
  simp [e_arg_pure (pure_ink as), e_arg_pure (pure_ink bs), n1, n2, so, su]
/-! the laws' own sums -/
abbrev N_law_sum_of : List Str := ["_law_ink_here", "_law_shape_here", "_law_found", "_law_line", "_law_column", "_law_down", "_law_right"]
def s_law_sum_of : ES := (sSeq (sAsg (mP (xC (.dT [] []))) (put 2))
  (sSeq (sFor (iP (xIt (xPure (xVar 0)))) (gTupD 2 (gsCons (put 3) (gsCons (put 4) gsNil)))
  (sFor (iP (xIt (xPure (xVar 1)))) (gTupD 2 (gsCons (put 5) (gsCons (put 6) gsNil)))
  (sAsg (mP (xC (.bl true))) (gSub' 2 (xTup (xsCons (xOp oAdd (xVar 3) (xVar 5)) (xsCons (xOp oAdd (xVar 4) (xVar 6)) xsNil))) setT))))
  (sRet (mP (xCall tupleD (xsCons (xCall sortedA (xsCons (xCall listA (xsCons (xVar 2) xsNil)) xsNil)) xsNil))))))
def F_law_sum_of : List D → Option D := fnP N_law_sum_of s_law_sum_of
abbrev N_law_shrunk : List Str := ["_law_ink_here", "_law_shape_here", "_law_found", "_law_line", "_law_column", "_law_place", "_law_one"]
def s_law_shrunk : ES := (sSeq (sAsg (mP (xLst xsNil)) (put 2))
  (sSeq (sFor (iP (xIt (xPure (xVar 0)))) (gTupD 2 (gsCons (put 3) (gsCons (put 4) gsNil)))
  (sSeq (sAsg (mP (xTup (xsCons (xOp oSub (xVar 3) (xOp ixD (xOp ixD (xVar 1) (xC (.int 0))) (xC (.int 0)))) (xsCons (xOp oSub (xVar 4) (xOp ixD (xOp ixD (xVar 1) (xC (.int 0))) (xC (.int 1)))) xsNil)))) (put 5))
  (sIf (tP' (xBool (xOp oEq (xComp [6] (xIt (xVar 1)) (putB 6) (xBool (xOp oNin (xTup (xsCons (xOp oAdd (xOp ixD (xVar 5) (xC (.int 0))) (xOp ixD (xVar 6) (xC (.int 0)))) (xsCons (xOp oAdd (xOp ixD (xVar 5) (xC (.int 1))) (xOp ixD (xVar 6) (xC (.int 1)))) xsNil))) (xVar 0))) (xPure (xVar 6))) (xLst xsNil)))) (sDrop (mMut isL appendD 2 (msCons (mP (xPure (xVar 5))) msNil))) sNext)))
  (sRet (mP (xCall tupleD (xsCons (xCall sortedA (xsCons (xVar 2) xsNil)) xsNil))))))
def F_law_shrunk : List D → Option D := fnP N_law_shrunk s_law_shrunk
abbrev N_law_shape : List Str := ["_law_row", "_law_found", "_law_turn", "_law_named"]
def s_law_shape : ES := (sSeq (sAsg (mDisp (msCons (mTup (msCons (mCallR F_law_signed 0 (msCons (mP (xC (.int 2))) msNil)) (msCons (mCallR F_law_signed 0 (msCons (mP (xC (.int 2))) msNil)) msNil))) (msCons (mP (xC (.bl true))) msNil))) (put 1))
  (sSeq (sFor (mRng1 (msCons (mCallR takenF 0 (msCons (mP (xC (.int 5))) msNil)) msNil)) (put 2)
  (sAsg (mP (xC (.bl true))) (gSubM 1 (mTup (msCons (mCallR F_law_signed 0 (msCons (mP (xC (.int 2))) msNil)) (msCons (mCallR F_law_signed 0 (msCons (mP (xC (.int 2))) msNil)) msNil))) setT)))
  (sSeq (sAsg (mP (xLst (xsCons (xTup (xsCons (xTup (xsCons (xC (.int 0)) (xsCons (xC (.int 0)) xsNil))) xsNil)) (xsCons (xTup (xsCons (xTup (xsCons (xC (.int 0)) (xsCons (xC (.int 0)) xsNil))) (xsCons (xTup (xsCons (xC (.int 0)) (xsCons (xC (.int 1)) xsNil))) xsNil))) (xsCons (xTup (xsCons (xTup (xsCons (xNeg (xC (.int 1))) (xsCons (xC (.int 0)) xsNil))) (xsCons (xTup (xsCons (xC (.int 0)) (xsCons (xNeg (xC (.int 1))) xsNil))) (xsCons (xTup (xsCons (xC (.int 0)) (xsCons (xC (.int 0)) xsNil))) (xsCons (xTup (xsCons (xC (.int 0)) (xsCons (xC (.int 1)) xsNil))) (xsCons (xTup (xsCons (xC (.int 1)) (xsCons (xC (.int 0)) xsNil))) xsNil)))))) (xsCons (xTup (xsCons (xTup (xsCons (xC (.int 0)) (xsCons (xC (.int 0)) xsNil))) (xsCons (xTup (xsCons (xC (.int 0)) (xsCons (xC (.int 1)) xsNil))) (xsCons (xTup (xsCons (xC (.int 1)) (xsCons (xC (.int 0)) xsNil))) (xsCons (xTup (xsCons (xC (.int 1)) (xsCons (xC (.int 1)) xsNil))) xsNil))))) xsNil)))))) (put 3))
  (sRet (mCallR F_law_pick 0 (msCons (mP (xOp oAdd (xLst (xsCons (xCall tupleD (xsCons (xCall sortedA (xsCons (xCall listA (xsCons (xVar 1) xsNil)) xsNil)) xsNil)) (xsCons (xCall tupleD (xsCons (xCall sortedA (xsCons (xCall listA (xsCons (xVar 1) xsNil)) xsNil)) xsNil)) xsNil))) (xVar 3))) msNil))))))
def F_law_shape : D → List D → Option (D × D) := fnR N_law_shape s_law_shape
theorem in_ok (as : List Cell) (c : Cell) : inOk (as.map cellD) (cellD c) = true := by
  have pl : ∀ l : List Cell, PyData.plainAll (l.map fun c => PyData.tuple [.int c.1, .int c.2]) = true := fun l => by
    induction l with
    | nil => rfl
    | cons a l ih => rw [List.map_cons, PyData.plainAll, ih]; rfl
  unfold inOk
  rw [pys_cells, pl, lay_cells]
  have := depth_cells as
  simp only [Bool.true_and, Bool.and_eq_true, decide_eq_true_eq]
  exact ⟨⟨⟨rfl, trivial⟩, rfl⟩, by omega⟩
theorem any_cells (as : List Cell) (c : Cell) : ((as.map cellD).any fun y => eqv y (cellD c)) = decide (c ∈ as) := by
  rw [List.any_map]
  have e : ∀ a : Cell, ((fun y => eqv y (cellD c)) ∘ cellD) a = decide (a = c) := fun a => by
    show PyData.eqv (py (cellD a)) (py (cellD c)) = _
    by_cases h1 : a = c
    · subst h1
      simp [cellD, py, pys, PyData.eqv, PyData.eqvAll]
    · rw [decide_eq_false h1]
      have z : ¬ (a.1 = c.1 ∧ a.2 = c.2) := fun h => h1 (Prod.ext h.1 h.2)
      simpa [cellD, py, pys, PyData.eqv, PyData.eqvAll] using z
  rw [show ((fun y => eqv y (cellD c)) ∘ cellD) = fun a => decide (a = c) from funext e]
  induction as with
  | nil => rfl
  | cons a as ih =>
    rw [List.any_cons, ih]
    by_cases h1 : a = c
    · simp [h1]
    · have : ¬ c = a := fun z => h1 z.symm
      simp [h1, this]
theorem nin_ink (as : List Cell) (c : Cell) : oNin (cellD c) (inkD as) = some (.bl (!decide (c ∈ as))) := by
  show (inSeq (cellD c) (as.map cellD)).map (fun b => D.bl (!b)) = _
  unfold inSeq
  rw [if_pos (in_ok as c), any_cells]
  rfl
theorem ok_cells (cs : List Cell) : okD (.lst (cs.map cellD)) = true := by
  unfold okD SeqAt.shaped
  rw [py, pys_cells, PyData.canLay0, PyData.depth, lay_cells, Bool.true_and, decide_eq_true_eq]
  have := depth_cells cs
  omega
theorem eq_cells0 (cs : List Cell) : oEq (.lst (cs.map cellD)) (.lst []) = some (.bl (decide (cs = []))) := by
  refine eq_of (ok_cells cs) (ok_cells []) ?_
  show PyData.eqv (py _) (py _) = _
  rw [py, py, pys_cells, PyData.eqv]
  exact eqv_cells cs []
theorem ne_cells0 (cs : List Cell) : oNe (.lst (cs.map cellD)) (.lst []) = some (.bl (!decide (cs = []))) := by
  refine oNe_of (ok_cells cs) (ok_cells []) ?_
  show PyData.eqv (py _) (py _) = _
  rw [py, py, pys_cells, PyData.eqv]
  exact eqv_cells cs []
end C
end DL
namespace DL
open PySem PySem.Spec L2
/-! ### the drawn shape -/
structure ShU (cs : List Cell) (n : Nat) : Prop where
  ne : cs ≠ []
  nd : cs.Nodup
  len : cs.length ≤ n
  box : ∀ c ∈ cs, (-2 ≤ c.1 ∧ c.1 ≤ 2) ∧ (-2 ≤ c.2 ∧ c.2 ≤ 2)
theorem ShU.ins {cs : List Cell} {n : Nat} {c : Cell} (s : ShU cs n) (hc : (-2 ≤ c.1 ∧ c.1 ≤ 2) ∧ (-2 ≤ c.2 ∧ c.2 ≤ 2)) : ShU (ins cs c) (n + 1) := by
  refine ⟨fun z => ?_, nodup_ins s.nd, ?_, fun b hb => (mem_ins.mp hb).elim (s.box b) fun e => e ▸ hc⟩
  · have : c ∈ DL.ins cs c := mem_ins.mpr (.inr rfl)
    rw [z] at this
    cases this
  · have h1 := ins_len cs c
    have h2 := s.len
    omega
theorem ShU.shp {cs : List Cell} {n : Nat} (s : ShU cs n) (hn : n ≤ 6) : Shp (srt cs) := by
  refine ⟨fun z => ?_, ?_, fun c hc => (s.box c (srt_mem.mp hc)).1, fun c hc => (s.box c (srt_mem.mp hc)).2, srt_pair s.nd⟩
  · have h1 := congrArg List.length z
    rw [srt_len] at h1
    exact s.ne (List.length_eq_zero_iff.mp h1)
  · rw [srt_len]
    have := s.len
    omega
theorem add_lsts {xs ys : List D} (h : xs.length + ys.length ≤ sizeLine) (p : pures xs = true) (q : pures ys = true) : oAdd (.lst xs) (.lst ys) = some (.lst (xs ++ ys)) := by
  show (if xs.length + ys.length ≤ sizeLine then (if pures xs = true then if pures ys = true then some (D.lst (xs ++ ys)) else none else none) else none) = _
  rw [if_pos h, if_pos p, if_pos q]
namespace C
variable {ns : List Int}
def sh1 : List Cell := [(0, 0)]
def sh2 : List Cell := [(0, 0), (0, 1)]
def sh3 : List Cell := [(-1, 0), (0, -1), (0, 0), (0, 1), (1, 0)]
def sh4 : List Cell := [(0, 0), (0, 1), (1, 0), (1, 1)]
theorem shp1 : Shp sh1 := ⟨by decide, by decide, by decide, by decide, by decide⟩
theorem shp2 : Shp sh2 := ⟨by decide, by decide, by decide, by decide, by decide⟩
theorem shp3 : Shp sh3 := ⟨by decide, by decide, by decide, by decide, by decide⟩
theorem shp4 : Shp sh4 := ⟨by decide, by decide, by decide, by decide, by decide⟩
theorem law_shape_ok {d : D} (r : Row ns d) : ∃ (bs : List Cell) (d' : D), F_law_shape d [] = some (inkD bs, d') ∧ Shp bs ∧ Row ns d' := by
  obtain ⟨u, d1, e1, a1, b1, r1⟩ := signed_ok (m := 2) r (by omega)
  obtain ⟨v, d2, e2, a2, b2, r2⟩ := signed_ok (m := 2) r1 (by omega)
  obtain ⟨n, d3, e3, a3, b3, r3⟩ := taken_ok (m := 5) r2 (by omega)
  obtain ⟨n, rfl⟩ := Int.eq_ofNat_of_zero_le a3
  have s0 : ShU [(u, v)] 1 := ⟨by simp, by simp, by simp, fun c hc => by rw [List.mem_singleton.mp hc]; constructor <;> constructor <;> simp only <;> omega⟩
  have ds : dispD [.tup [.int u, .int v], .bl true] [] [] = some (fd [(u, v)]) := rfl
  obtain ⟨ρ', f1, d4, cs, x2, p2, r4, s4, f2⟩ := for_ok (gx := put 2) (b := sAsg (mP (xC (.bl true))) (gSubM 1 (mTup (msCons (mCallR F_law_signed 0 (msCons (mP (xC (.int 2))) msNil)) (msCons (mCallR F_law_signed 0 (msCons (mP (xC (.int 2))) msNil)) msNil))) setT)) (fun k : Nat => D.int (k : Int))
    (fun k ρ => ∃ (d : D) (cs : List Cell) (x2 : Slt), isPin x2 = false ∧ Row ns d ∧ ShU cs (1 + k) ∧ ρ = [some (.pin, d), some (.own, fd cs), x2, none]) (List.range n) [some (.pin, d3), some (.own, fd [(u, v)]), none, none] ⟨d3, _, none, rfl, r3, s0, rfl⟩ fun k a ρ ek ⟨d, cs, x2, p2, r, s, e⟩ => by
    subst e
    have hk : k < n := by
      have := (List.getElem?_eq_some_iff.mp ek).1
      simpa using this
    obtain ⟨u, d1, e1, a1, b1, r1⟩ := signed_ok (m := 2) r (by omega)
    obtain ⟨v, d2, e2, a2, b2, r2⟩ := signed_ok (m := 2) r1 (by omega)
    have sl := s.len
    have st := setT_c (c := (u, v)) (show cs.length < 1000000 by omega)
    unfold cellD at st
    refine ⟨rfl, [some (.pin, d), some (.own, fd cs), some (.own, .int a), none], [some (.pin, d2), some (.own, fd (ins cs (u, v))), some (.own, .int a), none], by simp [-e_put, e_put', p2], .inl ?_, d2, _, _, rfl, r2, (by rw [← Nat.add_assoc]; exact s.ins ⟨⟨by omega, by omega⟩, by omega, by omega⟩), rfl⟩
    simp [gSubM, e1, e2, if_size, st, ownAt, mTup]
  rw [List.length_range] at s4
  subst f2
  have s5 := s4.shp (show 1 + n ≤ 6 by omega)
  have f0 : (List.range n).map (fun k : Nat => D.int (k : Int)) = rng 0 (n : Int) := (rng_len n).symm
  rw [f0] at f1
  have px := pure_ink (srt cs)
  obtain ⟨j, hj, d5, e5, r5⟩ := pick_ok (xs := [inkD (srt cs), inkD (srt cs), inkD sh1, inkD sh2, inkD sh3, inkD sh4]) r4 (by show 0 < 6; decide) (by show 6 < 1000000; decide) (by simp [pures, px]; decide)
  have ad : oAdd (.lst [inkD (srt cs), inkD (srt cs)]) (.lst [.tup [.tup [.int 0, .int 0]], .tup [.tup [.int 0, .int 0], .tup [.int 0, .int 1]], .tup [.tup [.int (-1), .int 0], .tup [.int 0, .int (-1)], .tup [.int 0, .int 0], .tup [.int 0, .int 1], .tup [.int 1, .int 0]], .tup [.tup [.int 0, .int 0], .tup [.int 0, .int 1], .tup [.int 1, .int 0], .tup [.int 1, .int 1]]]) = some (.lst [inkD (srt cs), inkD (srt cs), inkD sh1, inkD sh2, inkD sh3, inkD sh4]) := by
    have p2 : pures [inkD (srt cs), inkD (srt cs)] = true := by simp [pures, px]
    exact add_lsts (by show 2 + 4 ≤ sizeLine; rw [size_eq]; omega) p2 (by decide)
  have la := listA_c cs
  have sa : sortedA [.lst (cs.map cellD)] = some (.lst ((srt cs).map cellD)) := sortedA_l _
  have tc := tupleD_c (srt cs)
  have main : F_law_shape d [] = some ([inkD (srt cs), inkD (srt cs), inkD sh1, inkD sh2, inkD sh3, inkD sh4][j], d5) := by
    unfold F_law_shape s_law_shape
    simp (disch := omega) [-Int.natCast_add, mDisp, gSubM, ds, e1, e2, e3, mRng1F, v_rng1, if_size, f1, la, sa, tc, ad, e5]
  have hj' : j < 6 := hj
  match j, hj', hj, main with
  | 0, _, _, m => exact ⟨_, _, m, s5, r5⟩
  | 1, _, _, m => exact ⟨_, _, m, s5, r5⟩
  | 2, _, _, m => exact ⟨_, _, m, shp1, r5⟩
  | 3, _, _, m => exact ⟨_, _, m, shp2, r5⟩
  | 4, _, _, m => exact ⟨_, _, m, shp3, r5⟩
  | 5, _, _, m => exact ⟨_, _, m, shp4, r5⟩
end C
end DL
namespace DL
open PySem PySem.Spec L2
/-! ### drawn inks and drawn shapes together -/
namespace C
section
variable {as bs : List Cell} {h w : Nat}
end
end C
end DL
namespace DL
open PySem PySem.Spec L2
/-! ### sums of so many equal shapes -/
/-- cells near (0, 0) -/
def Near (n : Int) (cs : List Cell) : Prop := ∀ c ∈ cs, (-n ≤ c.1 ∧ c.1 ≤ n) ∧ (-n ≤ c.2 ∧ c.2 ≤ n)
theorem Near.few {cs : List Cell} {n : Nat} (h : Near n cs) (nd : cs.Nodup) : cs.length ≤ (2 * n + 1) * (2 * n + 1) := by
  have b : Box (cs.map fun c => (c.1 + (n : Int), c.2 + (n : Int))) (2 * n + 1) (2 * n + 1) := by
    refine ⟨?_, fun c hc => ?_⟩
    · refine List.pairwise_map.mpr (nd.imp fun {a b} ne e => ne ?_)
      simp only [Prod.mk.injEq] at e
      exact Prod.ext (by omega) (by omega)
    · obtain ⟨a, ha, rfl⟩ := List.mem_map.mp hc
      have := h a ha
      refine ⟨?_, ?_, ?_, ?_⟩ <;> simp only <;> omega
  have := b.few
  rw [List.length_map] at this
  exact this
def Wn (bs : List Cell) : Nat → List Cell
  | 0 => [(0, 0)]
  | n + 1 => mk (sumC (Wn bs n) bs)
/-- opened -/
def opn (as bs : List Cell) : List Cell := mk (sumC (mk (shrC as bs)) bs)
end DL
namespace DL
open PySem PySem.Spec L2
/-! ### boxes -/
/-- cells in a box of so many lines and columns -/
theorem box_few {cs : List Cell} {t l : Int} {h w : Nat} (nd : cs.Nodup) (b : ∀ c ∈ cs, (t ≤ c.1 ∧ c.1 < t + (h : Int)) ∧ (l ≤ c.2 ∧ c.2 < l + (w : Int))) : cs.length ≤ h * w := by
  have bx : Box (cs.map fun c => (c.1 - t, c.2 - l)) h w := by
    refine ⟨?_, fun c hc => ?_⟩
    · refine List.pairwise_map.mpr (nd.imp fun {a b} ne e => ne ?_)
      simp only [Prod.mk.injEq] at e
      exact Prod.ext (by omega) (by omega)
    · obtain ⟨a, ha, rfl⟩ := List.mem_map.mp hc
      have := b a ha
      refine ⟨?_, ?_, ?_, ?_⟩ <;> simp only <;> omega
  have := bx.few
  rw [List.length_map] at this
  exact this
def top (cs : List Cell) : Int := minI (cs.map (·.1))
def left (cs : List Cell) : Int := minI (cs.map (·.2))
def bot (cs : List Cell) : Int := maxI (cs.map (·.1)) + 1
def right (cs : List Cell) : Int := maxI (cs.map (·.2)) + 1
theorem in_box {cs : List Cell} {c : Cell} (h : c ∈ cs) : (top cs ≤ c.1 ∧ c.1 < bot cs) ∧ (left cs ≤ c.2 ∧ c.2 < right cs) := by
  have h1 : c.1 ∈ cs.map (·.1) := List.mem_map.mpr ⟨c, h, rfl⟩
  have h2 : c.2 ∈ cs.map (·.2) := List.mem_map.mpr ⟨c, h, rfl⟩
  have := minI_le h1
  have := maxI_ge h1
  have := minI_le h2
  have := maxI_ge h2
  unfold top left bot right
  omega
theorem box_in {cs : List Cell} (h : cs ≠ []) {t l b r : Int} (hb : ∀ c ∈ cs, (t ≤ c.1 ∧ c.1 < b) ∧ (l ≤ c.2 ∧ c.2 < r)) : t ≤ top cs ∧ bot cs ≤ b ∧ l ≤ left cs ∧ right cs ≤ r := by
  have h1 : cs.map (·.1) ≠ [] := by simpa using h
  have h2 : cs.map (·.2) ≠ [] := by simpa using h
  obtain ⟨c1, m1, e1⟩ := List.mem_map.mp (minI_mem h1)
  obtain ⟨c2, m2, e2⟩ := List.mem_map.mp (maxI_mem h1)
  obtain ⟨c3, m3, e3⟩ := List.mem_map.mp (minI_mem h2)
  obtain ⟨c4, m4, e4⟩ := List.mem_map.mp (maxI_mem h2)
  have := hb c1 m1
  have := hb c2 m2
  have := hb c3 m3
  have := hb c4 m4
  unfold top left bot right
  omega
def boxD (cs : List Cell) : D := .tup [.int (top cs), .int (left cs), .int (bot cs), .int (right cs)]
namespace C
abbrev N_box_in : List Str := ["ink", "rows", "columns", "row", "column"]
def s_box_in : ES := (sSeq (sPar 1 2 (msCons (mP (xComp [3, 4] (xIt (xVar 0)) (gTupD 2 (gsCons (putB 3) (gsCons (putB 4) gsNil))) yYes (xPure (xVar 3)))) (msCons (mP (xComp [3, 4] (xIt (xVar 0)) (gTupD 2 (gsCons (putB 3) (gsCons (putB 4) gsNil))) yYes (xPure (xVar 4)))) msNil)))
  (sRet (mP (xTup (xsCons (xCall minLD (xsCons (xVar 1) xsNil)) (xsCons (xCall minLD (xsCons (xVar 2) xsNil)) (xsCons (xOp oAdd (xCall maxLD (xsCons (xVar 1) xsNil)) (xC (.int 1))) (xsCons (xOp oAdd (xCall maxLD (xsCons (xVar 2) xsNil)) (xC (.int 1))) xsNil))))))))
def F_box_in : List D → Option D := fnP N_box_in s_box_in
abbrev N_law_box : List Str := ["_law_ink_here", "_law_rows", "_law_columns", "_law_row", "_law_column"]
def s_law_box : ES := (sSeq (sPar 1 2 (msCons (mP (xComp [3, 4] (xIt (xVar 0)) (gTupD 2 (gsCons (putB 3) (gsCons (putB 4) gsNil))) yYes (xPure (xVar 3)))) (msCons (mP (xComp [3, 4] (xIt (xVar 0)) (gTupD 2 (gsCons (putB 3) (gsCons (putB 4) gsNil))) yYes (xPure (xVar 4)))) msNil)))
  (sRet (mP (xTup (xsCons (xCall minLD (xsCons (xVar 1) xsNil)) (xsCons (xCall minLD (xsCons (xVar 2) xsNil)) (xsCons (xOp oAdd (xCall maxLD (xsCons (xVar 1) xsNil)) (xC (.int 1))) (xsCons (xOp oAdd (xCall maxLD (xsCons (xVar 2) xsNil)) (xC (.int 1))) xsNil))))))))
def F_law_box : List D → Option D := fnP N_law_box s_law_box
abbrev N_reflected : List Str := ["shape", "row", "column"]
def s_reflected : ES := (sSeq (sDrop (mP (xCall F_need_ink (xsCons (xVar 0) xsNil))))
  (sRet (mP (xCall F_made (xsCons (xComp [1, 2] (xIt (xVar 0)) (gTupD 2 (gsCons (putB 1) (gsCons (putB 2) gsNil))) yYes (xTup (xsCons (xNeg (xVar 1)) (xsCons (xNeg (xVar 2)) xsNil)))) xsNil)))))
def F_reflected : List D → Option D := fnP N_reflected s_reflected
abbrev N_ground : List Str := ["ink", "rim", "top", "left", "bottom", "right", "cells", "wide", "cell", "row", "column"]
def s_ground : ES := (sSeq (sDrop (mP (xCall F_need_ink (xsCons (xVar 0) xsNil))))
  (sSeq (sIf (tP' (xBool (xOp oEq (xVar 0) (xTup xsNil)))) sNever sNext)
  (sSeq (sIf (tP' (yNot (xBool (xCall F_is_in (xsCons (xVar 1) (xsCons (xC (.int 0)) (xsCons (xC (.int 6)) xsNil))))))) sNever sNext)
  (sSeq (sAsg (mP (xCall F_box_in (xsCons (xVar 0) xsNil))) (gTupD 4 (gsCons (put 2) (gsCons (put 3) (gsCons (put 4) (gsCons (put 5) gsNil))))))
  (sSeq (sAsg (mP (xDict [8] (xIt (xVar 0)) (putB 8) yYes (xPure (xVar 8)) (xC (.bl true)))) (put 6))
  (sSeq (sAsg (mP (xComp2 [9, 10] [10] (xRng2 (xsCons (xOp oSub (xVar 2) (xVar 1)) (xsCons (xOp oAdd (xVar 4) (xVar 1)) xsNil))) (putB 9) yYes (xRng2 (xsCons (xOp oSub (xVar 3) (xVar 1)) (xsCons (xOp oAdd (xVar 5) (xVar 1)) xsNil))) (putB 10) yYes (xTup (xsCons (xPure (xVar 9)) (xsCons (xPure (xVar 10)) xsNil))))) (put 7))
  (sRet (mP (xCall F_made (xsCons (xComp [8] (xIt (xVar 7)) (putB 8) (xBool (xOp oNin (xVar 8) (xVar 6))) (xPure (xVar 8))) xsNil))))))))))
def F_ground : List D → Option D := fnP N_ground s_ground
abbrev negC (c : Cell) : Cell := (-c.1, -c.2)
end C
end DL
namespace DL
open PySem PySem.Spec PyProof.Rows L2
/-! ### a, b, c = x, y, z with plain local names -/
theorem Val.beside {K : PySem.W.Frag} {c : Ct} {H : Hp} {ρ : Env} {fp : Nat → List Addr} {d e : D} {w : V} {F G : List Addr} {i : Nat} (y : Val K c H ρ fp e w G) (n : ∀ a ∈ F, a ∉ G) (hi : i < ρ.length) : Val K c H (ρ.set i (some (Fl.own, d))) (fun l => if l = i then F else fp l) e w G := by
  refine ⟨y.rep, y.nd, y.ow, fun l m g q hm a ha hl => ?_⟩
  by_cases hli : l = i
  · subst hli
    rw [if_pos rfl] at hl
    exact n a hl ha
  · rw [if_neg hli] at hl
    rw [List.getElem?_set_ne (Ne.symm hli)] at q
    exact y.dj l m g q hm a ha hl
def sPar3 (i j l : Nat) (ms : EMs) : ES := fun ρ => (ms ρ).bind fun x => match x.1 with
  | [d, e, f] => (put i d x.2).bind fun ρ1 => (put j e ρ1).bind fun ρ2 => (put l f ρ2).bind fun ρ3 => some (.nx ρ3)
  | _ => none
section
variable {X : Cx} {a b c : Expr} {pos : Pos}
end
end DL
namespace DL
open PySem PySem.Spec L2
section
variable {s : Slt} {ρ : Env}
def putF3 (i j l : Nat) (x : List D × Env) : Option Out := match x.1 with
  | [d, e, f] => (put i d x.2).bind fun ρ1 => (put j e ρ1).bind fun ρ2 => (put l f ρ2).bind fun ρ3 => some (.nx ρ3)
  | _ => none
@[simp] theorem e_par3 {i j l : Nat} {ms : EMs} : sPar3 i j l ms (s :: ρ) = (ms (s :: ρ)).bind fun x => match x.1 with | [d, e, f] => (put i d x.2).bind fun ρ1 => (put j e ρ1).bind fun ρ2 => (put l f ρ2).bind fun ρ3 => some (.nx ρ3) | _ => none := (rfl)
end
end DL
namespace DL
open PySem PySem.Spec L2
/-- cells in a box -/
def InBox (t l : Int) (h w : Nat) (cs : List Cell) : Prop := ∀ c ∈ cs, (t ≤ c.1 ∧ c.1 < t + (h : Int)) ∧ (l ≤ c.2 ∧ c.2 < l + (w : Int))
theorem InBox.few {t l : Int} {h w : Nat} {cs : List Cell} (b : InBox t l h w cs) : (mk cs).length ≤ h * w := box_few (pair_nodup (mk_pair cs)) fun c hc => b c (mk_mem.mp hc)
theorem InBox.sum {t l : Int} {h w n : Nat} {cs bs : List Cell} (b : InBox t l h w cs) (s : Near n bs) : InBox (t - n) (l - n) (h + 2 * n) (w + 2 * n) (sumC cs bs) := fun c hc => by
  obtain ⟨a, ha, b', hb, rfl⟩ := mem_sumC.mp hc
  have h1 := b a ha
  have h2 := s b' hb
  simp only [addC]
  omega
theorem InBox.mk {t l : Int} {h w : Nat} {cs : List Cell} (b : InBox t l h w cs) : InBox t l h w (mk cs) := fun c hc => b c (mk_mem.mp hc)
theorem Shp.near {bs : List Cell} (s : Shp bs) : Near ((2 : Nat) : Int) bs := fun c hc => by
  have := s.row c hc
  have := s.col c hc
  omega
theorem Near.sum {m n : Nat} {as bs : List Cell} (a : Near m as) (b : Near n bs) : Near ((m + n : Nat) : Int) (mk (sumC as bs)) := fun c hc => by
  obtain ⟨x, hx, y, hy, rfl⟩ := mem_sumC.mp (mk_mem.mp hc)
  have := a x hx
  have := b y hy
  simp only [addC]
  omega
/-- an ink in a box that lies around (0, 0) -/
structure Bxd (cs : List Cell) (t l : Int) (h w : Nat) : Prop where
  srt : cs.Pairwise ltc
  box : InBox t l h w cs
  lo : -20 ≤ t ∧ -20 ≤ l
  hi : t + (h : Int) ≤ 50 ∧ l + (w : Int) ≤ 50
  few : h * w ≤ 400
theorem Bxd.good {cs : List Cell} {t l : Int} {h w : Nat} (b : Bxd cs t l h w) : Good cs := by
  have h1 := box_few (pair_nodup b.srt) b.box
  have h2 := b.few
  exact ⟨by omega, fun c hc => by have := b.box c hc; have := b.lo; have := b.hi; omega, fun c hc => by have := b.box c hc; have := b.lo; have := b.hi; omega, b.srt⟩
namespace C
end C
end DL
namespace DL
open PySem PySem.Spec L2
/-! ### all cells of a box; the ground -/
def wideC (t l : Int) (h w : Nat) : List Cell := (List.range h).flatMap fun i : Nat => (List.range w).map fun j : Nat => ((t + ((i : Nat) : Int), l + ((j : Nat) : Int)) : Cell)
theorem mem_wide {t l : Int} {h w : Nat} {c : Cell} : c ∈ wideC t l h w ↔ (t ≤ c.1 ∧ c.1 < t + (h : Int)) ∧ (l ≤ c.2 ∧ c.2 < l + (w : Int)) := by
  unfold wideC
  simp only [List.mem_flatMap, List.mem_map, List.mem_range]
  constructor
  · rintro ⟨i, hi, j, hj, rfl⟩
    simp only
    omega
  · intro ⟨⟨h1, h2⟩, h3, h4⟩
    exact ⟨(c.1 - t).toNat, by omega, (c.2 - l).toNat, by omega, Prod.ext (by simp only; omega) (by simp only; omega)⟩
theorem wide_len (t l : Int) (h w : Nat) : (wideC t l h w).length = h * w := by
  unfold wideC
  have : ∀ k : List Nat, (k.flatMap fun i : Nat => (List.range w).map fun j : Nat => ((t + ((i : Nat) : Int), l + ((j : Nat) : Int)) : Cell)).length = k.length * w := fun k => by
    induction k with
    | nil => simp
    | cons a k ih => rw [List.flatMap_cons, List.length_append, ih, List.length_map, List.length_range, List.length_cons, Nat.add_mul, Nat.one_mul, Nat.add_comm]
  rw [this, List.length_range]
/-- the ground in a box so much wider -/
def grd (as : List Cell) (n : Int) : List Cell := (wideC (top as - n) (left as - n) ((bot as + n) - (top as - n)).toNat ((right as + n) - (left as - n)).toNat).filter fun c => !decide (c ∈ as)
namespace C
end C
end DL
namespace DL
open PySem PySem.Spec PyProof.Rows L2
/-! ### walking over what a turning expression gives -/
def mIt (m : EM) : IM := fun ρ => (m ρ).bind fun x => (itemsOf x.1).bind fun its => some (its, x.2)
section
variable {X : Cx} {tg iter : Expr} {m : EM}
end
end DL
namespace DL
open PySem PySem.Spec PyProof.Rows L2
/-! ### the module's own tuples of tuples -/
def Cst (K : PySem.W.Frag) (u : Value) (d : D) : Prop := ∃ v, RelV v u ∧ ∀ H, Rep K H d v []
def CstAll (K : PySem.W.Frag) (us : List Value) (ds : List D) : Prop := ∃ vs, Vals vs us ∧ ∀ H, Reps K H ds vs []
end DL
namespace DL
open PySem PySem.Spec L2
/-! ### the least of some inks -/
def toksI (as : List Cell) : List (Int ⊕ List Nat) := PySem.W.keyToks (py (inkD as))
def ltK (as bs : List Cell) : Bool := PySem.W.dataLt (py (inkD as)) (py (inkD bs))
def minG (x : List Cell) (xs : List (List Cell)) : List Cell := xs.foldl (fun a y => if ltK y a = true then y else a) x
def minK : List (List Cell) → List Cell
  | [] => []
  | x :: xs => minG x xs
end DL
namespace DL
open PySem PySem.Spec L2
/-! ### moved, turned, settled -/
/-- the coefficients of the turns -/
def trO : Nat → Int | 0 => 1 | 1 => 0 | 2 => -1 | 3 => 0 | 4 => 1 | 5 => 0 | 6 => -1 | _ => 0
def trW : Nat → Int | 0 => 0 | 1 => 1 | 2 => 0 | 3 => -1 | 4 => 0 | 5 => 1 | 6 => 0 | _ => -1
def trT : Nat → Int | 0 => 0 | 1 => -1 | 2 => 0 | 3 => 1 | 4 => 0 | 5 => 1 | 6 => 0 | _ => -1
def trF : Nat → Int | 0 => 1 | 1 => 0 | 2 => -1 | 3 => 0 | 4 => -1 | 5 => 0 | 6 => 1 | _ => 0
def trC (k : Nat) (c : Cell) : Cell := (trO k * c.1 + trW k * c.2, trT k * c.1 + trF k * c.2)
theorem tr2 (c : Cell) : trC 2 c = (-c.1, -c.2) := by simp [trC, trO, trW, trT, trF]
/-- an ink turned -/
def trn (k : Nat) (as : List Cell) : List Cell := mk (as.map (trC k))
/-- an ink settled -/
def stl (as : List Cell) : List Cell := as.map fun c => addC c (-top as, -left as)
def shapes (as : List Cell) : List (List Cell) := (List.range 8).map fun k => stl (trn k as)
def shp (as : List Cell) : List Cell := minK (shapes as)
end DL
namespace DL
open PySem PySem.Spec L2
namespace C
def c_TURNS : D := (.ctp [(.ctp [(.int 1), (.int 0), (.int 0), (.int 1)]), (.ctp [(.int 0), (.int 1), (.int (-1)), (.int 0)]), (.ctp [(.int (-1)), (.int 0), (.int 0), (.int (-1))]), (.ctp [(.int 0), (.int (-1)), (.int 1), (.int 0)]), (.ctp [(.int 1), (.int 0), (.int 0), (.int (-1))]), (.ctp [(.int 0), (.int 1), (.int 1), (.int 0)]), (.ctp [(.int (-1)), (.int 0), (.int 0), (.int 1)]), (.ctp [(.int 0), (.int (-1)), (.int (-1)), (.int 0)])])
abbrev N_need_cell : List Str := ["value"]
def s_need_cell : ES := (sIf (tP' (yNot (xBool (xCall F_is_cell (xsCons (xVar 0) xsNil))))) sNever sNext)
def F_need_cell : List D → Option D := fnP N_need_cell s_need_cell
abbrev N_moved : List Str := ["ink", "cell"]
def s_moved : ES := (sSeq (sDrop (mP (xCall F_need_ink (xsCons (xVar 0) xsNil))))
  (sSeq (sDrop (mP (xCall F_need_cell (xsCons (xVar 1) xsNil))))
  (sRet (mP (xCall F_made (xsCons (xCall F_moved_in (xsCons (xVar 0) (xsCons (xOp ixD (xVar 1) (xC (.int 0))) (xsCons (xOp ixD (xVar 1) (xC (.int 1))) xsNil)))) xsNil))))))
def F_moved : List D → Option D := fnP N_moved s_moved
abbrev N_turned : List Str := ["ink", "turn", "one", "two", "three", "four", "row", "column"]
def s_turned : ES := (sSeq (sDrop (mP (xCall F_need_ink (xsCons (xVar 0) xsNil))))
  (sSeq (sIf (tP' (yNot (xBool (xCall F_is_in (xsCons (xVar 1) (xsCons (xC (.int 0)) (xsCons (xOp oSub (xCall lenD (xsCons (xC c_TURNS) xsNil)) (xC (.int 1))) xsNil))))))) sNever sNext)
  (sSeq (sAsg (mP (xPure (xOp ixD (xC c_TURNS) (xVar 1)))) (gTupD 4 (gsCons (put 2) (gsCons (put 3) (gsCons (put 4) (gsCons (put 5) gsNil))))))
  (sRet (mP (xCall F_made (xsCons (xComp [6, 7] (xIt (xVar 0)) (gTupD 2 (gsCons (putB 6) (gsCons (putB 7) gsNil))) yYes (xTup (xsCons (xOp oAdd (xOp oMul (xVar 2) (xVar 6)) (xOp oMul (xVar 3) (xVar 7))) (xsCons (xOp oAdd (xOp oMul (xVar 4) (xVar 6)) (xOp oMul (xVar 5) (xVar 7))) xsNil)))) xsNil)))))))
def F_turned : List D → Option D := fnP N_turned s_turned
abbrev N_settled : List Str := ["ink", "top", "left", "bottom", "right"]
def s_settled : ES := (sSeq (sDrop (mP (xCall F_need_ink (xsCons (xVar 0) xsNil))))
  (sSeq (sIf (tP' (xBool (xOp oEq (xVar 0) (xTup xsNil)))) (sRet (mP (xTup xsNil))) sNext)
  (sSeq (sAsg (mP (xCall F_box_in (xsCons (xVar 0) xsNil))) (gTupD 4 (gsCons (put 1) (gsCons (put 2) (gsCons (put 3) (gsCons (put 4) gsNil))))))
  (sRet (mP (xCall F_made (xsCons (xCall F_moved_in (xsCons (xVar 0) (xsCons (xNeg (xVar 1)) (xsCons (xNeg (xVar 2)) xsNil)))) xsNil)))))))
def F_settled : List D → Option D := fnP N_settled s_settled
abbrev N_shape_of : List Str := ["ink", "turn"]
def s_shape_of : ES := (sSeq (sDrop (mP (xCall F_need_ink (xsCons (xVar 0) xsNil))))
  (sRet (mP (xCall minLD (xsCons (xComp [1] (xRng1 (xsCons (xCall lenD (xsCons (xC c_TURNS) xsNil)) xsNil)) (putB 1) yYes (xCall F_settled (xsCons (xCall F_turned (xsCons (xVar 0) (xsCons (xVar 1) xsNil))) xsNil))) xsNil)))))
def F_shape_of : List D → Option D := fnP N_shape_of s_shape_of
end C
end DL
namespace DL
open PySem PySem.Spec PyProof.Rows L2
/-! ### and, or whose first part turns the state -/
def tAndT (p q : ET) : ET := fun ρ => (p ρ).bind fun x => if x.1 = true then q x.2 else some (false, x.2)
def tOrT (p q : ET) : ET := fun ρ => (p ρ).bind fun x => if x.1 = true then some (true, x.2) else q x.2
section
variable {X : Cx} {a b : Expr} {rest : List Expr} {pos : Pos} {p q : ET}
end
end DL
namespace DL
open PySem PySem.Spec L2
/-! ### sums over the cells of an ink -/
def sm (f : Cell → Int) : List Cell → Int
  | [] => 0
  | c :: cs => f c + sm f cs
abbrev fr (c : Cell) : Int := c.1
abbrev fc (c : Cell) : Int := c.2
abbrev frr (c : Cell) : Int := c.1 * c.1
abbrev frc (c : Cell) : Int := c.1 * c.2
abbrev fcc (c : Cell) : Int := c.2 * c.2
def cF (cs : List Cell) : Int := cs.length * sm frr cs - sm fr cs * sm fr cs
def cM (cs : List Cell) : Int := cs.length * sm frc cs - sm fr cs * sm fc cs
def cL (cs : List Cell) : Int := cs.length * sm fcc cs - sm fc cs * sm fc cs
end DL
namespace DL
open PySem PySem.Spec PyProof.Rows L2
/-! ### extend -/
def extendD : D → List D → Option (D × D) := fun d ds => match d, ds with
  | .lst xs, [.lst ys] => if xs.length + ys.length ≤ sizeLine then if pures ys = true then some (.non, .lst (xs ++ ys)) else none else none
  | _, _ => none
/-! ### d.get(k, x) -/
def get2D : D → D → D → Option D := fun d k z => if pure z = true then (getD d k).bind fun o => if pure (o.getD z) = true then some (o.getD z) else none else none
def xGet2 (fo fe ff : EX) : EX := fun ρ => (fo ρ).bind fun d => (fe ρ).bind fun k => (ff ρ).bind fun z => get2D d k z
section
variable {X : Cx} {o e f : Expr} {apos cpos pos p2 : Pos} {fo fe ff : EX}
/-! ### xs[lo:hi] -/
def cutL {α : Type} (xs : List α) (lo hi : Option Int) : List α := (xs.drop (HT.sIx xs.length 0 lo)).take (HT.sIx xs.length xs.length hi - HT.sIx xs.length 0 lo)
def cutD : D → Option Int → Option Int → Option D := fun d lo hi => match d with
  | .lst xs => if pures xs = true then some (.lst (cutL xs lo hi)) else none
  | .tup xs => if pures xs = true then some (.tup (cutL xs lo hi)) else none
  | _ => none
def optI : Option EX → Env → Option (Option Int)
  | none, _ => some none
  | some f, ρ => (f ρ).bind fun d => match d with
    | .int i => some (some i)
    | _ => none
def xCut (f : EX) (lo hi : Option EX) : EX := fun ρ => (f ρ).bind fun d => (optI lo ρ).bind fun l => (optI hi ρ).bind fun h => cutD d l h
def tOf (K : PySem.W.Frag) : Option EX → TO
  | none => tNoPart
  | some f => tPart (tP K false f)
end
end DL
namespace DL
open PySem PySem.Spec PyProof.Rows L2
/-! ### list.remove of data -/
def rRemD (K : PySem.W.Frag) : V → List V → Hp → VK → Prop := fun x xs H Q => ∃ (l : Addr) (ys : List V) (y : V) (d : PyData) (ds : List PyData) (j : Nat) (z : PyData), x = .ref l ∧ xs = [y] ∧ H l = some (.lst ys) ∧ DpAll K H ys ds ∧ Dp K H y d ∧ PyData.canLayAll0 ds = true ∧ d.canLay0 = true ∧ PyData.depthAll ds ≤ 60 ∧
  ds[j]? = some z ∧ PyData.eqv z d = true ∧ (∀ (m : Nat) (z' : PyData), m < j → ds[m]? = some z' → PyData.eqv z' d = false) ∧ Q .non (upd H l (.lst (ys.eraseIdx j)))
section
variable {X : Cx}
end
def removeD : D → List D → Option (D × D) := fun d ds => match d, ds with
  | .lst xs, [y] => if pures xs = true then if inOk xs y = true then (xs.findIdx? fun z => eqv z y).map fun j => (.non, .lst (xs.eraseIdx j)) else none else none
  | _, _ => none
/-! ### [*xs, ..] -/
def xsStar (f : EX) (fs : EXs) : EXs := fun ρ => (f ρ).bind fun d => (itemsOf d).bind fun xs => if pures xs = true then (fs ρ).bind fun ys => some (xs ++ ys) else none
section
variable {X : Cx} {e : Expr} {es : List Expr} {f : EX} {fs : EXs} {p : Pos}
end
end DL
namespace DL
open PySem PySem.Spec L2
/-! ### statements one after another; while -/
theorem fn_rt {N : List Str} {g : ES} {ds : List D} {ρ ρ' : Env} {d : D} (he : env0 N ds = ρ) (h : g ρ = some (.rt d ρ')) : fnP N g ds = some d := by
  unfold fnP
  rw [he, h]
  rfl
section
variable {s : Slt} {ρ : Env}
@[simp] theorem e_cut {f : EX} {lo hi : Option EX} : xCut f lo hi (s :: ρ) = (f (s :: ρ)).bind fun d => (optI lo (s :: ρ)).bind fun l => (optI hi (s :: ρ)).bind fun h => cutD d l h := (rfl)
@[simp] theorem e_opt0 : optI none (s :: ρ) = some none := (rfl)
@[simp] theorem e_opt1 {f : EX} : optI (some f) (s :: ρ) = (f (s :: ρ)).bind fun d => match d with | .int i => some (some i) | _ => none := (rfl)
@[simp] theorem e_get2 {a b c : EX} : xGet2 a b c (s :: ρ) = (a (s :: ρ)).bind fun d => (b (s :: ρ)).bind fun k => (c (s :: ρ)).bind fun z => get2D d k z := (rfl)
@[simp] theorem e_star {f : EX} {fs : EXs} : xsStar f fs (s :: ρ) = (f (s :: ρ)).bind fun d => (itemsOf d).bind fun xs => if pures xs = true then (fs (s :: ρ)).bind fun ys => some (xs ++ ys) else none := (rfl)
@[simp] theorem e_tor {p q : ET} : tOrT p q (s :: ρ) = (p (s :: ρ)).bind fun x => if x.1 = true then some (true, x.2) else q x.2 := (rfl)
@[simp] theorem e_tand {p q : ET} : tAndT p q (s :: ρ) = (p (s :: ρ)).bind fun x => if x.1 = true then q x.2 else some (false, x.2) := (rfl)
end
end DL
namespace DL
open PySem PySem.Spec PyProof.Rows L2
/-! ### len of a dict with tuples as keys -/
def rLenDT : List V → Hp → VK → Prop := fun xs H Q => ∃ (p : Addr) (kvs : List (List Key × V)), xs = [.ref p] ∧ Rd H p (.dT kvs) ∧ Q (.int ((kvs.length : Nat) : Int)) H
def lenX : List D → Option D := fun ds => match ds with
  | [.dT ks xs] => some (.int ks.length)
  | _ => lenD ds
end DL
namespace DL
open PySem PySem.Spec PyProof.Rows L2
/-! ### a call that changes its first argument, the second one a name that is only lent -/
def mCallRv (F : D → List D → Option (D × D)) (i j : Nat) : EM := fun ρ => (xVar j ρ).bind fun e => match ρ[i]? with
  | some (some (m, d0)) => if m = .bor ∨ i = j then none else (F d0 [e]).bind fun y => some (y.1, ρ.set i (some (m, y.2)))
  | _ => none
section
variable {X : Cx} {x : Str} {po pos : Pos} {e1 e2 : Expr}
end
variable {s : Slt} {ρ : Env}
@[simp] theorem e_callRv {F : D → List D → Option (D × D)} {i j : Nat} : mCallRv F i j (s :: ρ) = (xVar j (s :: ρ)).bind fun e => match (s :: ρ)[i]? with
  | some (some (m, d0)) => if m = .bor ∨ i = j then none else (F d0 [e]).bind fun y => some (y.1, (s :: ρ).set i (some (m, y.2)))
  | _ => none := rfl
end DL
namespace DL
open PySem PySem.Spec PyProof.Rows L2
/-! ### sum of any sequence of numbers -/
def sumX : List D → Option D := fun ds => match ds with
  | [d] => (itemsOf d).bind fun xs => (toInts xs).map fun ns => .int ns.sum
  | _ => none
def rSumX (K : PySem.W.Frag) : List V → Hp → VK → Prop := fun vs H Q => ∃ (a : Addr) (ns : List Int), vs = [V.ref a] ∧ (SqL K H a (ns.map V.int) ∨ SqT K H a (ns.map V.int)) ∧ Q (.int ns.sum) H
end DL
namespace DL
open PySem PySem.Spec PyProof.Rows L2
section
variable {prog : Program} {w : World} {A : Around} {E : Value → Shared → Prop} {s : Shared}
/-! ### xs[::-1] -/
end
def revD : D → Option D
  | .tup xs => if pures xs = true then if xs.length ≤ sizeLine then some (.tup xs.reverse) else none else none
  | .ctp xs => if pures xs = true then if xs.length ≤ sizeLine then some (.tup xs.reverse) else none else none
  | .lst xs => if pures xs = true then if xs.length ≤ sizeLine then some (.lst xs.reverse) else none else none
  | .frz xs => if pures xs = true then if xs.length ≤ sizeLine then some (.lst xs.reverse) else none else none
  | _ => none
def xRev (f : EX) : EX := fun ρ => (f ρ).bind revD
section
variable {X : Cx} {o : Expr} {fo : EX} {pos p2 p3 p4 : Pos} {tk : Nat}
end
/-! ### i << j, i >> j -/
def oShl : D → D → Option D := o2 (fun i j => decide (0 ≤ j) && decide (j ≤ 1000000) && decide (i.natAbs < 2 ^ 64)) fun i j => i * 2 ^ j.toNat
def oShr : D → D → Option D := o2 (fun _ j => decide (0 ≤ j)) fun i j => i / 2 ^ j.toNat
end DL
namespace DL
open PySem PySem.Spec PyProof.Rows L2
/-! ### t[lo:hi], a tuple, the parts with effects -/
def optM : Option EM → Env → Option (Option Int × Env)
  | none, ρ => some (none, ρ)
  | some m, ρ => (m ρ).bind fun x => match x.1 with
    | .int i => some (some i, x.2)
    | _ => none
def cutTD : D → Option Int → Option Int → Option D := fun d lo hi => match d with
  | .tup xs => if pures xs = true then some (.tup (cutL xs lo hi)) else none
  | _ => none
def mCut (m : EM) (lo hi : Option EM) : EM := fun ρ => (m ρ).bind fun x => (optM lo x.2).bind fun l => (optM hi l.2).bind fun h => (cutTD x.1 l.1 h.1).bind fun d => some (d, h.2)
def tOM (K : PySem.W.Frag) (o : Option EM) : TO := fun σ H Q => ∃ c ρ fp l ρ', Ok K c σ H ρ fp ∧ optM o ρ = some (l, ρ') ∧ ∀ H' fp', Ok K c σ H' ρ' fp' → Q l H'
theorem _root_.L2.PO.imp {X : Cx} {e : Option Expr} {t t' : TO} (h : PO X e t) (k : ∀ σ H Q, t' σ H Q → t σ H Q) : PO X e t' := ⟨fun pins s σ H Q I q => h.run pins s σ H Q I (k σ H Q q)⟩
section
variable {X : Cx} {o e : Expr} {pos p2 : Pos} {m : EM}
end
end DL
namespace DL
open PySem PySem.Spec PyProof.Rows L2
/-! ### is of truths -/
def oIsB : D → D → Option D := fun x y => match x, y with
  | .bl a, .bl b => some (.bl (decide (a = b)))
  | _, _ => none
def oNotB : D → D → Option D := fun x y => match x, y with
  | .bl a, .bl b => some (.bl (!decide (a = b)))
  | _, _ => none
end DL
namespace DL
open PySem PySem.Spec PyProof.Rows L2
/-! ### a new list that is frozen at once: nobody changes it any more -/
def frzD : D → Option D := fun d => match d with
  | .lst xs => if pures xs = true then some (.frz xs) else none
  | _ => none
def xFrz (f : EX) : EX := fun ρ => (f ρ).bind frzD
section
variable {X : Cx} {e : Expr} {f : EX}
end
end DL
namespace DL
open PySem PySem.Spec PyProof.Rows L2 RT
/-! ### for x in reversed(a sequence), reversed(a range) -/
def xRvI (f : EX) : IX := fun ρ => ((f ρ).bind itemsOf).map List.reverse
def xRvR2 (f g : EX) : IX := fun ρ => (f ρ).bind fun x => (g ρ).bind fun y => match x, y with
  | .int i, .int j => if rOk i = true then if rOk j = true then some (rng i j).reverse else none else none
  | _, _ => none
section
variable {X : Cx} {tg e a b : Expr} {f g : EX} {p p2 pos pos2 : Pos} {own : Bool}
end
end DL
namespace DL
open PySem PySem.Spec PyProof.Rows L2
/-! ### for k, v in d.items() of a dict with tuple keys that is locked -/
def ItiT (d : Addr) (o : Obj) (kvs : List (List Key × V)) : It where
  go i H := H d = some (.frz o (.dT kvs)) ∧ i < kvs.length
  yld i H x H' := ∃ (T q : Addr) (k : List Key) (v : V), kvs[i]? = some (k, v) ∧ x = .ref T ∧ H T = none ∧ H q = some (.tup (k.map kV)) ∧ H' = upd H T (.tup [.ref q, v])
  stop i H := H d = some (.frz o (.dT kvs)) ∧ kvs.length ≤ i
section
variable {X : Cx} {pins : List (Addr × Obj)} {σ : L2.St} {H : Hp} {s : Shared} {d : Addr} {o : Obj} {kvs : List (List Key × V)}
end
section
variable {P : Program} {w : World} {K : PySem.W.Frag} {d : Addr} {o : Obj} {es : Array DictEntry} {ep : Nat}
end
def iItemsT (td : TE) : TI := fun σ H R => td σ H fun x H1 => ∃ (d : Addr) (o : Obj) (kvs : List (List Key × V)), x = .ref d ∧ H1 d = some (.frz o (.dT kvs)) ∧ R (ItiT d o kvs) H1
/-! ### the lock put on and taken off -/
/-- two heaps that differ in the lock of a dict alone -/
structure Swp (a : Addr) (kvs : List (List Key × V)) (x y : HO) (H H' : Hp) : Prop where
  at1 : H a = some x
  at2 : H' a = some y
  ne : ∀ b, b ≠ a → H' b = H b
  x1 : x = .dT kvs ∨ ∃ o, x = .frz o (.dT kvs)
  y1 : y = .dT kvs ∨ ∃ o, y = .frz o (.dT kvs)
section
variable {K : PySem.W.Frag} {a : Addr} {kvs : List (List Key × V)} {x y : HO} {H H' : Hp}
theorem Swp.rd (w : Swp a kvs x y H H') {b : Addr} {o : HO} (h : Rd H b o) (hno : ∀ u z, o ≠ .frz u z) : Rd H' b o := by
  by_cases e : b = a
  · subst e
    have ho : o = .dT kvs := by
      rcases h with h | ⟨u, h⟩
      · rw [w.at1] at h
        cases h
        rcases w.x1 with z | ⟨u, z⟩
        · exact z
        · exact absurd z (hno _ _)
      · rw [w.at1] at h
        cases h
        rcases w.x1 with z | ⟨u', z⟩
        · cases z
        · cases z; rfl
    subst ho
    rcases w.y1 with z | ⟨u, z⟩
    · exact .inl (by rw [w.at2, z])
    · exact .inr ⟨u, by rw [w.at2, z]⟩
  · rcases h with h | ⟨u, h⟩
    · exact .inl (by rw [w.ne b e]; exact h)
    · exact .inr ⟨u, by rw [w.ne b e]; exact h⟩
theorem Swp.tup (w : Swp a kvs x y H H') {b : Addr} {vs : List V} (h : H b = some (.tup vs)) : H' b = some (.tup vs) := by
  rw [w.ne b fun e => ?_]
  · exact h
  · subst e
    rw [w.at1] at h
    cases h
    rcases w.x1 with z | ⟨u, z⟩ <;> cases z
theorem Swp.fdT (w : Swp a kvs x y H H') {b : Addr} {o : Obj} {ks : List (List Key × V)} (h : H b = some (.frz o (.frz o (.dT ks)))) : H' b = some (.frz o (.frz o (.dT ks))) := by
  rw [w.ne b fun e => ?_]
  · exact h
  · subst e
    rw [w.at1] at h
    cases h
    rcases w.x1 with z | ⟨u, z⟩ <;> cases z
theorem Swp.frz (w : Swp a kvs x y H H') {b : Addr} {vs : List V} (h : Frz K H b vs) : Frz K H' b vs := by
  rcases h with ⟨o, h⟩ | h
  · refine .inl ⟨o, ?_⟩
    rw [w.ne b fun e => ?_]
    · exact h
    · subst e
      rw [w.at1] at h
      cases h
      rcases w.x1 with z | ⟨u, z⟩ <;> cases z
  · exact .inr h
mutual
theorem Swp.rep (w : Swp a kvs x y H H') : ∀ {d : D} {v : V} {F : List Addr}, Rep K H d v F → Rep K H' d v F
  | .non, _, _, h => h
  | .bl _, _, _, h => h
  | .int _, _, _, h => h
  | .str _, _, _, h => h
  | .tup xs, v, F, ⟨b, vs, e, q, r⟩ => ⟨b, vs, e, w.tup q, w.reps r⟩
  | .ctp xs, v, F, ⟨b, vs, e, q, r⟩ => ⟨b, vs, e, q, w.reps r⟩
  | .frz xs, v, F, ⟨b, vs, e, q, r⟩ => ⟨b, vs, e, w.frz q, w.reps r⟩
  | .lst xs, v, F, ⟨b, vs, G, e, q, f, r⟩ => ⟨b, vs, G, e, w.rd q (fun _ _ z => by cases z), f, w.reps r⟩
  | .dK ks xs, v, F, ⟨b, vs, G, e, q, l, f, r⟩ => ⟨b, vs, G, e, w.rd q (fun _ _ z => by cases z), l, f, w.reps r⟩
  | .dT ks xs, v, F, ⟨b, vs, G, e, q, l, f, r⟩ => ⟨b, vs, G, e, w.rd q (fun _ _ z => by cases z), l, f, w.reps r⟩
  | .fdT ks xs, v, F, ⟨b, vs, o, e, q, l, r⟩ => ⟨b, vs, o, e, w.fdT q, l, w.reps r⟩
  | .exc b d ns xs, v, F, ⟨e, f, q⟩ => ⟨e, f, fun d1 hd => by
    obtain ⟨vs, q1, q2, q3⟩ := q d1 hd
    refine ⟨vs, ?_, q2, w.reps q3⟩
    rw [w.ne d1 fun e => ?_]
    · exact q1
    · subst e
      rw [w.at1] at q1
      cases q1
      rcases w.x1 with z | ⟨u, z⟩ <;> cases z⟩
theorem Swp.reps (w : Swp a kvs x y H H') : ∀ {ds : List D} {vs : List V} {F : List Addr}, Reps K H ds vs F → Reps K H' ds vs F
  | [], _, _, h => h
  | d :: ds, vs, F, ⟨v, vr, F1, F2, e, f, r1, r2⟩ => ⟨v, vr, F1, F2, e, f, w.rep r1, w.reps r2⟩
end
end
def swC (c : Ct) (a : Addr) (y : HO) : Ct := ⟨upd c.H0 a y, c.O0, c.pv, c.B, c.T⟩
section
variable {K : PySem.W.Frag} {c : Ct} {σ : L2.St} {H : Hp} {ρ : Env} {fp : Nat → List Addr} {a : Addr} {kvs : List (List Key × V)} {x y : HO}
end
/-! ### the loop itself -/
def pairsT (ks : List (List Key)) (xs : List D) : List D := List.zipWith (fun k x => D.tup [tupK k, x]) ks xs
/-- over the pairs of the dict that a lent name holds -/
def srcI (i : Nat) : IM := fun ρ => match ρ[i]? with
  | some (some (.bor, .dT ks xs)) => some (pairsT ks xs, ρ)
  | _ => none
def sItems (i : Nat) (gx : GX) (g : ES) : ES := fun ρ => match ρ[i]? with
  | some (some (.own, _)) => sLend i (sFor (srcI i) gx g) ρ
  | _ => none
section
variable {X : Cx} {gx : GX} {g : ES}
end
section
variable {X : Cx} {gx : GX} {g : ES} {i : Nat} {e : Expr} {apos cpos tpos pos : Pos} {elts : List Expr} {kk : Nat} {body : List Stmt}
end
end DL
namespace DL
open PySem PySem.Spec PyProof.Rows L2
/-! ### sorted(d.items()) of a new dict with tuple keys -/
mutual
theorem reads_plain {h : Heap} : ∀ {d : D} {v : Value} {as : List Addr}, plain d = true → Reads h v (py d) as → as = []
  | .non, v, as, _, r => by cases r; rfl
  | .bl b, v, as, _, r => by cases r; rfl
  | .int i, v, as, _, r => by cases r; rfl
  | .str x, v, as, _, r => by cases r; rfl
  | .tup xs, v, as, p, r => by
    have r' : Reads h v (.tuple (pys xs)) as := by rw [py] at r; exact r
    cases r' with
    | tuple _ _ _ q => exact reads_plains p q
  | .lst xs, v, as, p, r => by cases p
  | .frz xs, v, as, p, r => by cases p
  | .ctp xs, v, as, p, r => by cases p
  | .dK ks xs, v, as, p, r => by cases p
  | .dT ks xs, v, as, p, r => by cases p
  | .fdT ks xs, v, as, p, r => by cases p
  | .exc _ _ _ _, v, as, p, r => by cases p
theorem reads_plains {h : Heap} : ∀ {ds : List D} {vs : List Value} {as : List Addr}, plains ds = true → ReadsAll h vs (pys ds) as → as = []
  | [], vs, as, _, r => by rw [pys] at r; cases r; rfl
  | d :: ds, vs, as, p, r => by
    rw [pys] at r
    rw [plains, Bool.and_eq_true] at p
    cases r with
    | cons r1 r2 => rw [reads_plain p.1 r1, reads_plains p.2 r2]; rfl
end
def rSortP (K : PySem.W.Frag) : List V → Hp → VK → Prop := fun vs H Q => ∃ (p a : Addr) (ks : List (List Key)) (xs : List D) (us : List V), vs = [.ref p] ∧ H p = some (DX.itemsO p a) ∧ H a = some (.dT (ks.zip us)) ∧ ks.length = xs.length ∧ Reps K H xs us [] ∧ sortOk (pairsT ks xs) = true ∧
  ∀ (H' : Hp) (l : Addr) (ws : List V), Same H H' → H l = none → H' l = some (.lst ws) → Reps K H' (sortD (pairsT ks xs)) ws [] → Q (.ref l) H'
section
variable {X : Cx} {k : Nat}
def srtID : D → Option D
  | .dT ks xs => if pures xs = true then if sortOk (pairsT ks xs) = true then some (.lst (sortD (pairsT ks xs))) else none else none
  | _ => none
/-- sorted(e.items()), e's dict new -/
def xSrtI (f : EX) : EX := fun ρ => (f ρ).bind srtID
variable {e : Expr} {f : EX} {po apos cpos pos : Pos}
end
end DL
namespace DL
open PySem PySem.Spec PyProof.Rows L2
/-! ### any of a tuple of numbers -/
def rAnyT (K : PySem.W.Frag) : List V → Hp → VK → Prop := fun vs H Q => ∃ (a : Addr) (ns : List Int), vs = [V.ref a] ∧ SqT K H a (ns.map V.int) ∧ Q (.bl (ns.any fun n => n != 0)) H
section
variable {X : Cx}
def anyA : List D → Option D
  | [.tup xs] => (toInts xs).map fun ns => .bl (ns.any fun n => n != 0)
  | ds => anyD ds
end
end DL
namespace DL
open PySem PySem.Spec PyProof.Rows L2
/-! ### sorted of one thing (an empty tuple, say) -/
def rSort1 (K : PySem.W.Frag) : List V → Hp → VK → Prop := fun vs H Q => ∃ (a : Addr) (z : V × D), vs = [.ref a] ∧ SqL K H a [z.1] ∧ Dp K H z.1 (py z.2) ∧ PySem.W.alike (py z.2) (py z.2) = true ∧ py z.2 ≠ .none ∧ (py z.2).depth ≤ 60 ∧ ∀ l, H l = none → Q (.ref l) (upd H l (.lst [z.1]))
section
variable {X : Cx} {k : Nat}
/-- sorted, a list of one plain thing taken as it is -/
def sortedB : List D → Option D
  | [.lst [x]] => if plain x && PySem.W.alike (py x) (py x) && decide ((py x).depth ≤ 60) && (py x).canLay0 && !isNon x then some (.lst [x]) else none
  | ds => sortedA ds
end
end DL
namespace DL
open PySem PySem.Spec PyProof.Rows L2
/-! ### sorted of a tuple of plain things -/
mutual
theorem readsQ_plain {h : Heap} : ∀ (d : D) {v : Value} {as : List Addr}, plain d = true → Reads h v (py d) as → as = []
  | .non, v, as, _, r => by rw [py] at r; cases r; rfl
  | .bl b, v, as, _, r => by rw [py] at r; cases r; rfl
  | .int i, v, as, _, r => by rw [py] at r; cases r; rfl
  | .str x, v, as, _, r => by rw [py] at r; cases r; rfl
  | .tup xs, v, as, p, r => by
    rw [py] at r
    cases r with
    | tuple _ _ _ q => exact readsQ_plains xs p q
  | .lst _, _, _, p, _ => by cases p
  | .frz _, _, _, p, _ => by cases p
  | .ctp _, _, _, p, _ => by cases p
  | .dK _ _, _, _, p, _ => by cases p
  | .dT _ _, _, _, p, _ => by cases p
  | .fdT _ _, _, _, p, _ => by cases p
  | .exc _ _ _ _, _, _, p, _ => by cases p
theorem readsQ_plains {h : Heap} : ∀ (ds : List D) {vs : List Value} {as : List Addr}, plains ds = true → ReadsAll h vs (pys ds) as → as = []
  | [], vs, as, _, r => by rw [pys] at r; cases r; rfl
  | d :: ds, vs, as, p, r => by
    rw [pys] at r
    rw [plains, Bool.and_eq_true] at p
    cases r with
    | cons r1 r2 => rw [readsQ_plain d p.1 r1, readsQ_plains ds p.2 r2]; rfl
end
def rSortTp (K : PySem.W.Frag) : List V → Hp → VK → Prop := fun vs H Q => ∃ (a : Addr) (zs : List (V × D)), vs = [.ref a] ∧ SqT K H a (zs.map Prod.fst) ∧ (∀ z ∈ zs, Dp K H z.1 (py z.2) ∧ plain z.2 = true) ∧ PySem.W.AllAlike (zs.map fun z => py z.2) ∧ PySem.W.Sortable (zs.map fun z => py z.2) ∧
  (∀ z ∈ zs, (py z.2).depth ≤ 60) ∧ ∀ l, H l = none → Q (.ref l) (upd H l (.lst ((zs.mergeSort (PySem.W.dataLe false fun z => py z.2)).map Prod.fst)))
section
variable {X : Cx} {k : Nat}
/-- sorted, of a tuple too -/
def sortedC : List D → Option D
  | [.tup xs] => if sortOk xs = true then some (.lst (sortD xs)) else none
  | ds => sortedB ds
end
end DL
namespace DL
open PySem PySem.Spec PyProof.Rows L2
/-! ### sorted of a dict with one tuple key (it may be empty) -/
def rSortT1 : List V → Hp → VK → Prop := fun vs H Q => ∃ (a : Addr) (kvs : List (List Key × V)), vs = [.ref a] ∧ Rd H a (.dT kvs) ∧ kvs.length = 1 ∧ (∀ k ∈ kvs.map Prod.fst, PySem.W.alike (py (tupK k)) (py (tupK k)) = true ∧ (py (tupK k)).depth ≤ 60 ∧ (py (tupK k)).canLay0 = true) ∧
  ∀ p bs, H p = none → KeysAt H ((kvs.map Prod.fst).mergeSort (PySem.W.dataLe false pyT)) bs → Q (.ref p) (upd H p (.lst (bs.map V.ref)))
section
variable {X : Cx} {k : Nat}
end
def sortedE : List D → Option D
  | [.dT [k] xs] => if PySem.W.alike (py (tupK k)) (py (tupK k)) && decide ((py (tupK k)).depth ≤ 60) && (py (tupK k)).canLay0 then some (.lst [tupK k]) else none
  | ds => sortedA ds
end DL
namespace DL
open PySem PySem.Spec PyProof.Rows L2
/-! ### dicts whose keys are numbers or texts -/
section
variable {X : Cx} {pos : Pos} {k : Nat}
end
/-- a plain value is stored at a number or a text -/
def setK : D → D → D → Option D := fun d k w => match d with
  | .dK ks xs => (toKey k).bind fun q => if pures xs = true then if pure w = true then if ks.length < sizeLine then some (.dK (putKs ks q) (putVs ks xs q w)) else none else none else none
  | _ => none
end DL
namespace DL
open PySem PySem.Spec PyProof.Rows L2
/-! ### comprehensions over a name's own dict: it is locked while they run -/
def xItemsOf (i : Nat) : IX := fun ρ => match ρ[i]? with
  | some (some (_, .dT ks xs)) => if pures xs = true then some (pairsT ks xs) else none
  | _ => none
def xKeysOf (i : Nat) : IX := fun ρ => match ρ[i]? with
  | some (some (_, .dT ks xs)) => if pures xs = true then some (ks.map tupK) else none
  | _ => none
/-- the dict at a name is locked -/
def Lk (i : Nat) (σ : L2.St) (H : Hp) : Prop := ∃ (a : Addr) (o : Obj) (kvs : List (List Key × V)), σ[i]? = some (some (.ref a)) ∧ H a = some (.frz o (.dT kvs))
def NeedD (i : Nat) (src : IX) : Prop := ∀ ρ its, src ρ = some its → ∃ m ks xs, ρ[i]? = some (some (m, .dT ks xs))
section
variable {K : PySem.W.Frag} {i : Nat} {σ : L2.St} {H : Hp} {R : It → Hp → Prop}
end
section
variable {X : Cx} {i j : Nat} {y : Str} {py : Pos} {kx vx elt tg iter : Expr} {ifs : List Expr} {scope : Scope} {own : List (Str × Nat)} {pos spos : Pos} {src : IX} {gx : GX} {q : QX} {fk fe : EX} {k : Nat} {wi : TI}
end
end DL
namespace DL
open PySem PySem.Spec PyProof.Rows L2
/-! ### dict comprehensions of two clauses, their keys tuples -/
section
variable {pg : Program} {wd : World} {Ar : Around} {Rs : Result → Shared → Prop} {sh : Shared} {kx vx tA iA tB iB : Expr} {fA fB : List Expr} {sc : Scope} {ps : Pos} {itr : Value} {dd : Addr} {en : PySem.Env}
end
def tDt2 (wi : TI) (g : TG) (tt : TT) (wi1 : TI) (g1 : TG) (tt1 : TT) (tk tv : TE) (vs vs1 : List Nat) : TE := fun σ H Q => wi σ H fun J H1 => ∀ D, H1 D = none → ∃ W : Nat → Nat → Hp → Prop, (∃ m, W 0 m (upd H1 D (.dT []))) ∧
  ∀ i m H, W i m H → (J.stop i H ∧ Q (.ref D) H) ∨ (J.go i H ∧ ∃ Nx : Hp → Prop, (∀ H', Nx H' → ∃ m', m' < m ∧ W (i + 1) m' H') ∧ ∀ x H', J.yld i H x H' → g x (wipe σ vs) H' fun σ2 H2 => wipe σ2 vs = wipe σ vs ∧
    tt σ2 H2 fun b H3 => if b = true then wi1 σ2 H3 fun J1 H4 => ∃ W1 : Nat → Nat → Hp → Prop, (∃ m, W1 0 m H4) ∧ ∀ j k H, W1 j k H →
      (J1.stop j H ∧ Nx H) ∨ (J1.go j H ∧ ∃ Nx1 : Hp → Prop, (∀ H', Nx1 H' → ∃ k', k' < k ∧ W1 (j + 1) k' H') ∧ ∀ x H', J1.yld j H x H' → g1 x (wipe σ2 vs1) H' fun σ3 H5 => wipe σ3 vs1 = wipe σ2 vs1 ∧ tt1 σ3 H5 fun b H6 =>
        if b = true then tk σ3 H6 fun y H7 => tv σ3 H7 fun z H8 => ∃ kvs k a, y = V.ref a ∧ H8 a = some (.tup (k.map kV)) ∧ H8 D = some (.dT kvs) ∧ kvs.length < sizeLine ∧ Nx1 (upd H8 D (.dT (putK kvs k z))) else Nx1 H6) else Nx H3)
section
variable {X : Cx}
end
/-- the pairs of one turn of the first clause -/
def pairE (gx1 : GX) (q1 : QX) (fk fe : EX) (ρ : Env) : List D → List (List Key) → List D → Option (List (List Key) × List D)
  | [], ks, xs => some (ks, xs)
  | d :: ds, ks, xs => (gx1 d ρ).bind fun ρ1 => (q1 ρ1).bind fun b => if b = true then (fk ρ1).bind fun y => (toKeyT y).bind fun kk => (fe ρ1).bind fun w => if pure w = true then if ks.length < sizeLine then pairE gx1 q1 fk fe ρ ds (putKs ks kk) (putVs ks xs kk w) else none else none
    else pairE gx1 q1 fk fe ρ ds ks xs
def dict2E (vs vs1 : List Nat) (gx : GX) (q : QX) (src1 : IX) (gx1 : GX) (q1 : QX) (fk fe : EX) (ρ : Env) : List D → List (List Key) → List D → Option (List (List Key) × List D)
  | [], ks, xs => some (ks, xs)
  | d :: ds, ks, xs => (gx d ρ).bind fun ρ1 => if plainAt vs ρ1 = true then (q ρ1).bind fun b => if b = true then (src1 ρ1).bind fun its => (pairE gx1 q1 fk fe (wipeE ρ1 vs1) its ks xs).bind fun r => dict2E vs vs1 gx q src1 gx1 q1 fk fe ρ ds r.1 r.2
    else dict2E vs vs1 gx q src1 gx1 q1 fk fe ρ ds ks xs else none
def xDict2 (vs vs1 : List Nat) (src : IX) (gx : GX) (q : QX) (src1 : IX) (gx1 : GX) (q1 : QX) (fk fe : EX) : EX := fun ρ => (src ρ).bind fun its => (dict2E vs vs1 gx q src1 gx1 q1 fk fe (wipeE ρ vs) its [] []).bind fun r => some (.dT r.1 r.2)
section
variable {X : Cx} {kx vx tg iter tg1 iter1 : Expr} {ifs ifs1 : List Expr} {scope : Scope} {own : List (Str × Nat)} {vs1 : List Nat} {pos : Pos} {src src1 : IX} {gx gx1 : GX} {q q1 : QX} {fk fe : EX} {ow : Bool} {k : Nat}
end
end DL
namespace DL
open PySem PySem.Spec PyProof.Rows L2
/-! ### dict(d): a copy of a dict whose keys are tuples of numbers that hash apart -/
def hashKs (k : List Key) : Int := reduceHash (Builtin.Tuple.tupleHashOf (k.map fun q => match q with | .inl i => PySem.hashInt i | .inr _ => 0))
def numK (k : List Key) : Bool := k.all fun q => match q with | .inl _ => true | .inr _ => false
def apart (ks : List (List Key)) : Bool := ks.all numK && decide ((ks.map hashKs).Nodup)
section
variable {X : Cx} {k : Nat}
/-- the copy, by values -/
def copyD : List D → Option D := fun ds => match ds with
  | [.dT ks xs] => if apart ks = true then if pures xs = true then some (.dT ks xs) else none else none
  | _ => none
end
end DL
namespace DL
open PySem PySem.Spec PyProof.Rows L2
/-! ### list(d.values()) of a dict with tuple keys -/
/-- the view d.values() at p -/
def valsO (p d : Addr) : HO := .ext fun h => h.IsValuesView p d
section
variable {X : Cx} {k : Nat}
def rValsT : V → List V → Hp → VK → Prop := fun x xs H Q => ∃ (a : Addr) (kvs : List (List Key × V)), x = .ref a ∧ xs = [] ∧ Rd H a (.dT kvs) ∧ ∀ p, H p = none → Q (.ref p) (upd H p (valsO p a))
variable {e : Expr} {td : TE} {apos cpos : Pos}
def rListV : List V → Hp → VK → Prop := fun vs H Q => ∃ (p a : Addr) (kvs : List (List Key × V)), vs = [.ref p] ∧ H p = some (valsO p a) ∧ Rd H a (.dT kvs) ∧ ∀ l, H l = none → Q (.ref l) (upd H l (.lst (kvs.map (·.2))))
/-- the values, as a list -/
def valsD : D → Option D
  | .dT _ xs => if pures xs = true then some (.lst xs) else none
  | _ => none
def xVals (f : EX) : EX := fun ρ => (f ρ).bind valsD
variable {f : EX} {po pos : Pos} {own : Bool}
end
end DL
namespace DL
open PySem PySem.Spec PyProof.Rows L2
/-! ### sorted(set(xs)), xs a list of numbers -/
abbrev set0 (wd : World) : Obj := { cls := .type "set", dict := none, data := .set #[] 0 (.fresh 0 0 (!wd.params.followText "set-order")) }
section
variable {pr : Program} {wd : World} {Ar : Around} {Er : Value → Shared → Prop} {z : Shared}
end
end DL
namespace DL
open PySem PySem.Spec PyProof.Rows L2
section
variable {X : Cx} {k : Nat}
def rSetI (w : World) : List V → Hp → VK → Prop := fun vs H Q => ∃ (l : Addr) (ns : List Int), vs = [.ref l] ∧ Rd H l (.lst (ns.map V.int)) ∧ ns.length < 64 ∧ ∀ (p : Addr) (c : Nat), H p = none → c < 64 → Q (.ref p) (upd H p (SetO w p (fun j => decide (j ∈ ns)) c))
end
/-- the numbers of a list, each once, ascending -/
def numsOf : List D → Option (List Int)
  | [] => some []
  | .int i :: ds => (numsOf ds).map (i :: ·)
  | _ :: _ => none
def onceI : List Int → List Int
  | [] => []
  | i :: is => if i ∈ onceI is then onceI is else i :: onceI is
def leI (a b : Int) : Bool := decide (a ≤ b)
def srtSetI (ns : List Int) : List Int := (onceI ns).mergeSort leI
def srtNums : D → Option D
  | .lst xs => (numsOf xs).bind fun ns => if ns.length < 64 then some (.lst ((srtSetI ns).map D.int)) else none
  | _ => none
def xSrtNums (f : EX) : EX := fun ρ => (f ρ).bind srtNums
section
variable {X : Cx} {e : Expr} {f : EX} {po p1 c1 pos : Pos}
end
end DL
namespace DL
open PySem PySem.Spec PyProof.Rows L2
/-! ### enumerate(a name's own list), lent while it runs -/
def srcEnB (i : Nat) : IM := fun ρ => match ρ[i]? with
  | some (some (.bor, d)) => (itemsOf d).bind fun its => some (enumF 0 its, ρ)
  | _ => none
section
variable {X : Cx} {e : Expr} {pos p tpos : Pos} {elts : List Expr} {kk : Nat} {i : Nat}
end
end DL
namespace DL
open PySem PySem.Spec PyProof.Rows L2
/-! ### a list and a list that nobody changes, put together -/
def rAddF (K : PySem.W.Frag) : R2 := fun x y H Q => ∃ l b xs zs, x = .ref l ∧ y = .ref b ∧ Rd H l (.lst xs) ∧ SqL K H b zs ∧ xs.length + zs.length ≤ sizeLine ∧ ∀ p, H p = none → Q (.ref p) (upd H p (.lst (xs ++ zs)))
def oAddF : D → D → Option D := fun x y => match x, y with
  | .lst xs, .frz ys => if xs.length + ys.length ≤ sizeLine then (if pures xs = true then if pures ys = true then some (.lst (xs ++ ys)) else none else none) else none
  | _, _ => none
end DL
namespace DL
open PySem PySem.Spec PyProof.Rows L2 RT
/-! ### list(reversed(x)), [.., *reversed(x)], x a list -/
section
variable {prog : Program} {w : World} {A : Around} {E : Value → Shared → Prop} {s : Shared}
end
/-- list(reversed(x)), x a list: a new list -/
def tLstRev (K : PySem.W.Frag) (te : TE) : TE := fun σ H Q => te σ H fun v H1 => ∃ (a : Addr) (xs : List V), v = .ref a ∧ SqL K H1 a xs ∧ ∀ q, H1 q = none → Q (.ref q) (upd H1 q (.lst xs.reverse))
section
variable {X : Cx} {e : Expr} {te : TE} {p p2 pos pos2 : Pos}
end
def revLD : D → Option D
  | .lst xs => if pures xs = true then some (.lst xs.reverse) else none
  | .frz xs => if pures xs = true then some (.lst xs.reverse) else none
  | _ => none
def xLstRev (f : EX) : EX := fun ρ => (f ρ).bind revLD
section
variable {X : Cx} {e : Expr} {f : EX} {p p2 pos pos2 : Pos} {own : Bool}
end
/-- *reversed(x) among items, x a list -/
def tStarRev (K : PySem.W.Frag) (te : TE) (t : TA) : TA := fun σ H Q => te σ H fun x H1 => ∃ (a : Addr) (xs : List V), x = .ref a ∧ SqL K H1 a xs ∧ t σ H1 fun ys H2 => Q (xs.reverse ++ ys) H2
section
variable {X : Cx} {e : Expr} {es : List Expr} {te : TE} {t : TA} {p p2 pos2 : Pos}
end
def xsStarR (f : EX) (fs : EXs) : EXs := fun ρ => (f ρ).bind fun d => (revLD d).bind fun d' => match d' with
  | .lst xs => (fs ρ).bind fun ys => some (xs ++ ys)
  | _ => none
section
variable {X : Cx} {e : Expr} {es : List Expr} {f : EX} {fs : EXs} {p p2 pos2 : Pos}
end
end DL
namespace DL
open PySem PySem.Spec PyProof.Rows L2
/-! ### a new dict that is frozen at once: nobody changes it any more -/
def frzDD : D → Option D := fun d => match d with
  | .dT ks xs => if pures xs = true then some (.fdT ks xs) else none
  | _ => none
def xFrzT (f : EX) : EX := fun ρ => (f ρ).bind frzDD
section
variable {X : Cx} {e : Expr} {f : EX}
end
/-! ### loops over a frozen dict: its keys, its pairs, its values -/
/-- the dict frozen for good at d -/
abbrev Frz2 (H : Hp) (d : Addr) (o : Obj) (kvs : List (List Key × V)) : Prop := H d = some (.frz o (.frz o (.dT kvs)))
def ItkF (d : Addr) (o : Obj) (kvs : List (List Key × V)) : It :=
  ⟨fun i H => Frz2 H d o kvs ∧ i < kvs.length, fun i H x H' => H' = H ∧ ∃ (k : List Key) (v : V) (q : Addr), kvs[i]? = some (k, v) ∧ x = .ref q ∧ H q = some (.tup (k.map kV)), fun i H => Frz2 H d o kvs ∧ kvs.length ≤ i⟩
def ItiF (d : Addr) (o : Obj) (kvs : List (List Key × V)) : It where
  go i H := Frz2 H d o kvs ∧ i < kvs.length
  yld i H x H' := ∃ (T q : Addr) (k : List Key) (v : V), kvs[i]? = some (k, v) ∧ x = .ref T ∧ H T = none ∧ H q = some (.tup (k.map kV)) ∧ H' = upd H T (.tup [.ref q, v])
  stop i H := Frz2 H d o kvs ∧ kvs.length ≤ i
/-- the values of the locked dict with tuple keys at d -/
def ItdT (d : Addr) (o : Obj) (kvs : List (List Key × V)) : It where
  go i H := Frz2 H d o kvs ∧ i < kvs.length
  yld i H x H' := H' = H ∧ ∃ k, kvs[i]? = some (k, x)
  stop i H := Frz2 H d o kvs ∧ kvs.length ≤ i
section
variable {P : Program} {w : World} {K : PySem.W.Frag} {tg : Expr} {d : Addr} {o : Obj} {es : Array DictEntry} {ep : Nat}
end
def iKeysF (td : TE) : TI := fun σ H R => td σ H fun x H1 => ∃ (d : Addr) (o : Obj) (kvs : List (List Key × V)), x = .ref d ∧ Frz2 H1 d o kvs ∧ R (ItkF d o kvs) H1
def iItemsF (td : TE) : TI := fun σ H R => td σ H fun x H1 => ∃ (d : Addr) (o : Obj) (kvs : List (List Key × V)), x = .ref d ∧ Frz2 H1 d o kvs ∧ R (ItiF d o kvs) H1
def iValsT (td : TE) : TI := fun σ H R => td σ H fun x H1 => ∃ (d : Addr) (o : Obj) (kvs : List (List Key × V)), x = .ref d ∧ Frz2 H1 d o kvs ∧ R (ItdT d o kvs) H1
section
variable {X : Cx} {tg e : Expr} {td : TE} {apos cpos : Pos}
end
def keysFD : D → Option (List D) := fun d => match d with
  | .fdT ks _ => some (ks.map tupK)
  | _ => none
def itemsFD : D → Option (List D) := fun d => match d with
  | .fdT ks xs => some (pairsT ks xs)
  | _ => none
def valsFD : D → Option (List D) := fun d => match d with
  | .fdT _ xs => some xs
  | _ => none
def xKeysF (f : EX) : IX := fun ρ => (f ρ).bind keysFD
def xItemsF (f : EX) : IX := fun ρ => (f ρ).bind itemsFD
def xValsF (f : EX) : IX := fun ρ => (f ρ).bind valsFD
section
variable {X : Cx} {tg e : Expr} {f : EX} {own : Bool} {apos cpos tpos : Pos} {elts : List Expr} {kk : Nat}
end
end DL
namespace DL
open PySem PySem.Spec PyProof.Rows L2
/-! ### an effectful comprehension over pairs -/
section
variable {X : Cx} {vs : List Nat} {a : Expr} {es : List Expr} {pos : Pos}
end
/-! ### sorted(d.items()), d a name's own dict -/
def rSortR (K : PySem.W.Frag) : List V → Hp → VK → Prop := fun vs H Q => ∃ (p a : Addr) (ks : List (List Key)) (xs : List D) (us : List V), vs = [.ref p] ∧ H p = some (DX.itemsO p a) ∧ Rd H a (.dT (ks.zip us)) ∧ ks.length = xs.length ∧ Reps K H xs us [] ∧ sortOk (pairsT ks xs) = true ∧
  ∀ (H' : Hp) (l : Addr) (ws : List V), Same H H' → H l = none → H' l = some (.lst ws) → Reps K H' (sortD (pairsT ks xs)) ws [] → Q (.ref l) H'
section
variable {X : Cx} {k : Nat}
def rItemsR : V → List V → Hp → VK → Prop := fun x xs H Q => ∃ (a : Addr) (kvs : List (List Key × V)), x = .ref a ∧ xs = [] ∧ Rd H a (.dT kvs) ∧ ∀ p, H p = none → Q (.ref p) (upd H p (DX.itemsO p a))
variable {e : Expr} {td : TE} {apos cpos po pos : Pos} {f : EX} {own : Bool}
end
end DL
namespace DL
open PySem PySem.Spec PyProof.Rows L2
/-! ### max of a tuple -/
def rMinTp (K : PySem.W.Frag) (mm : PyData → List PyData → PyData) : List V → Hp → VK → Prop := fun vs H Q => ∃ (p : Addr) (ws : List V) (x : PyData) (xs : List PyData), vs = [.ref p] ∧ SqT K H p ws ∧ DpAll K H ws (x :: xs) ∧ PySem.W.AlikeAll (x :: xs) ∧ PyData.depthAll (x :: xs) ≤ 60 ∧ PyData.canLayAll0 (x :: xs) = true ∧
  ∀ (i : Nat) v d, ws[i]? = some v → (x :: xs)[i]? = some d → d = mm x xs → Q v H
section
variable {X : Cx} {k : Nat}
end
def maxCD : List D → Option D := fun ds => match ds with
  | [.tup (x :: xs)] => if minOk (x :: xs) = true then some (maxF x xs) else none
  | ds => maxLD ds
end DL
namespace DL
open PySem PySem.Spec PyProof.Rows L2
/-! ### dict comprehensions of three clauses, their keys tuples -/
section
variable {pg : Program} {wd : World} {Ar : Around} {Rs : Result → Shared → Prop} {sh : Shared} {kx vx tA iA tB iB tC iC : Expr} {fA fB fC : List Expr} {sc : Scope} {ps : Pos} {itr : Value} {dd : Addr} {en : PySem.Env}
end
def tDt3 (wi : TI) (g : TG) (tt : TT) (wi1 : TI) (g1 : TG) (tt1 : TT) (wi2 : TI) (g2 : TG) (tt2 : TT) (tk tv : TE) (vs vs1 vs2 : List Nat) : TE := fun σ H Q => wi σ H fun J H1 => ∀ D, H1 D = none → ∃ W : Nat → Nat → Hp → Prop, (∃ m, W 0 m (upd H1 D (.dT []))) ∧
  ∀ i m H, W i m H → (J.stop i H ∧ Q (.ref D) H) ∨ (J.go i H ∧ ∃ Nx : Hp → Prop, (∀ H', Nx H' → ∃ m', m' < m ∧ W (i + 1) m' H') ∧ ∀ x H', J.yld i H x H' → g x (wipe σ vs) H' fun σ2 H2 => wipe σ2 vs = wipe σ vs ∧
    tt σ2 H2 fun b H3 => if b = true then wi1 σ2 H3 fun J1 H4 => ∃ W1 : Nat → Nat → Hp → Prop, (∃ m, W1 0 m H4) ∧ ∀ j k H, W1 j k H →
      (J1.stop j H ∧ Nx H) ∨ (J1.go j H ∧ ∃ Nx1 : Hp → Prop, (∀ H', Nx1 H' → ∃ k', k' < k ∧ W1 (j + 1) k' H') ∧ ∀ x H', J1.yld j H x H' → g1 x (wipe σ2 vs1) H' fun σ3 H5 => wipe σ3 vs1 = wipe σ2 vs1 ∧ tt1 σ3 H5 fun b H6 =>
        if b = true then wi2 σ3 H6 fun J2 H7 => ∃ W2 : Nat → Nat → Hp → Prop, (∃ m, W2 0 m H7) ∧ ∀ j2 k2 H, W2 j2 k2 H →
          (J2.stop j2 H ∧ Nx1 H) ∨ (J2.go j2 H ∧ ∃ Nx2 : Hp → Prop, (∀ H', Nx2 H' → ∃ k', k' < k2 ∧ W2 (j2 + 1) k' H') ∧ ∀ x H', J2.yld j2 H x H' → g2 x (wipe σ3 vs2) H' fun σ4 H8 => wipe σ4 vs2 = wipe σ3 vs2 ∧ tt2 σ4 H8 fun b H9 =>
            if b = true then tk σ4 H9 fun y Ha => tv σ4 Ha fun z Hb => ∃ kvs k a, y = V.ref a ∧ Hb a = some (.tup (k.map kV)) ∧ Hb D = some (.dT kvs) ∧ kvs.length < sizeLine ∧ Nx2 (upd Hb D (.dT (putK kvs k z))) else Nx2 H9) else Nx1 H6) else Nx H3)
section
variable {X : Cx}
end
def dict3E (vs vs1 vs2 : List Nat) (gx : GX) (q : QX) (src1 : IX) (gx1 : GX) (q1 : QX) (src2 : IX) (gx2 : GX) (q2 : QX) (fk fe : EX) (ρ : Env) : List D → List (List Key) → List D → Option (List (List Key) × List D)
  | [], ks, xs => some (ks, xs)
  | d :: ds, ks, xs => (gx d ρ).bind fun ρ1 => if plainAt vs ρ1 = true then (q ρ1).bind fun b => if b = true then (src1 ρ1).bind fun its => (dict2E vs1 vs2 gx1 q1 src2 gx2 q2 fk fe (wipeE ρ1 vs1) its ks xs).bind fun r => dict3E vs vs1 vs2 gx q src1 gx1 q1 src2 gx2 q2 fk fe ρ ds r.1 r.2
    else dict3E vs vs1 vs2 gx q src1 gx1 q1 src2 gx2 q2 fk fe ρ ds ks xs else none
def xDict3 (vs vs1 vs2 : List Nat) (src : IX) (gx : GX) (q : QX) (src1 : IX) (gx1 : GX) (q1 : QX) (src2 : IX) (gx2 : GX) (q2 : QX) (fk fe : EX) : EX := fun ρ => (src ρ).bind fun its => (dict3E vs vs1 vs2 gx q src1 gx1 q1 src2 gx2 q2 fk fe (wipeE ρ vs) its [] []).bind fun r => some (.dT r.1 r.2)
section
variable {X : Cx} {kx vx tg iter tg1 iter1 tg2 iter2 : Expr} {ifs ifs1 ifs2 : List Expr} {scope : Scope} {own : List (Str × Nat)} {vs1 vs2 : List Nat} {pos : Pos} {src src1 src2 : IX} {gx gx1 gx2 : GX} {q q1 q2 : QX} {fk fe : EX} {ow : Bool} {k : Nat}
end
end DL
namespace DL
open PySem PySem.Spec PyProof.Rows L2
/-! ### defs that raise -/
/-- an error: its class by name, its fields -/
structure Er where
  x : Str
  fs : List (Str × D)
inductive OutX where | o (o : Out) | er (e : Er)
abbrev ESX := Env → Option OutX
abbrev EXR := Env → Option (D ⊕ Er)
/-- what stands for an error behind a raise -/
def ErOk (K : PySem.W.Frag) (mg : Str → Option Value) (e : Er) (cls : Value) (d : Option Addr) (H : Hp) : Prop :=
  ∃ C, mg e.x = some (.ref C) ∧ cls = .ref C ∧ match e.fs with
    | [] => d = none
    | f :: fs => ∃ dd vs, d = some dd ∧ H dd = some (.xd (((f :: fs).map Prod.fst).zip vs)) ∧ Reps K H ((f :: fs).map Prod.snd) vs []
def OutXOk (K : PySem.W.Frag) (mg : Str → Option Value) (c : Ct) (W : XK) (E : Ends) : OutX → Prop
  | .o o => OutOk K c E o
  | .er e => ∀ cls d H', Frm c.T c.H0 c.O0 H' → ErOk K mg e cls d H' → W cls d H'
def tSX (K : PySem.W.Frag) (mg : Str → Option Value) (W : XK) (g : ESX) : TS := fun E σ H => ∃ c ρ fp out, Ok K c σ H ρ fp ∧ g ρ = some out ∧ OutXOk K mg c W E out
def tPX (K : PySem.W.Frag) (mg : Str → Option Value) (W : XK) (f : EXR) : TE := fun σ H Q => ∃ ρ r, Sees K σ H ρ ∧ f ρ = some r ∧ match r with
  | .inl d => ∀ v H' F, Same H H' → Rep K H' d v F → New H H' F → Q v H'
  | .inr e => ∀ cls d H', Same H H' → ErOk K mg e cls d H' → W cls d H'
abbrev DSX (X : Cx) (W : XK) (s : Stmt) (g : ESX) : Prop := PS X s (tSX X.K X.mg W g)
abbrev DSsX (X : Cx) (W : XK) (s : List Stmt) (g : ESX) : Prop := PSs X s (tSX X.K X.mg W g)
abbrev DPX (X : Cx) (W : XK) (e : Expr) (f : EXR) : Prop := PE X e (tPX X.K X.mg W f)
section
variable {X : Cx} {W : XK} {st : Stmt} {rest : List Stmt} {g1 g2 : ESX} {g : ES} {a : Expr} {f : EXR} {pos : Pos}
def xSeq (g1 g2 : ESX) : ESX := fun ρ => (g1 ρ).bind fun o => match o with
  | .o (.nx ρ') => g2 ρ'
  | o => some o
def xLift (g : ES) : ESX := fun ρ => (g ρ).bind fun o => some (.o o)
def xNext : ESX := fun ρ => some (.o (.nx ρ))
/-- what the proof never comes to -/
def xNever : ESX := fun _ => none
def xIfS (t : ET) (g1 g2 : ESX) : ESX := fun ρ => (t ρ).bind fun k => if k.1 = true then g1 k.2 else g2 k.2
/-! expressions that may raise, as statements -/
def xDrop (f : EXR) : ESX := fun ρ => (f ρ).bind fun r => match r with
  | .inl _ => some (.o (.nx ρ))
  | .inr e => some (.er e)
def xRet (f : EXR) : ESX := fun ρ => (f ρ).bind fun r => match r with
  | .inl d => some (.o (.rt d ρ))
  | .inr e => some (.er e)
def xAsg (f : EXR) (gx : GX) : ESX := fun ρ => (f ρ).bind fun r => match r with
  | .inl d => (gx d ρ).bind fun ρ' => some (.o (.nx ρ'))
  | .inr e => some (.er e)
/-! expressions -/
def rLift (f : EX) : EXR := fun ρ => (f ρ).bind fun d => some (.inl d)
end
def spX (K : PySem.W.Frag) (mg : Str → Option Value) (n : Nat) (F : List D → Option (D ⊕ Er)) : Sp := fun vs H Q E => ∃ ds G r, ds.length = n ∧ Reps K H ds vs G ∧ F ds = some r ∧ match r with
  | .inl d => ∀ v H' F', Same H H' → Rep K H' d v F' → New H H' F' → Q v H'
  | .inr e => ∀ cls d H', Same H H' → ErOk K mg e cls d H' → E cls d H'
def outXP (o : Option OutX) : Option (D ⊕ Er) := o.bind fun o => match o with
  | .o (.rt d _) => some (.inl d)
  | .o (.nx _) => some (.inl .non)
  | .er e => some (.inr e)
  | _ => none
def fnX (N : List Str) (g : ESX) (ds : List D) : Option (D ⊕ Er) := outXP (g (env0 N ds))
/-- a def that may raise, by name -/
def FnAtX (P : Program) (w : World) (K : PySem.W.Frag) (mg : Str → Option Value) (base : Heap) (k : Nat) (x : Str) (ps : List Str) (sp : Sp) : Prop :=
  ∃ fa fd, mg x = some (.ref fa) ∧ PySem.W.keepIn K (.ref fa) = true ∧ Binds K fd ps [] ∧ FnOk P w K mg base (L2.CX P w) k fa fd ps sp
theorem FnAtX.mono {P : Program} {w : World} {K : PySem.W.Frag} {mg : Str → Option Value} {base : Heap} {j k : Nat} {x : Str} {ps : List Str} {sp : Sp} (h : FnAtX P w K mg base j x ps sp) (l : j ≤ k) : FnAtX P w K mg base k x ps sp := by
  obtain ⟨fa, fd, a, b, c, G⟩ := h
  exact ⟨fa, fd, a, b, c, G.mono l⟩
section
variable {P : Program} {w : World} {K : PySem.W.Frag} {mg : Str → Option Value} {base : Heap}
end
section
variable {X : Cx} {W : XK} {x : Str} {po pos : Pos} {e : Expr} {es : List Expr} {fs : EXs}
abbrev WW (W : XK) : WX := fun cls d _ H => W cls d H
def rCall (F : List D → Option (D ⊕ Er)) (fs : EXs) : EXR := fun ρ => (fs ρ).bind F
end
/-! ### raise X() -/
/-- a class without own __init__ -/
structure Er0 (K : PySem.W.Frag) (mg : Str → Option Value) (x : Str) : Prop where
  ex : ∃ C, mg x = some (.ref C) ∧ PySem.W.excIn K C [.type "ValueError", .type "Exception", .type "BaseException", .type "object"] "ValueError.__new__" = true ∧ PySem.W.keepIn K (.ref C) = true ∧
    PySem.W.subIn K (.ref C) (.type "BaseException") = some true ∧ PySem.W.typeIn K (.ref C) = some (.type "type")
section
variable {X : Cx} {W : XK} {x : Str} {p pos pos2 : Pos}
def xRaise0 (x : Str) : ESX := fun ρ => some (.er ⟨x, []⟩)
end
end DL
namespace DL
open PySem PySem.Spec PyProof.Rows L2
/-! ### loops that raise -/
section
variable {X : Cx} {W : XK} {tg iter : Expr} {pos : Pos}
def forX (gx : GX) (g : ESX) : List D → Env → Option OutX
  | [], ρ => some (.o (.nx ρ))
  | d :: ds, ρ => if pure d = true then (gx d ρ).bind fun ρ1 => (g ρ1).bind fun o => match o with
    | .o (.nx ρ2) => forX gx g ds ρ2
    | .o (.ct ρ2) => forX gx g ds ρ2
    | .o (.bk ρ2) => some (.o (.nx ρ2))
    | .o (.rt d ρ2) => some (.o (.rt d ρ2))
    | .er e => some (.er e) else none
def xFor (src : IM) (gx : GX) (g : ESX) : ESX := fun ρ => (src ρ).bind fun x => forX gx g x.1 x.2
theorem OutXOk.trans {K : PySem.W.Frag} {mg : Str → Option Value} {c : Ct} {σ : L2.St} {H : Hp} {ρ : Env} {fp : Nat → List Addr} {E : Ends} {o : OutX} (h : Ok K c σ H ρ fp) (k : OutXOk K mg c W E o) : OutXOk K mg (sub c H ρ fp) W E o := by
  cases o with
  | o o => exact OutOk.trans h k
  | er e => exact fun cls d H' f q => k cls d H' (h.frm.comp f fun a ⟨i, m, d, e1, n1, ha⟩ => ((h.nd i m d e1 n1).2 a ha).1) q
end
/-! ### the plain side -/
section
variable {ρ ρ' : Env} {s : Slt} {g g1 g2 : ESX} {f : EXR} {t : ET}
@[simp] theorem x_seq : xSeq g1 g2 (s :: ρ) = (g1 (s :: ρ)).bind fun o => match o with | .o (.nx ρ') => g2 ρ' | o => some o := rfl
@[simp] theorem x_lft {g : ES} : xLift g (s :: ρ) = (g (s :: ρ)).bind fun o => some (.o o) := rfl
@[simp] theorem x_nxt : xNext (s :: ρ) = some (.o (.nx (s :: ρ))) := rfl
@[simp] theorem x_ifs : xIfS t g1 g2 (s :: ρ) = (t (s :: ρ)).bind fun k => if k.1 = true then g1 k.2 else g2 k.2 := rfl
@[simp] theorem x_drp : xDrop f (s :: ρ) = (f (s :: ρ)).bind fun r => match r with | .inl _ => some (.o (.nx (s :: ρ))) | .inr e => some (.er e) := rfl
@[simp] theorem x_rt : xRet f (s :: ρ) = (f (s :: ρ)).bind fun r => match r with | .inl d => some (.o (.rt d (s :: ρ))) | .inr e => some (.er e) := rfl
@[simp] theorem x_asgn {gx : GX} : xAsg f gx (s :: ρ) = (f (s :: ρ)).bind fun r => match r with | .inl d => (gx d (s :: ρ)).bind fun ρ' => some (.o (.nx ρ')) | .inr e => some (.er e) := rfl
@[simp] theorem x_rlift {f : EX} : rLift f (s :: ρ) = (f (s :: ρ)).bind fun d => some (.inl d) := rfl
@[simp] theorem x_rcall {F : List D → Option (D ⊕ Er)} {fs : EXs} : rCall F fs (s :: ρ) = (fs (s :: ρ)).bind F := rfl
@[simp] theorem x_rz0 {x : Str} : xRaise0 x (s :: ρ) = some (.er ⟨x, []⟩) := rfl
@[simp] theorem x_fr {src : IM} {gx : GX} : xFor src gx g (s :: ρ) = (src (s :: ρ)).bind fun x => forX gx g x.1 x.2 := rfl
@[simp] theorem oxp_er {e : Er} : outXP (some (.er e)) = some (.inr e) := rfl
@[simp] theorem oxp_rt {d : D} : outXP (some (.o (.rt d ρ))) = some (.inl d) := rfl
@[simp] theorem oxp_nx : outXP (some (.o (.nx ρ))) = some (.inl .non) := rfl
end
end DL
namespace DL
open PySem PySem.Spec PyProof.Rows L2
/-! ### try: one statement; except C as e: .. return .. -/
def tSXW (K : PySem.W.Frag) (mg : Str → Option Value) (W : WX) (g : ESX) : TS := fun E σ H => ∃ c ρ fp out, Ok K c σ H ρ fp ∧ g ρ = some out ∧ OutXOk K mg c (fun cls d H' => W cls d σ H') E out
def tPXW (K : PySem.W.Frag) (mg : Str → Option Value) (W : WX) (f : EXR) : TE := fun σ H Q => tPX K mg (fun cls d H' => W cls d σ H') f σ H Q
section
variable {X : Cx} {W : WX} {x : Str} {po pos : Pos} {e : Expr} {es : List Expr} {fs : EXs}
end
/-- nothing known of any name -/
def blank (ρ : Env) : Env := ρ.map fun _ => none
theorem blank_get {ρ : Env} {i : Nat} {m : Fl} {d : D} (e : (blank ρ)[i]? = some (some (m, d))) : False := by
  unfold blank at e
  rw [List.getElem?_map] at e
  cases q : ρ[i]? with
  | none => rw [q] at e; cases e
  | some x => rw [q] at e; cases e
theorem Ok.blank {K : PySem.W.Frag} {c : Ct} {σ : L2.St} {H0 H : Hp} {ρ : Env} {fp : Nat → List Addr} (h : Ok K c σ H0 ρ fp) (f : Frm c.T c.H0 c.O0 H) : Ok K c σ H (blank ρ) fp where
  len := by unfold DL.blank; rw [List.length_map]; exact h.len
  rep := fun i m d e => (blank_get e).elim
  nd := fun i m d e => (blank_get e).elim
  bo := fun i d e => (blank_get e).elim
  dj := fun i j m d n e _ q => (blank_get q).elim
  frm := f
  bt := h.bt
  tb := h.tb
  tg := fun i P d e => (blank_get e).elim
def sTry (i : Nat) (g : ESX) (h : Er → Option D) : ES := fun ρ => (g ρ).bind fun o => match o with
  | .o o => some o
  | .er e => (h e).bind fun d => if i < ρ.length then some (.rt d (blank ρ)) else none
/-- what the suite returns for an error -/
def SuiteOk (X : Cx) (i : Nat) (suite : List Stmt) (h : Er → Option D) : Prop :=
  ∀ (er : Er) (w : D) (cls : Value) (dd : Option Addr) (a : Addr) (oe : Obj) (pn : List (Addr × Obj)), h er = some w → Zc cls dd oe → (∃ vs, oe.data = .fields vs) →
    PSs (X.suite a ((a, oe) :: pn)) suite (fun E σ H => σ[i]? = some (some (.ref a)) ∧ ErOk X.K X.mg er cls dd H ∧ ∀ v H' F, Same H H' → Rep X.K H' w v F → New H H' F → E.rt v H')
section
variable {X : Cx} {x n : Str} {i : Nat} {body suite : List Stmt} {b₀ : Stmt} {np pos pos' : Pos} {g : ESX} {h : Er → Option D}
end
/-! ### the words of errors -/
def wordE (last : Str) : List (Str × Str) → Str → Str
  | [], _ => last
  | (y, w) :: r, x => if x = y then w else wordE last r x
/-- the words of the classes ks -/
def hWords (ks : List Str) (l : List (Str × Str)) (last : Str) : Er → Option D := fun e => if ks.contains e.x && e.fs.isEmpty then some (.str (wordE last l e.x)) else none
/-- what is known of raised classes and of one that is asked for -/
structure EIs (K : PySem.W.Frag) (mg : Str → Option Value) (ks : List Str) (y : Str) : Prop where
  is : ∃ C, mg y = some (.ref C) ∧ ∀ x ∈ ks, ∀ D, mg x = some (.ref D) → ExcC K D ∧ PySem.W.kitOne K (.ref D) (.ref C) = some (decide (x = y))
def tW (i : Nat) (a : Addr) (w : Str) : TE := fun σ H Q => σ[i]? = some (some (.ref a)) ∧ Q (.str w) H
section
variable {X : Cx} {a D : Addr} {oe : Obj} {pn : List (Addr × Obj)} {i : Nat} {n y w : Str} {b : Expr} {w2 : Str} {ks : List Str} {x : Str}
end
/-- an except clause's class, for raised classes -/
structure ECat (K : PySem.W.Frag) (mg : Str → Option Value) (ks : List Str) (y : Str) : Prop where
  is : ∃ C, mg y = some (.ref C) ∧ ∀ x ∈ ks, ∀ D, mg x = some (.ref D) → PySem.W.exmOne K (.ref D) (.ref C) = some true
theorem ECat.ex {K : PySem.W.Frag} {mg : Str → Option Value} {ks : List Str} {y : Str} (T : ECat K mg ks y) : ∃ C, mg y = some (.ref C) := let ⟨C, h, _⟩ := T.is; ⟨C, h⟩
/-! the ends -/
section
variable {K : PySem.W.Frag} {h : Heap} {mg : Str → Option Value} {x y : Str} {C D : Addr} {ks : List Str}
end
end DL
namespace DL
open PySem PySem.Spec PyProof.Rows L2
/-! ### x(lambda: y(..)): the word of the error that a call raises -/
/-- what a def with try: a() / except .. / return w0 makes of a lambda -/
def TErr (K : PySem.W.Frag) (mg : Str → Option Value) (h : Er → Option D) (w0 : Str) : (XK → Hp → VK → Prop) → Hp → VK → Prop := fun tl H Q =>
  tl (fun cls d H' => ∃ er w, h er = some w ∧ ErOk K mg er cls d H' ∧ ∀ v H'' F, Same H' H'' → Rep K H'' w v F → New H' H'' F → Q v H'') H (fun _ H' => Q (.str w0) H')
section
variable {X : Cx} {Ng : List Str} {x a e n q w0 : Str} {sg : Scope} {g : Addr} {cdg : Value} {i j : Nat} {h : Er → Option D} {b₀ : Stmt} {suite : List Stmt} {p1 p2 p3 p4 p5 p6 p7 p8 : Pos}
end
end DL
namespace DL
open PySem PySem.Spec PyProof.Rows L2
/-! ### the law's own calls of a lambda -/
section
variable {K : PySem.W.Frag} {c : Ct} {σ : L2.St} {H H1 : Hp} {ρ : Env} {fp : Nat → List Addr}
theorem Ok.step (h : Ok K c σ H ρ fp) (fr : Frm c.T H No H1) : Ok K c σ H1 ρ fp where
  len := h.len
  rep := fun i m d e => let ⟨v, a, b, p⟩ := h.rep i m d e; ⟨v, a, b.frm fr (fun _ _ z => z), p⟩
  nd := fun i m d e n => ⟨(h.nd i m d e n).1, fun a ha => by
    obtain ⟨x, y, z⟩ := (h.nd i m d e n).2 a ha
    refine ⟨x, ?_, z⟩
    cases q : H a with
    | none => rw [q] at y; exact y.elim
    | some o => rw [q] at y; rw [fr.keep q y.nt fun z => z]; exact y⟩
  bo := h.bo
  dj := h.dj
  frm := h.frm.comp fr fun _ z => z.elim
  bt := h.bt
  tb := h.tb
  tg := h.tg
end
def mErr (P : Addr) (f : EXR) (h : Er → Option D) (w0 : Str) : EM := fun ρ => match ρ[(0 : Nat)]? with
  | some (some (.tag P', _)) => if P' = P then (f ρ).bind fun r => match r with
    | .inl _ => some (.str w0, ρ)
    | .inr e => (h e).bind fun d => some (d, ρ)
    else none
  | _ => none
section
variable {X : Cx}
end
end DL
namespace DL
open PySem PySem.Spec PyProof.Rows L2
/-! ### the law's own def, with a table of code objects -/
def envT (P : Addr) (N : List Str) (ds : List D) : Env := match ds with
  | [d] => some (.tag P, d) :: List.replicate (N.length - 1) none
  | _ => []
def fnT (P : Addr) (N : List Str) (g : ES) (ds : List D) : Option D := outP (g (envT P N ds))
def spT (K : PySem.W.Frag) (P : Addr) (F : List D → Option D) : Sp := fun vs H Q _ => ∃ (a : Addr) (ns : List Int), vs = [.ref a] ∧ SqL K H a (ns.map V.int) ∧ H P = some (.tbl #[]) ∧ F [.frz (ns.map D.int)] = some (.bl true) ∧ ∀ H', Q (.bl true) H'
/-- where the law's def stands, its code object and the table of that -/
structure LawDef (K : PySem.W.Frag) (st : Stmt) (fa c P : Addr) : Prop where
  ex : ∃ (oc : Value) (od : Option Addr) (kV doc pm : Value) (an : Option Addr) (ct : Value) (osl : Array (Option Value)),
    K.lookup fa = some ⟨oc, od, .func (PySem.W.fnOf "law" "law" (defArgs st) (defBody st) (defScope st) .none kV doc pm an (.ref c) ct), osl⟩
  cd : PySem.W.codeIn K (.ref c) "law" = true
  hd : PySem.W.codeHdIn K c P = true
  nP : K.lookup P = none
end DL
namespace PySem
namespace SupX
open PySem.W PySem.Calls PyProof.Rows PySem.HandSPX
/-! ### def __init__(self, f): super().__init__(f); self.f = f -/
def iA (f : Str) (p1 p2 : Pos) : Arguments := { posonlyargs := [], args := [{ arg := "self", annotation := none, pos := p1 }, { arg := f, annotation := none, pos := p2 }], vararg := none, kwonlyargs := [], kw_defaults := [], kwarg := none, defaults := [] }
def iB (f : Str) (q1 q2 q3 q4 q5 q6 q7 q8 q9 q10 : Pos) : List Stmt :=
  [.Expr (.Call (.Attribute (.Call (.Name "super" q1) [] [] q2) "__init__" q3) [.Name f q4] [] q5) q6, .Assign [.Attribute (.Name "self" q7) f q8] (.Name f q9) q10]
def iS (f : Str) : Scope := { kind := .function, names := [(PySem.Str.ofString "self", .local), (f, .local), (PySem.Str.ofString "__class__", .free), (PySem.Str.ofString "super", .globalImplicit)], isGenerator := false, isCoroutine := false }
structure FN (f : Str) : Prop where
  n1 : ((PySem.Str.ofString "self" : Str) == f) = false
  n2 : (f == (PySem.Str.ofString "self" : Str)) = false
  n3 : ((PySem.Str.ofString "super" : Str) == f) = false
  n4 : ((PySem.Str.ofString "__class__" : Str) == f) = false
  n5 : (f == ("__debug__" : Str)) = false
theorem FN.lf {f : Str} (h : FN f) : (iS f).names.lookup f = some .local := by
  have n2 := h.n2
  unfold iS
  simp [List.lookup, n2]
theorem FN.bs {f : Str} (h : FN f) {a v : Value} : ([((PySem.Str.ofString "self" : Str), a), (f, v)].reverse).lookup ("self" : Str) = some a := by
  have n1 := h.n1
  simp only [List.reverse_cons, List.reverse_nil, List.nil_append, List.cons_append, List.lookup, n1]
  simp
section
variable {prog : Program} {w : World} {A : Around} {E : Value → Shared → Prop} {h : Heap} {g : Array GenState} {d : Drawn} {t : Nat} {os : OsState}
variable {nm q : Str} {C N : Addr} {bs bm : List Value} {sn : List Str} {sub : List Value} {ab : Bool} {col : Option Bool} {dd : Option Addr} {k0 k1 k2 k3 k5 : Option Value}
end
section
variable {prog : Program} {w : World} {A : Around} {E : Value → Shared → Prop} {s : Shared} {env : Env} {c : Code}
end
/-- what the written part says of the class x at C with the field f, and of its __init__ at fI -/
structure SupTxt (P : Program) (K : Frag) (mg : Str → Option Value) (x f : Str) (C fI : Addr) : Prop where
  gC : mg x = some (.ref C)
  fn : FN f
  cls : ∃ nm q N bs bm sn sub ab col dd k0 k1 k2 k3 k5, K.lookup C = some (excClassObj nm q C N bs bm true sn sub ab col dd k0 k1 k2 k3 k5 "ValueError.__new__") ∧ refsVE bm = true
  sa : findIn K (.ref C) "__setattr__" = some (some (.builtin "object.__setattr__"))
  noN : findIn K (.ref C) f = some none
  iC : findIn K (.ref C) "__init__" = some (some (.ref fI))
  tC : typeIn K (.ref fI) = some (.type "function")
  kC : keepIn K (.ref C) = true
  exC : subIn K (.ref C) (.type "BaseException") = some true
  tyC : typeIn K (.ref C) = some (.type "type")
  hdC : hasDictIn K C = true
  ini : ∃ (oc : Value) (od : Option Addr) (doc pm : Value) (an : Option Addr) (cda cc : Addr) (ct : Value) (osl : Array (Option Value)) (p1 p2 q1 q2 q3 q4 q5 q6 q7 q8 q9 q10 : Pos) (qual : Str),
    K.lookup fI = some ⟨oc, od, .func (fnX "__init__" qual (iA f p1 p2) (iB f q1 q2 q3 q4 q5 q6 q7 q8 q9 q10) (iS f) [("__class__", cc)] .none .none doc pm an (.ref cda) ct), osl⟩ ∧ codeIn K (.ref cda) qual = true ∧ (q3.endLine == q5.line) = true ∧
    (∃ cl cld csl, K.lookup cc = some ⟨cl, cld, .cell (some (.ref C)), csl⟩) ∧ ∃ ccl cdd vs ccs file tf, K.lookup cda = some ⟨ccl, cdd, .fields vs, ccs⟩ ∧ vs[2]? = some (.str file tf) ∧ ((P.main.file : Str) == file) = true
  bd : ∀ (qual : Str) (doc pm ct : Value) (an : Option Addr) (cda cc : Addr) (p1 p2 q1 q2 q3 q4 q5 q6 q7 q8 q9 q10 : Pos) (u v : Value),
    bindArgs (fnX "__init__" qual (iA f p1 p2) (iB f q1 q2 q3 q4 q5 q6 q7 q8 q9 q10) (iS f) [("__class__", cc)] .none .none doc pm an (.ref cda) ct) ⟨[u, v], []⟩ = Pure.pure [((PySem.Str.ofString "self" : Str), u), (f, v)]
  su : mg "super" = none
  opq : nsIn K cStatics "thirdparty.any" = some none
  spi : ks_superIn K C C "__init__" = some (some (.builtin "ValueError.__init__"))
  sbV : subIn K (.ref C) (.type "ValueError") = some true
  sbC : mroIn K C (.ref C) = some true
  top : (P.main.scope.names.lookup ("super" : Str)).isSome = false
section
variable {prog : Program} {w : World} {A : Around} {R : Result → Shared → Prop} {s : Shared} {K : Frag} {mg : Str → Option Value} {x f : Str} {C fI : Addr}
end
end SupX
end PySem
namespace DL
open PySem PySem.Spec PyProof.Rows L2 PySem.SupX
/-! ### raise X(e), X with super().__init__(f); self.f = f -/
/-- what __init__ makes of a fresh exception -/
def spI (C : Addr) (f : Str) : Sp := fun vs H Q _ => ∃ (a : Addr) (y : V), vs = [.ref a, y] ∧ H a = some (exo a C none) ∧ ∀ dx, H dx = none → dx ≠ a → Q .non (upd (upd H dx (exd dx [(f, y)])) a (exo a C (some dx)))
section
variable {P : Program} {w : World} {K : PySem.W.Frag} {mg : Str → Option Value} {base : Heap} {x f : Str} {C fI : Addr}
end
end DL
namespace DL
open PySem PySem.Spec PyProof.Rows L2 PySem.SupX
/-- a class with one field -/
structure Er1 (P : Program) (K : PySem.W.Frag) (mg : Str → Option Value) (x f : Str) : Prop where
  ex : ∃ C fI, SupTxt P K mg x f C fI
def xRaise1 (x f : Str) (g : EX) : ESX := fun ρ => (g ρ).bind fun d => if pure d = true then some (.er ⟨x, [(f, d)]⟩) else none
section
variable {X : Cx} {W : XK} {x f : Str} {p pos pos2 : Pos} {e : Expr} {g : EX}
end
end DL
namespace DL
open PySem PySem.Spec PyProof.Rows L2
/-! ### an except suite, read -/
/-- the caught error as data -/
def exD (a : Addr) (dd : Option Addr) (e : Er) : D := .exc a dd (e.fs.map Prod.fst) (e.fs.map Prod.snd)
/-! isinstance(e, C), e.f -/
def rIsE2 (K : PySem.W.Frag) (D a : Addr) (dd : Option Addr) : List V → Hp → VK → Prop := fun xs H Q => ∃ (C : Addr) (b : Bool), xs = [.ref a, .ref C] ∧ (∀ d1, dd = some d1 → ∃ fs, H d1 = some (.xd fs)) ∧ PySem.W.kitOne K (.ref D) (.ref C) = some b ∧ Q (.bl b) H
def xIsE (a : Addr) (dd : Option Addr) (x y : Str) (i : Nat) : EX := fun ρ => match ρ[i]? with
  | some (some (_, .exc b d _ _)) => if b = a ∧ d = dd then some (.bl (decide (x = y))) else none
  | _ => none
def xFld (a : Addr) (dd : Option Addr) (f : Str) (i : Nat) : EX := fun ρ => match ρ[i]? with
  | some (some (_, .exc b d ns xs)) => if b = a ∧ d = dd ∧ dd.isSome = true then (ns.zip xs).lookup f else none
  | _ => none
/-- fields of raised classes can be read -/
structure EFld (K : PySem.W.Frag) (mg : Str → Option Value) (ks : List Str) (f : Str) : Prop where
  fl : ∀ x ∈ ks, ∀ D, mg x = some (.ref D) → XfC K D ∧ PySem.W.findIn K (.ref D) f = some none
section
variable {X : Cx} {a D : Addr} {oe : Obj} {dd : Option Addr} {pn : List (Addr × Obj)} {i : Nat} {n x y f : Str} {ks : List Str} {p p2 p3 p4 pos : Pos}
end
end DL
namespace DL
open PySem PySem.Spec PyProof.Rows L2
/-! ### index and count of a list of truths -/
def rCountB (K : PySem.W.Frag) : V → List V → Hp → VK → Prop := fun x xs H Q => ∃ (a : Addr) (bs : List Bool) (k : Bool), x = .ref a ∧ xs = [.bl k] ∧ SqL K H a (bs.map V.bl) ∧ Q (.int ((bs.count k : Nat) : Int)) H
section
variable {X : Cx} {i : Nat} {n : Str} {k : Bool} {g : EX} {p p2 ap pos : Pos} {j : Nat} {e : Expr}
def blsAt (i : Nat) : Env → Option (List Bool) := fun ρ => match ρ[i]? with
  | some (some (_, .lst xs)) => toBls xs
  | _ => none
def xCnt (i : Nat) (k : Bool) : EX := fun ρ => (blsAt i ρ).bind fun bs => some (.int ((bs.count k : Nat) : Int))
def xIdx (i : Nat) (k : Bool) : EX := fun ρ => (blsAt i ρ).bind fun bs => if k ∈ bs then some (.int ((bs.idxOf k : Nat) : Int)) else none
end
end DL
namespace DL
open PySem PySem.Spec PyProof.Rows L2
/-! ### rules that ask for little room (an except suite has no Room) -/
section
variable {X : Cx} {a b : Expr} {f g : EX} {pos : Pos}
end
/-- what the suite s returns for an error -/
noncomputable def hOf (ks : List Str) (n i : Nat) (s : Addr → Option Addr → Er → ES) : Er → Option D := fun er =>
  open Classical in if h : er.x ∈ ks ∧ ∃ w, ∀ (a : Addr) (dd : Option Addr), dd.isSome = !er.fs.isEmpty → ∃ ρ', s a dd er ((List.replicate n none).set i (some (.own, exD a dd er))) = some (.rt w ρ') then some h.2.choose else none
theorem ErOk.some {K : PySem.W.Frag} {mg : Str → Option Value} {H : Hp} {dd : Option Addr} {e : Er} {cls : Value} (h : ErOk K mg e cls dd H) : dd.isSome = !e.fs.isEmpty := by
  obtain ⟨C, _, _, h⟩ := h
  cases q : e.fs with
  | nil =>
    rw [q] at h
    have h : dd = none := h
    rw [h]
    rfl
  | cons f fs =>
    rw [q] at h
    obtain ⟨d2, vs, h1, _⟩ := h
    rw [h1]
    rfl
/-! ### the ends -/
end DL
namespace DL
open PySem PySem.Spec PyProof.Rows L2
/-! ### a comparison whose left side may raise -/
def rOp (o : D → D → Option D) (f : EXR) (g : EX) : EXR := fun ρ => (f ρ).bind fun r => match r with
  | .inl d => (g ρ).bind fun y => (o d y).bind fun z => some (.inl z)
  | .inr e => some (.inr e)
section
variable {X : Cx} {W : XK} {a b : Expr} {f : EXR} {g : EX} {pos : Pos}
end
end DL
namespace DL
open PySem PySem.Spec PyProof.Rows L2
/-! ### tuple * int -/
def oRepT : D → D → Option D := fun x y => match x, y with
  | .tup xs, .int k => if pures xs = true then if xs.isEmpty = false ∧ 2 ≤ k ∧ k ≤ 1000 ∧ xs.length ≤ 1000 then some (.tup (List.replicate k.toNat xs).flatten) else none else none
  | _, _ => none
end DL
namespace DL
open PySem PySem.Spec PyProof.Rows L2
/-! ### a raising call as the source of a dict comprehension: only the error is told -/
def rErr (f : EXR) : EXR := fun ρ => (f ρ).bind fun r => match r with
  | .inl _ => none
  | .inr e => some (.inr e)
def tEr (K : PySem.W.Frag) (mg : Str → Option Value) (W : XK) (f : EXR) : L2.St → Hp → Prop := fun σ H => ∃ ρ e, Sees K σ H ρ ∧ f ρ = some (.inr e) ∧ ∀ cls d H', Same H H' → ErOk K mg e cls d H' → W cls d H'
section
variable {X : Cx} {W : XK} {a tg kx vx : Expr} {f : EXR} {pos : Pos} {scope : Scope} {own : List (Str × Nat)} {ifs : List Expr}
end
section
variable {X : Cx} {W : XK} {x : Str} {id : String} {po pos : Pos} {e : Expr} {f : EXR} {r : List V → Hp → VK → Prop}
end
end DL
namespace DL
open PySem PySem.Spec PyProof.Rows L2
/-! ### sorted(set(xs)), xs tuples of so many numbers each -/
abbrev Wd := List Int
def wordD (k : Wd) : D := .tup (k.map D.int)
def numsD : List D → Option Wd
  | [] => some []
  | .int i :: ds => (numsD ds).map (i :: ·)
  | _ :: _ => none
def tupsD : List D → Option (List Wd)
  | [] => some []
  | .tup ds :: xs => (numsD ds).bind fun k => (tupsD xs).map (k :: ·)
  | _ :: _ => none
theorem numsD_eq : ∀ {ds : List D} {k : Wd}, numsD ds = some k → ds = k.map D.int
  | [], k, h => by cases h; rfl
  | d :: ds, k, h => by
    cases d with
    | int i =>
      rw [numsD] at h
      obtain ⟨k', e, rfl⟩ := Option.map_eq_some_iff.mp h
      rw [List.map_cons, numsD_eq e]
    | _ => cases h
theorem tupsD_eq : ∀ {xs : List D} {ks : List Wd}, tupsD xs = some ks → xs = ks.map wordD
  | [], ks, h => by cases h; rfl
  | d :: xs, ks, h => by
    cases d with
    | tup ds =>
      rw [tupsD] at h
      obtain ⟨k, e1, h⟩ := Option.bind_eq_some_iff.mp h
      obtain ⟨ks', e2, rfl⟩ := Option.map_eq_some_iff.mp h
      rw [List.map_cons, tupsD_eq e2]
      unfold wordD
      rw [numsD_eq e1]
    | _ => cases h
theorem numsD_map : ∀ k : Wd, numsD (k.map D.int) = some k
  | [] => rfl
  | i :: k => by rw [List.map_cons, numsD, numsD_map k]; rfl
theorem tupsD_map : ∀ ks : List Wd, tupsD (ks.map wordD) = some ks
  | [] => rfl
  | k :: ks => by
    rw [List.map_cons, wordD, tupsD, numsD_map, tupsD_map ks]
    rfl
def toksW (k : Wd) : List (Int ⊕ List Nat) := PySem.W.keyToks (py (wordD k))
theorem pys_intsW : ∀ k : Wd, pys (k.map D.int) = k.map PyData.int
  | [] => by simp [pys]
  | i :: k => by rw [List.map_cons, List.map_cons, pys, pys_intsW k]; simp [py]
theorem toksW_eq (k : Wd) : toksW k = PySem.W.keyToksAll (k.map PyData.int) := by
  unfold toksW wordD
  rw [py, pys_intsW, PySem.W.keyToks]
theorem toksW_cons (i : Int) (k : Wd) : toksW (i :: k) = .inl 1 :: .inl i :: toksW k := by
  rw [toksW_eq, toksW_eq, List.map_cons, PySem.W.keyToksAll, PySem.W.keyToks]
  rfl
theorem toksW_inj : ∀ {a b : Wd}, toksW a = toksW b → a = b
  | [], [], _ => rfl
  | [], j :: b, h => by rw [toksW_cons, toksW_eq, List.map_nil, PySem.W.keyToksAll] at h; simp at h
  | i :: a, [], h => by rw [toksW_cons, toksW_eq [], List.map_nil, PySem.W.keyToksAll] at h; simp at h
  | i :: a, j :: b, h => by
    rw [toksW_cons, toksW_cons] at h
    simp only [List.cons.injEq, Sum.inl.injEq, true_and] at h
    rw [h.1, toksW_inj h.2]
def ltW (a b : Wd) : Bool := PySem.W.dataLt (py (wordD a)) (py (wordD b))
theorem ltW_irr (a : Wd) : ltW a a = false := PyProof.Rows.lex_irrefl _
theorem ltW_neg {a b c : Wd} (h : ltW a c = true) : ltW a b = true ∨ ltW b c = true := PyProof.Rows.lex_negTrans _ _ _ h
theorem ltW_trans {a b c : Wd} (h : ltW a b = true) (h2 : ltW b c = true) : ltW a c = true := PyProof.Rows.lex_trans _ _ _ h h2
theorem ltW_total {a b : Wd} (h : ltW a b = false) (h2 : ltW b a = false) : a = b := toksW_inj (PyProof.Rows.lex_total _ _ h h2)
theorem ltW_cons (i j : Int) (a b : Wd) : ltW (i :: a) (j :: b) = (decide (i < j) || (!decide (j < i) && ltW a b)) := by
  show PyProof.Rows.lexLt PyProof.Rows.itemOrd (toksW (i :: a)) (toksW (j :: b)) = _
  rw [toksW_cons, toksW_cons, lex_self (O := PyProof.Rows.itemOrd)]
  rfl
def leW (a b : Wd) : Bool := !ltW b a
theorem leW_trans (a b c : Wd) (h1 : leW a b = true) (h2 : leW b c = true) : leW a c = true := by
  unfold leW at *
  cases h : ltW c a with
  | false => rfl
  | true =>
    rcases ltW_neg (b := b) h with z | z
    · rw [z] at h2; cases h2
    · rw [z] at h1; cases h1
theorem leW_total (a b : Wd) : (leW a b || leW b a) = true := by
  unfold leW
  cases h : ltW b a with
  | false => rfl
  | true =>
    cases h2 : ltW a b with
    | false => rfl
    | true =>
      have := ltW_trans h h2
      rw [ltW_irr] at this
      cases this
theorem leW_anti {a b : Wd} (h1 : leW a b = true) (h2 : leW b a = true) : a = b := by
  unfold leW at *
  rw [Bool.not_eq_true'] at h1 h2
  exact ltW_total h2 h1
theorem permW {α : Type} [DecidableEq α] : ∀ {L M : List α}, L.Nodup → M.Nodup → (∀ x, x ∈ L ↔ x ∈ M) → L.Perm M
  | [], [], _, _, _ => .nil
  | [], b :: M, _, _, h => by have := (h b).mpr (List.mem_cons_self ..); cases this
  | a :: L, M, hL, hM, h => by
    have ma : a ∈ M := (h a).mp (List.mem_cons_self ..)
    rw [List.nodup_cons] at hL
    refine (List.Perm.cons a (permW hL.2 (hM.erase a) fun x => ?_)).trans (List.perm_cons_erase ma).symm
    rw [hM.mem_erase_iff]
    constructor
    · intro hx
      exact ⟨fun e => hL.1 (e ▸ hx), (h x).mp (List.mem_cons_of_mem _ hx)⟩
    · rintro ⟨ne, hx⟩
      exact (List.mem_cons.mp ((h x).mpr hx)).resolve_left ne
theorem sortedW {α : Type} {r : α → α → Prop} (anti : ∀ a b, r a b → r b a → a = b) : ∀ {L M : List α}, L.Pairwise r → M.Pairwise r → L.Perm M → L = M
  | [], M, _, _, p => by rw [List.nil_perm.mp p]
  | a :: L, [], _, _, p => by have := p.length_eq; cases this
  | a :: L, b :: M, hL, hM, p => by
    rw [List.pairwise_cons] at hL hM
    have e : a = b := by
      rcases List.mem_cons.mp (p.mem_iff.mp (List.mem_cons_self ..)) with e | m
      · exact e
      · rcases List.mem_cons.mp (p.mem_iff.mpr (List.mem_cons_self ..)) with e | m2
        · exact e.symm
        · exact anti _ _ (hL.1 b m2) (hM.1 a m)
    subst e
    rw [sortedW anti hL.2 hM.2 (List.perm_cons a |>.mp p)]
/-- each once -/
def dd : List Wd → List Wd
  | [] => []
  | k :: ks => if k ∈ dd ks then dd ks else k :: dd ks
theorem mem_dd {x : Wd} : ∀ {ks : List Wd}, x ∈ dd ks ↔ x ∈ ks
  | [] => Iff.rfl
  | k :: ks => by
    rw [dd]
    by_cases h : k ∈ dd ks
    · rw [if_pos h, mem_dd, List.mem_cons]
      exact ⟨.inr, fun z => z.elim (fun e => by rw [e]; exact mem_dd.mp h) id⟩
    · rw [if_neg h, List.mem_cons, List.mem_cons, mem_dd]
theorem dd_nodup : ∀ ks : List Wd, (dd ks).Nodup
  | [] => .nil
  | k :: ks => by
    rw [dd]
    by_cases h : k ∈ dd ks
    · rw [if_pos h]; exact dd_nodup ks
    · rw [if_neg h, List.nodup_cons]; exact ⟨h, dd_nodup ks⟩
def srtW (ks : List Wd) : List Wd := (dd ks).mergeSort leW
theorem srtW_pair (ks : List Wd) : (srtW ks).Pairwise fun a b => leW a b = true := List.pairwise_mergeSort leW_trans leW_total _
theorem srtW_nodup (ks : List Wd) : (srtW ks).Nodup := (List.mergeSort_perm (dd ks) leW).nodup_iff.mpr (dd_nodup ks)
theorem srtW_mem {ks : List Wd} {x : Wd} : x ∈ srtW ks ↔ x ∈ ks := List.mem_mergeSort.trans mem_dd
theorem srtW_eq {ks L : List Wd} (p : L.Pairwise fun a b => leW a b = true) (n : L.Nodup) (m : ∀ x, x ∈ L ↔ x ∈ ks) : srtW ks = L :=
  sortedW (r := fun a b => leW a b = true) (fun _ _ h1 h2 => leW_anti h1 h2) (srtW_pair ks) p (permW (srtW_nodup ks) n fun x => by rw [srtW_mem, m])
def bdW (k : Wd) : Bool := k.all fun i => decide (0 ≤ i) && decide (i < 64)
def setOkW (ks : List Wd) : Bool := decide (ks.length < 64) && ks.all fun k => decide (k.length = (ks.headD [0]).length) && decide (1 ≤ k.length) && bdW k
def srtSetD : D → Option D
  | .lst xs => (tupsD xs).bind fun ks => if setOkW ks = true then some (.lst ((srtW ks).map wordD)) else none
  | _ => none
def xSrtSet (f : EX) : EX := fun ρ => (f ρ).bind srtSetD
theorem reps_ints {K : PySem.W.Frag} {H : Hp} : ∀ {k : Wd} {vs : List V} {F : List Addr}, Reps K H (k.map D.int) vs F → vs = k.map V.int ∧ F = []
  | [], vs, F, r => r
  | i :: k, vs, F, r => by
    obtain ⟨v, vr, F1, F2, rfl, rfl, ⟨rfl, rfl⟩, r2⟩ := r
    obtain ⟨rfl, rfl⟩ := reps_ints r2
    exact ⟨rfl, rfl⟩
theorem ints_reps {K : PySem.W.Frag} {H : Hp} : ∀ k : Wd, Reps K H (k.map D.int) (k.map V.int) []
  | [] => ⟨rfl, rfl⟩
  | i :: k => ⟨_, _, [], [], rfl, rfl, ⟨rfl, rfl⟩, ints_reps k⟩
/-- the tuples with their places -/
theorem reps_words {K : PySem.W.Frag} {H : Hp} : ∀ {ks : List Wd} {vs : List V} {F : List Addr}, Reps K H (ks.map wordD) vs F → ∃ ps : List (Addr × Wd), vs = ps.map (fun p => V.ref p.1) ∧ ps.map (·.2) = ks ∧ ∀ p ∈ ps, H p.1 = some (.tup (p.2.map V.int))
  | [], vs, F, r => by
    obtain ⟨rfl, rfl⟩ := r
    exact ⟨[], rfl, rfl, fun p hp => by cases hp⟩
  | k :: ks, vs, F, r => by
    obtain ⟨v, vr, F1, F2, rfl, rfl, r1, r2⟩ := r
    obtain ⟨a, ws, rfl, ha, r3⟩ := r1
    obtain ⟨rfl, rfl⟩ := reps_ints r3
    obtain ⟨ps, rfl, e, hp⟩ := reps_words r2
    refine ⟨(a, k) :: ps, rfl, by rw [List.map_cons, e], fun p hm => ?_⟩
    rcases List.mem_cons.mp hm with rfl | hm
    · exact ha
    · exact hp p hm
theorem words_reps {K : PySem.W.Frag} {H : Hp} : ∀ {ps : List (Addr × Wd)}, (∀ p ∈ ps, H p.1 = some (.tup (p.2.map V.int))) → Reps K H ((ps.map (·.2)).map wordD) (ps.map fun p => V.ref p.1) []
  | [], _ => ⟨rfl, rfl⟩
  | p :: ps, h => ⟨_, _, [], [], rfl, rfl, ⟨p.1, _, rfl, h p (List.mem_cons_self ..), ints_reps p.2⟩, words_reps fun q hq => h q (List.mem_cons_of_mem _ hq)⟩
section
variable {X : Cx} {k : Nat} {e : Expr} {f : EX} {po p1 c1 pos : Pos}
end
end DL
namespace DL
open PySem PySem.Spec PyProof.Rows L2
/-! ### a raising call whose arguments have effects (a draw within a lambda) -/
abbrev EMX := Env → Option ((D ⊕ Er) × Env)
def tMX (K : PySem.W.Frag) (mg : Str → Option Value) (W : XK) (f : EMX) : TE := fun σ H Q => ∃ c ρ fp r ρ', Ok K c σ H ρ fp ∧ f ρ = some (r, ρ') ∧ match r with
  | .inl d => ∀ v H' fp' F, Ok K c σ H' ρ' fp' → Val K c H' ρ' fp' d v F → Q v H'
  | .inr e => ∀ cls d H' fp', Ok K c σ H' ρ' fp' → ErOk K mg e cls d H' → W cls d H'
abbrev DMX (X : Cx) (W : XK) (e : Expr) (f : EMX) : Prop := PE X e (tMX X.K X.mg W f)
def mCallX (F : List D → Option (D ⊕ Er)) (ms : EMs) : EMX := fun ρ => (ms ρ).bind fun x => (F x.1).bind fun r => some (r, x.2)
section
variable {X : Cx} {W : XK} {x : Str} {po pos : Pos} {e : Expr} {es : List Expr} {ms : EMs}
end
def mErrM (P : Addr) (f : EMX) (h : Er → Option D) (w0 : Str) : EM := fun ρ => match ρ[(0 : Nat)]? with
  | some (some (.tag P', _)) => if P' = P then (f ρ).bind fun x => match x.1 with
    | .inl _ => some (.str w0, x.2)
    | .inr e => (h e).bind fun d => some (d, x.2)
    else none
  | _ => none
section
variable {X : Cx}
end
/-! ### `and` whose first part has effects -/
def mAnd (f g : EM) : EM := fun ρ => (f ρ).bind fun x => match x.1 with
  | .bl true => g x.2
  | .bl false => some (.bl false, x.2)
  | _ => none
section
variable {X : Cx} {a b : Expr} {rest : List Expr} {pos : Pos} {f g : EM}
end
/-! ### what is never come to, at the end of a block -/
section
variable {X : Cx}
end
end DL
namespace PySem
open Sem (wp)
section
variable {prog : Program} {w : World} {A : Around} {R : Result → Shared → Prop} {I : Addr} {fp wr : List Addr} {G : Array GenState → Array GenState → Prop} {n : Nat} {P : Nat → Value → Prop} {St : Nat → Shared → Prop}
def bInt (b : Bool) : Int := if b then 1 else 0
end
section
variable {prog : Program} {w : World} {A : Around} {E : Value → Shared → Prop} {s : Shared}
end
end PySem
namespace DL
open PySem PySem.Spec PyProof.Rows L2
/-! ### sum of a list of truths -/
def sumB : List D → Option D := fun ds => match ds with
  | [.lst xs] => (toBls xs).map fun bs => .int ((bs.count true : Nat) : Int)
  | _ => none
def rSumB (K : PySem.W.Frag) : List V → Hp → VK → Prop := fun vs H Q => ∃ (a : Addr) (bs : List Bool), vs = [V.ref a] ∧ SqL K H a (bs.map V.bl) ∧ Q (.int ((bs.count true : Nat) : Int)) H
end DL
namespace DL
open PySem PySem.Spec PyProof.Rows L2
/-! ### `for x in NAME` over a name's own dict (tuple keys): it is locked while the loop runs -/
def srcKd (i : Nat) : IM := fun ρ => match ρ[i]? with
  | some (some (.bor, .dT ks xs)) => some (ks.map tupK, ρ)
  | _ => none
def sKeysL (i : Nat) (gx : GX) (g : ES) : ES := fun ρ => match ρ[i]? with
  | some (some (.own, _)) => sLend i (sFor (srcKd i) gx g) ρ
  | _ => none
section
variable {X : Cx} {gx : GX} {g : ES} {i : Nat} {e tg : Expr} {pos : Pos} {body : List Stmt}
end
end DL
namespace DL
open PySem PySem.Spec PyProof.Rows L2
/-! ### name = {.. of three clauses} -/
section
variable {X : Cx} {i : Nat} {y : Str} {py : Pos} {scope : Scope} {own : List (Str × Nat)} {pos spos : Pos} {ow : Bool}
end
end DL
namespace DL
open PySem PySem.Spec PyProof.Rows L2
/-! ### min(a, b) of two plain things that are no numbers -/
section
variable {prog : Program} {w : World} {A : Around} {E : Value → Shared → Prop} {s : Shared}
end
def rMin2 (K : PySem.W.Frag) : List V → Hp → VK → Prop := fun vs H Q => ∃ (v1 v2 : V) (x y : PyData), vs = [v1, v2] ∧ DpAll K H [v1, v2] [x, y] ∧ PySem.W.AlikeAll [x, y] ∧ PyData.depthAll [x, y] ≤ 60 ∧ PyData.canLayAll0 [x, y] = true ∧
  ∀ (i : Nat) v d, ([v1, v2] : List V)[i]? = some v → ([x, y] : List PyData)[i]? = some d → d = PySem.W.minD x [y] → Q v H
section
variable {X : Cx} {k : Nat}
end
def min2T : List D → Option D := fun ds => match ds with
  | [x, y] => if minOk [x, y] = true then some (minF x [y]) else none
  | _ => none
def min2U : List D → Option D := fun ds => match ds with
  | [.int i, .int j] => some (.int (if j < i then j else i))
  | ds => min2T ds
@[simp] theorem v_min2U {a b : Int} : min2U [.int a, .int b] = some (.int (if b < a then b else a)) := rfl
end DL
namespace DL
open PySem PySem.Spec PyProof.Rows L2
/-! ### dicts frozen for good: `k in d`, len(d) -/
section
variable {X : Cx} {pins : List (Addr × Obj)} {σ : L2.St} {H : Hp} {s : Shared} {A : Around} {E : Value → Shared → Prop}
end
def rInF : R2 := fun x y H Q => ∃ (a : Addr) (o : Obj) (kvs : List (List Key × V)) (k : List Key) (b : Addr), y = .ref a ∧ x = .ref b ∧ Frz2 H a o kvs ∧ H b = some (.tup (k.map kV)) ∧ Q (.bl (valV kvs k).isSome) H
def oInF : D → D → Option D := fun x c => match c with
  | .fdT ks xs => (toKeyT x).map fun q => .bl (lookD ks xs q).isSome
  | _ => none
def rLenF : List V → Hp → VK → Prop := fun xs H Q => ∃ (p : Addr) (o : Obj) (kvs : List (List Key × V)), xs = [.ref p] ∧ Frz2 H p o kvs ∧ Q (.int ((kvs.length : Nat) : Int)) H
def lenFD : List D → Option D := fun ds => match ds with
  | [.fdT ks _] => some (.int ks.length)
  | _ => none
end DL
namespace DL
open PySem PySem.Spec PyProof.Rows L2
/-! ### dict(zip(a, b)), a and b two tuples -/
section
variable {prog : Program} {w : World} {A : Around} {E : Value → Shared → Prop} {s : Shared}
section
variable {zz tI tO j1 j2 m1 m2 tT : Addr} {fl : Bool} {ob : Obj} {n1 n2 : Nat} {us vs : Array Value}
end
end
/-- the keys of a dict to be, and where they stand -/
def KsAt (H : Hp) (ks : List (List Key)) (cs : List Addr) : Prop := Paired (fun k c => H c = some (.tup (k.map kV))) ks cs
def entZ (ks : List (List Key)) (cs : List Addr) (its : List Value) : List (List Key × Addr × Value) := ks.zip (cs.zip its)
theorem KsAt.length {H : Hp} : ∀ {ks : List (List Key)} {cs : List Addr}, KsAt H ks cs → ks.length = cs.length
  | _, _, .nil => rfl
  | _, _, .cons _ t => congrArg (· + 1) (KsAt.length t)
def tDictZip (K : PySem.W.Frag) (t : TA) : TE := fun σ H Q => t σ H fun ys H1 => ∃ (a b : Addr) (ks : List (List Key)) (cs : List Addr) (vs : List V),
  ys = [.ref a, .ref b] ∧ SqT K H1 a (cs.map V.ref) ∧ SqT K H1 b vs ∧ KsAt H1 ks cs ∧ ks.length = vs.length ∧ ks.Nodup ∧ ∀ q, H1 q = none → Q (.ref q) (upd H1 q (.dT (ks.zip vs)))
theorem vals_refs : ∀ {cs : List Addr} {us : List Value}, Vals (cs.map V.ref) us → us = cs.map Value.ref
  | [], _, .nil => rfl
  | _ :: _, _, .cons h t => by rw [vals_refs t, show _ = Value.ref _ from h]; rfl
section
variable {X : Cx} {e : Expr} {es : List Expr} {t : TA} {p p2 pos pos2 : Pos} {k : Nat}
end
/-- all keys -/
def keysD : List D → Option (List (List Key))
  | [] => some []
  | d :: ds => (toKeyT d).bind fun k => (keysD ds).map (k :: ·)
def dictZipD : List D → Option D := fun ds => match ds with
  | [.tup as, .tup xs] => (keysD as).bind fun ks => if pures xs = true then if ks.length = xs.length then if ks.Nodup then some (.dT ks xs) else none else none else none
  | _ => none
def xDictZip (fs : EXs) : EX := fun ρ => (fs ρ).bind dictZipD
section
variable {X : Cx} {e : Expr} {es : List Expr} {fs : EXs} {p p2 pos pos2 : Pos} {k : Nat}
end
end DL
namespace DL
open PySem PySem.Spec PyProof.Rows L2
/-! ### dicts frozen for good: `d[k]`, `d.get(k, x)` -/
section
variable {X : Cx} {pins : List (Addr × Obj)} {σ : L2.St} {H : Hp} {s : Shared} {A : Around} {E : Value → Shared → Prop}
end
def rIxF : R2 := fun x y H Q => ∃ (a : Addr) (o : Obj) (kvs : List (List Key × V)) (k : List Key) (b : Addr) (v : V), x = .ref a ∧ y = .ref b ∧ Frz2 H a o kvs ∧ H b = some (.tup (k.map kV)) ∧ valV kvs k = some v ∧ Q v H
def ixFD : D → D → Option D := fun c x => match c with
  | .fdT ks xs => (toKeyT x).bind fun q => lookD ks xs q
  | _ => none
def get2F : D → D → D → Option D := fun d k z => match d with
  | .fdT ks xs => if pure z = true then (toKeyT k).bind fun q => if pure ((lookD ks xs q).getD z) = true then some ((lookD ks xs q).getD z) else none else none
  | _ => none
def xGet2F (fo fe ff : EX) : EX := fun ρ => (fo ρ).bind fun d => (fe ρ).bind fun k => (ff ρ).bind fun z => get2F d k z
def tDGet2F (td ty tx : TE) : TE := fun σ H Q => td σ H fun x H1 => ∃ a o kvs, x = .ref a ∧ Frz2 H1 a o kvs ∧ ty σ H1 fun y H2 => tx σ H2 fun z H3 => ∃ k b, y = .ref b ∧ Frz2 H3 a o kvs ∧ H3 b = some (.tup (List.map kV k)) ∧ Q ((valV kvs k).getD z) H3
section
variable {X : Cx} {o e f : Expr} {apos cpos pos : Pos} {td ty tx : TE} {fo fe ff : EX}
end
section
variable {X : Cx} {a b : Expr} {f g : EX} {pos : Pos} {k : Nat}
end
/-! ### a, b, .. = a list -/
def gUnlD (n : Nat) (gs : GXs) : GX := fun d ρ => match d with
  | .lst ds => if ds.length = n then gs ds ρ else none
  | _ => none
section
variable {X : Cx} {es : List Expr} {pos : Pos}
end
end DL
namespace DL
open PySem PySem.Spec PyProof.Rows L2
/-! ### sorted(set(x)), x a tuple of tuples of numbers (also below 0) -/
section
variable {P : Program} {w : World} {A : Around} {E : Value → Shared → Prop} {s : Shared}
end
theorem perm_map_ex {α β : Type} {f : α → β} {vs M : List β} (h : vs.Perm M) : ∀ L : List α, M = L.map f → ∃ L1 : List α, L1.Perm L ∧ vs = L1.map f := by
  induction h with
  | nil =>
    intro L e
    exact ⟨L, .refl _, e⟩
  | cons x p ih =>
    intro L e
    cases L with
    | nil => cases e
    | cons a L =>
      rw [List.map_cons] at e
      injection e with e1 e2
      obtain ⟨L1, p1, e3⟩ := ih L e2
      exact ⟨a :: L1, p1.cons a, by rw [List.map_cons, e3, e1]⟩
  | swap x y l =>
    intro L e
    match L, e with
    | [], e => cases e
    | [a], e => simp at e
    | a :: b :: L, e =>
      simp only [List.map_cons, List.cons.injEq] at e
      obtain ⟨e1, e2, e3⟩ := e
      exact ⟨b :: a :: L, .swap a b L, by simp [e1, e2, e3]⟩
  | trans p1 p2 ih1 ih2 =>
    intro L e
    obtain ⟨L2, q2, e2⟩ := ih2 L e
    obtain ⟨L1, q1, e1⟩ := ih1 L2 e2
    exact ⟨L1, q1.trans q2, e1⟩
/-- set(x), x a tuple of tuples of numbers, by values -/
def rSetOfTT (K : PySem.W.Frag) (P : Program) (w : World) : List V → Hp → VK → Prop := fun xs H Q => ∃ (l : Addr) (ks : List (Addr × List Int)), xs = [V.ref l] ∧ SqT K H l (ks.map fun p => V.ref p.1) ∧ (∀ p ∈ ks, SqT K H p.1 (p.2.map V.int)) ∧ ks.length < 64 ∧
  ∀ a L, H a = none → (∀ p ∈ L, p ∈ ks) → (∀ p ∈ ks, p.2 ∈ L.map (·.2)) → Q (.ref a) (upd H a (SetTO P w a L))
def rSortT2 (K : PySem.W.Frag) (P : Program) (w : World) : List V → Hp → VK → Prop := fun vs H Q => ∃ (a : Addr) (L : List (Addr × List Int)), vs = [V.ref a] ∧ H a = some (SetTO P w a L) ∧ (∀ p ∈ L, H p.1 = some (.tup (p.2.map V.int))) ∧ sortOk (L.map fun p => wordD p.2) = true ∧
  ∀ (L' : List (Addr × List Int)) (p : Addr), L'.Perm L → (L'.map (·.2)).Nodup → L'.Pairwise (fun q r => leW q.2 r.2 = true) → H p = none → Q (.ref p) (upd H p (.lst (L'.map fun q => V.ref q.1)))
theorem each_at : ∀ L : List (Addr × List Int), PySem.W.EachIs (fun u (q : Addr × List Int) => u = Value.ref q.1) (L.map fun q => Value.ref q.1) L
  | [] => .nil
  | q :: L => .cons rfl (each_at L)
theorem refs_each : ∀ {us : List Value} {L : List (Addr × List Int)}, PySem.W.EachIs (fun u (q : Addr × List Int) => u = Value.ref q.1) us L → us = L.map fun q => Value.ref q.1
  | _, _, .nil => rfl
  | _, _, .cons h t => by rw [h, refs_each t]; rfl
theorem reads_word {h : Heap} : ∀ {k : List Int} {vs : List Value} {as : List Addr}, ReadsAll h vs (pys (k.map D.int)) as → as = []
  | [], _, _, r => by cases r; rfl
  | i :: k, _, _, r => by
    rw [List.map_cons, pys] at r
    cases r with
    | cons r1 r2 =>
      have e1 : _ = ([] : List Addr) := reads_key (.inl i) r1
      rw [e1, reads_word r2]
      rfl
theorem reads_wordT {h : Heap} {k : List Int} {v : Value} {as : List Addr} (r : Reads h v (py (wordD k)) as) : as = [] := by
  have r' : Reads h v (.tuple (pys (k.map D.int))) as := r
  cases r' with
  | tuple _ _ _ q => exact reads_word q
section
variable {X : Cx} {k : Nat}
end
def srtTupD : D → Option D
  | .tup xs => (tupsD xs).bind fun ks => if ks.length < 64 then if sortOk ((dd ks).map wordD) = true then some (.lst ((srtW ks).map wordD)) else none else none
  | _ => none
def xSrtTup (f : EX) : EX := fun ρ => (f ρ).bind srtTupD
theorem plains_at : ∀ {ds : List D} {d : D}, plains ds = true → d ∈ ds → plain d = true
  | e :: ds, d, h, hd => by
    rw [plains, Bool.and_eq_true] at h
    rcases List.mem_cons.mp hd with rfl | hd
    · exact h.1
    · exact plains_at h.2 hd
theorem plains_of : ∀ {ds : List D}, (∀ d ∈ ds, plain d = true) → plains ds = true
  | [], _ => rfl
  | e :: ds, h => by
    rw [plains, Bool.and_eq_true]
    exact ⟨h e (List.mem_cons_self ..), plains_of fun d hd => h d (List.mem_cons_of_mem _ hd)⟩
theorem sortOk_perm {L M : List D} (h : sortOk L = true) (m : ∀ x, x ∈ M → x ∈ L) : sortOk M = true := by
  unfold sortOk at *
  simp only [Bool.and_eq_true, Bool.or_eq_true, List.all_eq_true] at h ⊢
  obtain ⟨⟨⟨h1, h2⟩, h3⟩, h4⟩ := h
  have mm : ∀ x, x ∈ M.map py → x ∈ L.map py := fun x hx => by
    obtain ⟨d, hd, rfl⟩ := List.mem_map.mp hx
    exact List.mem_map.mpr ⟨d, m d hd, rfl⟩
  refine ⟨⟨⟨?_, ?_⟩, ?_⟩, fun x hx => h4 x (mm x hx)⟩
  · exact plains_of fun x hx => plains_at h1 (m x hx)
  · unfold alikes at *
    simp only [List.all_eq_true] at h2 ⊢
    exact fun x hx y hy => h2 x (mm x hx) y (mm y hy)
  · exact h3.elim (fun z => .inl fun x hx => z x (mm x hx)) fun z => .inr fun x hx => z x (mm x hx)
section
variable {X : Cx} {k : Nat} {e : Expr} {f : EX} {po p1 c1 pos : Pos}
end
end DL
namespace DL
open PySem PySem.Spec PyProof.Rows L2
/-! ### a call of an own def whose argument raises -/
section
variable {X : Cx} {W : XK} {x : Str} {po pos : Pos} {e : Expr} {f : EXR}
end
end DL
namespace DL
open PySem PySem.Spec PyProof.Rows L2
/-! ### zip of a tuple and a list -/
section
variable {prog : Program} {w : World} {A : Around} {E : Value → Shared → Prop} {s : Shared}
end
def ItzM (K : PySem.W.Frag) (a b : Addr) : It :=
  ⟨fun i H => ∃ (xs ys : List V) (x y : V), SqT K H a xs ∧ SqL K H b ys ∧ xs[i]? = some x ∧ ys[i]? = some y,
    fun i H v H' => ∃ T x y, v = .ref T ∧ H T = none ∧ H' = upd H T (.tup [x, y]) ∧ (∀ xs, SqT K H a xs → xs[i]? = some x) ∧ ∀ ys, SqL K H b ys → ys[i]? = some y,
    fun i H => ∃ xs ys : List V, SqT K H a xs ∧ SqL K H b ys ∧ (xs.length ≤ i ∨ ys.length ≤ i)⟩
/-- zip(e, e2), e a tuple and e2 a list -/
def iZipM (K : PySem.W.Frag) (ta : TA) : TI := fun σ H R => ta σ H fun vs H1 => ∃ a b xs ys, vs = [.ref a, .ref b] ∧ SqT K H1 a xs ∧ SqL K H1 b ys ∧ R (ItzM K a b) H1
section
variable {prog : Program} {w : World} {A : Around} {E : Value → Shared → Prop} {s : Shared}
abbrev zipMH (g : Heap) (m1 m2 : Addr) : Heap := ((((g.push { cls := .type "tuple_iterator", data := .fields #[.ref m1, .int 0 0] }).push { cls := .type "list_iterator", data := .fields #[.ref m2, .int 0 0] }).push { cls := .type "tuple", data := .seq #[.ref g.objs.size, .ref (g.objs.size + 1)] }).push { cls := .type "tuple", data := .seq #[.none, .none] }).push { cls := .type "zip", data := .fields #[.none, .bool false, .bool false, .ref (g.objs.size + 2), .ref (g.objs.size + 3)] }
end
end DL
namespace DL
open PySem PySem.Spec PyProof.Rows L2
/-! ### `for x, y in zip(a tuple, a list)`, by data -/
def zipF : List D → List D → List D
  | x :: xs, y :: ys => .tup [x, y] :: zipF xs ys
  | _, _ => []
def zipD : List D → Option (List D) := fun ds => match ds with
  | [.tup xs, .lst ys] => if pures xs = true then if pures ys = true then some (zipF xs ys) else none else none
  | _ => none
def xZipM (fs : EXs) : IX := fun ρ => (fs ρ).bind zipD
section
variable {X : Cx} {e e2 : Expr} {fs : EXs} {pos p tpos : Pos} {elts : List Expr} {kk : Nat}
end
end DL
namespace DL
open PySem PySem.Spec PyProof.Rows L2
/-! ### d.setdefault(k, []).append(x), d an own dict of lists -/
def appHd (v : D) : D → Option D
  | .lst ys => if ys.length < sizeLine then some (.lst (ys ++ [v])) else none
  | _ => none
def appAt : List Key → List D → Key → D → Option (List D)
  | k :: ks, x :: xs, q, v => if k = q then (appHd v x).map (· :: xs) else (appAt ks xs q v).map (x :: ·)
  | _, _, _, _ => none
def kin (q : Key) (ks : List Key) : Bool := ks.any fun k => decide (k = q)
def setd1 (d : D) (q : Key) : Option D := match d with
  | .dK ks xs => if ks.length < sizeLine then if kin q ks = true then some (.dK ks xs) else some (.dK (ks ++ [q]) (xs ++ [.lst []])) else none
  | _ => none
def app1 (d : D) (q : Key) (v : D) : Option D := match d with
  | .dK ks xs => (appAt ks xs q v).map (.dK ks)
  | _ => none
def mSetApp (i : Nat) (fk fv : EX) : EM := fun ρ => (ownAt i ρ).bind fun z => (fk ρ).bind fun k => (toKey k).bind fun q => (setd1 z.2 q).bind fun d1 => (fv (ρ.set i (some (z.1, d1)))).bind fun v =>
  if pure v = true then (app1 d1 q v).bind fun d2 => some (.non, (ρ.set i (some (z.1, d1))).set i (some (z.1, d2))) else none
section
variable {X : Cx} {c : Ct} {σ : L2.St} {ρ : Env} {fp : Nat → List Addr} {i : Nat} {m : Fl} {ks : List Key} {xs xs' : List D} {q : Key} {v : D} {fv : EX} {Q : VK}
end
section
variable {X : Cx} {ob ek ev : Expr} {fk fv : EX} {i : Nat} {apos apos2 cpos cpos2 lp : Pos}
end
end DL
namespace DL
open PySem PySem.Spec PyProof.Rows L2
/-! ### comprehensions over d.values(), d a name's own dict whose keys are numbers or texts: it is locked while they run -/
/-- two heaps that differ in the lock of a dict alone -/
structure SwK (a : Addr) (kvs : List (Key × V)) (x y : HO) (H H' : Hp) : Prop where
  at1 : H a = some x
  at2 : H' a = some y
  ne : ∀ b, b ≠ a → H' b = H b
  x1 : x = .dK kvs ∨ ∃ o, x = .frz o (.dK kvs)
  y1 : y = .dK kvs ∨ ∃ o, y = .frz o (.dK kvs)
section
variable {K : PySem.W.Frag} {a : Addr} {kvs : List (Key × V)} {x y : HO} {H H' : Hp}
theorem SwK.rd (w : SwK a kvs x y H H') {b : Addr} {o : HO} (h : Rd H b o) (hno : ∀ u z, o ≠ .frz u z) : Rd H' b o := by
  by_cases e : b = a
  · subst e
    have ho : o = .dK kvs := by
      rcases h with h | ⟨u, h⟩
      · rw [w.at1] at h
        cases h
        rcases w.x1 with z | ⟨u, z⟩
        · exact z
        · exact absurd z (hno _ _)
      · rw [w.at1] at h
        cases h
        rcases w.x1 with z | ⟨u', z⟩
        · cases z
        · cases z; rfl
    subst ho
    rcases w.y1 with z | ⟨u, z⟩
    · exact .inl (by rw [w.at2, z])
    · exact .inr ⟨u, by rw [w.at2, z]⟩
  · rcases h with h | ⟨u, h⟩
    · exact .inl (by rw [w.ne b e]; exact h)
    · exact .inr ⟨u, by rw [w.ne b e]; exact h⟩
theorem SwK.tup (w : SwK a kvs x y H H') {b : Addr} {vs : List V} (h : H b = some (.tup vs)) : H' b = some (.tup vs) := by
  rw [w.ne b fun e => ?_]
  · exact h
  · subst e
    rw [w.at1] at h
    cases h
    rcases w.x1 with z | ⟨u, z⟩ <;> cases z
theorem SwK.fdT (w : SwK a kvs x y H H') {b : Addr} {o : Obj} {ks : List (List Key × V)} (h : H b = some (.frz o (.frz o (.dT ks)))) : H' b = some (.frz o (.frz o (.dT ks))) := by
  rw [w.ne b fun e => ?_]
  · exact h
  · subst e
    rw [w.at1] at h
    cases h
    rcases w.x1 with z | ⟨u, z⟩ <;> cases z
theorem SwK.frz (w : SwK a kvs x y H H') {b : Addr} {vs : List V} (h : Frz K H b vs) : Frz K H' b vs := by
  rcases h with ⟨o, h⟩ | h
  · refine .inl ⟨o, ?_⟩
    rw [w.ne b fun e => ?_]
    · exact h
    · subst e
      rw [w.at1] at h
      cases h
      rcases w.x1 with z | ⟨u, z⟩ <;> cases z
  · exact .inr h
mutual
theorem SwK.rep (w : SwK a kvs x y H H') : ∀ {d : D} {v : V} {F : List Addr}, Rep K H d v F → Rep K H' d v F
  | .non, _, _, h => h
  | .bl _, _, _, h => h
  | .int _, _, _, h => h
  | .str _, _, _, h => h
  | .tup xs, v, F, ⟨b, vs, e, q, r⟩ => ⟨b, vs, e, w.tup q, w.reps r⟩
  | .ctp xs, v, F, ⟨b, vs, e, q, r⟩ => ⟨b, vs, e, q, w.reps r⟩
  | .frz xs, v, F, ⟨b, vs, e, q, r⟩ => ⟨b, vs, e, w.frz q, w.reps r⟩
  | .lst xs, v, F, ⟨b, vs, G, e, q, f, r⟩ => ⟨b, vs, G, e, w.rd q (fun _ _ z => by cases z), f, w.reps r⟩
  | .dK ks xs, v, F, ⟨b, vs, G, e, q, l, f, r⟩ => ⟨b, vs, G, e, w.rd q (fun _ _ z => by cases z), l, f, w.reps r⟩
  | .dT ks xs, v, F, ⟨b, vs, G, e, q, l, f, r⟩ => ⟨b, vs, G, e, w.rd q (fun _ _ z => by cases z), l, f, w.reps r⟩
  | .fdT ks xs, v, F, ⟨b, vs, o, e, q, l, r⟩ => ⟨b, vs, o, e, w.fdT q, l, w.reps r⟩
  | .exc b d ns xs, v, F, ⟨e, f, q⟩ => ⟨e, f, fun d1 hd => by
    obtain ⟨vs, q1, q2, q3⟩ := q d1 hd
    refine ⟨vs, ?_, q2, w.reps q3⟩
    rw [w.ne d1 fun e => ?_]
    · exact q1
    · subst e
      rw [w.at1] at q1
      cases q1
      rcases w.x1 with z | ⟨u, z⟩ <;> cases z⟩
theorem SwK.reps (w : SwK a kvs x y H H') : ∀ {ds : List D} {vs : List V} {F : List Addr}, Reps K H ds vs F → Reps K H' ds vs F
  | [], _, _, h => h
  | d :: ds, vs, F, ⟨v, vr, F1, F2, e, f, r1, r2⟩ => ⟨v, vr, F1, F2, e, f, w.rep r1, w.reps r2⟩
end
end
def xValsOf (i : Nat) : IX := fun ρ => match ρ[i]? with
  | some (some (_, .dK _ xs)) => some xs
  | _ => none
def LkK (i : Nat) (σ : L2.St) (H : Hp) : Prop := ∃ (a : Addr) (o : Obj) (kvs : List (Key × V)), σ[i]? = some (some (.ref a)) ∧ H a = some (.frz o (.dK kvs))
def NeedK (i : Nat) (src : IX) : Prop := ∀ ρ its, src ρ = some its → ∃ m ks xs, ρ[i]? = some (some (m, .dK ks xs))
section
variable {K : PySem.W.Frag} {i : Nat} {σ : L2.St} {H : Hp} {R : It → Hp → Prop}
end
section
variable {X : Cx} {i : Nat} {elt tg iter : Expr} {ifs : List Expr} {scope : Scope} {own : List (Str × Nat)} {pos : Pos} {src : IX} {gx : GX} {q : QX} {fe : EX} {wi : TI}
end
end DL
namespace DL
open PySem PySem.Spec PyProof.Rows L2
/-! ### list(range(a, b)) -/
def lstRgD (x y : D) : Option D := match x, y with
  | .int a, .int b => if rOk a = true then if rOk b = true then if (b - a).toNat ≤ 2 ^ 20 then some (.lst (rng a b)) else none else none else none
  | _, _ => none
def xLstRg (fa fb : EX) : EX := fun ρ => (fa ρ).bind fun x => (fb ρ).bind fun y => lstRgD x y
section
variable {X : Cx} {a b : Expr} {fa fb : EX} {p p2 pos pos2 : Pos} {oa ob : Bool}
end
end DL
namespace DL
open PySem PySem.Spec PyProof.Rows L2
/-! ### zip of a list and a tuple -/
section
variable {prog : Program} {w : World} {A : Around} {E : Value → Shared → Prop} {s : Shared}
end
def ItzN (K : PySem.W.Frag) (a b : Addr) : It :=
  ⟨fun i H => ∃ (xs ys : List V) (x y : V), SqL K H a xs ∧ SqT K H b ys ∧ xs[i]? = some x ∧ ys[i]? = some y,
    fun i H v H' => ∃ T x y, v = .ref T ∧ H T = none ∧ H' = upd H T (.tup [x, y]) ∧ (∀ xs, SqL K H a xs → xs[i]? = some x) ∧ ∀ ys, SqT K H b ys → ys[i]? = some y,
    fun i H => ∃ xs ys : List V, SqL K H a xs ∧ SqT K H b ys ∧ (xs.length ≤ i ∨ ys.length ≤ i)⟩
/-- zip(e, e2), e a list and e2 a tuple -/
def iZipN (K : PySem.W.Frag) (ta : TA) : TI := fun σ H R => ta σ H fun vs H1 => ∃ a b xs ys, vs = [.ref a, .ref b] ∧ SqL K H1 a xs ∧ SqT K H1 b ys ∧ R (ItzN K a b) H1
section
variable {prog : Program} {w : World} {A : Around} {E : Value → Shared → Prop} {s : Shared}
abbrev zipNH (g : Heap) (m1 m2 : Addr) : Heap := ((((g.push { cls := .type "list_iterator", data := .fields #[.ref m1, .int 0 0] }).push { cls := .type "tuple_iterator", data := .fields #[.ref m2, .int 0 0] }).push { cls := .type "tuple", data := .seq #[.ref g.objs.size, .ref (g.objs.size + 1)] }).push { cls := .type "tuple", data := .seq #[.none, .none] }).push { cls := .type "zip", data := .fields #[.none, .bool false, .bool false, .ref (g.objs.size + 2), .ref (g.objs.size + 3)] }
end
end DL
namespace DL
open PySem PySem.Spec PyProof.Rows L2
/-! ### `for x, y in zip(a list, a tuple)`, by data -/
def zipE : List D → Option (List D) := fun ds => match ds with
  | [.lst xs, .tup ys] => if pures xs = true then if pures ys = true then some (zipF xs ys) else none else none
  | _ => none
def xZipN (fs : EXs) : IX := fun ρ => (fs ρ).bind zipE
section
variable {X : Cx} {e e2 : Expr} {fs : EXs} {pos p tpos : Pos} {elts : List Expr} {kk : Nat}
end
end DL
namespace DL
open PySem PySem.Spec PyProof.Rows L2
/-! ### tuple * 1 (the tuple itself), and tuple * int from 1 on -/
def rOnce (K : PySem.W.Frag) : R2 := fun x y H Q => ∃ l xs, x = .ref l ∧ y = .int 1 ∧ SqT K H l xs ∧ xs ≠ [] ∧ Q (.ref l) H
def rRepS (K : PySem.W.Frag) : R2 := fun x y H Q => rRepT K x y H Q ∨ rOnce K x y H Q
def oRepS : D → D → Option D := fun x y => match x, y with
  | .tup xs, .int k => if k = 1 then (if pures xs = true then if xs.isEmpty = false then some (.tup xs) else none else none) else oRepT (.tup xs) (.int k)
  | _, _ => none
end DL
namespace DL
open PySem PySem.Spec PyProof.Rows L2
/-! ### sets of up to 76 tuples of numbers -/
section
variable {P9 : Program} {w9 : World} {A9 : Around} {E9 : Value → Shared → Prop} {s9 : Shared}
structure SetTW (P9 : Program) (w9 : World) (h9 : Heap) (a9 : Addr) (L9 : List (Addr × List Int)) (es9 : Array (Int × Value)) (ep9 : Nat) (t9 : SetTable) : Prop where
  ob : ∃ o9, h9.get? a9 = some o9 ∧ o9.ExactSet ∧ o9.data = .set es9 ep9 t9
  rows : es9.toList = rowsOf P9 w9 L9
  tab : TabOk t9 (L9.map fun p9 => thash P9 w9 p9.2)
  nd : (L9.map (·.2)).Nodup
  tup : ∀ p9 ∈ L9, IsT P9 w9 h9 p9.2 p9.1
  plain : t9.plain = true
  led : w9.params.followText "set-order" = true ∨ t9.led = true
  room : L9.length * 5 < t9.mask * 3
  few : L9.length < 77
variable {a9 : Addr} {L9 : List (Addr × List Int)} {es9 : Array (Int × Value)} {ep9 : Nat} {t9 : SetTable}
theorem SetTW.size (R9 : SetTW P9 w9 s9.heap a9 L9 es9 ep9 t9) : es9.size = L9.length := by
  have h9 := congrArg List.length R9.rows
  unfold rowsOf at h9
  rw [Array.length_toList, List.length_map] at h9
  exact h9
theorem SetTW.fits (R9 : SetTW P9 w9 s9.heap a9 L9 es9 ep9 t9) : t9.fits es9.size = true := by
  have h19 := R9.tab.sz
  rw [List.length_map] at h19
  have h29 := R9.size
  have h39 := R9.room
  unfold SetTable.fits SetTable.fill
  rw [R9.tab.dm, Bool.and_eq_true, beq_iff_eq, decide_eq_true_eq]
  show t9.place.size = es9.size ∧ t9.place.size + 0 ≤ t9.mask
  omega
theorem SetTW.entry (R9 : SetTW P9 w9 s9.heap a9 L9 es9 ep9 t9) {i9 : Nat} {p9 : Addr × List Int} (h9 : L9[i9]? = some p9) : es9[i9]? = some (thash P9 w9 p9.2, Value.ref p9.1) := by
  rw [← Array.getElem?_toList, R9.rows]
  unfold rowsOf
  rw [List.getElem?_map, h9] <;> rfl
theorem SetTW.gw (R9 : SetTW P9 w9 s9.heap a9 L9 es9 ep9 t9) : ¬ t9.gaveWay = true := by
  unfold SetTable.gaveWay
  rw [mask_odd R9.tab.mok]
  decide
theorem sought_from (R9 : SetTW P9 w9 s9.heap a9 L9 es9 ep9 t9) {x9 : Addr} {k9 : List Int} (hx9 : IsT P9 w9 s9.heap k9 x9) (hu9 : A9.units < cLine) {K9 : Nat} (hKf9 : K9 < 10 * SetTable.turns t9.mask)
    (hK9 : way t9.mask (thash P9 w9 k9) K9 ∉ t9.place.toList) (hKb9 : ∀ c9, c9 < K9 → way t9.mask (thash P9 w9 k9) c9 ∈ t9.place.toList) {Q9 : SetFound → Shared → Prop}
    (hin9 : k9 ∈ L9.map (·.2) → Q9 (.there none) s9) (hout9 : k9 ∉ L9.map (·.2) → Q9 (.free (way t9.mask (thash P9 w9 k9) K9) false) s9) :
    ∀ (f9 c9 : Nat) (stand9 : Option SetTable.Probe), stand9.getD (t9.probeStart (thash P9 w9 k9)) = nth t9.mask (runAt t9.mask (SetTable.bits (thash P9 w9 k9) % (t9.mask + 1)) (SetTable.bits (thash P9 w9 k9))) c9 → c9 ≤ K9 → K9 - c9 < f9 →
      (∀ (i9 : Nat) p9, L9[i9]? = some p9 → p9.2 = k9 → ∃ c9', c9 ≤ c9' ∧ c9' < K9 ∧ t9.place.toList[i9]? = some (way t9.mask (thash P9 w9 k9) c9')) →
      wpAny (model P9 w9) A9 (setSearchFrom a9 (.ref x9) (thash P9 w9 k9) true f9 stand9) Q9 E9 s9
  | 0, c9, stand9, _, _, hf9, _ => absurd hf9 (Nat.not_lt_zero _)
  | f9 + 1, c9, stand9, hst9, hc9, hf9, hre9 => by
    obtain ⟨o9, ho9, hex9, hd9⟩ := R9.ob
    rw [setSearchFrom_succ]
    refine wpAny_bind (wpAny_setState_of ho9 hd9 R9.fits ?_)
    dsimp only
    refine wp_if_neg R9.gw ?_
    try refine wpAny_bind (wpAny_pure ?_)
    have hnd9 : (nth t9.mask (runAt t9.mask (SetTable.bits (thash P9 w9 k9) % (t9.mask + 1)) (SetTable.bits (thash P9 w9 k9))) c9).dummy = none := by
      have key9 : ∀ (n9 : Nat) (p9 : SetTable.Probe), p9.dummy = none → (nth t9.mask p9 n9).dummy = none := by
        intro n9
        induction n9 with
        | zero => intro p9 h9; exact h9
        | succ n9 ih =>
          intro p9 h9
          refine ih (adv t9.mask p9) ?_
          unfold adv
          split <;> exact h9
      exact key9 c9 _ rfl
    have sh9 : ∀ q9, nth t9.mask (nth t9.mask (runAt t9.mask (SetTable.bits (thash P9 w9 k9) % (t9.mask + 1)) (SetTable.bits (thash P9 w9 k9))) c9) q9 = nth t9.mask (runAt t9.mask (SetTable.bits (thash P9 w9 k9) % (t9.mask + 1)) (SetTable.bits (thash P9 w9 k9))) (c9 + q9) := fun q9 => (nth_add t9.mask c9 _ q9).symm
    have e19 : ∀ q9, (nth t9.mask (nth t9.mask (runAt t9.mask (SetTable.bits (thash P9 w9 k9) % (t9.mask + 1)) (SetTable.bits (thash P9 w9 k9))) c9) q9).j = way t9.mask (thash P9 w9 k9) (c9 + q9) := fun q9 => congrArg SetTable.Probe.j (sh9 q9)
    have spec9 := go_spec t9 R9.tab.ris R9.tab.dm (fun i9 => (es9[i9]?.map (·.1)).getD 0) (thash P9 w9 k9) (10 * SetTable.turns t9.mask) (K9 - c9) _ hnd9 (by omega)
      (fun q9 hq9 => by rw [e19]; exact hKb9 (c9 + q9) (by omega)) (by rw [e19, show c9 + (K9 - c9) = K9 by omega]; exact hK9)
    have hashAt9 : ∀ (i9 : Nat) p9, L9[i9]? = some p9 → (fun i9 => (es9[i9]?.map (·.1)).getD 0) i9 = thash P9 w9 p9.2 := fun i9 p9 hp9 => by
      show (es9[i9]?.map (·.1)).getD 0 = _
      rw [R9.entry hp9] <;> rfl
    rcases spec9 with ⟨q9, i9, hq9, hi9, hh9, hno9, hpr9⟩ | ⟨hno9, hpr9⟩
    · -- a9 candidate
      have hpr9' : t9.probe (fun i9 => (es9[i9]?.map (·.1)).getD 0) (thash P9 w9 k9) (stand9.getD (t9.probeStart (thash P9 w9 k9))) = some (.candidate (way t9.mask (thash P9 w9 k9) (c9 + q9)) i9 (nth t9.mask (runAt t9.mask (SetTable.bits (thash P9 w9 k9) % (t9.mask + 1)) (SetTable.bits (thash P9 w9 k9))) (c9 + (q9 + 1)))) := by
        rw [hst9, ← e19, ← sh9]
        exact hpr9
      rw [hpr9']
      dsimp only
      rw [e19] at hi9
      -- the entry
      have hil : i9 < L9.length := by
        have h19 : i9 < t9.place.toList.length := (List.getElem?_eq_some_iff.mp hi9).1
        have h29 := R9.tab.sz
        rw [List.length_map] at h29
        rw [Array.length_toList] at h19
        omega
      have hp9 : L9[i9]? = some L9[i9] := List.getElem?_eq_getElem hil
      generalize hpe : L9[i9] = p9 at hp9
      have hmem : p9 ∈ L9 := List.mem_of_getElem? hp9
      have hpt := R9.tup p9 hmem
      have rest9 : wpAny (model P9 w9) A9 (searchRest a9 (.ref x9) (thash P9 w9 k9) true f9 es9 t9 (way t9.mask (thash P9 w9 k9) (c9 + q9)) i9 (nth t9.mask (runAt t9.mask (SetTable.bits (thash P9 w9 k9) % (t9.mask + 1)) (SetTable.bits (thash P9 w9 k9))) (c9 + (q9 + 1)))) Q9 E9 s9 := by
        unfold searchRest
        rw [R9.entry hp9]
        dsimp only
        refine wpAny_bind (wpAny_holding (wpAny_eqBool_tuple hu9 hpt hx9 ?_))
        refine wpAny_bind (wpAny_setState_of ho9 hd9 R9.fits ?_)
        dsimp only
        by_cases hkk : p9.2 = k9
        · refine wp_if_pos (by simp [hkk]) ?_
          refine wpAny_pure (hin9 ?_)
          exact List.mem_map.mpr ⟨p9, hmem, hkk⟩
        · refine wp_if_neg (by simp [hkk]) ?_
          try refine wpAny_bind (wpAny_pure ?_)
          rw [sameMem]
          dsimp only
          have hsl9 : t9.slot (way t9.mask (thash P9 w9 k9) (c9 + q9)) = .live i9 := slot_live R9.tab.ris hi9
          simp only [if_true, hsl9, R9.entry hp9]
          refine wpAny_bind (wpAny_isSame_ref_self (wpAny_bind (wpAny_pure ?_)))
          simp only [if_true]
          refine wp_if_neg (by simp [hkk]) ?_
          refine sought_from R9 hx9 hu9 hKf9 hK9 hKb9 hin9 hout9 f9 (c9 + (q9 + 1)) _ rfl (by omega) (by omega) fun i0 p0 h0 hk0 => ?_
          obtain ⟨c9', a1, a2, a3⟩ := hre9 i0 p0 h0 hk0
          refine ⟨c9', ?_, a2, a3⟩
          -- it9 isn't passed
          rcases Nat.lt_or_ge c9' (c9 + q9) with z9 | z9
          · exfalso
            refine hno9 (c9' - c9) i0 (by omega) (by rw [e19, show c9 + (c9' - c9) = c9' by omega]; exact a3) ?_
            exact (hashAt9 i0 p0 h0).trans (congrArg (thash P9 w9) hk0)
          · rcases Nat.lt_or_ge (c9 + q9) c9' with y9 | y9
            · omega
            · exfalso
              have ec : c9' = c9 + q9 := Nat.le_antisymm y9 z9
              rw [ec] at a3
              have s0 := slot_live R9.tab.ris a3
              rw [hsl9] at s0
              injection s0 with s0
              rw [← s0, hp9] at h0
              exact hkk ((congrArg Prod.snd (Option.some.inj h0)).trans hk0)
      by_cases hl : t9.led = true
      · refine wp_if_neg (by simp [hl]) ?_
        try refine wpAny_bind (wpAny_pure ?_)
        exact rest9
      · refine wp_if_pos (by simp [hl]) ?_
        refine wpAny_bind (seen_tup hx9 (fun y9 hy => ?_) ?_)
        · obtain ⟨e, he, ee⟩ := List.mem_map.mp hy
          have he1 : e ∈ es9 ∧ e.1 = thash P9 w9 k9 := by simpa using he
          have he2 : e ∈ es9.toList := by simpa using he1.1
          rw [R9.rows] at he2
          obtain ⟨p29, hp2, e29⟩ := List.mem_map.mp he2
          refine ⟨p29.2, p29.1, ?_, R9.tup p29 hp2⟩
          rw [← ee, ← e29]
        · refine wp_if_neg (by decide) ?_
          try refine wpAny_bind (wpAny_pure ?_)
          exact rest9
    · -- the empty slot
      have hpr9' : t9.probe (fun i9 => (es9[i9]?.map (·.1)).getD 0) (thash P9 w9 k9) (stand9.getD (t9.probeStart (thash P9 w9 k9))) = some (.empty (way t9.mask (thash P9 w9 k9) K9) none) := by
        have e29 : way t9.mask (thash P9 w9 k9) K9 = (nth t9.mask (nth t9.mask (runAt t9.mask (SetTable.bits (thash P9 w9 k9) % (t9.mask + 1)) (SetTable.bits (thash P9 w9 k9))) c9) (K9 - c9)).j := by
          rw [e19, show c9 + (K9 - c9) = K9 by omega]
        rw [hst9, e29]
        exact hpr9
      rw [hpr9']
      dsimp only
      refine wpAny_pure (hout9 fun hm9 => ?_)
      obtain ⟨p0, h0, hk0⟩ := List.mem_map.mp hm9
      obtain ⟨i0, hi0, e0⟩ := List.getElem_of_mem h0
      have h00 : L9[i0]? = some p0 := by rw [List.getElem?_eq_getElem hi0, e0]
      obtain ⟨c9', a1, a2, a3⟩ := hre9 i0 p0 h00 hk0
      refine hno9 (c9' - c9) i0 (by omega) (by rw [e19, show c9 + (c9' - c9) = c9' by omega]; exact a3) ?_
      exact (hashAt9 i0 p0 h00).trans (congrArg (thash P9 w9) hk0)
theorem sought_at (R9 : SetTW P9 w9 s9.heap a9 L9 es9 ep9 t9) {x9 : Addr} {k9 : List Int} (hx9 : IsT P9 w9 s9.heap k9 x9) (hu9 : A9.units < cLine) {Q9 : SetFound → Shared → Prop}
    (hin9 : k9 ∈ L9.map (·.2) → Q9 (.there none) s9)
    (hout9 : ∀ K9, k9 ∉ L9.map (·.2) → way t9.mask (thash P9 w9 k9) K9 ∉ t9.place.toList → (∀ c9, c9 < K9 → way t9.mask (thash P9 w9 k9) c9 ∈ t9.place.toList) → Q9 (.free (way t9.mask (thash P9 w9 k9) K9) false) s9) :
    wpAny (model P9 w9) A9 (setSearch a9 (.ref x9) (thash P9 w9 k9) true) Q9 E9 s9 := by
  have hroom9 := R9.room
  obtain ⟨K9, hKf9, hK9, hKb9⟩ := R9.tab.first (by rw [List.length_map]; omega) (thash P9 w9 k9)
  have hbig : K9 < 100000 := by
    have : 10 * SetTable.turns t9.mask ≤ 1420 := by
      unfold SetTable.turns
      rcases R9.tab.mok with e | e | e <;> omega
    omega
  unfold setSearch
  refine sought_from R9 hx9 hu9 hKf9 hK9 hKb9 hin9 (fun hn9 => hout9 K9 hn9 hK9 hKb9) 100000 0 none rfl (Nat.zero_le _) (by omega) fun i9 p9 hp9 hk => ?_
  have hi9 : (L9.map fun p9 => thash P9 w9 p9.2)[i9]? = some (thash P9 w9 k9) := by rw [List.getElem?_map, hp9, ← hk] <;> rfl
  have hil : i9 < t9.place.toList.length := by
    have h19 : i9 < L9.length := (List.getElem?_eq_some_iff.mp hp9).1
    have h29 := R9.tab.sz
    rw [List.length_map] at h29
    rw [Array.length_toList]
    omega
  have hj := List.getElem?_eq_getElem hil
  obtain ⟨c9, hc9, e⟩ := R9.tab.before hK9 hi9 hj
  exact ⟨c9, Nat.zero_le _, hc9, by rw [hj, e]⟩
theorem relaid_at {o9 : Obj} (ho9 : s9.heap.get? a9 = some o9) (hex9 : o9.ExactSet) (hd9 : o9.data = .set es9 ep9 t9) (hrows9 : es9.toList = rowsOf P9 w9 L9) (hsz9 : t9.place.size = es9.size) (hdm9 : t9.dummies = #[]) (hfl9 : es9.size ≤ t9.mask)
    (nd : (L9.map (·.2)).Nodup) (tup : ∀ p9 ∈ L9, IsT P9 w9 s9.heap p9.2 p9.1) (pl9 : t9.plain = true) (ld9 : w9.params.followText "set-order" = true ∨ t9.led = true) (few : L9.length < 77) {wanted M : Nat}
    (hw9 : SetTable.sizeAbove wanted - 1 = M) (hM9 : MaskOk M) (hw29 : SetTable.sizeAbove wanted ≤ 128) (hn9 : L9.length * 5 < M * 3) {Q9 : Unit → Shared → Prop}
    (hQ9 : ∀ h9' L9' es9' ep9' t9', Heap.SameBut a9 s9.heap h9' → SetTW P9 w9 h9' a9 L9' es9' ep9' t9' → L9'.Perm L9 → Q9 () { s9 with heap := h9' }) : wpAny (model P9 w9) A9 (setRelay a9 wanted) Q9 E9 s9 := by
  have hsl9 : es9.size = L9.length := by
    have h9 := congrArg List.length hrows9
    unfold rowsOf at h9
    rw [Array.length_toList, List.length_map] at h9
    exact h9
  have hfits : t9.fits es9.size = true := by
    unfold SetTable.fits SetTable.fill
    rw [hdm9, Bool.and_eq_true, beq_iff_eq, decide_eq_true_eq]
    show t9.place.size = es9.size ∧ t9.place.size + 0 ≤ t9.mask
    omega
  obtain ⟨t9', order9, e, hp9, T9, em9, el9, ep9', ed9⟩ := relaid_ok t9 (hs := es9.map (·.1)) (wanted := wanted) hw9 hM9 (by rw [Array.size_map, hsl9]; omega)
  rw [Array.size_map, hsl9] at hp9
  obtain ⟨L29, r19, r29, r39⟩ := order_rows L9 es9 order9 hrows9 hp9
  rw [← r39] at T9
  have hs29 : (order9.filterMap (es9[·]?)).size = es9.size := by
    have h9 := congrArg List.length r19
    unfold rowsOf at h9
    rw [Array.length_toList, List.length_map, r29.length_eq] at h9
    rw [h9, hsl9]
  rw [setRelay_eq]
  refine wpAny_bind (wpAny_setState_of ho9 hd9 hfits ?_)
  dsimp only
  refine wp_if_neg (by rw [sizeLine_eq]; omega) ?_
  try refine wpAny_bind (wpAny_pure ?_)
  rw [e]
  dsimp only
  refine wpAny_bind ?_
  refine wp_if_neg (by rw [hs29]; simp) ?_
  try refine wpAny_bind (wpAny_pure ?_)
  refine wpAny_pure ?_
  dsimp only
  refine wpAny_storeSet_of ho9 hd9 ?_ (by rw [hs29, hsl9, sizeLine_eq]; omega)
  have sb9 : Heap.SameBut a9 s9.heap (s9.heap.update a9 (Obj.putSet (order9.filterMap (es9[·]?)) t9')) := Heap.SameBut.update ..
  refine hQ9 _ L29 (order9.filterMap (es9[·]?)) (ep9 + 1) t9' sb9 ?_ r29
  refine ⟨⟨_, store_at ho9 hd9, ⟨hex9.1, hex9.2.1, hex9.2.2⟩, rfl⟩, r19, T9, ?_, fun p9 hpm => isT_same (tup p9 (r29.mem_iff.mp hpm)) ho9 hd9 sb9, by rw [ep9']; exact pl9, by rw [el9]; exact ld9, ?_, by rw [r29.length_eq]; exact few⟩
  · exact (r29.map (·.2)).nodup_iff.mpr nd
  · rw [r29.length_eq, em9]
    exact hn9
theorem added_at (R9 : SetTW P9 w9 s9.heap a9 L9 es9 ep9 t9) {x9 : Addr} {k9 : List Int} (hx9 : IsT P9 w9 s9.heap k9 x9) (hu9 : A9.units < cLine) (hfew : L9.length + 1 < 77) {Q9 : Bool → Shared → Prop}
    (hQ9 : ∀ b9 h9' L9' es9' ep9' t9', Heap.SameBut a9 s9.heap h9' → SetTW P9 w9 h9' a9 L9' es9' ep9' t9' → (k9 ∈ L9.map (·.2) → L9' = L9) → (k9 ∉ L9.map (·.2) → L9'.Perm ((x9, k9) :: L9)) → Q9 b9 { s9 with heap := h9' }) :
    wpAny (model P9 w9) A9 (setAddHashed a9 (.ref x9) (thash P9 w9 k9)) Q9 E9 s9 := by
  obtain ⟨o9, ho9, hex9, hd9⟩ := R9.ob
  have hsl9 := R9.size
  have hroom9 := R9.room
  unfold setAddHashed
  refine wpAny_holding ?_
  rw [show (100000 : Nat) = 99999 + 1 from rfl, setAddHashedIn_succ]
  refine wpAny_bind (wpAny_setState_of ho9 hd9 R9.fits ?_)
  dsimp only
  refine wp_if_neg (by simp [byScan, Value.scannable]) ?_
  try refine wpAny_bind (wpAny_pure ?_)
  refine wpAny_bind (sought_at R9 hx9 hu9 (fun hm9 => ?_) fun K9 hm9 hK9 hb9 => ?_)
  · dsimp only
    exact wpAny_pure (hQ9 false s9.heap L9 es9 ep9 t9 (Heap.SameBut.refl a9 s9.heap) R9 (fun _ => rfl) fun z9 => absurd hm9 z9)
  · dsimp only
    refine wpAny_bind (wpAny_setState_of ho9 hd9 R9.fits ?_)
    dsimp only
    obtain ⟨q19, q29, q39, q49, q5, q6, q7, q8, q9⟩ := R9.tab.put hK9 hb9
    have hp19 : (t9.put (way t9.mask (thash P9 w9 k9) K9)).1.plain = true := by rw [q6]; exact R9.plain
    generalize hpt : t9.put (way t9.mask (thash P9 w9 k9) K9) = pt at q19 q39 q49 q5 q6 q7 q8 q9 hp19 ⊢
    obtain ⟨t19, p9⟩ := pt
    dsimp only at q19 q39 q49 q5 q6 q7 q8 q9 hp19 ⊢
    subst q19
    first
      | (refine wpAny_bind ?_; refine wp_if_pos hp19 ?_; refine hashBy_tup hx9 ?_)
      | refine wp_if_pos hp19 (wpAny_bind (hashBy_tup hx9 ?_))
    simp only [if_true]
    have hin9 : (SetTable.insertAt es9 (SetTable.below t9.place (way t9.mask (thash P9 w9 k9) K9)) (thash P9 w9 k9, Value.ref x9)).toList = rowsOf P9 w9 (L9.take (SetTable.below t9.place (way t9.mask (thash P9 w9 k9) K9)) ++ (x9, k9) :: L9.drop (SetTable.below t9.place (way t9.mask (thash P9 w9 k9) K9))) := by
      rw [SetTable.toList_insertAt, rows_put, R9.rows]
    generalize hpp : SetTable.below t9.place (way t9.mask (thash P9 w9 k9) K9) = p9 at q29 q39 hin9 ⊢
    have pm9 := put_perm L9 p9 (x9, k9)
    have hlen9 : (L9.take p9 ++ (x9, k9) :: L9.drop p9).length = L9.length + 1 := pm9.length_eq
    have hhs : (L9.take p9 ++ (x9, k9) :: L9.drop p9).map (fun p9 => thash P9 w9 p9.2) = (L9.map fun p9 => thash P9 w9 p9.2).take p9 ++ thash P9 w9 k9 :: (L9.map fun p9 => thash P9 w9 p9.2).drop p9 := by
      rw [List.map_append, List.map_cons, List.map_take, List.map_drop]
    rw [← hhs] at q39
    have nd19 : ((L9.take p9 ++ (x9, k9) :: L9.drop p9).map (·.2)).Nodup := by
      refine (pm9.map (·.2)).nodup_iff.mpr ?_
      rw [List.map_cons]
      exact List.nodup_cons.mpr ⟨hm9, R9.nd⟩
    have hes9 : (SetTable.insertAt es9 p9 (thash P9 w9 k9, Value.ref x9)).size = L9.length + 1 := by
      have h9 := congrArg List.length hin9
      unfold rowsOf at h9
      rw [Array.length_toList, List.length_map, hlen9] at h9
      exact h9
    generalize SetTable.insertAt es9 p9 (thash P9 w9 k9, Value.ref x9) = es1 at hin9 hes9 ⊢
    generalize L9.take p9 ++ (x9, k9) :: L9.drop p9 = L19 at pm9 hlen9 q39 nd19 hin9
    refine wpAny_bind (wpAny_storeSet_of ho9 hd9 ?_ (by rw [hes9, sizeLine_eq]; omega))
    have sb9 : Heap.SameBut a9 s9.heap (s9.heap.update a9 (Obj.putSet es1 t19)) := Heap.SameBut.update ..
    have ho19 := store_at (es' := es1) (t' := t19) ho9 hd9
    generalize s9.heap.update a9 (Obj.putSet es1 t19) = h19 at sb9 ho19 ⊢
    have tup19 : ∀ p9 ∈ L19, IsT P9 w9 h19 p9.2 p9.1 := fun p9 hp9 => by
      rcases List.mem_cons.mp (pm9.mem_iff.mp hp9) with e | hp9
      · rw [e]; exact isT_same hx9 ho9 hd9 sb9
      · exact isT_same (R9.tup p9 hp9) ho9 hd9 sb9
    have ld19 : w9.params.followText "set-order" = true ∨ t19.led = true := by rw [q5]; exact R9.led
    by_cases hf9 : t19.tooFull = true
    · first
        | (refine wpAny_bind ?_; refine wp_if_pos (by simp [hf9]) ?_)
        | (refine wp_if_pos (by simp [hf9]) ?_; refine wpAny_bind ?_)
      have hfull : (L9.length + 1) * 5 ≥ t19.mask * 3 := by
        have h9 := hf9
        unfold SetTable.tooFull at h9
        rw [decide_eq_true_eq, q9, List.length_map] at h9
        exact h9
      rw [hsl9]
      have hsz1 : t19.place.size = es1.size := by
        have h9 := q39.sz
        rw [List.length_map, hlen9] at h9
        rw [h9, hes9]
      have cases29 : (t9.mask = 7 ∧ L9.length = 4) ∨ (t9.mask = 31 ∧ L9.length = 18) := by
        rcases R9.tab.mok with e | e | e
        · left; rw [q49, e] at hfull; rw [e] at hroom9; exact ⟨e, by omega⟩
        · right; rw [q49, e] at hfull; rw [e] at hroom9; exact ⟨e, by omega⟩
        · exfalso; rw [q49, e] at hfull; omega
      have go9 : ∀ M, SetTable.sizeAbove (SetTable.grown (L9.length + 1)) - 1 = M → MaskOk M → SetTable.sizeAbove (SetTable.grown (L9.length + 1)) ≤ 128 → (L9.length + 1) * 5 < M * 3 →
          wpAny (model P9 w9) A9 (setRelay a9 (SetTable.grown (L9.length + 1))) (fun _ s9' => wpAny (model P9 w9) A9 (Pure.pure true) Q9 E9 s9') E9 { s9 with heap := h19 } := fun M h19' h29' h39' h49' => by
        refine relaid_at (s9 := { s9 with heap := h19 }) ho19 ⟨hex9.1, hex9.2.1, hex9.2.2⟩ rfl hin9 hsz1 q39.dm (by rw [hes9, q49]; rcases cases29 with ⟨e, e29⟩ | ⟨e, e29⟩ <;> omega) nd19 tup19 hp19 ld19 (by rw [hlen9]; exact hfew) h19' h29' h39' (by rw [hlen9]; exact h49') ?_
        intro h29 L29 es2 ep2 t2 sb2 R2 pm2
        refine wpAny_pure (hQ9 true h29 L29 es2 ep2 t2 (sb9.trans sb2) R2 (fun z9 => absurd z9 hm9) fun _ => pm2.trans pm9)
      rcases cases29 with ⟨_, e29⟩ | ⟨_, e29⟩
      · refine go9 31 (by rw [e29, size_20]) (.inr (.inl rfl)) (by rw [e29, size_20]; decide) (by omega)
      · refine go9 127 (by rw [e29, size_76]) (.inr (.inr rfl)) (by rw [e29, size_76]; decide) (by omega)
    · first
        | refine wp_if_neg (by simp [hf9]) ?_
        | (refine wpAny_bind ?_; refine wp_if_neg (by simp [hf9]) ?_; refine wpAny_pure ?_)
      refine wpAny_pure (hQ9 true h19 L19 es1 (ep9 + 1) t19 sb9 ⟨⟨_, ho19, ⟨hex9.1, hex9.2.1, hex9.2.2⟩, rfl⟩, hin9, q39, nd19, tup19, hp19, ld19, ?_, by rw [hlen9]; exact hfew⟩ (fun z9 => absurd z9 hm9) fun _ => pm9)
      have h9 := hf9
      unfold SetTable.tooFull at h9
      rw [decide_eq_true_eq, q9, List.length_map] at h9
      rw [hlen9]
      omega
theorem SetTW.keep {h9 h9' : Heap} {a9 : Addr} {L9 : List (Addr × List Int)} {es9 : Array (Int × Value)} {ep9 : Nat} {t9 : SetTable} (R9 : SetTW P9 w9 h9 a9 L9 es9 ep9 t9) (ha : ∀ o9, h9.get? a9 = some o9 → h9'.get? a9 = some o9) (ht : ∀ p9 ∈ L9, IsT P9 w9 h9' p9.2 p9.1) : SetTW P9 w9 h9' a9 L9 es9 ep9 t9 := by
  obtain ⟨o9, ho9, r9⟩ := R9.ob
  exact ⟨⟨o9, ha o9 ho9, r9⟩, R9.rows, R9.tab, R9.nd, ht, R9.plain, R9.led, R9.room, R9.few⟩
theorem setTW_fresh {h9 : Heap} {a9 : Addr} (ho9 : h9.get? a9 = some { cls := .type "set", dict := none, data := .set #[] 0 (.fresh 0 0 (!w9.params.followText "set-order")) }) : SetTW P9 w9 h9 a9 [] #[] 0 (.fresh 0 0 (!w9.params.followText "set-order")) where
  ob := ⟨_, ho9, ⟨rfl, rfl, rfl⟩, rfl⟩
  rows := rfl
  tab := ⟨List.Pairwise.nil, rfl, rfl, .inl rfl, fun x9 hx9 => (by cases hx9), fun i9 h9 j9 hi9 => (by simp at hi9)⟩
  nd := List.nodup_nil
  tup := fun p9 hp9 => (by cases hp9)
  plain := rfl
  led := by
    show _ ∨ (!w9.params.followText "set-order") = true
    cases w9.params.followText "set-order"
    · exact .inr rfl
    · exact .inl rfl
  room := by
    show 0 * 5 < 7 * 3
    decide
  few := by
    show 0 < 77
    decide
theorem set_update_wide {I9 : Addr} {fp9 wr9 : List Addr} {G9 : Array GenState → Array GenState → Prop} {n9 : Nat} {Pv9 : Nat → Value → Prop} {St9 : Nat → Shared → Prop} {R9 : Result → Shared → Prop}
    (W9 : WalksS P9 w9 A9.in1 I9 fp9 wr9 G9 n9 Pv9 St9) (S9 : Addr) (hSf9 : S9 ∉ fp9) (ks9 : List (Addr × List Int)) (hn9 : n9 = ks9.length) (hfew : ∀ M : List (List Int), M.Nodup → (∀ x ∈ M, x ∈ ks9.map (·.2)) → M.length < 76) (hval9 : ∀ i9 v9, Pv9 i9 v9 → ∃ p9, ks9[i9]? = some p9 ∧ v9 = .ref p9.1)
    (h0 : Heap) (hk : ∀ p9 ∈ ks9, IsT P9 w9 h0 p9.2 p9.1) (hS0 : h0.get? S9 = none) (hw0 : ∀ b9 ∈ wr9, h0.get? b9 = none) (hu9 : A9.in1.units < cLine) :
    ∀ (k9 i9 : Nat) (s9 : Shared), n9 - i9 = k9 → i9 ≤ n9 → St9 i9 s9 → (∀ b9 o9, h0.get? b9 = some o9 → s9.heap.get? b9 = some o9) → (∃ L9 es9 ep9 t9, SetTW P9 w9 s9.heap S9 L9 es9 ep9 t9 ∧ Got ks9 i9 L9) →
      (∀ s9' L9 es9 ep9 t9, Moved (S9 :: wr9) G9 s9 s9' → SetTW P9 w9 s9'.heap S9 L9 es9 ep9 t9 → Got ks9 n9 L9 → (∀ b9 o9, h0.get? b9 = some o9 → s9'.heap.get? b9 = some o9) → R9 (.ok (.ret .none)) s9') →
      codeAny (model P9 w9) A9 (.builtin "set.update.loop" ⟨[.ref S9, .ref I9], []⟩) R9 s9 := by
  have hSw : S9 ∉ wr9 := fun h9 => hSf9 (W9.sub _ h9)
  have hsub9 : ∀ b9 ∈ wr9, b9 ∈ S9 :: wr9 := fun b9 hb9 => List.mem_cons_of_mem _ hb9
  have keepM : ∀ {s9 s9' : Shared}, Moved wr9 G9 s9 s9' → (∀ b9 o9, h0.get? b9 = some o9 → s9.heap.get? b9 = some o9) → ∀ b9 o9, h0.get? b9 = some o9 → s9'.heap.get? b9 = some o9 := fun hm9 hkp b9 o9 e =>
    hm9.heap b9 o9 (fun hb9 => by rw [hw0 b9 hb9] at e; cases e) (hkp b9 o9 e)
  intro k9
  induction k9 with
  | zero =>
    intro i9 s9 hk' hi9 hst9 hkp ⟨L9, es9, ep9, t9, hS9, g9⟩ hR
    have hin9 : i9 = n9 := by omega
    subst hin9
    refine codeAny_builtin F.entry_set_update_loop ?_
    rw [Around.under_plainId F.plain_set_update_loop _]
    show wpAny _ A9.in1 (pyNext (.ref I9) >>= _) _ _ s9
    refine wpAny_bind (W9.done s9 _ _ hst9 fun s9' hm9 => ?_)
    show wpAny _ A9.in1 (ret Value.none) _ _ s9'
    have hkp' := keepM hm9 hkp
    have sub : ∀ p9 ∈ L9, p9 ∈ ks9 := fun p9 hp9 => List.mem_of_mem_take (g9.sub p9 hp9)
    exact wpAny_pure (hR s9' L9 es9 ep9 t9 (hm9.mono hsub9) (hS9.keep (fun o9 e => hm9.heap S9 o9 hSw e) fun p9 hp9 => isT_keep (hk p9 (sub p9 hp9)) hkp') g9 hkp')
  | succ k9 ih =>
    intro i9 s9 hk' hi9 hst9 hkp ⟨L9, es9, ep9, t9, hS9, g9⟩ hR
    have hlt9 : i9 < n9 := by omega
    refine codeAny_builtin F.entry_set_update_loop ?_
    rw [Around.under_plainId F.plain_set_update_loop _]
    show wpAny _ A9.in1 (pyNext (.ref I9) >>= _) _ _ s9
    refine wpAny_bind (W9.item i9 s9 _ _ hlt9 hst9 fun v9 s9' hP hst9' hm9 => ?_)
    obtain ⟨p9, hp9, rfl⟩ := hval9 i9 v9 hP
    have hkp' := keepM hm9 hkp
    have sub : ∀ p9 ∈ L9, p9 ∈ ks9 := fun p9 hp9 => List.mem_of_mem_take (g9.sub p9 hp9)
    have hS9' : SetTW P9 w9 s9'.heap S9 L9 es9 ep9 t9 := hS9.keep (fun o9 e => hm9.heap S9 o9 hSw e) fun q9 hq9 => isT_keep (hk q9 (sub q9 hq9)) hkp'
    have hx9 : IsT P9 w9 s9'.heap p9.2 p9.1 := isT_keep (hk p9 (List.mem_of_getElem? hp9)) hkp'
    show wpAny _ A9.in1 (holding [Value.ref p9.1] (setAdd S9 (.ref p9.1)) >>= _) _ _ s9'
    refine wpAny_bind (wpAny_holding ?_)
    unfold setAdd
    refine wpAny_holding ?_
    refine wpAny_bind (wpAny_pyHash_tuple hu9 hx9 ?_)
    refine added_at (s9 := { s9' with toks := s9'.toks + (p9.2.length + 1) }) hS9' hx9 hu9 (by
      have few := hfew (L9.map (·.2)) hS9'.nd fun x hx => by
        obtain ⟨p, hp, rfl⟩ := List.mem_map.mp hx
        exact List.mem_map_of_mem (sub p hp)
      rw [List.length_map] at few
      omega) fun b9 h9' L9' es9' ep9' t9' hsb hS2 c1 c2 => ?_
    have g9' : Got ks9 (i9 + 1) L9' := by
      rcases Classical.em (p9.2 ∈ L9.map (·.2)) with c9 | c9
      · rw [c1 c9]; exact g9.same hp9 c9
      · exact g9.more hp9 (c2 c9)
    have hkp2 : ∀ b9 o9, h0.get? b9 = some o9 → h9'.get? b9 = some o9 := fun b9 o9 e => (hsb.2 b9 (fun z9 => by rw [z9, hS0] at e; cases e)).trans (hkp' b9 o9 e)
    refine wpAny_pure ⟨plainId_quiet F.plain_set_update_loop _, ih (i9 + 1) _ (by omega) hlt9 (W9.frame _ s9' _ _ hst9' (Nat.le_add_right _ _) fun b9 hb9 o9 e => ?_) hkp2 ⟨L9', es9', ep9', t9', hS2, g9'⟩ fun s9'' L29 es2 ep2 t2 hm9'' hS9'' g9'' hkp'' => ?_⟩
    · rw [hsb.2 b9 (fun h9 : b9 = S9 => hSf9 (by rw [← h9]; exact hb9))]; exact e
    · refine hR s9'' L29 es2 ep2 t2 (Moved.trans W9.gtrans ((hm9.mono hsub9).then_heap (Nat.le_add_right _ _) fun b9 o9 hb9 e => ?_) hm9'') hS9'' g9'' hkp''
      rw [hsb.2 b9 (fun h9 : b9 = S9 => hb9 (by rw [h9]; exact List.mem_cons_self))]; exact e
end
structure SetW0 (P9 : Program) (w9 : World) (h9 : Heap) (a9 : Addr) (L9 : List (Addr × List Int)) : Prop where
  ex : ∃ (es9 : Array (Int × Value)) (ep9 : Nat) (t9 : SetTable), (∃ o9, h9.get? a9 = some o9 ∧ o9.ExactSet ∧ o9.data = .set es9 ep9 t9) ∧ es9.toList = rowsOf P9 w9 L9 ∧ TabOk t9 (L9.map fun p9 => thash P9 w9 p9.2) ∧ (L9.map (·.2)).Nodup ∧ t9.plain = true ∧
    (w9.params.followText "set-order" = true ∨ t9.led = true) ∧ L9.length * 5 < t9.mask * 3 ∧ L9.length < 77
def SetWO (P9 : Program) (w9 : World) (a9 : Addr) (L9 : List (Addr × List Int)) : HO := .ext fun h9 => SetW0 P9 w9 h9 a9 L9
theorem SetTW.t0 {P9 : Program} {w9 : World} {h9 : Heap} {a9 : Addr} {L9 : List (Addr × List Int)} {es9 : Array (Int × Value)} {ep9 : Nat} {t9 : SetTable} (R9 : SetTW P9 w9 h9 a9 L9 es9 ep9 t9) : SetW0 P9 w9 h9 a9 L9 :=
  ⟨es9, ep9, t9, R9.ob, R9.rows, R9.tab, R9.nd, R9.plain, R9.led, R9.room, R9.few⟩
theorem SetW0.full {P9 : Program} {w9 : World} {h9 : Heap} {a9 : Addr} {L9 : List (Addr × List Int)} (R9 : SetW0 P9 w9 h9 a9 L9) (ht : ∀ p9 ∈ L9, IsT P9 w9 h9 p9.2 p9.1) : ∃ es9 ep9 t9, SetTW P9 w9 h9 a9 L9 es9 ep9 t9 := by
  obtain ⟨es9, ep9, t9, h19, h29, h39, h49, h59, h69, h79, h89⟩ := R9.ex
  exact ⟨es9, ep9, t9, h19, h29, h39, h49, ht, h59, h69, h79, h89⟩
theorem setWO_new {P9 : Program} {w9 : World} {H9 : Hp} {h9 : Heap} {a9 : Addr} {L9 : List (Addr × List Int)} (R9 : SetW0 P9 w9 h9 a9 L9) : ObjOk P9 w9 H9 h9 a9 (SetWO P9 w9 a9 L9) := by
  have ⟨es9, ep9, t9, ⟨o9, ho9, r9⟩, q9⟩ := R9.ex
  refine ⟨R9, ⟨o9, ho9⟩, fun h19 h29 p9 k9 => ?_⟩
  have ⟨es9', ep9', t9', ⟨o9', ho9', r9'⟩, q9'⟩ := SetW0.ex p9
  exact ⟨es9', ep9', t9', ⟨o9', k9 o9' ho9', r9'⟩, q9'⟩
end DL
namespace DL
open PySem PySem.Spec PyProof.Rows L2
/-! ### sorted(set(x)), x a tuple of up to 76 tuples of numbers -/
theorem nodup_sub {α : Type} [DecidableEq α] : ∀ {M N : List α}, M.Nodup → (∀ x ∈ M, x ∈ N) → M.length ≤ N.length
  | [], _, _, _ => Nat.zero_le _
  | a :: M, N, nd, h => by
    obtain ⟨h1, h2⟩ := List.nodup_cons.mp nd
    have ma := h a (List.mem_cons_self ..)
    have := nodup_sub (N := N.erase a) h2 fun x hx => (List.mem_erase_of_ne (fun e => h1 (by rw [← e]; exact hx))).mpr (h x (List.mem_cons_of_mem _ hx))
    rw [List.length_erase_of_mem ma] at this
    have := List.length_pos_of_mem ma
    rw [List.length_cons]
    omega
section
variable {P : Program} {w : World} {A : Around} {E : Value → Shared → Prop} {s : Shared}
/-- set(x), x a tuple -/
theorem set_of_tupW {l : Addr} {its : Array Value} (qs : List (Addr × List Int)) {Q : Value → Shared → Prop} (hh : A.handled = none) (ht : s.heap.IsTuple l its) (hit : its.toList = qs.map fun p => Value.ref p.1)
    (hq : ∀ p ∈ qs, IsT P w s.heap p.2 p.1) (few : ∀ M : List (List Int), M.Nodup → (∀ x ∈ M, x ∈ qs.map (·.2)) → M.length < 76) (hu : A.units + 3 < cLine)
    (k : ∀ (g : Heap) (tk : Nat) L es ep t, SetTW P w g s.heap.objs.size L es ep t → Got qs qs.length L → (∀ b o, s.heap.get? b = some o → g.get? b = some o) → Q (.ref s.heap.objs.size) { s with heap := g, toks := tk }) :
    wpAny (model P w) A (call (.type "set") [.ref l]) Q E s := by
  have isz : its.size = qs.length := by
    have z := congrArg List.length hit
    rw [Array.length_toList, List.length_map] at z
    exact z
  obtain ⟨c, tl, hmro⟩ := F.called_set.mro
  have hmade := F.called_set.made
  have hsub := F.called_set.sub
  refine wpAny_call (codeAny_of_tree ?_)
  show wpAny _ _ (callAny (.type "set") _) _ _ _
  refine wpAny_pure ⟨Code.quiet_builtin _ (by decide +kernel), codeAny_builtin F.entry_type_call ?_⟩
  rw [Around.under_plain (weight_type_call_type "set" [.ref l] []) rfl]
  have h1 := F.called_set.notType
  have h2 := F.called_set.canCreate
  have hct := F.typeCall_set_1 (.ref l)
  repeat (any_goals (first | assumption | wp_step))
  refine codeAny_mono (code_set_led1 (.ref l) (E := E) (Q₁ := fun ob z => ob = .ref s.heap.objs.size ∧ z = { s with heap := s.heap.push { cls := .type "set", dict := none, data := .set #[] 0 (.fresh 0 0 (!w.params.followText "set-order")) } }) ⟨rfl, rfl⟩) fun r z hr => ?_
  cases r with
  | error e => exact hr
  | ok fl =>
    cases fl with
    | ret ob =>
      obtain ⟨rfl, rfl⟩ := hr
      have gS : (s.heap.push { cls := .type "set", dict := none, data := .set #[] 0 (.fresh 0 0 (!w.params.followText "set-order")) }).get? s.heap.objs.size = some { cls := .type "set", dict := none, data := .set #[] 0 (.fresh 0 0 (!w.params.followText "set-order")) } := Heap.get?_push_size _ rfl
      have tS : Shared.TypeIs { s with heap := s.heap.push { cls := .type "set", dict := none, data := .set #[] 0 (.fresh 0 0 (!w.params.followText "set-order")) } } (.ref s.heap.objs.size) "set" := ⟨_, gS, rfl⟩
      have hli := F.called_set.init.lookup
      have hbi := F.called_set.init.bind (.ref s.heap.objs.size)
      repeat (any_goals (first | assumption | wp_step))
      refine codeAny_mono (codeAny_call_builtin (R := wants (fun r z => r = .none ∧ ∃ g tk L es ep t, z = { s with heap := g, toks := tk } ∧ SetTW P w g s.heap.objs.size L es ep t ∧ Got qs qs.length L ∧
          (∀ b o, s.heap.get? b = some o → g.get? b = some o)) E) F.called_set.init.plain F.entry_set_init (check_set_init_1 tS ?_)) fun r2 z hr2 => ?_
      · obtain ⟨ol, hol, hcl, nl, hdl⟩ := ht
        obtain ⟨ocls, odict, odata, oslots⟩ := ol
        simp only at hcl hdl
        subst hcl; subst hdl
        have hol' : (s.heap.push { cls := .type "set", dict := none, data := .set #[] 0 (.fresh 0 0 (!w.params.followText "set-order")) }).get? l = some { cls := .type "tuple", dict := odict, data := .seq its nl, slots := oslots } := Heap.get?_push_of_some _ hol
        have x1 := F.sub_tuple_set
        have x2 := F.sub_tuple_frozenset
        have x3 : (Value.type "tuple" == Value.type "dict") = false := by decide
        have hl1 : (s.heap.push { cls := .type "set", dict := none, data := .set #[] 0 (.fresh 0 0 (!w.params.followText "set-order")) }).IsTuple l its := ⟨_, hol', rfl, nl, rfl⟩
        unfold Builtin.«set.__init__» noKeywords Builtin.Frozenset.updateFrom
        generalize hPI : pyIter = PI
        wp_walk
        subst hPI
        refine wpAny_pyIter_tuple hl1 ?_
        refine wpAny_bind (wpAny_runValue ?_)
        have lS : l < s.heap.objs.size := Heap.lt_size hol
        have hh3 : A.in1.in1.in1.handled = none := by simp [hh]
        have neI : l ≠ (s.heap.push { cls := .type "set", dict := none, data := .set #[] 0 (.fresh 0 0 (!w.params.followText "set-order")) }).objs.size := by
          rw [Heap.size_push]; exact Nat.ne_of_lt (Nat.lt_succ_of_lt lS)
        have offS : s.heap.objs.size ∉ [(s.heap.push { cls := .type "set", dict := none, data := .set #[] 0 (.fresh 0 0 (!w.params.followText "set-order")) }).objs.size, l] := by
          rw [Heap.size_push]
          simp only [List.mem_cons, List.mem_singleton, List.not_mem_nil, or_false, not_or]
          exact ⟨Nat.ne_of_lt (Nat.lt_succ_self _), Nat.ne_of_gt lS⟩
        have vals : ∀ (i : Nat) (v : Value), its[i]? = some v → ∃ p, qs[i]? = some p ∧ v = .ref p.1 := fun i v hv => by
          have z : its.toList[i]? = some v := by rw [Array.getElem?_toList]; exact hv
          rw [hit, List.getElem?_map] at z
          obtain ⟨p, e1, e2⟩ := Option.map_eq_some_iff.mp z
          exact ⟨p, e1, e2.symm⟩
        have none_of : ∀ b, s.heap.objs.size ≤ b → s.heap.get? b = none := fun b hb => by
          cases z : s.heap.get? b with
          | none => rfl
          | some o => exact absurd (Nat.lt_of_lt_of_le (Heap.lt_size z) hb) (Nat.lt_irrefl _)
        refine set_update_wide ((Walks.tuple hh3 _ l neI its).toS) s.heap.objs.size
          offS qs isz few vals s.heap hq (none_of _ (Nat.le_refl _)) (fun b hb => none_of b (by
            rw [List.mem_singleton.mp hb, Heap.size_push]
            omega)) hu (its.size - 0) 0 _ (by omega) (Nat.zero_le _)
          ⟨⟨_, Heap.get?_push_size _ rfl, rfl, rfl⟩, hl1.at fun o e => Heap.get?_push_of_some _ e⟩ (fun b o e => Heap.get?_push_of_some _ (Heap.get?_push_of_some _ e)) ?a0 ?aR
        case a0 =>
          have gS2 : ((s.heap.push { cls := .type "set", dict := none, data := .set #[] 0 (.fresh 0 0 (!w.params.followText "set-order")) }).push { cls := .type "tuple_iterator", data := .fields #[.ref l, .int 0 0] }).get? s.heap.objs.size
              = some { cls := .type "set", dict := none, data := .set #[] 0 (.fresh 0 0 (!w.params.followText "set-order")) } := Heap.get?_push_of_some _ gS
          exact ⟨[], #[], 0, _, setTW_fresh gS2, Got.zero qs⟩
        case aR =>
          intro s' L es ep t hm hS' g' up
          obtain ⟨g, g2, d', tk', os'⟩ := s'
          have eg : g2 = s.gens := hm.gens
          have ed : d' = s.drawn := hm.drawn
          have eo : os' = s.os := hm.os
          subst eg; subst ed; subst eo
          show wpAny _ _ _ _ _ _
          refine wpAny_pure ?_
          show wpAny _ _ (ret Value.none) _ _ _
          rw [isz] at g'
          exact wpAny_pure ⟨rfl, g, tk', L, es, ep, t, rfl, hS', g', up⟩
      · cases r2 with
        | error e => exact hr2
        | ok fl2 =>
          cases fl2 with
          | ret r =>
            obtain ⟨rfl, g, tk, L, es, ep, t, rfl, hS', g', up⟩ := hr2
            repeat (any_goals (first | assumption | wp_step))
            exact k _ _ _ _ _ _ hS' g' up
          | _ => exact hr2.elim
    | _ => exact hr.elim
end
def rSetOfTW (K : PySem.W.Frag) (P : Program) (w : World) : List V → Hp → VK → Prop := fun xs H Q => ∃ (l : Addr) (ks : List (Addr × List Int)), xs = [V.ref l] ∧ SqT K H l (ks.map fun p => V.ref p.1) ∧ (∀ p ∈ ks, SqT K H p.1 (p.2.map V.int)) ∧ (∀ M : List (List Int), M.Nodup → (∀ x ∈ M, x ∈ ks.map (·.2)) → M.length < 76) ∧
  ∀ a L, H a = none → (∀ p ∈ L, p ∈ ks) → (∀ p ∈ ks, p.2 ∈ L.map (·.2)) → Q (.ref a) (upd H a (SetWO P w a L))
def rSortTW (K : PySem.W.Frag) (P : Program) (w : World) : List V → Hp → VK → Prop := fun vs H Q => ∃ (a : Addr) (L : List (Addr × List Int)), vs = [V.ref a] ∧ H a = some (SetWO P w a L) ∧ (∀ p ∈ L, H p.1 = some (.tup (p.2.map V.int))) ∧ sortOk (L.map fun p => wordD p.2) = true ∧
  ∀ (L' : List (Addr × List Int)) (p : Addr), L'.Perm L → (L'.map (·.2)).Nodup → L'.Pairwise (fun q r => leW q.2 r.2 = true) → H p = none → Q (.ref p) (upd H p (.lst (L'.map fun q => V.ref q.1)))
section
variable {X : Cx} {k : Nat}
theorem cr_setOfTW (hc : X.calm = true) (hu : X.A.units + 64 < cLine) : CallR X (.type "set") (rSetOfTW X.K X.prog X.w) := by
  intro pins s σ H xs us Q I r h
  obtain ⟨l, ks, rfl, hl, hk, hf, q⟩ := h
  rw [Vals.ref1 r]
  obtain ⟨its, rv, pl, hz⟩ := I.tuple hl
  have T1 : s.heap.IsTuple l its.toArray := let ⟨o, x1, x2, n, x3⟩ := pl; ⟨o, x1, x2, n, x3⟩
  have hn : H s.heap.objs.size = none := I.hok.fresh (Nat.le_refl _)
  refine set_of_tupW (P := X.prog) (w := X.w) ks (I.ok.hd hc) T1 (by simpa using refs_of_vals rv) (fun p hp => I.isT (hk p hp)) hf (by omega) fun g tk L es ep t R gt up => ?_
  refine ⟨.ref s.heap.objs.size, upd H s.heap.objs.size (SetWO X.prog X.w s.heap.objs.size L), I.laid (t' := tk) up (Nat.le_refl _) (setWO_new R.t0), rfl, q _ L hn (fun p hp => ?_) fun p hp => ?_⟩
  · exact List.mem_of_mem_take (gt.sub p hp)
  · exact gt.all p (by rw [List.take_length]; exact hp)
theorem cr_sortTW (hc : X.calm = true) (hr : Room k X.A) : CallR X (.builtin "sorted") (rSortTW X.K X.prog X.w) := by
  intro pins s σ H vs us Q I r h
  obtain ⟨a, L, rfl, ha, hk, so, q⟩ := h
  have R0 : SetW0 X.prog X.w s.heap a L := (I.hok a _ ha).1
  obtain ⟨es, ep, t, R⟩ := R0.full fun p hp => I.isT (.inl (.inl (hk p hp)))
  rw [Vals.ref1 r]
  have hu := hr.units
  obtain ⟨o, ho, hex, hd⟩ := R.ob
  have hsz := R.size
  have hfew := R.few
  obtain ⟨s1', s2, s3, s4⟩ := sortOk_iff so
  have emap : (L.map fun p => wordD p.2).map py = L.map fun p => py (wordD p.2) := by rw [List.map_map]; rfl
  rw [emap] at s2 s3
  refine PySem.Calls.call_function_entry kind_sorted plain_sorted entry_sorted (args_sorted1 _) ?_
  unfold Builtin.«sorted»
  refine wpAny_bind (m := checkCount "sorted" 1 1 _) (wpAny_pure ?_)
  refine wpAny_bind (collect_set (A := X.A.in1) (I.ok.hd hc) ⟨o, ho, hex.1, hd⟩ R.fits (by unfold scanBound; omega) R.tab.ris R.led fun s1 vs k1 hz g1 o1 pm => ?_)
  have hes : es.toList.map (·.2) = L.map fun q => Value.ref q.1 := by
    rw [R.rows]
    unfold rowsOf
    rw [List.map_map] <;> rfl
  obtain ⟨L1, pL, rfl⟩ := perm_map_ex pm L hes
  have l1 : L1.length < 77 := by rw [pL.length_eq]; exact hfew
  refine wpAny_bind (wpAny_newList ?_ (by rw [List.length_map, sizeLine_eq]; omega))
  have hat : (s1.heap.push (seqObj "list" (L1.map fun q => Value.ref q.1).toArray 0)).get? s1.heap.objs.size = some (seqObj "list" (L1.map fun q => Value.ref q.1).toArray 0) := Heap.get?_push_size _ rfl
  have keep : ∀ b ob, s.heap.get? b = some ob → (s1.heap.push (seqObj "list" (L1.map fun q => Value.ref q.1).toArray 0)).get? b = some ob := fun b ob e => Heap.get?_push_of_some _ (k1 b ob e)
  have noH : H s1.heap.objs.size = none := I.hok.fresh hz
  have er : PySem.W.EachIs (fun u (q : Addr × List Int) => ∃ as, Reads (s1.heap.push (seqObj "list" (L1.map fun q => Value.ref q.1).toArray 0)) u (py (wordD q.2)) as ∧ s1.heap.objs.size ∉ as) (L1.map fun q => Value.ref q.1) L1 := by
    refine (PySem.W.each_mem (each_at L1)).mono fun u q ⟨e, hm⟩ => ?_
    subst e
    have mL := pL.mem_iff.mp hm
    have ok := s4 (wordD q.2) (List.mem_map.mpr ⟨q, mL, rfl⟩)
    have rp : Rep X.K H (wordD q.2) (.ref q.1) [] := ⟨q.1, _, rfl, hk q mL, ints_reps q.2⟩
    obtain ⟨as, rd⟩ := Dp.reads I _ _ (Value.ref q.1) (rp.dp ok.2) rfl
    have ne := reads_wordT rd
    subst ne
    exact ⟨[], PyProof.Rows.Reads.keeps keep rd, fun z => by cases z⟩
  have mem1 : ∀ d, d ∈ (L1.map fun p => py (wordD p.2)) → d ∈ (L.map fun p => py (wordD p.2)) := fun d hd => (pL.map _).mem_iff.mp hd
  have al1 : PySem.W.AllAlike (L1.map fun p => py (wordD p.2)) := fun d hd e he => s2 d (mem1 d hd) e (mem1 e he)
  have st1 : PySem.W.Sortable (L1.map fun p => py (wordD p.2)) := s3.elim (fun z => .inl fun d hd => z d (mem1 d hd)) fun z => .inr fun d hd => z d (mem1 d hd)
  refine wpAny_bind (wpAny_holding (wpAny_mono (PySem.W.list_sort_data (A := X.A.in1) (s := { s1 with heap := s1.heap.push (seqObj "list" (L1.map fun q => Value.ref q.1).toArray 0) }) (enc := fun p : Addr × List Int => py (wordD p.2)) (R := fun u (q : Addr × List Int) => u = Value.ref q.1) hat (each_at L1) er al1 st1 (by rw [sizeLine_eq]; omega) (fun b hb => ?_) (Q := fun _ s' => EP X pins σ Q (.ref s1.heap.objs.size) s') fun out ho2 eo => ?_) (fun _ s' x => wpAny_pure ⟨_, rfl, x⟩) fun _ _ e => e))
  · have := (s4 (wordD b.2) (List.mem_map.mpr ⟨b, pL.mem_iff.mp hb, rfl⟩)).1
    show X.A.units + 1 + 1 + (py (wordD b.2)).depth < cLine
    omega
  · have eout := refs_each eo
    generalize hL' : L1.mergeSort (PySem.W.dataLe false fun p : Addr × List Int => py (wordD p.2)) = L' at *
    subst eout
    have pL' : L'.Perm L := by rw [← hL']; exact (List.mergeSort_perm L1 _).trans pL
    have nd' : (L'.map (·.2)).Nodup := ((pL'.map (·.2)).nodup_iff).mpr R.nd
    have pw : L'.Pairwise (fun q r => leW q.2 r.2 = true) := by
      rw [← hL']
      exact List.pairwise_mergeSort (le := fun q r : Addr × List Int => leW q.2 r.2) (fun a b c h1 h2 => leW_trans _ _ _ h1 h2) (fun a b => leW_total _ _) L1
    obtain ⟨c, hc'⟩ := sortedHeap_at (out := (L'.map fun q => Value.ref q.1).toArray) hat
    have hlen : (L'.map fun q => V.ref q.1).length ≤ sizeLine := by rw [List.length_map, pL'.length_eq, sizeLine_eq]; omega
    have J : Inv X pins σ (upd H s1.heap.objs.size (.lst (L'.map fun q => V.ref q.1))) { s with heap := sortedHeap (s1.heap.push (seqObj "list" (L1.map fun q => Value.ref q.1).toArray 0)) s1.heap.objs.size (L1.map fun q => Value.ref q.1) (L'.map fun q => Value.ref q.1).toArray, gens := s1.gens, drawn := s1.drawn, toks := s1.toks } := by
      have kp : ∀ b u, s.heap.get? b = some u → (sortedHeap (s1.heap.push (seqObj "list" (L1.map fun q => Value.ref q.1).toArray 0)) s1.heap.objs.size (L1.map fun q => Value.ref q.1) (L'.map fun q => Value.ref q.1).toArray).get? b = some u := fun b u e => by
        have h1 := keep b u e
        have nb : b ≠ s1.heap.objs.size := Nat.ne_of_lt (Nat.lt_of_lt_of_le (Heap.lt_size e) hz)
        exact (sortedHeap_old nb (Heap.lt_size h1)).trans h1
      exact I.call (ch := []) (Un.laid kp hz noH) (I.hok.laid kp hz ⟨hlen, (L'.map fun q => Value.ref q.1), c, vals_of_refs L', hc'⟩) (by rw [g1]; exact I.bare) (fun _ z => nomatch z)
    have e : ({ s1 with heap := sortedHeap (s1.heap.push (seqObj "list" (L1.map fun q => Value.ref q.1).toArray 0)) s1.heap.objs.size (L1.map fun q => Value.ref q.1) (L'.map fun q => Value.ref q.1).toArray } : Shared) = { s with heap := sortedHeap (s1.heap.push (seqObj "list" (L1.map fun q => Value.ref q.1).toArray 0)) s1.heap.objs.size (L1.map fun q => Value.ref q.1) (L'.map fun q => Value.ref q.1).toArray, gens := s1.gens, drawn := s1.drawn, toks := s1.toks } := by
      cases s1
      cases s
      cases o1
      rfl
    show EP X pins σ Q (.ref s1.heap.objs.size) _
    rw [e]
    exact ⟨.ref s1.heap.objs.size, _, J, rfl, q L' _ pL' nd' pw noH⟩
end
def srtTupW : D → Option D
  | .tup xs => (tupsD xs).bind fun ks => if (dd ks).length < 76 then if sortOk ((dd ks).map wordD) = true then some (.lst ((srtW ks).map wordD)) else none else none
  | _ => none
def xSrtTupW (f : EX) : EX := fun ρ => (f ρ).bind srtTupW
section
variable {X : Cx} {k : Nat} {e : Expr} {f : EX} {po p1 c1 pos : Pos}
theorem p_sortTupW (hc : X.calm = true) (hr : Room k X.A) (he : DB X e f) (hg : Gl X "sorted") (hm : X.mg "sorted" = none) (hv : bootBuiltins "sorted" = some (.builtin "sorted")) (hg2 : Gl X "set") (hm2 : X.mg "set" = none) (hv2 : bootBuiltins "set" = some (.type "set"))
    (hs1 : starEach [e] X.env = (false, eval e X.env) :: starEach [] X.env := by rfl) (hpl1 : (backTo c1 (starEach ([] : List Expr) X.env)).any (·.1) = false := by rfl)
    (hs : starEach [Expr.Call (.Name "set" p1) [e] [] c1] X.env = (false, eval (.Call (.Name "set" p1) [e] [] c1) X.env) :: starEach [] X.env := by rfl) (hpl : (backTo pos (starEach ([] : List Expr) X.env)).any (·.1) = false := by rfl) :
    DP X (.Call (.Name "sorted" po) [.Call (.Name "set" p1) [e] [] c1] [] pos) (xSrtTupW f) :=
  (pe_callB (cr_sortTW hc hr) hg hm hv (pa_cons (pe_callTy (cr_setOfTW hc hr.units) hg2 hm2 hv2 (pa_cons he pa_nil hs1) (by decide) (by decide) hs1 hpl1) pa_nil hs) (by decide) (by decide) hs hpl).imp fun σ H Q ⟨ρ, d, s, q, kk⟩ => by
    unfold xSrtTupW at q
    obtain ⟨d0, e0, q⟩ := Option.bind_eq_some_iff.mp q
    unfold srtTupW at q
    split at q
    · rename_i xs
      obtain ⟨ks, e1, q⟩ := Option.bind_eq_some_iff.mp q
      split at q
      · rename_i few
        split at q
        · rename_i so
          cases q
          have ex := tupsD_eq e1
          subst ex
          refine ⟨ρ, .tup (ks.map wordD), s, e0, fun v H1 F s1 r1 n1 => ?_⟩
          obtain ⟨l, us, rfl, ha, rr⟩ := r1
          obtain ⟨ps, rfl, ep, hp⟩ := reps_words rr
          refine ⟨l, ps, rfl, .inl (.inl ha), fun p hm => .inl (.inl (hp p hm)), fun M nd hM => Nat.lt_of_le_of_lt (nodup_sub nd fun x hx => mem_dd.mpr (by rw [← ep]; exact hM x hx)) few, fun a L hn hsub hall => ?_⟩
          have s2 : Same H1 (upd H1 a (SetWO X.prog X.w a L)) := same_upd hn
          refine ⟨a, L, rfl, upd_same, fun p hm => s2 _ _ (hp p (hsub p hm)), sortOk_perm so fun x hx => ?_, fun L' p' pm nd pw hn' => ?_⟩
          · obtain ⟨p, hp1, rfl⟩ := List.mem_map.mp hx
            refine List.mem_map.mpr ⟨p.2, mem_dd.mpr ?_, rfl⟩
            rw [← ep]
            exact List.mem_map.mpr ⟨p, hsub p hp1, rfl⟩
          · have s3 : Same (upd H1 a (SetWO X.prog X.w a L)) (upd (upd H1 a (SetWO X.prog X.w a L)) p' (.lst (L'.map fun q => V.ref q.1))) := same_upd hn'
            have s13 := s2.trans s3
            have mem : ∀ x, x ∈ L'.map (·.2) ↔ x ∈ ks := fun x => by
              constructor
              · intro hx
                obtain ⟨p, hp1, rfl⟩ := List.mem_map.mp hx
                rw [← ep]
                exact List.mem_map.mpr ⟨p, hsub p (pm.mem_iff.mp hp1), rfl⟩
              · intro hx
                rw [← ep] at hx
                obtain ⟨p, hp1, rfl⟩ := List.mem_map.mp hx
                obtain ⟨q, hq1, hq2⟩ := List.mem_map.mp (hall p hp1)
                rw [← hq2]
                exact List.mem_map.mpr ⟨q, pm.mem_iff.mpr hq1, rfl⟩
            have srtE : srtW ks = L'.map (·.2) := srtW_eq (List.pairwise_map.mpr pw) nd mem
            rw [srtE] at kk
            have hH : ∀ p ∈ L', upd (upd H1 a (SetWO X.prog X.w a L)) p' (.lst (L'.map fun q => V.ref q.1)) p.1 = some (.tup (p.2.map V.int)) := fun p hm => s13 _ _ (hp p (hsub p (pm.mem_iff.mp hm)))
            refine kk _ _ [p'] (s1.trans s13) ⟨p', _, [], rfl, .inl upd_same, rfl, words_reps hH⟩ fun _ => ⟨by simp, fun b hb => ?_, fun b hb => by rw [List.mem_singleton.mp hb, upd_same]; trivial⟩
            rw [List.mem_singleton.mp hb]
            exact (s1.trans s2).free hn'
        · cases q
      · cases q
    · cases q
end
end DL
namespace DL
open PySem PySem.Spec PyProof.Rows L2
/-! ### more places where a raising call may stand; only the error is told -/
section
variable {X : Cx} {W : XK} {a b tg iter elt tg1 iter1 : Expr} {f : EXR} {fa : EX} {p1 p2 pos : Pos} {scope : Scope} {own : List (Str × Nat)} {vs1 : List Nat} {ifs ifs1 : List Expr}
def rStar2 (fa : EX) (f : EXR) : EXR := fun ρ => (fa ρ).bind fun d => (itemsOf d).bind fun xs => if pures xs = true then rErr f ρ else none
end
section
variable {X : Cx} {W : XK} {x : Str} {T : String} {po pos : Pos} {e : Expr} {f : EXR} {r : List V → Hp → VK → Prop}
end
end DL
namespace DL
open PySem PySem.Spec PyProof.Rows L2
/-! ### an if whose test raises -/
def xErrS (f : EXR) : ESX := fun ρ => (f ρ).bind fun r => match r with
  | .inl _ => none
  | .inr e => some (.er e)
section
variable {X : Cx} {W : XK} {a b : Expr} {f : EXR} {pos pos2 : Pos} {l1 l2 : List Stmt}
end
end DL
namespace DL
open PySem PySem.Spec PyProof.Rows L2
section
variable {X : Cx}
end
end DL
namespace DL
open PySem PySem.Spec L2
/-! ### plain data of any kind: equal, within -/
structure Enc {α : Type} [DecidableEq α] (g : α → D) (n : Nat) : Prop where
  pl : ∀ a, (py (g a)).plain = true
  lay : ∀ a, (py (g a)).canLay0 = true
  dep : ∀ a, (py (g a)).depth ≤ n
  eq : ∀ a b, PyData.eqv (py (g a)) (py (g b)) = decide (a = b)
section
variable {α : Type} [DecidableEq α] {g : α → D} {n : Nat}
theorem Enc.plAll (h : Enc g n) : ∀ l : List α, PyData.plainAll (pys (l.map g)) = true
  | [] => rfl
  | a :: l => by rw [List.map_cons, pys, PyData.plainAll, h.pl, h.plAll l]; rfl
theorem Enc.layAll (h : Enc g n) : ∀ l : List α, PyData.canLayAll0 (pys (l.map g)) = true
  | [] => rfl
  | a :: l => by rw [List.map_cons, pys, PyData.canLayAll0, h.lay, h.layAll l]; rfl
theorem Enc.depAll (h : Enc g n) : ∀ l : List α, PyData.depthAll (pys (l.map g)) ≤ n
  | [] => Nat.zero_le _
  | a :: l => by
    rw [List.map_cons, pys, PyData.depthAll]
    exact Nat.max_le.mpr ⟨h.dep a, h.depAll l⟩
theorem Enc.eqAll (h : Enc g n) : ∀ l m : List α, PyData.eqvAll (pys (l.map g)) (pys (m.map g)) = decide (l = m)
  | [], [] => rfl
  | [], _ :: _ => rfl
  | _ :: _, [] => rfl
  | a :: l, b :: m => by
    rw [List.map_cons, List.map_cons, pys, pys, PyData.eqvAll, h.eq, h.eqAll l m, ← Bool.decide_and]
    exact decide_eq_decide.mpr (by simp)
theorem Enc.any (h : Enc g n) (x : α) : ∀ l : List α, ((l.map g).any fun y => eqv y (g x)) = decide (x ∈ l)
  | [] => rfl
  | a :: l => by
    have e : eqv (g a) (g x) = decide (a = x) := h.eq a x
    rw [List.map_cons, List.any_cons, e, h.any x l, ← Bool.decide_or]
    exact decide_eq_decide.mpr (by rw [List.mem_cons]; exact or_congr ⟨Eq.symm, Eq.symm⟩ Iff.rfl)
theorem Enc.inOk (h : Enc g n) (hn : n ≤ 60) (l : List α) (x : α) : inOk (l.map g) (g x) = true := by
  unfold DL.inOk
  rw [h.plAll, h.pl, h.layAll, h.lay]
  have := h.depAll l
  simp
  omega
theorem Enc.seq (h : Enc g n) (hn : n ≤ 60) (l : List α) (x : α) : inSeq (g x) (l.map g) = some (decide (x ∈ l)) := by
  unfold inSeq
  rw [if_pos (h.inOk hn l x), h.any]
theorem Enc.lst (h : Enc g n) : Enc (fun l : List α => D.lst (l.map g)) (n + 1) := by
  refine ⟨fun l => ?_, fun l => ?_, fun l => ?_, fun l m => ?_⟩
  · show PyData.plain (py (.lst _)) = true
    rw [py, PyData.plain, h.plAll]
  · show PyData.canLay0 (py (.lst _)) = true
    rw [py, PyData.canLay0, h.layAll]
  · show PyData.depth (py (.lst _)) ≤ _
    rw [py, PyData.depth]
    exact Nat.succ_le_succ (h.depAll l)
  · show PyData.eqv (py (.lst _)) (py (.lst _)) = _
    rw [py, py, PyData.eqv, h.eqAll]
theorem Enc.tup (h : Enc g n) : Enc (fun l : List α => D.tup (l.map g)) (n + 1) := by
  refine ⟨fun l => ?_, fun l => ?_, fun l => ?_, fun l m => ?_⟩
  · show PyData.plain (py (.tup _)) = true
    rw [py, PyData.plain, h.plAll]
  · show PyData.canLay0 (py (.tup _)) = true
    rw [py, PyData.canLay0, h.layAll]
  · show PyData.depth (py (.tup _)) ≤ _
    rw [py, PyData.depth]
    exact Nat.succ_le_succ (h.depAll l)
  · show PyData.eqv (py (.tup _)) (py (.tup _)) = _
    rw [py, py, PyData.eqv, h.eqAll]
theorem Enc.ok (h : Enc g n) (hn : n ≤ 60) (x : α) : okD (g x) = true := by
  unfold okD SeqAt.shaped
  rw [h.lay, Bool.true_and, decide_eq_true_eq]
  have := h.dep x
  omega
theorem Enc.comp {β : Type} [DecidableEq β] (h : Enc g n) {f : β → α} (inj : ∀ x y, f x = f y → x = y) : Enc (fun x => g (f x)) n :=
  ⟨fun _ => h.pl _, fun _ => h.lay _, fun _ => h.dep _, fun x y => by rw [h.eq]; exact decide_eq_decide.mpr ⟨inj x y, fun e => by rw [e]⟩⟩
end
end DL
namespace DL
open PySem PySem.Spec L2
/-! ### a loop that may answer early -/
namespace C
abbrev N_need_word : List Str := ["word", "index", "letter"]
def s_need_word : ES := (sSeq (sIf (tP' (yNot (xBool (xCall F_is_list (xsCons (xVar 0) (xsCons (xC (.int 0)) (xsCons (xC (.int 40)) xsNil))))))) sNever sNext)
  (sFor (iP (xEn (xPure (xVar 0)))) (gTupD 2 (gsCons (put 1) (gsCons (put 2) gsNil)))
  (sIf (tP' (yNot (xBool (xCall F_is_in (xsCons (xVar 2) (xsCons (xC (.int 0)) (xsCons (xC (.int 1)) xsNil))))))) sNever sNext)))
def F_need_word : List D → Option D := fnP N_need_word s_need_word
abbrev N_heights : List Str := ["word", "found", "letter"]
def s_heights : ES := (sSeq (sAsg (mP (xLst (xsCons (xC (.int 0)) xsNil))) (put 1))
  (sSeq (sFor (iP (xIt (xPure (xVar 0)))) (put 2)
  (sDrop (mMut isL appendD 1 (msCons (mP (xOp oAdd (xOp ixD (xVar 1) (xNeg (xC (.int 1)))) (xVar 2))) msNil))))
  (sRet (mMove 1))))
def F_heights : List D → Option D := fnP N_heights s_heights
abbrev N_imbalance : List Str := ["word", "rows", "size", "sums", "one", "other", "at"]
def s_imbalance : ES := (sSeq (sDrop (mP (xCall F_need_word (xsCons (xVar 0) xsNil))))
  (sSeq (sAsg (mP (xCall F_heights (xsCons (xVar 0) xsNil))) (put 1))
  (sSeq (sFor (iP (xRng2 (xsCons (xC (.int 1)) (xsCons (xOp oAdd (xCall lenD (xsCons (xVar 0) xsNil)) (xC (.int 1))) xsNil)))) (put 2)
  (sSeq (sAsg (mP (xComp [6] (xRng1 (xsCons (xOp oAdd (xOp oSub (xCall lenD (xsCons (xVar 0) xsNil)) (xVar 2)) (xC (.int 1))) xsNil)) (putB 6) yYes (xOp oSub (xOp ixD (xVar 1) (xOp oAdd (xVar 6) (xVar 2))) (xOp ixD (xVar 1) (xVar 6))))) (put 3))
  (sFor (iP (xRng1 (xsCons (xCall lenD (xsCons (xVar 3) xsNil)) xsNil))) (put 4)
  (sFor (iP (xRng1 (xsCons (xVar 4) xsNil))) (put 5)
  (sIf (tP' (xBool (xOp oGt (xCall absD (xsCons (xOp oSub (xOp ixD (xVar 3) (xVar 4)) (xOp ixD (xVar 3) (xVar 5))) xsNil)) (xC (.int 1))))) (sRet (mP (xTup (xsCons (xPure (xVar 2)) (xsCons (xPure (xVar 5)) (xsCons (xPure (xVar 4)) xsNil)))))) sNext)))))
  (sRet (mP (xC .non))))))
def F_imbalance : List D → Option D := fnP N_imbalance s_imbalance
abbrev N_is_straight : List Str := ["word"]
def s_is_straight : ES := (sRet (mP (xOp oIsN (xCall F_imbalance (xsCons (xVar 0) xsNil)) (xC .non))))
def F_is_straight : List D → Option D := fnP N_is_straight s_is_straight
abbrev N_bounds : List Str := ["rows", "right", "found", "one", "other", "gap", "rise"]
def s_bounds : ES := (sSeq (sAsg (mP (xLst xsNil)) (put 2))
  (sSeq (sFor (iP (xRng1 (xsCons (xCall lenD (xsCons (xVar 0) xsNil)) xsNil))) (put 3)
  (sFor (iP (xRng2 (xsCons (xOp oAdd (xVar 3) (xC (.int 1))) (xsCons (xCall lenD (xsCons (xVar 0) xsNil)) xsNil)))) (put 4)
  (sSeq (sPar 5 6 (msCons (mP (xOp oSub (xVar 4) (xVar 3))) (msCons (mP (xOp oMul (xOp oSub (xOp ixD (xVar 0) (xVar 4)) (xOp ixD (xVar 0) (xVar 3))) (xVar 1))) msNil)))
  (sDrop (mMut isL appendD 2 (msCons (mP (xTup (xsCons (xOp oAdd (xOp oFdiv (xOp oSub (xVar 6) (xVar 1)) (xVar 5)) (xC (.int 1))) (xsCons (xOp oSub (xNeg (xOp oFdiv (xOp oSub (xNeg (xVar 6)) (xVar 1)) (xVar 5))) (xC (.int 1))) xsNil)))) msNil))))))
  (sRet (mMove 2))))
def F_bounds : List D → Option D := fnP N_bounds s_bounds
abbrev N_slope : List Str := ["word", "rows", "right", "some", "low", "high", "down", "least", "most", "pair", "at"]
def s_slope : ES := (sSeq (sDrop (mP (xCall F_need_word (xsCons (xVar 0) xsNil))))
  (sSeq (sAsg (mP (xCall F_heights (xsCons (xVar 0) xsNil))) (put 1))
  (sSeq (sFor (iP (xRng2 (xsCons (xC (.int 1)) (xsCons (xOp oAdd (xCall lenD (xsCons (xVar 0) xsNil)) (xC (.int 2))) xsNil)))) (put 2)
  (sSeq (sAsg (mP (xCall F_bounds (xsCons (xVar 1) (xsCons (xVar 2) xsNil)))) (put 3))
  (sSeq (sAsg (mP (xCall maxLD (xsCons (xLst (xsCons (xC (.int 0)) (xsStar (xComp [9] (xIt (xVar 3)) (putB 9) yYes (xPure (xOp ixD (xVar 9) (xC (.int 0))))) xsNil))) xsNil))) (put 4))
  (sSeq (sAsg (mP (xCall minLD (xsCons (xLst (xsCons (xPure (xVar 2)) (xsStar (xComp [9] (xIt (xVar 3)) (putB 9) yYes (xPure (xOp ixD (xVar 9) (xC (.int 1))))) xsNil))) xsNil))) (put 5))
  (sFor (iP (xRng2 (xsCons (xVar 4) (xsCons (xOp oAdd (xVar 5) (xC (.int 1))) xsNil)))) (put 6)
  (sSeq (sAsg (mP (xCall maxLD (xsCons (xComp [10] (xRng1 (xsCons (xCall lenD (xsCons (xVar 1) xsNil)) xsNil)) (putB 10) yYes (xOp oSub (xOp oMul (xOp ixD (xVar 1) (xVar 10)) (xVar 2)) (xOp oMul (xVar 6) (xVar 10)))) xsNil))) (put 7))
  (sSeq (sAsg (mP (xCall minLD (xsCons (xComp [10] (xRng1 (xsCons (xCall lenD (xsCons (xVar 1) xsNil)) xsNil)) (putB 10) yYes (xOp oSub (xOp oAdd (xOp oSub (xOp oMul (xOp ixD (xVar 1) (xVar 10)) (xVar 2)) (xOp oMul (xVar 6) (xVar 10))) (xVar 2)) (xC (.int 1)))) xsNil))) (put 8))
  (sIf (tP' (xBool (xOp oLe (xCall max2D (xsCons (xVar 7) (xsCons (xC (.int 0)) xsNil))) (xCall min2D (xsCons (xVar 8) (xsCons (xOp oSub (xVar 2) (xC (.int 1))) xsNil)))))) (sRet (mP (xTup (xsCons (xPure (xVar 2)) (xsCons (xPure (xVar 6)) (xsCons (xCall max2D (xsCons (xVar 7) (xsCons (xC (.int 0)) xsNil))) xsNil)))))) sNext))))))))
  (sRet (mP (xC .non))))))
def F_slope : List D → Option D := fnP N_slope s_slope
abbrev N_need_line : List Str := ["down", "right", "start"]
def s_need_line : ES := (sIf (tP' (yOr (yNot (xBool (xCall F_is_in (xsCons (xVar 1) (xsCons (xC (.int 1)) (xsCons (xC (.int 60)) xsNil)))))) (yOr (yNot (xBool (xCall F_is_in (xsCons (xVar 0) (xsCons (xC (.int 0)) (xsCons (xVar 1) xsNil)))))) (yNot (xBool (xCall F_is_in (xsCons (xVar 2) (xsCons (xC (.int 0)) (xsCons (xOp oSub (xVar 1) (xC (.int 1))) xsNil))))))))) sNever sNext)
def F_need_line : List D → Option D := fnP N_need_line s_need_line
abbrev N_word_in : List Str := ["down", "right", "start", "many", "at"]
def s_word_in : ES := (sRet (mP (xCall tupleD (xsCons (xComp [4] (xRng1 (xsCons (xVar 3) xsNil)) (putB 4) yYes (xOp oSub (xOp oFdiv (xOp oAdd (xOp oMul (xVar 0) (xOp oAdd (xVar 4) (xC (.int 1)))) (xVar 2)) (xVar 1)) (xOp oFdiv (xOp oAdd (xOp oMul (xVar 0) (xVar 4)) (xVar 2)) (xVar 1)))) xsNil))))
def F_word_in : List D → Option D := fnP N_word_in s_word_in
abbrev N_line_word : List Str := ["down", "right", "start", "many"]
def s_line_word : ES := (sSeq (sDrop (mP (xCall F_need_line (xsCons (xVar 0) (xsCons (xVar 1) (xsCons (xVar 2) xsNil))))))
  (sSeq (sIf (tP' (yNot (xBool (xCall F_is_in (xsCons (xVar 3) (xsCons (xC (.int 0)) (xsCons (xC (.int 40)) xsNil))))))) sNever sNext)
  (sRet (mP (xCall F_word_in (xsCons (xVar 0) (xsCons (xVar 1) (xsCons (xVar 2) (xsCons (xVar 3) xsNil)))))))))
def F_line_word : List D → Option D := fnP N_line_word s_line_word
abbrev N_law_any_line : List Str := ["_law_row", "_law_most", "_law_right"]
def s_law_any_line : ES := (sSeq (sAsg (mOp oAdd (mP (xC (.int 1))) (mCallR takenF 0 (msCons (mP (xPure (xVar 1))) msNil))) (put 2))
  (sRet (mTup (msCons (mCallR takenF 0 (msCons (mP (xOp oAdd (xVar 2) (xC (.int 1)))) msNil)) (msCons (mP (xPure (xVar 2))) (msCons (mCallR takenF 0 (msCons (mP (xPure (xVar 2))) msNil)) msNil))))))
def F_law_any_line : D → List D → Option (D × D) := fnR N_law_any_line s_law_any_line
abbrev N_law_line_word : List Str := ["_law_down", "_law_right", "_law_start", "_law_many", "_law_at"]
def s_law_line_word : ES := (sRet (mP (xCall tupleD (xsCons (xComp [4] (xRng1 (xsCons (xVar 3) xsNil)) (putB 4) yYes (xOp oSub (xOp oFdiv (xOp oAdd (xOp oMul (xVar 0) (xOp oAdd (xVar 4) (xC (.int 1)))) (xVar 2)) (xVar 1)) (xOp oFdiv (xOp oAdd (xOp oMul (xVar 0) (xVar 4)) (xVar 2)) (xVar 1)))) xsNil))))
def F_law_line_word : List D → Option D := fnP N_law_line_word s_law_line_word
abbrev N_law_any_word : List Str := ["_law_row", "_law_most", "_law_down", "_law_right", "_law_start", "_law_word", "_law_way", "_law_at"]
def s_law_any_word : ES := (sSeq (sAsg (mCallR F_law_any_line 0 (msCons (mP (xC (.int 12))) msNil)) (gTupD 3 (gsCons (put 2) (gsCons (put 3) (gsCons (put 4) gsNil)))))
  (sSeq (sAsg (mCall F_law_line_word (msCons (mP (xPure (xVar 2))) (msCons (mP (xPure (xVar 3))) (msCons (mP (xPure (xVar 4))) (msCons (mCallR takenF 0 (msCons (mP (xOp oAdd (xVar 1) (xC (.int 1)))) msNil)) msNil))))) (put 5))
  (sSeq (sAsg (mCallR takenF 0 (msCons (mP (xC (.int 3))) msNil)) (put 6))
  (sSeq (sIf (tP' (yAnd (xBool (xOp oEq (xVar 6) (xC (.int 1)))) (xBool (xOp oNe (xVar 5) (xTup xsNil))))) (sSeq (sAsg (mCallR takenF 0 (msCons (mP (xCall lenD (xsCons (xVar 5) xsNil))) msNil)) (put 7))
  (sAsg (mP (xOp oAdd (xOp oAdd (xCut (xVar 5) none (some (xVar 7))) (xTup (xsCons (xOp oSub (xC (.int 1)) (xOp ixD (xVar 5) (xVar 7))) xsNil))) (xCut (xVar 5) (some (xOp oAdd (xVar 7) (xC (.int 1)))) none))) (put 5))) sNext)
  (sSeq (sIf (tP' (xBool (xOp oEq (xVar 6) (xC (.int 2))))) (sAsg (mCall tupleD (msCons (mComp [7] (mRng1 (msCons (mCallR takenF 0 (msCons (mP (xC (.int 9))) msNil)) msNil)) (put 7) (tP' yYes) (mCallR takenF 0 (msCons (mP (xC (.int 2))) msNil))) msNil)) (put 5)) sNext)
  (sRet (mP (xPure (xVar 5)))))))))
def F_law_any_word : D → List D → Option (D × D) := fnR N_law_any_word s_law_any_word
abbrev N_law_gcd : List Str := ["_law_one", "_law_other"]
def s_law_gcd : ES := (sSeq (sWhile (tP' (xBool (xOp oNe (xVar 1) (xC (.int 0)))))
  (sPar 0 1 (msCons (mP (xPure (xVar 1))) (msCons (mP (xOp oMod (xCall intD (xsCons (xVar 0) xsNil)) (xVar 1))) msNil))))
  (sRet (mP (xPure (xVar 0)))))
def F_law_gcd : List D → Option D := fnP N_law_gcd s_law_gcd
end C
/-! ### words -/
abbrev wD (w : List Int) : D := .tup (w.map .int)
def Bits (w : List Int) : Prop := ∀ x ∈ w, x = 0 ∨ x = 1
/-- the row a word stands on after so many letters -/
def ht (w : List Int) (i : Nat) : Int := (w.take i).sum
abbrev hD (w : List Int) : D := .lst ((List.range (w.length + 1)).map fun i => .int (ht w i))
namespace C
end C
def dif (w : List Int) (s k : Nat) : Int := ht w (k + s) - ht w k
def gapAt (w : List Int) (s one other : Nat) : Option D := if 1 < (if dif w s one - dif w s other < 0 then -(dif w s one - dif w s other) else dif w s one - dif w s other) then some (.tup [.int s, .int other, .int one]) else none
def imbI (w : List Int) (s one : Nat) : Option D := (List.range one).findSome? fun other => gapAt w s one other
def imbS (w : List Int) (s : Nat) : Option D := (List.range (w.length - s + 1)).findSome? fun one => imbI w s one
def imb (w : List Int) : Option D := (List.range w.length).findSome? fun k => imbS w (k + 1)
def optD : Option D → D
  | some d => d
  | none => .non
namespace C
def gapB : ES := (sIf (tP' (xBool (xOp oGt (xCall absD (xsCons (xOp oSub (xOp ixD (xVar 3) (xVar 4)) (xOp ixD (xVar 3) (xVar 5))) xsNil)) (xC (.int 1))))) (sRet (mP (xTup (xsCons (xPure (xVar 2)) (xsCons (xPure (xVar 5)) (xsCons (xPure (xVar 4)) xsNil)))))) sNext)
def gapI : ES := (sFor (iP (xRng1 (xsCons (xVar 4) xsNil))) (put 5) gapB)
def gapS : ES := (sSeq (sAsg (mP (xComp [6] (xRng1 (xsCons (xOp oAdd (xOp oSub (xCall lenD (xsCons (xVar 0) xsNil)) (xVar 2)) (xC (.int 1))) xsNil)) (putB 6) yYes (xOp oSub (xOp ixD (xVar 1) (xOp oAdd (xVar 6) (xVar 2))) (xOp ixD (xVar 1) (xVar 6))))) (put 3))
  (sFor (iP (xRng1 (xsCons (xCall lenD (xsCons (xVar 3) xsNil)) xsNil))) (put 4) gapI))
abbrev sumsD (w : List Int) (s : Nat) : D := .lst ((List.range (w.length - s + 1)).map fun k => .int (dif w s k))
end C
end DL
namespace DL
open PySem PySem.Spec L2
/-! ### slopes of words -/
def gapP (w : List Int) (r : Int) (i k : Nat) : Int × Int :=
  (((ht w (i + 1 + k) - ht w i) * r - r) / ((k : Int) + 1) + 1, -((-((ht w (i + 1 + k) - ht w i) * r) - r) / ((k : Int) + 1)) - 1)
def bndI (w : List Int) (r : Int) (i : Nat) : List (Int × Int) := (List.range (w.length - i)).map (gapP w r i)
def bnd (w : List Int) (r : Int) : List (Int × Int) := (List.range (w.length + 1)).flatMap (bndI w r)
def lowD (w : List Int) (r : Int) : Int := maxI (0 :: (bnd w r).map Prod.fst)
def highD (w : List Int) (r : Int) : Int := minI (r :: (bnd w r).map Prod.snd)
def leastS (w : List Int) (r d : Int) : Int := maxI ((List.range (w.length + 1)).map fun i => ht w i * r - d * (i : Nat))
def mostS (w : List Int) (r d : Int) : Int := minI ((List.range (w.length + 1)).map fun i => ht w i * r - d * (i : Nat) + r - 1)
def mxS (w : List Int) (r d : Int) : Int := if 0 > leastS w r d then 0 else leastS w r d
def stp (w : List Int) (r d : Int) : Option D := if mxS w r d ≤ (if r - 1 < mostS w r d then r - 1 else mostS w r d) then some (.tup [.int r, .int d, .int (mxS w r d)]) else none
def slD (w : List Int) (r : Int) : Option D := (List.range (highD w r + 1 - lowD w r).toNat).findSome? fun k => stp w r (lowD w r + (k : Nat))
def slp (w : List Int) : Option D := (List.range (w.length + 1)).findSome? fun k => slD w (1 + (k : Nat))
/-- the line (d * i + s) / r passes the word's rows -/
def Line (w : List Int) (r d s : Int) : Prop := 1 ≤ r ∧ 0 ≤ d ∧ d ≤ r ∧ ∀ i, i ≤ w.length → ht w i * r ≤ d * (i : Nat) + s ∧ d * (i : Nat) + s < ht w i * r + r
def Least (w : List Int) (r d s : Int) : Prop := Line w r d s ∧ ∀ r' d' s', Line w r' d' s' → r < r' ∨ (r = r' ∧ (d < d' ∨ (d = d' ∧ s ≤ s')))
theorem low_in {w : List Int} {r : Int} : 0 ≤ lowD w r ∧ highD w r ≤ r := ⟨maxI_ge (List.mem_cons_self ..), minI_le (List.mem_cons_self ..)⟩
end DL
namespace DL
open PySem PySem.Spec L2
abbrev prD (p : Int × Int) : D := .tup [.int p.1, .int p.2]
namespace C
def bndB : ES := (sSeq (sPar 5 6 (msCons (mP (xOp oSub (xVar 4) (xVar 3))) (msCons (mP (xOp oMul (xOp oSub (xOp ixD (xVar 0) (xVar 4)) (xOp ixD (xVar 0) (xVar 3))) (xVar 1))) msNil)))
  (sDrop (mMut isL appendD 2 (msCons (mP (xTup (xsCons (xOp oAdd (xOp oFdiv (xOp oSub (xVar 6) (xVar 1)) (xVar 5)) (xC (.int 1))) (xsCons (xOp oSub (xNeg (xOp oFdiv (xOp oSub (xNeg (xVar 6)) (xVar 1)) (xVar 5))) (xC (.int 1))) xsNil)))) msNil))))
def bndL : ES := (sFor (iP (xRng2 (xsCons (xOp oAdd (xVar 3) (xC (.int 1))) (xsCons (xCall lenD (xsCons (xVar 0) xsNil)) xsNil)))) (put 4) bndB)
variable {w : List Int}
end C
end DL
namespace DL
open PySem PySem.Spec L2
namespace C
variable {w : List Int}
def slpI : ES := (sSeq (sAsg (mP (xCall maxLD (xsCons (xComp [10] (xRng1 (xsCons (xCall lenD (xsCons (xVar 1) xsNil)) xsNil)) (putB 10) yYes (xOp oSub (xOp oMul (xOp ixD (xVar 1) (xVar 10)) (xVar 2)) (xOp oMul (xVar 6) (xVar 10)))) xsNil))) (put 7))
  (sSeq (sAsg (mP (xCall minLD (xsCons (xComp [10] (xRng1 (xsCons (xCall lenD (xsCons (xVar 1) xsNil)) xsNil)) (putB 10) yYes (xOp oSub (xOp oAdd (xOp oSub (xOp oMul (xOp ixD (xVar 1) (xVar 10)) (xVar 2)) (xOp oMul (xVar 6) (xVar 10))) (xVar 2)) (xC (.int 1)))) xsNil))) (put 8))
  (sIf (tP' (xBool (xOp oLe (xCall max2D (xsCons (xVar 7) (xsCons (xC (.int 0)) xsNil))) (xCall min2D (xsCons (xVar 8) (xsCons (xOp oSub (xVar 2) (xC (.int 1))) xsNil)))))) (sRet (mP (xTup (xsCons (xPure (xVar 2)) (xsCons (xPure (xVar 6)) (xsCons (xCall max2D (xsCons (xVar 7) (xsCons (xC (.int 0)) xsNil))) xsNil)))))) sNext)))
def slpR : ES := (sSeq (sAsg (mP (xCall F_bounds (xsCons (xVar 1) (xsCons (xVar 2) xsNil)))) (put 3))
  (sSeq (sAsg (mP (xCall maxLD (xsCons (xLst (xsCons (xC (.int 0)) (xsStar (xComp [9] (xIt (xVar 3)) (putB 9) yYes (xPure (xOp ixD (xVar 9) (xC (.int 0))))) xsNil))) xsNil))) (put 4))
  (sSeq (sAsg (mP (xCall minLD (xsCons (xLst (xsCons (xPure (xVar 2)) (xsStar (xComp [9] (xIt (xVar 3)) (putB 9) yYes (xPure (xOp ixD (xVar 9) (xC (.int 1))))) xsNil))) xsNil))) (put 5))
  (sFor (iP (xRng2 (xsCons (xVar 4) (xsCons (xOp oAdd (xVar 5) (xC (.int 1))) xsNil)))) (put 6) slpI))))
end C
end DL
namespace DL
open PySem PySem.Spec L2
/-! ### words of lines; drawn words -/
def lw (d r s : Int) (m : Nat) : List Int := (List.range m).map fun k : Nat => (d * ((k : Int) + 1) + s) / r - (d * (k : Int) + s) / r
namespace C
variable {ns : List Int}
end C
end DL
namespace DL
open PySem PySem.Spec L2
namespace C
variable {ns : List Int}
def anyB : ES := (sIf (tP' (yAnd (xBool (xOp oEq (xVar 6) (xC (.int 1)))) (xBool (xOp oNe (xVar 5) (xTup xsNil))))) (sSeq (sAsg (mCallR takenF 0 (msCons (mP (xCall lenD (xsCons (xVar 5) xsNil))) msNil)) (put 7))
  (sAsg (mP (xOp oAdd (xOp oAdd (xCut (xVar 5) none (some (xVar 7))) (xTup (xsCons (xOp oSub (xC (.int 1)) (xOp ixD (xVar 5) (xVar 7))) xsNil))) (xCut (xVar 5) (some (xOp oAdd (xVar 7) (xC (.int 1)))) none))) (put 5))) sNext)
def anyC : ES := (sIf (tP' (xBool (xOp oEq (xVar 6) (xC (.int 2))))) (sAsg (mCall tupleD (msCons (mComp [7] (mRng1 (msCons (mCallR takenF 0 (msCons (mP (xC (.int 9))) msNil)) msNil)) (put 7) (tP' yYes) (mCallR takenF 0 (msCons (mP (xC (.int 2))) msNil))) msNil)) (put 5)) sNext)
end C
end DL
namespace DL
open PySem PySem.Spec L2
/-! ### a word is a line's exactly if it is balanced -/
def Bal (w : List Int) : Prop := ∀ s i j, 1 ≤ s → i + s ≤ w.length → j + s ≤ w.length → dif w s i - dif w s j ≤ 1
/-- the slope between two critical lines -/
theorem between {p q s t i j e f hi hj he hf : Int} (hs : 0 < s) (ht : 0 < t) (pq : p * t < q * s) (ee : e = i + s) (ef : f = j + t) (ve : he = hi + p + 1) (vf : hf = hj + q - 1)
    (a1 : (hj - hi - 1) * s ≤ p * (j - i)) (a1' : j ≤ i → (hj - hi - 1) * s < p * (j - i)) (b1 : q * (f - e) ≤ (hf - he + 1) * t) (b1' : f ≤ e → q * (f - e) < (hf - he + 1) * t) :
    (0 < e - j ∧ p * (e - j) < (he - hj) * s ∧ (he - hj) * t < q * (e - j)) ∨ (0 < f - i ∧ p * (f - i) < (hf - hi) * s ∧ (hf - hi) * t < q * (f - i)) := by
  have f1 : p * (e - j) ≤ (he - hj) * s := by
    subst ee ve
    have e1 : p * (i + s - j) = p * s - p * (j - i) := by grind
    have e2 : (hi + p + 1 - hj) * s = p * s - (hj - hi - 1) * s := by grind
    omega
  have f2 : (he - hj) * t ≤ q * (e - j) := by
    subst ef vf
    have e1 : q * (e - j) = q * t - q * (j + t - e) := by grind
    have e2 : (he - hj) * t = q * t - (hj + q - 1 - he + 1) * t := by grind
    omega
  have ge : 0 ≤ e - j := by
    have h1 := Int.mul_le_mul_of_nonneg_right f1 (show 0 ≤ t by omega)
    have h2 := Int.mul_le_mul_of_nonneg_right f2 (show 0 ≤ s by omega)
    have e1 : (he - hj) * s * t = (he - hj) * t * s := by grind
    have e2 : p * (e - j) * t = (p * t) * (e - j) := by grind
    have e3 : q * (e - j) * s = (q * s) * (e - j) := by grind
    have h3 : 0 ≤ (q * s - p * t) * (e - j) := by rw [Int.sub_mul]; omega
    by_cases c : 0 ≤ e - j
    · exact c
    · have := Int.mul_neg_of_pos_of_neg (show 0 < q * s - p * t by omega) (show e - j < 0 by omega)
      omega
  by_cases c1 : p * (e - j) = (he - hj) * s
  · have eq1 : (hj - hi - 1) * s = p * (j - i) := by
      subst ee ve
      have e1 : p * (i + s - j) = p * s - p * (j - i) := by grind
      have e2 : (hi + p + 1 - hj) * s = p * s - (hj - hi - 1) * s := by grind
      omega
    have ji : i < j := by
      by_cases c : i < j
      · exact c
      · have := a1' (by omega)
        omega
    right
    subst ef vf
    refine ⟨by omega, ?_, ?_⟩
    · have e1 : (hj + q - 1 - hi) * s = q * s + (hj - hi - 1) * s := by grind
      have e2 : p * (j + t - i) = p * t + p * (j - i) := by grind
      omega
    · have e1 : (hj + q - 1 - hi) * t * s = q * t * s + (hj - hi - 1) * s * t := by grind
      have e2 : q * (j + t - i) * s = q * t * s + q * s * (j - i) := by grind
      have h1 := Int.mul_lt_mul_of_pos_right pq (show 0 < j - i by omega)
      have e3 : p * (j - i) * t = p * t * (j - i) := by grind
      refine Int.lt_of_mul_lt_mul_right (a := s) ?_ (by omega)
      rw [e1, e2, eq1, e3]
      omega
  · by_cases c2 : (he - hj) * t = q * (e - j)
    · have eq1 : q * (f - e) = (hf - he + 1) * t := by
        subst ef vf
        have e1 : q * (e - j) = q * t - q * (j + t - e) := by grind
        have e2 : (he - hj) * t = q * t - (hj + q - 1 - he + 1) * t := by grind
        omega
      have fe : e < f := by
        by_cases c : e < f
        · exact c
        · have := b1' (by omega)
          omega
      right
      subst ee ve
      refine ⟨by omega, ?_, ?_⟩
      · have e1 : (hf - hi) * s * t = (hf - (hi + p + 1) + 1) * t * s + p * s * t := by grind
        have e2 : p * (f - i) * t = p * t * (f - (i + s)) + p * s * t := by grind
        have h1 := Int.mul_lt_mul_of_pos_right pq (show 0 < f - (i + s) by omega)
        have e3 : q * (f - (i + s)) * s = q * s * (f - (i + s)) := by grind
        refine Int.lt_of_mul_lt_mul_right (a := t) ?_ (by omega)
        rw [e1, e2, ← eq1, e3]
        omega
      · have e1 : (hf - hi) * t = (hf - (hi + p + 1) + 1) * t + p * t := by grind
        have e2 : q * (f - i) = q * (f - (i + s)) + q * s := by grind
        omega
    · have : e - j ≠ 0 := by
        intro z
        rw [z] at c1 c2 f1 f2
        have h1 : 0 ≤ (he - hj) * s := by omega
        have h2 : (he - hj) * t ≤ 0 := by omega
        have h3 : he - hj ≤ 0 := by
          by_cases c : he - hj ≤ 0
          · exact c
          · have := Int.mul_pos (show 0 < he - hj by omega) ht
            omega
        have h4 : 0 ≤ he - hj := by
          by_cases c : 0 ≤ he - hj
          · exact c
          · have := Int.mul_neg_of_neg_of_pos (show he - hj < 0 by omega) hs
            omega
        have h5 : he - hj = 0 := by omega
        rw [h5] at c1
        omega
      exact .inl ⟨by omega, by omega, by omega⟩
end DL
namespace DL
open PySem PySem.Spec L2
def wins (n : Nat) : List (Nat × Nat) := (List.range n).flatMap fun k => (List.range (n - k)).map fun i => (i, k + 1)
end DL
namespace DL
open PySem PySem.Spec L2
/-! ### names that nobody will read may be forgotten -/
def leS (s t : Slt) : Prop := s = t ∨ (s = none ∧ isPin t = false)
theorem leS.refl (s : Slt) : leS s s := .inl rfl
theorem leS.trans {s t u : Slt} (h : leS s t) (k : leS t u) : leS s u := by
  rcases h with rfl | ⟨rfl, h⟩
  · exact k
  · rcases k with rfl | ⟨rfl, k⟩
    · exact .inr ⟨rfl, h⟩
    · exact .inr ⟨rfl, k⟩
def Le : Env → Env → Prop
  | [], [] => True
  | s :: ρ, t :: ρ' => leS s t ∧ Le ρ ρ'
  | _, _ => False
theorem Le.refl : ∀ ρ : Env, Le ρ ρ
  | [] => trivial
  | s :: ρ => ⟨.inl rfl, Le.refl ρ⟩
theorem Le.trans : ∀ {ρ ρ' ρ'' : Env}, Le ρ ρ' → Le ρ' ρ'' → Le ρ ρ''
  | [], [], [], _, _ => trivial
  | _ :: _, _ :: _, _ :: _, h, k => ⟨h.1.trans k.1, h.2.trans k.2⟩
  | [], _ :: _, _, h, _ => h.elim
  | _ :: _, [], _, h, _ => h.elim
  | _, [], _ :: _, _, k => k.elim
  | _, _ :: _, [], _, k => k.elim
theorem Le.len : ∀ {ρ ρ' : Env}, Le ρ ρ' → ρ.length = ρ'.length
  | [], [], _ => rfl
  | _ :: _, _ :: _, h => by rw [List.length_cons, List.length_cons, h.2.len]
  | [], _ :: _, h => h.elim
  | _ :: _, [], h => h.elim
theorem Le.at {ρ ρ' : Env} : Le ρ ρ' → ∀ i : Nat, (ρ[i]? = none ∧ ρ'[i]? = none) ∨ ∃ s t, ρ[i]? = some s ∧ ρ'[i]? = some t ∧ leS s t := by
  induction ρ generalizing ρ' with
  | nil =>
    intro h i
    cases ρ' with
    | nil => exact .inl ⟨rfl, rfl⟩
    | cons _ _ => exact h.elim
  | cons s ρ ih =>
    intro h i
    cases ρ' with
    | nil => exact h.elim
    | cons t ρ' =>
      cases i with
      | zero => exact .inr ⟨s, t, rfl, rfl, h.1⟩
      | succ i => exact ih h.2 i
theorem Le.get {ρ ρ' : Env} (h : Le ρ ρ') {i : Nat} {x : Fl × D} (e : ρ[i]? = some (some x)) : ρ'[i]? = some (some x) := by
  rcases h.at i with ⟨a, _⟩ | ⟨s, t, a, b, l⟩
  · rw [a] at e; cases e
  · rw [a] at e
    cases e
    rcases l with rfl | ⟨z, _⟩
    · exact b
    · cases z
theorem Le.set : ∀ {ρ ρ' : Env}, Le ρ ρ' → ∀ (i : Nat) {s t : Slt}, leS s t → Le (ρ.set i s) (ρ'.set i t)
  | [], [], _, _, _, _, _ => trivial
  | _ :: _, _ :: _, h, 0, _, _, l => ⟨l, h.2⟩
  | _ :: _, _ :: _, h, i + 1, _, _, l => ⟨h.1, h.2.set i l⟩
  | [], _ :: _, h, _, _, _, _ => h.elim
  | _ :: _, [], h, _, _, _, _ => h.elim
theorem Le.set' {ρ ρ' : Env} (h : Le ρ ρ') (i : Nat) (s : Slt) : Le (ρ.set i s) (ρ'.set i s) := h.set i (.inl rfl)
theorem Le.wipes {ρ ρ' : Env} (h : Le ρ ρ') : ∀ vs : List Nat, Le (wipeE ρ vs) (wipeE ρ' vs)
  | [] => h
  | v :: vs => (h.wipes vs).set' v none
theorem wipe_len {ρ : Env} : ∀ vs : List Nat, (wipeE ρ vs).length = ρ.length
  | [] => rfl
  | v :: vs => by rw [wipeE, List.length_set, wipe_len vs]
def LeO : Out → Out → Prop
  | .nx ρ, .nx ρ' => Le ρ ρ'
  | .bk ρ, .bk ρ' => Le ρ ρ'
  | .ct ρ, .ct ρ' => Le ρ ρ'
  | .rt d ρ, .rt d' ρ' => d = d' ∧ Le ρ ρ'
  | _, _ => False
def outE : Out → Env
  | .nx ρ => ρ
  | .bk ρ => ρ
  | .ct ρ => ρ
  | .rt _ ρ => ρ
theorem LeO.refl (o : Out) : LeO o o := by cases o <;> first | exact Le.refl _ | exact ⟨rfl, Le.refl _⟩
theorem LeO.trans {o o' o'' : Out} (h : LeO o o') (k : LeO o' o'') : LeO o o'' := by
  cases o <;> cases o' <;> first | exact h.elim | skip
  all_goals cases o'' <;> first | exact k.elim | skip
  · exact Le.trans h k
  · exact ⟨h.1.trans k.1, Le.trans h.2 k.2⟩
  · exact Le.trans h k
  · exact Le.trans h k
/-- readings -/
class MX {α : Type} (f : Env → Option α) : Prop where
  mono : ∀ {ρ ρ' : Env} {d : α}, Le ρ ρ' → f ρ = some d → f ρ' = some d
/-- readings that change names -/
class MM {α : Type} (f : Env → Option (α × Env)) : Prop where
  mono : ∀ {ρ ρ' : Env} {d : α} {ρ1 : Env}, Le ρ ρ' → f ρ = some (d, ρ1) → ρ1.length = ρ.length ∧ ∃ ρ2, f ρ' = some (d, ρ2) ∧ Le ρ1 ρ2
class MG {α : Type} (g : α → Env → Option Env) : Prop where
  mono : ∀ {ρ ρ' : Env} {d : α} {ρ1 : Env}, Le ρ ρ' → g d ρ = some ρ1 → ρ1.length = ρ.length ∧ ∃ ρ2, g d ρ' = some ρ2 ∧ Le ρ1 ρ2
class MS (g : ES) : Prop where
  mono : ∀ {ρ ρ' : Env} {o : Out}, Le ρ ρ' → g ρ = some o → (outE o).length = ρ.length ∧ ∃ o', g ρ' = some o' ∧ LeO o o'
theorem obind {α β : Type} {x : Option α} {k : α → Option β} {b : β} (h : x.bind k = some b) : ∃ a, x = some a ∧ k a = some b := Option.bind_eq_some_iff.mp h
section
variable {α : Type}
instance mx_bind {β : Type} {f : Env → Option α} {k : α → Env → Option β} [MX f] [∀ a, MX (k a)] : MX fun ρ => (f ρ).bind fun a => k a ρ := ⟨fun {ρ ρ' d} l e => by
  obtain ⟨a, e1, e2⟩ := obind e
  show (f ρ').bind _ = _
  rw [MX.mono l e1]
  exact MX.mono (f := k a) l e2⟩
theorem mx_bind' {β : Type} {f : Env → Option α} {k : α → Option β} (h : MX f) : MX fun ρ => (f ρ).bind k := ⟨fun {ρ ρ' d} l e => by
  obtain ⟨a, e1, e2⟩ := obind e
  show (f ρ').bind _ = _
  rw [MX.mono l e1]
  exact e2⟩
theorem mx_two {β γ : Type} {f : Env → Option α} {g : Env → Option β} {k : α → β → Option γ} (h : MX f) (h' : MX g) : MX fun ρ => (f ρ).bind fun a => (g ρ).bind fun b => k a b := ⟨fun {ρ ρ' d} l e => by
  obtain ⟨a, e1, e2⟩ := obind e
  obtain ⟨b, e2, e3⟩ := obind e2
  show (f ρ').bind _ = _
  rw [MX.mono l e1, Option.bind_some, MX.mono l e2]
  exact e3⟩
variable {f g h : EX} {fs : EXs} {p q : QX} {src : IX} {gx gx1 : GX} {e : EX}
instance {i : Nat} : MX (xVar i) := ⟨fun {ρ ρ' d} l e => by
  unfold xVar at e ⊢
  cases z : ρ[i]? with
  | none => rw [z] at e; cases e
  | some s =>
    rw [z] at e
    cases s with
    | none => cases e
    | some x => rw [l.get z]; exact e⟩
instance [MX f] : MX (xPure f) := mx_bind' ‹_›
instance {d : D} : MX (xC d) := ⟨fun l e => e⟩
instance {o : D → D → Option D} [MX f] [MX g] : MX (xOp o f g) := mx_two ‹_› ‹_›
instance [MX f] : MX (xBool f) := mx_bind' ‹_›
instance {o o' : D → D → Option D} [hf : MX f] [hg : MX g] [hh : MX h] : MX (xChain o o' f g h) := ⟨fun {ρ ρ' d} l e => by
  obtain ⟨x, e1, e⟩ := obind e
  obtain ⟨y, e2, e⟩ := obind e
  obtain ⟨z, e3, e⟩ := obind e
  show (f ρ').bind _ = _
  rw [hf.mono l e1, Option.bind_some, hg.mono l e2, Option.bind_some, e3, Option.bind_some]
  cases z with
  | bl b =>
    cases b with
    | true =>
      obtain ⟨w, e4, e⟩ := obind e
      show (h ρ').bind _ = _
      rw [hh.mono l e4]
      exact e
    | false => exact e
  | _ => cases e⟩
instance [hf : MX f] [hg : MX g] : MX (xAnd f g) := ⟨fun {ρ ρ' d} l e => by
  obtain ⟨x, e1, e⟩ := obind e
  show (f ρ').bind _ = _
  rw [hf.mono l e1, Option.bind_some]
  cases x with
  | bl b =>
    cases b with
    | true => exact hg.mono l e
    | false => exact e
  | _ => cases e⟩
instance [hf : MX f] [hg : MX g] : MX (xOr f g) := ⟨fun {ρ ρ' d} l e => by
  obtain ⟨x, e1, e⟩ := obind e
  show (f ρ').bind _ = _
  rw [hf.mono l e1, Option.bind_some]
  cases x with
  | bl b =>
    cases b with
    | false => exact hg.mono l e
    | true => exact e
  | _ => cases e⟩
instance [MX f] : MX (xNot f) := mx_bind' ‹_›
instance {ts : List String} [MX f] : MX (xIsi ts f) := mx_bind' ‹_›
instance [MX f] : MX (xNeg f) := mx_bind' ‹_›
instance {o : List D → Option D} [MX fs] : MX (xCall o fs) := mx_bind' ‹_›
instance : MX xsNil := ⟨fun l e => e⟩
instance [MX f] [MX fs] : MX (xsCons f fs) := mx_two ‹_› ‹_›
instance [hf : MX f] [hs : MX fs] : MX (xsStar f fs) := ⟨fun {ρ ρ' d} l e => by
  obtain ⟨x, e1, e⟩ := obind e
  obtain ⟨xs, e2, e⟩ := obind e
  show (f ρ').bind _ = _
  rw [hf.mono l e1, Option.bind_some, e2, Option.bind_some]
  split at e
  · rename_i z
    obtain ⟨ys, e3, e⟩ := obind e
    rw [if_pos z, hs.mono l e3]
    exact e
  · cases e⟩
instance [MX fs] : MX (xTup fs) := mx_bind' ‹_›
instance [MX fs] : MX (xLst fs) := mx_bind' ‹_›
instance [hp : MX p] [hf : MX f] [hg : MX g] : MX (xIf p f g) := ⟨fun {ρ ρ' d} l e => by
  obtain ⟨x, e1, e⟩ := obind e
  show (p ρ').bind _ = _
  rw [hp.mono l e1, Option.bind_some]
  cases x with
  | true => exact hf.mono l e
  | false => exact hg.mono l e⟩
instance [hp : MX p] [hq : MX q] : MX (yAnd p q) := ⟨fun {ρ ρ' d} l e => by
  obtain ⟨x, e1, e⟩ := obind e
  show (p ρ').bind _ = _
  rw [hp.mono l e1, Option.bind_some]
  cases x with
  | true => exact hq.mono l e
  | false => exact e⟩
instance [hp : MX p] [hq : MX q] : MX (yOr p q) := ⟨fun {ρ ρ' d} l e => by
  obtain ⟨x, e1, e⟩ := obind e
  show (p ρ').bind _ = _
  rw [hp.mono l e1, Option.bind_some]
  cases x with
  | true => exact e
  | false => exact hq.mono l e⟩
instance [hp : MX p] : MX (yNot p) := ⟨fun {ρ ρ' d} l e => by
  obtain ⟨x, e1, e⟩ := Option.map_eq_some_iff.mp e
  show (p ρ').map _ = _
  rw [hp.mono l e1, ← e]
  rfl⟩
instance : MX yYes := ⟨fun l e => e⟩
instance [MX fs] : MX (xRng1 fs) := mx_bind' ‹_›
instance [MX fs] : MX (xRng2 fs) := mx_bind' ‹_›
instance [MX f] : MX (xIt f) := mx_bind' ‹_›
instance [MX f] : MX (xEn f) := mx_bind' ‹_›
instance [hf : MX f] [hg : MX g] [hh : MX h] : MX (xGet2 f g h) := ⟨fun {ρ ρ' d} l e => by
  obtain ⟨x, e1, e⟩ := obind e
  obtain ⟨y, e2, e⟩ := obind e
  obtain ⟨z, e3, e⟩ := obind e
  show (f ρ').bind _ = _
  rw [hf.mono l e1, Option.bind_some, hg.mono l e2, Option.bind_some, hh.mono l e3]
  exact e⟩
instance : MX (optI none) := ⟨fun l e => e⟩
instance [MX f] : MX (optI (some f)) := mx_bind' ‹_›
instance {lo hi : Option EX} [hf : MX f] [hg : MX (optI lo)] [hh : MX (optI hi)] : MX (xCut f lo hi) := ⟨fun {ρ ρ' d} l e => by
  obtain ⟨x, e1, e⟩ := obind e
  obtain ⟨y, e2, e⟩ := obind e
  obtain ⟨z, e3, e⟩ := obind e
  show (f ρ').bind _ = _
  rw [hf.mono l e1, Option.bind_some, hg.mono l e2, Option.bind_some, hh.mono l e3]
  exact e⟩
theorem comp_mono (hg : MG gx) (hq : MX q) (he : MX e) {ρ ρ' : Env} (l : Le ρ ρ') : ∀ {ds ys : List D}, compE gx q e ρ ds = some ys → compE gx q e ρ' ds = some ys
  | [], _, h => h
  | d :: ds, ys, h => by
    rw [compE] at h ⊢
    obtain ⟨ρ1, e1, h⟩ := obind h
    obtain ⟨_, ρ2, e2, l2⟩ := hg.mono l e1
    obtain ⟨b, e3, h⟩ := obind h
    rw [e2, Option.bind_some, hq.mono l2 e3, Option.bind_some]
    cases b with
    | true =>
      obtain ⟨y, e4, h⟩ := obind h
      obtain ⟨zs, e5, h⟩ := obind h
      show (e ρ2).bind _ = _
      rw [he.mono l2 e4, Option.bind_some, comp_mono hg hq he l e5]
      exact h
    | false => exact comp_mono hg hq he l h
instance {vs : List Nat} [hs : MX src] [hg : MG gx] [hq : MX q] [he : MX e] : MX (xComp vs src gx q e) := ⟨fun {ρ ρ' d} l z => by
  obtain ⟨its, e1, z⟩ := obind z
  obtain ⟨ys, e2, z⟩ := obind z
  show (src ρ').bind _ = _
  rw [hs.mono l e1, Option.bind_some, comp_mono hg hq he (l.wipes vs) e2]
  exact z⟩
theorem plainAt_mono {vs : List Nat} {ρ ρ' : Env} (l : ∀ v ∈ vs, ρ[v]? = ρ'[v]?) (h : plainAt vs ρ = true) : plainAt vs ρ' = true := by
  unfold plainAt at h ⊢
  rw [List.all_eq_true] at h ⊢
  intro v hv
  have := h v hv
  rw [l v hv] at this
  exact this
theorem wipe_same {ρ ρ' : Env} (hl : ρ.length = ρ'.length) : ∀ {vs : List Nat} {v : Nat}, v ∈ vs → (wipeE ρ vs)[v]? = (wipeE ρ' vs)[v]?
  | [], _, h => by cases h
  | u :: vs, v, h => by
    by_cases e : u = v
    · subst e
      show ((wipeE ρ vs).set u none)[u]? = ((wipeE ρ' vs).set u none)[u]?
      by_cases hu : u < ρ.length
      · rw [List.getElem?_set_self (by rw [wipe_len]; exact hu), List.getElem?_set_self (by rw [wipe_len]; omega)]
      · rw [List.getElem?_eq_none (by rw [List.length_set, wipe_len]; omega), List.getElem?_eq_none (by rw [List.length_set, wipe_len]; omega)]
    · show ((wipeE ρ vs).set u none)[v]? = ((wipeE ρ' vs).set u none)[v]?
      rw [List.getElem?_set_ne e, List.getElem?_set_ne e]
      exact wipe_same hl ((List.mem_cons.mp h).resolve_left (fun z => e z.symm))
/-- what is alike stays alike -/
class GE {α : Type} (g : α → Env → Option Env) : Prop where
  keep : ∀ {ρ ρ' : Env} {d : α} {ρ1 ρ2 : Env}, g d ρ = some ρ1 → g d ρ' = some ρ2 → ∀ i : Nat, ρ[i]? = ρ'[i]? → ρ1[i]? = ρ2[i]?
instance {i : Nat} : GE (putB i) := ⟨fun {ρ ρ' d ρ1 ρ2} h h' j e => by
  unfold putB at h h'
  split at h
  · split at h'
    · cases h
      cases h'
      by_cases z : i = j
      · subst z
        rw [List.getElem?_set_self (by assumption), List.getElem?_set_self (by assumption)]
      · rw [List.getElem?_set_ne z, List.getElem?_set_ne z]
        exact e
    · cases h'
  · cases h⟩
instance : GE gsNil := ⟨fun {ρ ρ' d ρ1 ρ2} h h' j e => by
  cases d with
  | nil => cases h; cases h'; exact e
  | cons _ _ => cases h⟩
instance {g : GX} {gs : GXs} [hg : GE g] [hs : GE gs] : GE (gsCons g gs) := ⟨fun {ρ ρ' d ρ1 ρ2} h h' j e => by
  cases d with
  | nil => cases h
  | cons d ds =>
    obtain ⟨σ, e1, h⟩ := obind h
    obtain ⟨σ', e2, h'⟩ := obind h'
    exact hs.keep h h' j (hg.keep e1 e2 j e)⟩
instance {n : Nat} {gs : GXs} [hs : GE gs] : GE (gTupD n gs) := ⟨fun {ρ ρ' d ρ1 ρ2} h h' j e => by
  cases d with
  | tup ds =>
    have h : (if ds.length = n then gs ds ρ else none) = some ρ1 := h
    have h' : (if ds.length = n then gs ds ρ' else none) = some ρ2 := h'
    split at h
    · rename_i z
      rw [if_pos z] at h'
      exact hs.keep h h' j e
    · cases h
  | ctp ds =>
    have h : (if ds.length = n then gs ds ρ else none) = some ρ1 := h
    have h' : (if ds.length = n then gs ds ρ' else none) = some ρ2 := h'
    split at h
    · rename_i z
      rw [if_pos z] at h'
      exact hs.keep h h' j e
    · cases h
  | _ => cases h⟩
theorem comp2_mono {vs vs1 : List Nat} {src1 : IX} {q1 : QX} (hg : MG gx) (ge : GE gx) (hq : MX q) (hs1 : MX src1) (hg1 : MG gx1) (hq1 : MX q1) (he : MX e) {ρ ρ' : Env} (l : Le ρ ρ') (lv : ∀ v ∈ vs, ρ[v]? = ρ'[v]?) : ∀ {ds ys : List D}, comp2E vs vs1 gx q src1 gx1 q1 e ρ ds = some ys → comp2E vs vs1 gx q src1 gx1 q1 e ρ' ds = some ys
  | [], _, h => h
  | d :: ds, ys, h => by
    rw [comp2E] at h ⊢
    obtain ⟨ρ1, e1, h⟩ := obind h
    obtain ⟨_, ρ2, e2, l2⟩ := hg.mono l e1
    rw [e2, Option.bind_some]
    split at h
    · rename_i pa
      rw [if_pos (plainAt_mono (fun v hv => ge.keep e1 e2 v (lv v hv)) pa)]
      obtain ⟨b, e3, h⟩ := obind h
      rw [hq.mono l2 e3, Option.bind_some]
      cases b with
      | true =>
        obtain ⟨its, e4, h⟩ := obind h
        obtain ⟨zs, e5, h⟩ := obind h
        show (src1 ρ2).bind _ = _
        rw [hs1.mono l2 e4, Option.bind_some, comp_mono hg1 hq1 he (l2.wipes vs1) e5, Option.bind_some]
        split at h
        · rename_i pz
          obtain ⟨us, e6, h⟩ := obind h
          rw [if_pos pz, comp2_mono hg ge hq hs1 hg1 hq1 he l lv e6]
          exact h
        · cases h
      | false => exact comp2_mono hg ge hq hs1 hg1 hq1 he l lv h
    · cases h
instance {vs vs1 : List Nat} {src1 : IX} {q1 : QX} [hs : MX src] [hg : MG gx] [ge : GE gx] [hq : MX q] [hs1 : MX src1] [hg1 : MG gx1] [hq1 : MX q1] [he : MX e] : MX (xComp2 vs vs1 src gx q src1 gx1 q1 e) := ⟨fun {ρ ρ' d} l z => by
  obtain ⟨its, e1, z⟩ := obind z
  obtain ⟨ys, e2, z⟩ := obind z
  show (src ρ').bind _ = _
  rw [hs.mono l e1, Option.bind_some, comp2_mono hg ge hq hs1 hg1 hq1 he (l.wipes vs) (fun v hv => wipe_same l.len hv) e2]
  exact z⟩
theorem dict_mono {fk fe : EX} (hg : MG gx) (hq : MX q) (hk : MX fk) (he : MX fe) {ρ ρ' : Env} (l : Le ρ ρ') : ∀ {ds : List D} {ks : List (List Key)} {xs : List D} {r}, dictE gx q fk fe ρ ds ks xs = some r → dictE gx q fk fe ρ' ds ks xs = some r
  | [], _, _, _, h => h
  | d :: ds, ks, xs, r, h => by
    rw [dictE] at h ⊢
    obtain ⟨ρ1, e1, h⟩ := obind h
    obtain ⟨_, ρ2, e2, l2⟩ := hg.mono l e1
    obtain ⟨b, e3, h⟩ := obind h
    rw [e2, Option.bind_some, hq.mono l2 e3, Option.bind_some]
    cases b with
    | true =>
      obtain ⟨y, e4, h⟩ := obind h
      obtain ⟨kk, e5, h⟩ := obind h
      obtain ⟨w, e6, h⟩ := obind h
      show (fk ρ2).bind _ = _
      rw [hk.mono l2 e4, Option.bind_some, e5, Option.bind_some, he.mono l2 e6, Option.bind_some]
      split at h
      · rename_i pw
        rw [if_pos pw]
        split at h
        · rename_i pl
          rw [if_pos pl]
          exact dict_mono hg hq hk he l h
        · cases h
      · cases h
    | false => exact dict_mono hg hq hk he l h
instance {vs : List Nat} {fk fe : EX} [hs : MX src] [hg : MG gx] [hq : MX q] [hk : MX fk] [he : MX fe] : MX (xDict vs src gx q fk fe) := ⟨fun {ρ ρ' d} l z => by
  obtain ⟨its, e1, z⟩ := obind z
  obtain ⟨ys, e2, z⟩ := obind z
  show (src ρ').bind _ = _
  rw [hs.mono l e1, Option.bind_some, dict_mono hg hq hk he (l.wipes vs) e2]
  exact z⟩
end
end DL
namespace DL
open PySem PySem.Spec L2
section
variable {f g h : EX} {fs : EXs} {p q : QX} {src : IX} {gx gx1 : GX} {gs : GXs} {e m m1 m2 : EM} {ms : EMs} {t t1 t2 : ET} {i j l : Nat} {isrc : IM} {a b : ES}
/-! ### values on their way -/
theorem mm_x {α : Type} {f : Env → Option α} (hf : MX f) : MM fun ρ => (f ρ).bind fun d => some (d, ρ) := ⟨fun {ρ ρ' d ρ1} l z => by
  obtain ⟨x, e1, z⟩ := obind z
  cases z
  refine ⟨rfl, ρ', ?_, l⟩
  show (f ρ').bind _ = _
  rw [hf.mono l e1]
  rfl⟩
theorem mm_k {α β : Type} {f : Env → Option (α × Env)} {k : α → Option β} (hf : MM f) : MM fun ρ => (f ρ).bind fun x => (k x.1).bind fun y => some (y, x.2) := ⟨fun {ρ ρ' d ρ1} l z => by
  obtain ⟨x, e1, z⟩ := obind z
  obtain ⟨y, e2, z⟩ := obind z
  cases z
  obtain ⟨n, ρ2, e3, l2⟩ := hf.mono l e1
  refine ⟨n, ρ2, ?_, l2⟩
  show (f ρ').bind _ = _
  rw [e3]
  show (k x.1).bind _ = _
  rw [e2]
  rfl⟩
theorem mm_of {α : Type} {f g : Env → Option (α × Env)} (hf : MM f) (h : ∀ ρ, g ρ = f ρ) : MM g := by
  have : g = f := funext h
  rw [this]
  exact hf
instance [hf : MX f] : MM (mP f) := mm_x hf
instance : MM (mMove i) := ⟨fun {ρ ρ' d ρ1} l z => by
  unfold mMove at z ⊢
  split at z
  · rename_i q
    cases z
    rw [l.get q]
    exact ⟨List.length_set .., _, rfl, l.set' i none⟩
  · cases z⟩
instance : MM msNil := ⟨fun {ρ ρ' d ρ1} l z => by
  cases z
  exact ⟨rfl, ρ', rfl, l⟩⟩
instance [hm : MM m] [hs : MM ms] : MM (msCons m ms) := ⟨fun {ρ ρ' d ρ1} l z => by
  obtain ⟨x, e1, z⟩ := obind z
  obtain ⟨y, e2, z⟩ := obind z
  cases z
  obtain ⟨n, ρ2, e3, l2⟩ := hm.mono l e1
  obtain ⟨n2, ρ3, e4, l3⟩ := hs.mono l2 e2
  refine ⟨n2.trans n, ρ3, ?_, l3⟩
  show (m ρ').bind _ = _
  rw [e3, Option.bind_some, e4]
  rfl⟩
instance [hs : MM ms] : MM (mTup ms) := mm_of (mm_k (k := fun xs : List D => if xs.length ≤ sizeLine then some (D.tup xs) else none) hs) fun ρ => by
  unfold mTup
  cases ms ρ with
  | none => rfl
  | some x =>
    show (if _ then _ else _) = (if _ then _ else _ : Option D).bind _
    split <;> rfl
instance [hs : MM ms] : MM (mLst ms) := mm_of (mm_k (k := fun xs : List D => if xs.length ≤ sizeLine then some (D.lst xs) else none) hs) fun ρ => by
  unfold mLst
  cases ms ρ with
  | none => rfl
  | some x =>
    show (if _ then _ else _) = (if _ then _ else _ : Option D).bind _
    split <;> rfl
instance {o : D → D → Option D} [h1 : MM m1] [h2 : MM m2] : MM (mOp o m1 m2) := ⟨fun {ρ ρ' d ρ1} l z => by
  obtain ⟨x, e1, z⟩ := obind z
  obtain ⟨n, ρ2, e3, l2⟩ := h1.mono l e1
  split at z
  · rename_i px
    obtain ⟨y, e2, z⟩ := obind z
    obtain ⟨w, e4, z⟩ := obind z
    cases z
    obtain ⟨n2, ρ3, e5, l3⟩ := h2.mono l2 e2
    refine ⟨n2.trans n, ρ3, ?_, l3⟩
    show (m1 ρ').bind _ = _
    rw [e3, Option.bind_some, if_pos px]
    show (m2 ρ2).bind _ = _
    rw [e5, Option.bind_some, e4]
    rfl
  · cases z⟩
instance [hp : MX p] : MM (tP' p) := mm_x hp
instance [hm : MM m] : MM (mBool m) := mm_of (mm_k (k := fun d : D => match d with | .bl k => some k | _ => none) hm) fun ρ => by
  unfold mBool
  cases m ρ with
  | none => rfl
  | some x =>
    obtain ⟨d, ρ1⟩ := x
    cases d <;> rfl
instance [ht : MM t] : MM (mNotT t) := mm_of (mm_k (k := fun d : Bool => some (!d)) ht) fun ρ => rfl
instance [ht : MM t] [h1 : MM m1] [h2 : MM m2] : MM (mIf t m1 m2) := ⟨fun {ρ ρ' d ρ1} l z => by
  obtain ⟨⟨k, ρ0⟩, e1, z⟩ := obind z
  obtain ⟨n, ρ2, e3, l2⟩ := ht.mono l e1
  cases k with
  | true =>
    obtain ⟨n2, ρ3, e5, l3⟩ := h1.mono l2 z
    refine ⟨n2.trans n, ρ3, ?_, l3⟩
    show (t ρ').bind _ = _
    rw [e3]
    exact e5
  | false =>
    obtain ⟨n2, ρ3, e5, l3⟩ := h2.mono l2 z
    refine ⟨n2.trans n, ρ3, ?_, l3⟩
    show (t ρ').bind _ = _
    rw [e3]
    exact e5⟩
instance [h1 : MM t1] [h2 : MM t2] : MM (tAndT t1 t2) := ⟨fun {ρ ρ' d ρ1} l z => by
  obtain ⟨⟨k, ρ0⟩, e1, z⟩ := obind z
  obtain ⟨n, ρ2, e3, l2⟩ := h1.mono l e1
  cases k with
  | true =>
    obtain ⟨n2, ρ3, e5, l3⟩ := h2.mono l2 z
    refine ⟨n2.trans n, ρ3, ?_, l3⟩
    show (t1 ρ').bind _ = _
    rw [e3]
    exact e5
  | false =>
    cases z
    refine ⟨n, ρ2, ?_, l2⟩
    show (t1 ρ').bind _ = _
    rw [e3]
    rfl⟩
instance [h1 : MM t1] [h2 : MM t2] : MM (tOrT t1 t2) := ⟨fun {ρ ρ' d ρ1} l z => by
  obtain ⟨⟨k, ρ0⟩, e1, z⟩ := obind z
  obtain ⟨n, ρ2, e3, l2⟩ := h1.mono l e1
  cases k with
  | false =>
    obtain ⟨n2, ρ3, e5, l3⟩ := h2.mono l2 z
    refine ⟨n2.trans n, ρ3, ?_, l3⟩
    show (t1 ρ').bind _ = _
    rw [e3]
    exact e5
  | true =>
    cases z
    refine ⟨n, ρ2, ?_, l2⟩
    show (t1 ρ').bind _ = _
    rw [e3]
    rfl⟩
instance {o : List D → Option D} [hs : MM ms] : MM (mCall o ms) := mm_k (k := o) hs
instance [hs : MM ms] : MM (mDisp ms) := mm_k (k := fun xs => dispD xs [] []) hs
theorem x_var {ρ ρ' : Env} {d : D} (l : Le ρ ρ') (z : xVar i ρ = some d) : xVar i ρ' = some d := MX.mono l z
theorem own_mono {ρ ρ' : Env} {x : Fl × D} (l : Le ρ ρ') (z : ownAt i ρ = some x) : ownAt i ρ' = some x := by
  unfold ownAt at z ⊢
  split at z
  · rename_i q
    rw [l.get q]
    exact z
  · cases z
instance {o : D → D → Option D} [h2 : MM m2] : MM (mOpV o i m2) := ⟨fun {ρ ρ' d ρ1} l z => by
  obtain ⟨x, e1, z⟩ := obind z
  obtain ⟨y, e2, z⟩ := obind z
  obtain ⟨u, e3, z⟩ := obind z
  obtain ⟨w, e4, z⟩ := obind z
  cases z
  obtain ⟨n, ρ2, e5, l2⟩ := h2.mono l e2
  refine ⟨n, ρ2, ?_, l2⟩
  show (xVar i ρ').bind _ = _
  rw [x_var l e1, Option.bind_some, e5, Option.bind_some]
  show (xVar i ρ2).bind _ = _
  rw [x_var l2 e3, Option.bind_some]
  show (o u y.1).bind _ = _
  rw [e4]
  rfl⟩
instance [h2 : MM m2] : MM (mIxV i m2) := ⟨fun {ρ ρ' d ρ1} l z => by
  obtain ⟨x, e1, z⟩ := obind z
  obtain ⟨y, e2, z⟩ := obind z
  obtain ⟨u, e3, z⟩ := obind z
  obtain ⟨w, e4, z⟩ := obind z
  obtain ⟨n, ρ2, e5, l2⟩ := h2.mono l e2
  split at z
  · rename_i pw
    cases z
    refine ⟨n, ρ2, ?_, l2⟩
    show (xVar i ρ').bind _ = _
    rw [x_var l e1, Option.bind_some, e5, Option.bind_some]
    show (xVar i ρ2).bind _ = _
    rw [x_var l2 e3, Option.bind_some]
    show (ixD u y.1).bind _ = _
    rw [e4, Option.bind_some, if_pos pw]
  · cases z⟩
instance {F : D → List D → Option (D × D)} [hs : MM ms] : MM (mCallR F i ms) := ⟨fun {ρ ρ' d ρ1} l z => by
  obtain ⟨x, e1, z⟩ := obind z
  obtain ⟨⟨y, ρ0⟩, e2, z⟩ := obind z
  obtain ⟨n, ρ2, e5, l2⟩ := hs.mono l e2
  cases q : ρ0[i]? with
  | none => simp only [q] at z; cases z
  | some s =>
    simp only [q] at z
    cases s with
    | none => cases z
    | some s =>
      obtain ⟨md, d0⟩ := s
      have z : (if md = Fl.bor then none else (F d0 y).bind fun y => some (y.1, ρ0.set i (some (md, y.2)))) = some (d, ρ1) := z
      by_cases nb : md = Fl.bor
      · rw [if_pos nb] at z; cases z
      · rw [if_neg nb] at z
        obtain ⟨w, e4, z⟩ := obind z
        cases z
        refine ⟨(List.length_set ..).trans n, ρ2.set i (some (md, w.2)), ?_, l2.set' i _⟩
        show (xVar i ρ').bind _ = _
        rw [x_var l e1, Option.bind_some, e5, Option.bind_some]
        simp only [l2.get q]
        rw [if_neg nb, e4]
        rfl⟩
instance {F : D → List D → Option (D × D)} : MM (mCallRv F i j) := ⟨fun {ρ ρ' d ρ1} l z => by
  obtain ⟨x, e1, z⟩ := obind z
  cases q : ρ[i]? with
  | none => simp only [q] at z; cases z
  | some s =>
    simp only [q] at z
    cases s with
    | none => cases z
    | some s =>
      obtain ⟨md, d0⟩ := s
      have z : (if md = Fl.bor ∨ i = j then none else (F d0 [x]).bind fun y => some (y.1, ρ.set i (some (md, y.2)))) = some (d, ρ1) := z
      by_cases nb : md = Fl.bor ∨ i = j
      · rw [if_pos nb] at z; cases z
      · rw [if_neg nb] at z
        obtain ⟨w, e4, z⟩ := obind z
        cases z
        refine ⟨List.length_set .., ρ'.set i (some (md, w.2)), ?_, l.set' i _⟩
        show (xVar j ρ').bind _ = _
        rw [x_var l e1, Option.bind_some]
        simp only [l.get q]
        rw [if_neg nb, e4]
        rfl⟩
instance {ty : D → Bool} {o : D → List D → Option (D × D)} [hs : MM ms] : MM (mMut ty o i ms) := ⟨fun {ρ ρ' d ρ1} l z => by
  obtain ⟨x, e1, z⟩ := obind z
  split at z
  · rename_i tx
    obtain ⟨y, e2, z⟩ := obind z
    obtain ⟨u, e3, z⟩ := obind z
    obtain ⟨w, e4, z⟩ := obind z
    cases z
    obtain ⟨n, ρ2, e5, l2⟩ := hs.mono l e2
    refine ⟨(List.length_set ..).trans n, ρ2.set i (some (u.1, w.2)), ?_, l2.set' i _⟩
    show (ownAt i ρ').bind _ = _
    rw [own_mono l e1, Option.bind_some, if_pos tx]
    show (ms ρ').bind _ = _
    rw [e5, Option.bind_some]
    show (ownAt i ρ2).bind _ = _
    rw [own_mono l2 e3, Option.bind_some]
    show (o u.2 y.1).bind _ = _
    rw [e4]
    rfl
  · cases z⟩
/-! ### targets -/
instance : MG (put i) := ⟨fun {ρ ρ' d ρ1} l z => by
  unfold put at z ⊢
  rcases l.at i with ⟨q, _⟩ | ⟨s, t, q, q2, ls⟩
  · simp only [q] at z; cases z
  · have np : isPin s = false ∧ ρ1 = ρ.set i (some (.own, d)) := by
      simp only [q] at z
      cases s with
      | none => cases z; exact ⟨rfl, rfl⟩
      | some s =>
        obtain ⟨md, d0⟩ := s
        cases md <;> first | (cases z; done) | (cases z; exact ⟨rfl, rfl⟩)
    obtain ⟨np, rfl⟩ := np
    refine ⟨List.length_set .., ρ'.set i (some (.own, d)), ?_, l.set' i _⟩
    have nt : isPin t = false := by
      rcases ls with rfl | ⟨_, ls⟩
      · exact np
      · exact ls
    simp only [q2]
    cases t with
    | none => rfl
    | some t =>
      obtain ⟨md, d0⟩ := t
      cases md
      · rfl
      · rfl
      · cases nt
      · cases nt⟩
instance : MG (putB i) := ⟨fun {ρ ρ' d ρ1} l z => by
  unfold putB at z ⊢
  split at z
  · rename_i hi
    cases z
    rw [if_pos (by rw [← l.len]; exact hi)]
    exact ⟨List.length_set .., _, rfl, l.set' i _⟩
  · cases z⟩
instance : MG gsNil := ⟨fun {ρ ρ' d ρ1} l z => by
  cases d with
  | nil => cases z; exact ⟨rfl, ρ', rfl, l⟩
  | cons _ _ => cases z⟩
instance {g : GX} [hg : MG g] [hs : MG gs] : MG (gsCons g gs) := ⟨fun {ρ ρ' d ρ1} l z => by
  cases d with
  | nil => cases z
  | cons d ds =>
    obtain ⟨ρ2, e1, z⟩ := obind z
    obtain ⟨n, ρ3, e2, l2⟩ := hg.mono l e1
    obtain ⟨n2, ρ4, e3, l3⟩ := hs.mono l2 z
    refine ⟨n2.trans n, ρ4, ?_, l3⟩
    show (g d ρ').bind _ = _
    rw [e2]
    exact e3⟩
instance {n : Nat} [hs : MG gs] : MG (gTupD n gs) := ⟨fun {ρ ρ' d ρ1} l z => by
  cases d with
  | tup ds =>
    have z : (if ds.length = n then gs ds ρ else none) = some ρ1 := z
    show _ ∧ ∃ ρ2, (if ds.length = n then gs ds ρ' else none) = _ ∧ _
    split at z
    · rename_i h
      rw [if_pos h]
      exact hs.mono l z
    · cases z
  | ctp ds =>
    have z : (if ds.length = n then gs ds ρ else none) = some ρ1 := z
    show _ ∧ ∃ ρ2, (if ds.length = n then gs ds ρ' else none) = _ ∧ _
    split at z
    · rename_i h
      rw [if_pos h]
      exact hs.mono l z
    · cases z
  | _ => cases z⟩
instance {ix : EX} {o : D → D → D → Option D} [hx : MX ix] : MG (gSub' i ix o) := ⟨fun {ρ ρ' d ρ1} l z => by
  obtain ⟨x, e1, z⟩ := obind z
  obtain ⟨k, e2, z⟩ := obind z
  obtain ⟨w, e3, z⟩ := obind z
  cases z
  refine ⟨List.length_set .., ρ'.set i (some (x.1, w)), ?_, l.set' i _⟩
  show (ownAt i ρ').bind _ = _
  rw [own_mono l e1, Option.bind_some, hx.mono l e2, Option.bind_some, e3]
  rfl⟩
instance {ix : EM} {o : D → D → D → Option D} [hx : MM ix] : MG (gSubM i ix o) := ⟨fun {ρ ρ' d ρ1} l z => by
  obtain ⟨x, e1, z⟩ := obind z
  obtain ⟨k, e2, z⟩ := obind z
  obtain ⟨u, e3, z⟩ := obind z
  obtain ⟨w, e4, z⟩ := obind z
  cases z
  obtain ⟨n, ρ2, e5, l2⟩ := hx.mono l e2
  refine ⟨(List.length_set ..).trans n, ρ2.set i (some (u.1, w)), ?_, l2.set' i _⟩
  show (ownAt i ρ').bind _ = _
  rw [own_mono l e1, Option.bind_some, e5, Option.bind_some]
  show (ownAt i ρ2).bind _ = _
  rw [own_mono l2 e3, Option.bind_some, e4]
  rfl⟩
/-! ### what is walked -/
instance [hs : MX src] : MM (iP src) := mm_x hs
instance [hs : MM ms] : MM (mRng1 ms) := mm_of (mm_k (k := fun xs : List D => match xs with | [.int j] => if rOk j = true then some (rng 0 j) else none | _ => none) hs) fun ρ => by
  unfold mRng1
  cases ms ρ with
  | none => rfl
  | some x =>
    obtain ⟨ds, ρ1⟩ := x
    show (match ds with | [.int j] => if rOk j = true then some (rng 0 j, ρ1) else none | _ => none) = (match ds with | [.int j] => if rOk j = true then some (rng 0 j) else none | _ => none : Option (List D)).bind _
    split
    · split <;> rfl
    · rfl
instance : MM (srcB i) := ⟨fun {ρ ρ' d ρ1} l z => by
  unfold srcB at z ⊢
  split at z
  · rename_i q
    obtain ⟨its, e1, z⟩ := obind z
    cases z
    refine ⟨rfl, ρ', ?_, l⟩
    rw [l.get q]
    show (itemsOf _).bind _ = _
    rw [e1]
    rfl
  · cases z⟩
theorem compM_mono {gx : GX} {t : ET} {e : EM} {vs : List Nat} (hg : MG gx) (ht : MM t) (he : MM e) : ∀ {ds ys : List D} {ρ ρ' ρ1 : Env}, Le ρ ρ' → compM gx t e vs ds ρ = some (ys, ρ1) → ρ1.length = ρ.length ∧ ∃ ρ2, compM gx t e vs ds ρ' = some (ys, ρ2) ∧ Le ρ1 ρ2
  | [], ys, ρ, ρ', ρ1, l, z => by
    cases z
    exact ⟨rfl, ρ', rfl, l⟩
  | d :: ds, ys, ρ, ρ', ρ1, l, z => by
    rw [compM] at z ⊢
    split at z
    · rename_i pd
      rw [if_pos pd]
      obtain ⟨ρ2, e1, z⟩ := obind z
      obtain ⟨n1, σ2, f1, l1⟩ := hg.mono l e1
      obtain ⟨⟨b, ρ3⟩, e2, z⟩ := obind z
      obtain ⟨n2, σ3, f2, l2⟩ := ht.mono l1 e2
      rw [f1, Option.bind_some, f2, Option.bind_some]
      cases b with
      | true =>
        obtain ⟨⟨y, ρ4⟩, e3, z⟩ := obind z
        obtain ⟨n3, σ4, f3, l3⟩ := he.mono l2 e3
        show _ ∧ ∃ ρ2, (e σ3).bind _ = _ ∧ _
        rw [f3, Option.bind_some]
        split at z
        · rename_i py
          rw [if_pos py]
          obtain ⟨⟨us, ρ5⟩, e4, z⟩ := obind z
          obtain ⟨n4, σ5, f4, l4⟩ := compM_mono hg ht he (l3.wipes vs) e4
          cases z
          refine ⟨by rw [n4, wipe_len, n3, n2, n1], σ5, ?_, l4⟩
          show (compM gx t e vs ds (wipeE σ4 vs)).bind _ = _
          rw [f4]
          rfl
        · cases z
      | false =>
        obtain ⟨n4, σ5, f4, l4⟩ := compM_mono hg ht he (l2.wipes vs) z
        exact ⟨by rw [n4, wipe_len, n2, n1], σ5, f4, l4⟩
    · cases z
instance {vs : List Nat} [hs : MM isrc] [hg : MG gx] [ht : MM t] [he : MM e] : MM (mComp vs isrc gx t e) := ⟨fun {ρ ρ' d ρ1} l z => by
  obtain ⟨⟨its, ρ2⟩, e1, z⟩ := obind z
  obtain ⟨n1, σ2, f1, l1⟩ := hs.mono l e1
  obtain ⟨⟨ys, ρ3⟩, e2, z⟩ := obind z
  obtain ⟨n2, σ3, f2, l2⟩ := compM_mono hg ht he (l1.wipes vs) e2
  split at z
  · rename_i hl
    cases z
    refine ⟨by rw [n2, wipe_len, n1], σ3, ?_, l2⟩
    show (isrc ρ').bind _ = _
    rw [f1, Option.bind_some, f2, Option.bind_some, if_pos hl]
  · cases z⟩
/-! ### statements -/
instance : MS sNext := ⟨fun {ρ ρ' o} l z => by cases z; exact ⟨rfl, _, rfl, l⟩⟩
instance : MS sBreak := ⟨fun {ρ ρ' o} l z => by cases z; exact ⟨rfl, _, rfl, l⟩⟩
instance : MS sCont := ⟨fun {ρ ρ' o} l z => by cases z; exact ⟨rfl, _, rfl, l⟩⟩
instance : MS sNever := ⟨fun {ρ ρ' o} l z => by cases z⟩
instance : MS sRetN := ⟨fun {ρ ρ' o} l z => by cases z; exact ⟨rfl, _, rfl, rfl, l⟩⟩
instance [hm : MM m] : MS (sRet m) := ⟨fun {ρ ρ' o} l z => by
  obtain ⟨x, e1, z⟩ := obind z
  cases z
  obtain ⟨n, ρ2, e2, l2⟩ := hm.mono l e1
  refine ⟨n, .rt x.1 ρ2, ?_, rfl, l2⟩
  show (m ρ').bind _ = _
  rw [e2]
  rfl⟩
instance [hm : MM m] : MS (sDrop m) := ⟨fun {ρ ρ' o} l z => by
  obtain ⟨x, e1, z⟩ := obind z
  cases z
  obtain ⟨n, ρ2, e2, l2⟩ := hm.mono l e1
  refine ⟨n, .nx ρ2, ?_, l2⟩
  show (m ρ').bind _ = _
  rw [e2]
  rfl⟩
instance [hm : MM m] [hg : MG gx] : MS (sAsg m gx) := ⟨fun {ρ ρ' o} l z => by
  obtain ⟨x, e1, z⟩ := obind z
  obtain ⟨ρ3, e3, z⟩ := obind z
  cases z
  obtain ⟨n, ρ2, e2, l2⟩ := hm.mono l e1
  obtain ⟨n2, ρ4, e4, l3⟩ := hg.mono l2 e3
  refine ⟨n2.trans n, .nx ρ4, ?_, l3⟩
  show (m ρ').bind _ = _
  rw [e2, Option.bind_some]
  show (gx x.1 ρ2).bind _ = _
  rw [e4]
  rfl⟩
instance [hm : MM ms] : MS (sPar i j ms) := ⟨fun {ρ ρ' o} l z => by
  obtain ⟨⟨ds, ρ1⟩, e1, z⟩ := obind z
  obtain ⟨n, ρ2, e2, l2⟩ := hm.mono l e1
  unfold sPar
  rw [e2, Option.bind_some]
  match ds, z with
  | [d, e], z =>
    obtain ⟨ρ3, e3, z⟩ := obind z
    obtain ⟨ρ4, e4, z⟩ := obind z
    cases z
    obtain ⟨n2, σ3, f3, l3⟩ := MG.mono (g := put i) l2 e3
    obtain ⟨n3, σ4, f4, l4⟩ := MG.mono (g := put j) l3 e4
    refine ⟨n3.trans (n2.trans n), .nx σ4, ?_, l4⟩
    show (put i d ρ2).bind _ = _
    rw [f3, Option.bind_some, f4]
    rfl
  | [], z => cases z
  | [_], z => cases z
  | _ :: _ :: _ :: _, z => cases z⟩
instance {o : D → D → Option D} [hm : MM m] : MS (sAug i o m) := ⟨fun {ρ ρ' o'} l z => by
  obtain ⟨x, e1, z⟩ := obind z
  obtain ⟨y, e2, z⟩ := obind z
  obtain ⟨w, e3, z⟩ := obind z
  obtain ⟨ρ2, e4, z⟩ := obind z
  cases z
  obtain ⟨n, ρ3, f2, l2⟩ := hm.mono l e2
  obtain ⟨n2, ρ4, f4, l3⟩ := MG.mono (g := put i) l2 e4
  refine ⟨n2.trans n, .nx ρ4, ?_, l3⟩
  show (xPure (xVar i) ρ').bind _ = _
  rw [MX.mono l e1, Option.bind_some, f2, Option.bind_some, e3, Option.bind_some]
  show (put i w ρ3).bind _ = _
  rw [f4]
  rfl⟩
instance {ix e : EX} {gt o : D → D → Option D} {st : D → D → D → Option D} [hx : MX ix] [he : MX e] : MS (sAugS i ix gt o e st) := ⟨fun {ρ ρ' o'} l z => by
  obtain ⟨x, e1, z⟩ := obind z
  obtain ⟨y, e2, z⟩ := obind z
  obtain ⟨w, e3, z⟩ := obind z
  split at z
  · rename_i pw
    obtain ⟨u, e4, z⟩ := obind z
    obtain ⟨v, e5, z⟩ := obind z
    split at z
    · rename_i pv
      obtain ⟨d', e6, z⟩ := obind z
      cases z
      refine ⟨List.length_set .., .nx (ρ'.set i (some (x.1, d'))), ?_, l.set' i _⟩
      show (ownAt i ρ').bind _ = _
      rw [own_mono l e1, Option.bind_some, hx.mono l e2, Option.bind_some, e3, Option.bind_some, if_pos pw, he.mono l e4, Option.bind_some, e5, Option.bind_some, if_pos pv, e6]
      rfl
    · cases z
  · cases z⟩
instance [ha : MS a] [hb : MS b] : MS (sSeq a b) := ⟨fun {ρ ρ' o} l z => by
  obtain ⟨x, e1, z⟩ := obind z
  obtain ⟨n, y, e2, l2⟩ := ha.mono l e1
  unfold sSeq
  rw [e2, Option.bind_some]
  cases x with
  | nx ρ1 =>
    cases y with
    | nx ρ2 =>
      obtain ⟨n2, w, e3, l3⟩ := hb.mono (show Le ρ1 ρ2 from l2) z
      exact ⟨n2.trans n, w, e3, l3⟩
    | _ => exact l2.elim
  | bk ρ1 =>
    cases z
    cases y with
    | bk ρ2 => exact ⟨n, _, rfl, l2⟩
    | _ => exact l2.elim
  | ct ρ1 =>
    cases z
    cases y with
    | ct ρ2 => exact ⟨n, _, rfl, l2⟩
    | _ => exact l2.elim
  | rt d ρ1 =>
    cases z
    cases y with
    | rt d2 ρ2 => exact ⟨n, _, rfl, l2⟩
    | _ => exact l2.elim⟩
instance [ht : MM t] [ha : MS a] [hb : MS b] : MS (sIf t a b) := ⟨fun {ρ ρ' o} l z => by
  obtain ⟨⟨k, ρ1⟩, e1, z⟩ := obind z
  obtain ⟨n, ρ2, e2, l2⟩ := ht.mono l e1
  unfold sIf
  rw [e2, Option.bind_some]
  cases k with
  | true =>
    obtain ⟨n2, w, e3, l3⟩ := ha.mono l2 z
    exact ⟨n2.trans n, w, e3, l3⟩
  | false =>
    obtain ⟨n2, w, e3, l3⟩ := hb.mono l2 z
    exact ⟨n2.trans n, w, e3, l3⟩⟩
theorem for_mono (hg : MG gx) (hb : MS b) : ∀ {ds : List D} {ρ ρ' : Env} {o : Out}, Le ρ ρ' → forE gx b ds ρ = some o → (outE o).length = ρ.length ∧ ∃ o', forE gx b ds ρ' = some o' ∧ LeO o o'
  | [], ρ, ρ', o, l, z => by
    cases z
    exact ⟨rfl, _, rfl, l⟩
  | d :: ds, ρ, ρ', o, l, z => by
    rw [forE] at z ⊢
    split at z
    · rename_i pd
      rw [if_pos pd]
      obtain ⟨ρ1, e1, z⟩ := obind z
      obtain ⟨n1, σ1, f1, l1⟩ := hg.mono l e1
      obtain ⟨x, e2, z⟩ := obind z
      obtain ⟨n2, y, f2, l2⟩ := hb.mono l1 e2
      rw [f1, Option.bind_some, f2, Option.bind_some]
      cases x with
      | nx ρ2 =>
        cases y with
        | nx σ2 =>
          obtain ⟨n3, w, f3, l3⟩ := for_mono hg hb (show Le ρ2 σ2 from l2) z
          exact ⟨n3.trans (n2.trans n1), w, f3, l3⟩
        | _ => exact l2.elim
      | ct ρ2 =>
        cases y with
        | ct σ2 =>
          obtain ⟨n3, w, f3, l3⟩ := for_mono hg hb (show Le ρ2 σ2 from l2) z
          exact ⟨n3.trans (n2.trans n1), w, f3, l3⟩
        | _ => exact l2.elim
      | bk ρ2 =>
        cases y with
        | bk σ2 => cases z; exact ⟨n2.trans n1, _, rfl, l2⟩
        | _ => exact l2.elim
      | rt d' ρ2 =>
        cases y with
        | rt d2 σ2 => cases z; exact ⟨n2.trans n1, _, rfl, l2⟩
        | _ => exact l2.elim
    · cases z
instance [hs : MM isrc] [hg : MG gx] [hb : MS b] : MS (sFor isrc gx b) := ⟨fun {ρ ρ' o} l z => by
  obtain ⟨⟨its, ρ1⟩, e1, z⟩ := obind z
  obtain ⟨n, ρ2, e2, l2⟩ := hs.mono l e1
  obtain ⟨n2, w, e3, l3⟩ := for_mono hg hb l2 z
  refine ⟨n2.trans n, w, ?_, l3⟩
  unfold sFor
  rw [e2]
  exact e3⟩
theorem while_mono (ht : MM t) (hb : MS b) : ∀ {k : Nat} {ρ ρ' : Env} {o : Out}, Le ρ ρ' → whileE t b k ρ = some o → (outE o).length = ρ.length ∧ ∃ o', whileE t b k ρ' = some o' ∧ LeO o o'
  | 0, ρ, ρ', o, l, z => by cases z
  | k + 1, ρ, ρ', o, l, z => by
    rw [whileE] at z ⊢
    obtain ⟨⟨c, ρ1⟩, e1, z⟩ := obind z
    obtain ⟨n1, σ1, f1, l1⟩ := ht.mono l e1
    rw [f1, Option.bind_some]
    cases c with
    | true =>
      obtain ⟨x, e2, z⟩ := obind z
      obtain ⟨n2, y, f2, l2⟩ := hb.mono l1 e2
      show _ ∧ ∃ o', (b σ1).bind _ = _ ∧ _
      rw [f2, Option.bind_some]
      cases x with
      | nx ρ2 =>
        cases y with
        | nx σ2 =>
          obtain ⟨n3, w, f3, l3⟩ := while_mono ht hb (show Le ρ2 σ2 from l2) z
          exact ⟨n3.trans (n2.trans n1), w, f3, l3⟩
        | _ => exact l2.elim
      | ct ρ2 =>
        cases y with
        | ct σ2 =>
          obtain ⟨n3, w, f3, l3⟩ := while_mono ht hb (show Le ρ2 σ2 from l2) z
          exact ⟨n3.trans (n2.trans n1), w, f3, l3⟩
        | _ => exact l2.elim
      | bk ρ2 =>
        cases y with
        | bk σ2 => cases z; exact ⟨n2.trans n1, _, rfl, l2⟩
        | _ => exact l2.elim
      | rt d' ρ2 =>
        cases y with
        | rt d2 σ2 => cases z; exact ⟨n2.trans n1, _, rfl, l2⟩
        | _ => exact l2.elim
    | false =>
      cases z
      exact ⟨n1, _, rfl, l1⟩
instance [ht : MM t] [hb : MS b] : MS (sWhile t b) := ⟨fun {ρ ρ' o} l z => while_mono ht hb l z⟩
end
end DL
namespace DL
open PySem PySem.Spec L2
section
variable {ms : EMs} {i j l : Nat} {g : ES}
instance [hm : MM ms] : MS (sPar3 i j l ms) := ⟨fun {ρ ρ' o} le z => by
  obtain ⟨⟨ds, ρ1⟩, e1, z⟩ := obind z
  obtain ⟨n, ρ2, e2, l2⟩ := hm.mono le e1
  unfold sPar3
  rw [e2, Option.bind_some]
  match ds, z with
  | [d, e, f], z =>
    obtain ⟨ρ3, e3, z⟩ := obind z
    obtain ⟨ρ4, e4, z⟩ := obind z
    obtain ⟨ρ5, e5, z⟩ := obind z
    cases z
    obtain ⟨n2, σ3, f3, l3⟩ := MG.mono (g := put i) l2 e3
    obtain ⟨n3, σ4, f4, l4⟩ := MG.mono (g := put j) l3 e4
    obtain ⟨n4, σ5, f5, l5⟩ := MG.mono (g := put l) l4 e5
    refine ⟨n4.trans (n3.trans (n2.trans n)), .nx σ5, ?_, l5⟩
    show (put i d ρ2).bind _ = _
    rw [f3, Option.bind_some, f4, Option.bind_some, f5]
    rfl
  | [], z => cases z
  | [_], z => cases z
  | [_, _], z => cases z
  | _ :: _ :: _ :: _ :: _, z => cases z⟩
theorem pin_bo {x : Slt} (h : isPin x = false) : isPin (borOnly x) = false := by
  unfold borOnly
  split
  · exact h
  · rfl
theorem backS_le {k : Nat} {x x' y y' : Slt} (hx : leS x x') (hy : leS y y') (hi : k = i → isPin x' = false) : leS (backS i k x y) (backS i k x' y') := by
  have pnb : ∀ y : Slt, isBor y = true → isPin y = false := fun y h => by
    cases y with
    | none => rfl
    | some y =>
      obtain ⟨m, d⟩ := y
      cases m
      · cases h
      · rfl
      · cases h
      · cases h
  have pn : ∀ y : Slt, isPn y = isPin y := fun y => by
    cases y with
    | none => rfl
    | some y =>
      obtain ⟨m, d⟩ := y
      cases m <;> rfl
  unfold backS
  rcases hy with rfl | ⟨rfl, py⟩
  · by_cases hb : isBor y = true
    · rw [if_pos hb, if_pos hb]
      by_cases hk : k = i
      · rw [if_pos hk, if_pos hk]; exact hx
      · rw [if_neg hk, if_neg hk]
        rcases hx with rfl | ⟨rfl, px⟩
        · exact .inl rfl
        · exact .inr ⟨rfl, pin_bo px⟩
    · rw [if_neg hb, if_neg hb]
      exact .inl rfl
  · have e0 : (if isBor (none : Slt) = true then (if k = i then x else borOnly x) else if k = i then (if isPn (none : Slt) = true then none else none) else none) = (none : Slt) := by
      rw [if_neg (by decide)]
      split <;> rfl
    rw [e0]
    refine .inr ⟨rfl, ?_⟩
    by_cases hb : isBor y' = true
    · rw [if_pos hb]
      by_cases hk : k = i
      · rw [if_pos hk]; exact hi hk
      · rw [if_neg hk]
        rcases hx with rfl | ⟨rfl, px⟩
        · by_cases hbx : isBor x = true
          · exact pin_bo (pnb x hbx)
          · unfold borOnly; rw [if_neg hbx]; rfl
        · exact pin_bo px
    · rw [if_neg hb]
      split
      · split
        · rfl
        · exact py
      · exact py
theorem backL_le : ∀ {k : Nat} {xs xs' ys ys' : Env}, Le xs xs' → Le ys ys' → (∀ s, xs'[i - k]? = some s → k ≤ i → isPin s = false) → Le (backL i k xs ys) (backL i k xs' ys')
  | k, [], [], ys, ys', _, hy, _ => by
    cases ys <;> cases ys' <;> exact hy
  | k, x :: xs, x' :: xs', [], [], _, _, _ => trivial
  | k, x :: xs, x' :: xs', y :: ys, y' :: ys', hx, hy, hi => by
    refine ⟨backS_le hx.1 hy.1 fun e => hi x' (by rw [e, Nat.sub_self]; rfl) (Nat.le_of_eq e), backL_le hx.2 hy.2 fun s e h => ?_⟩
    refine hi s ?_ (by omega)
    rw [show i - k = (i - (k + 1)) + 1 by omega]
    exact e
  | k, [], _ :: _, _, _, h, _, _ => h.elim
  | k, _ :: _, [], _, _, h, _, _ => h.elim
  | k, _ :: _, _ :: _, [], _ :: _, _, h, _ => h.elim
  | k, _ :: _, _ :: _, _ :: _, [], _, h, _ => h.elim
theorem backO_le {ρ ρ' : Env} {o o' r : Out} (l : Le ρ ρ') (lo : LeO o o') (h : backO i ρ o = some r) (hi : ∀ s, ρ'[i]? = some s → isPin s = false) : (outE r).length = ρ.length ∧ ∃ r', backO i ρ' o' = some r' ∧ LeO r r' := by
  cases o with
  | nx ρ1 =>
    cases o' with
    | nx σ1 =>
      have lo : Le ρ1 σ1 := lo
      have h : (if ρ1.length = ρ.length then some (Out.nx (backL i 0 ρ ρ1)) else none) = some r := h
      split at h
      · rename_i e
        cases h
        refine ⟨backL_len.trans e, .nx (backL i 0 ρ' σ1), ?_, backL_le l lo fun s z _ => hi s z⟩
        show (if σ1.length = ρ'.length then some (Out.nx (backL i 0 ρ' σ1)) else none) = _
        rw [if_pos (by rw [← lo.len, ← l.len, e])]
      · cases h
    | _ => exact lo.elim
  | bk ρ1 =>
    cases o' with
    | bk σ1 =>
      have lo : Le ρ1 σ1 := lo
      have h : (if ρ1.length = ρ.length then some (Out.bk (backL i 0 ρ ρ1)) else none) = some r := h
      split at h
      · rename_i e
        cases h
        refine ⟨backL_len.trans e, .bk (backL i 0 ρ' σ1), ?_, backL_le l lo fun s z _ => hi s z⟩
        show (if σ1.length = ρ'.length then some (Out.bk (backL i 0 ρ' σ1)) else none) = _
        rw [if_pos (by rw [← lo.len, ← l.len, e])]
      · cases h
    | _ => exact lo.elim
  | ct ρ1 =>
    cases o' with
    | ct σ1 =>
      have lo : Le ρ1 σ1 := lo
      have h : (if ρ1.length = ρ.length then some (Out.ct (backL i 0 ρ ρ1)) else none) = some r := h
      split at h
      · rename_i e
        cases h
        refine ⟨backL_len.trans e, .ct (backL i 0 ρ' σ1), ?_, backL_le l lo fun s z _ => hi s z⟩
        show (if σ1.length = ρ'.length then some (Out.ct (backL i 0 ρ' σ1)) else none) = _
        rw [if_pos (by rw [← lo.len, ← l.len, e])]
      · cases h
    | _ => exact lo.elim
  | rt d ρ1 =>
    cases o' with
    | rt d' σ1 =>
      obtain ⟨rfl, lo⟩ : d = d' ∧ Le ρ1 σ1 := lo
      have h : (if ρ1.length = ρ.length then some (Out.rt d (backL i 0 ρ ρ1)) else none) = some r := h
      split at h
      · rename_i e
        cases h
        refine ⟨backL_len.trans e, .rt d (backL i 0 ρ' σ1), ?_, rfl, backL_le l lo fun s z _ => hi s z⟩
        show (if σ1.length = ρ'.length then some (Out.rt d (backL i 0 ρ' σ1)) else none) = _
        rw [if_pos (by rw [← lo.len, ← l.len, e])]
      · cases h
    | _ => exact lo.elim
theorem srcB_none {ρ : Env} (h : ρ[i]? = some none ∨ ρ[i]? = none) : srcB i ρ = none := by
  unfold srcB
  rcases h with h | h <;> rw [h]
instance {gx : GX} {b : ES} [hg : MG gx] [hb : MS b] : MS (sLend i (sFor (srcB i) gx b)) := ⟨fun {ρ ρ' o} l z => by
  have hs : MS (sFor (srcB i) gx b) := inferInstance
  have dead : (ρ[i]? = some none ∨ ρ[i]? = none) → sFor (srcB i) gx b ρ = none := fun h => by
    unfold sFor
    rw [srcB_none h]
    rfl
  unfold sLend at z ⊢
  rcases l.at i with ⟨q, q'⟩ | ⟨s, t, q, q', ls⟩
  · simp only [q] at z
    rw [dead (.inr q)] at z
    cases z
  · rcases ls with rfl | ⟨rfl, _⟩
    · simp only [q] at z
      simp only [q']
      cases s with
      | none =>
        have z : sFor (srcB i) gx b ρ = some o := z
        rw [dead (.inl q)] at z
        cases z
      | some s =>
        obtain ⟨m, d⟩ := s
        cases m with
        | own =>
          have z : (sFor (srcB i) gx b (ρ.set i (some (.bor, d)))).bind (backO i ρ) = some o := z
          show _ ∧ ∃ o', (sFor (srcB i) gx b (ρ'.set i (some (.bor, d)))).bind (backO i ρ') = some o' ∧ _
          obtain ⟨o1, e1, z⟩ := obind z
          obtain ⟨_, o2, e2, l2⟩ := hs.mono (l.set' i (some (.bor, d))) e1
          rw [e2]
          exact backO_le l l2 z fun s e => by rw [q'] at e; cases e; rfl
        | bor => exact hs.mono l z
        | pin => exact hs.mono l z
        | tag P => exact hs.mono l z
    · simp only [q] at z
      have z : sFor (srcB i) gx b ρ = some o := z
      rw [dead (.inl q)] at z
      cases z⟩
end
/-! ### what a statement comes to, names forgotten -/
def Ev (b : ES) (ρ : Env) (o : Out) : Prop := ∃ o', b ρ = some o' ∧ LeO o o'
section
variable {ρ ρ' ρ1 : Env} {o : Out} {a b : ES} {d : D}
theorem Ev.of (h : b ρ = some o) : Ev b ρ o := ⟨o, h, LeO.refl o⟩
theorem Ev.le [hb : MS b] (l : Le ρ ρ') (h : Ev b ρ o) : Ev b ρ' o := by
  obtain ⟨o1, e, l1⟩ := h
  obtain ⟨_, o2, e2, l2⟩ := hb.mono l e
  exact ⟨o2, e2, l1.trans l2⟩
theorem Ev.less {o2 : Out} (h : Ev b ρ o) (l : LeO o2 o) : Ev b ρ o2 := let ⟨o1, e, l1⟩ := h; ⟨o1, e, l.trans l1⟩
theorem Ev.seq [hb : MS b] (h : Ev a ρ (.nx ρ1)) (k : Ev b ρ1 o) : Ev (sSeq a b) ρ o := by
  obtain ⟨o1, e1, l1⟩ := h
  cases o1 with
  | nx σ =>
    obtain ⟨o2, e2, l2⟩ := k.le (ρ' := σ) l1
    refine ⟨o2, ?_, l2⟩
    unfold sSeq
    rw [e1]
    exact e2
  | _ => exact l1.elim
theorem Ev.rt (h : Ev a ρ (.rt d ρ1)) : Ev (sSeq a b) ρ (.rt d ρ1) := by
  obtain ⟨o1, e1, l1⟩ := h
  cases o1 with
  | rt d' σ =>
    refine ⟨.rt d' σ, ?_, l1⟩
    unfold sSeq
    rw [e1]
    rfl
  | _ => exact l1.elim
theorem Ev.bk (h : Ev a ρ (.bk ρ1)) : Ev (sSeq a b) ρ (.bk ρ1) := by
  obtain ⟨o1, e1, l1⟩ := h
  cases o1 with
  | bk σ =>
    refine ⟨.bk σ, ?_, l1⟩
    unfold sSeq
    rw [e1]
    rfl
  | _ => exact l1.elim
theorem Ev.ct (h : Ev a ρ (.ct ρ1)) : Ev (sSeq a b) ρ (.ct ρ1) := by
  obtain ⟨o1, e1, l1⟩ := h
  cases o1 with
  | ct σ =>
    refine ⟨.ct σ, ?_, l1⟩
    unfold sSeq
    rw [e1]
    rfl
  | _ => exact l1.elim
/-- a loop's turns -/
def EvF (gx : GX) (b : ES) (ds : List D) (ρ : Env) (o : Out) : Prop := ∃ o', forE gx b ds ρ = some o' ∧ LeO o o'
theorem Ev.for {isrc : IM} {gx : GX} {ds : List D} (h : isrc ρ = some (ds, ρ1)) (k : EvF gx b ds ρ1 o) : Ev (sFor isrc gx b) ρ o := by
  obtain ⟨o1, e1, l1⟩ := k
  refine ⟨o1, ?_, l1⟩
  unfold sFor
  rw [h]
  exact e1
theorem EvF.le {gx : GX} {ds : List D} [hg : MG gx] [hb : MS b] (l : Le ρ ρ') (h : EvF gx b ds ρ o) : EvF gx b ds ρ' o := by
  obtain ⟨o1, e, l1⟩ := h
  obtain ⟨_, o2, e2, l2⟩ := for_mono hg hb l e
  exact ⟨o2, e2, l1.trans l2⟩
inductive Step (S : Type) where
  | go (s : S) | stop (s : S) | ret (d : D) (s : S)
/-- a loop over a list: the state after it -/
def runL {α S : Type} (f : S → α → Step S) : List α → S → Step S
  | [], s => .go s
  | a :: l, s => match f s a with
    | .go s' => runL f l s'
    | .stop s' => .stop s'
    | .ret d s' => .ret d s'
def outS {S : Type} (E : S → Env) : Step S → Out
  | .go s => .nx (E s)
  | .stop s => .nx (E s)
  | .ret d s => .rt d (E s)
/-- what one turn may come to -/
def TurnS {S : Type} (E : S → Env) (b : ES) (ρ : Env) : Step S → Prop
  | .go s => Ev b ρ (.nx (E s)) ∨ Ev b ρ (.ct (E s))
  | .stop s => Ev b ρ (.bk (E s))
  | .ret d s => Ev b ρ (.rt d (E s))
/-- while -/
theorem ev_while {S : Type} {t : ET} [ht : MM t] [hb : MS b] (E : S → Env) (P : S → Prop) (c : S → Bool) (f : S → S) (k : ∀ s, P s → ∃ ρ1, t (E s) = some (c s, ρ1) ∧ (c s = true → P (f s) ∧ (Ev b ρ1 (.nx (E (f s))) ∨ Ev b ρ1 (.ct (E (f s))))) ∧ (c s = false → Le (E s) ρ1)) (m : Nat) :
    ∀ (n : Nat) (s : S), P s → c (Nat.repeat f n s) = false → (∀ j, j < n → c (Nat.repeat f j s) = true) → ∃ o', whileE t b (n + 1 + m) (E s) = some o' ∧ LeO (.nx (E (Nat.repeat f n s))) o'
  | 0, s, p, h0, _ => by
    obtain ⟨ρ1, e1, _, k2⟩ := k s p
    have h0 : c s = false := h0
    refine ⟨.nx ρ1, ?_, k2 h0⟩
    rw [show 0 + 1 + m = m + 1 by omega, whileE, e1, h0]
    rfl
  | n + 1, s, p, h0, h1 => by
    have sh : ∀ j s, Nat.repeat f (j + 1) s = Nat.repeat f j (f s) := fun j => by
      induction j with
      | zero => intro s; rfl
      | succ j ih => intro s; show f (Nat.repeat f (j + 1) s) = f (Nat.repeat f j (f s)); rw [ih]
    obtain ⟨ρ1, e1, k1, _⟩ := k s p
    have c0 : c s = true := h1 0 (by omega)
    obtain ⟨p', h3⟩ := k1 c0
    obtain ⟨o', e4, l4⟩ := ev_while E P c f k m n (f s) p' (by rw [← sh]; exact h0) fun j hj => by rw [← sh]; exact h1 (j + 1) (by omega)
    rw [sh, show n + 1 + 1 + m = (n + 1 + m) + 1 by omega, whileE, e1, c0]
    show ∃ o', (b ρ1).bind _ = _ ∧ _
    rcases h3 with ⟨o1, e5, l5⟩ | ⟨o1, e5, l5⟩
    · cases o1 with
      | nx σ =>
        obtain ⟨_, o2, e6, l6⟩ := while_mono ht hb (show Le (E (f s)) σ from l5) e4
        rw [e5]
        exact ⟨o2, e6, l4.trans l6⟩
      | _ => exact l5.elim
    · cases o1 with
      | ct σ =>
        obtain ⟨_, o2, e6, l6⟩ := while_mono ht hb (show Le (E (f s)) σ from l5) e4
        rw [e5]
        exact ⟨o2, e6, l4.trans l6⟩
      | _ => exact l5.elim
theorem Ev.while {S : Type} {t : ET} [ht : MM t] [hb : MS b] (E : S → Env) (P : S → Prop) (c : S → Bool) (f : S → S) (k : ∀ s, P s → ∃ ρ1, t (E s) = some (c s, ρ1) ∧ (c s = true → P (f s) ∧ (Ev b ρ1 (.nx (E (f s))) ∨ Ev b ρ1 (.ct (E (f s))))) ∧ (c s = false → Le (E s) ρ1))
    {n : Nat} {s : S} (hn : n ≤ 1000000) (p : P s) (h0 : c (Nat.repeat f n s) = false) (h1 : ∀ j, j < n → c (Nat.repeat f j s) = true) : Ev (sWhile t b) (E s) (.nx (E (Nat.repeat f n s))) := by
  have hf : fuel = n + 1 + (fuel - n - 1) := by
    unfold fuel
    omega
  unfold Ev sWhile
  rw [hf]
  exact ev_while E P c f k _ n s p h0 h1
/-- the end of a def -/
theorem ev_fn {N : List Str} {g : ES} {ds : List D} (he : env0 N ds = ρ) (h : Ev g ρ (.rt d ρ1)) : fnP N g ds = some d := by
  obtain ⟨o1, e1, l1⟩ := h
  cases o1 with
  | rt d' σ =>
    obtain ⟨rfl, _⟩ : d = d' ∧ _ := l1
    exact fn_rt he e1
  | _ => exact l1.elim
end
end DL
namespace DL
open PySem PySem.Spec L2
@[simp] abbrev ow (d : D) : Slt := some (.own, d)
@[simp] abbrev bo (d : D) : Slt := some (.bor, d)
@[simp] abbrev pn (d : D) : Slt := some (.pin, d)
section
variable {b : ES}
end
def absI (z : Int) : Int := if z < 0 then -z else z
@[simp] theorem v_absI {z : Int} : absD [.int z] = some (.int (absI z)) := rfl
@[simp] theorem leS_self {s : Slt} : leS s s := .inl rfl
@[simp] theorem leS_none {t : Slt} : leS none t ↔ isPin t = false := ⟨fun h => by
  rcases h with rfl | ⟨_, h⟩
  · rfl
  · exact h, fun h => .inr ⟨rfl, h⟩⟩
@[simp] theorem le_nil : Le [] [] := trivial
@[simp] theorem le_cons {s t : Slt} {ρ ρ' : Env} : Le (s :: ρ) (t :: ρ') ↔ leS s t ∧ Le ρ ρ' := Iff.rfl
@[simp] theorem leO_nx {ρ ρ' : Env} : LeO (.nx ρ) (.nx ρ') ↔ Le ρ ρ' := Iff.rfl
@[simp] theorem leO_bk {ρ ρ' : Env} : LeO (.bk ρ) (.bk ρ') ↔ Le ρ ρ' := Iff.rfl
@[simp] theorem leO_ct {ρ ρ' : Env} : LeO (.ct ρ) (.ct ρ') ↔ Le ρ ρ' := Iff.rfl
@[simp] theorem leO_rt {d d' : D} {ρ ρ' : Env} : LeO (.rt d ρ) (.rt d' ρ') ↔ d = d' ∧ Le ρ ρ' := Iff.rfl
theorem Ev.mk {b : ES} {ρ : Env} {o o' : Out} (h : b ρ = some o') (l : LeO o o') : Ev b ρ o := (Ev.of h).less l
theorem Ev.retP {f : EX} {ρ : Env} {d : D} (h : f ρ = some d) : Ev (sRet (mP f)) ρ (.rt d ρ) := by
  refine Ev.of ?_
  unfold sRet mP
  rw [h]
  rfl
theorem Ev.ret {m : EM} {ρ ρ1 : Env} {d : D} (h : m ρ = some (d, ρ1)) : Ev (sRet m) ρ (.rt d ρ1) := by
  refine Ev.of ?_
  unfold sRet
  rw [h]
  rfl
/-- found or not -/
def fnd (x : Option D) (ρ : Env) : Out := match x with
  | some d => .rt d ρ
  | none => .nx ρ
end DL
namespace DL
open PySem PySem.Spec L2
/-! ### while, by a measure -/
/-! ### sums of words' parts -/
namespace C
end C
end DL
namespace DL
open PySem PySem.Spec L2
section
variable {f : EX} {m : EM} {lo hi : Option EM}
instance [MX f] : MX (xRev f) := mx_bind' ‹_›
instance : MM (optM none) := ⟨fun {ρ ρ' d ρ1} l z => by
  cases z
  exact ⟨rfl, ρ', rfl, l⟩⟩
instance [hm : MM m] : MM (optM (some m)) := mm_of (mm_k (k := fun d : D => match d with | .int i => some (some i) | _ => none) hm) fun ρ => by
  show ((m ρ).bind _) = _
  cases m ρ with
  | none => rfl
  | some x =>
    obtain ⟨d, ρ1⟩ := x
    cases d <;> rfl
instance [hm : MM m] [hl : MM (optM lo)] [hh : MM (optM hi)] : MM (mCut m lo hi) := ⟨fun {ρ ρ' d ρ1} l z => by
  obtain ⟨x, e1, z⟩ := obind z
  obtain ⟨y, e2, z⟩ := obind z
  obtain ⟨u, e3, z⟩ := obind z
  obtain ⟨w, e4, z⟩ := obind z
  cases z
  obtain ⟨n, ρ2, f1, l1⟩ := hm.mono l e1
  obtain ⟨n2, ρ3, f2, l2⟩ := hl.mono l1 e2
  obtain ⟨n3, ρ4, f3, l3⟩ := hh.mono l2 e3
  refine ⟨n3.trans (n2.trans n), ρ4, ?_, l3⟩
  show (m ρ').bind _ = _
  rw [f1, Option.bind_some, f2, Option.bind_some, f3, Option.bind_some, e4]
  rfl⟩
end
section
variable {s : Slt} {ρ : Env}
@[simp] theorem e_rev {f : EX} : xRev f (s :: ρ) = (f (s :: ρ)).bind revD := (rfl)
@[simp] theorem e_mcut {m : EM} {lo hi : Option EM} : mCut m lo hi (s :: ρ) = (m (s :: ρ)).bind fun x => (optM lo x.2).bind fun l => (optM hi l.2).bind fun h => (cutTD x.1 l.1 h.1).bind fun d => some (d, h.2) := (rfl)
@[simp] theorem e_optM0 : optM none (s :: ρ) = some (none, s :: ρ) := (rfl)
@[simp] theorem e_optM1 {m : EM} : optM (some m) (s :: ρ) = (m (s :: ρ)).bind fun x => match x.1 with | .int i => some (some i, x.2) | _ => none := (rfl)
end
end DL
namespace DL
open PySem PySem.Spec L2
@[simp] theorem v_isB {a b : Bool} : oIsB (.bl a) (.bl b) = some (.bl (decide (a = b))) := rfl
@[simp] theorem v_notB {a b : Bool} : oNotB (.bl a) (.bl b) = some (.bl (!decide (a = b))) := rfl
/-! ### balanced words: parts, backward, turned over, one letter more -/
variable {w : List Int}
def cw (w : List Int) : List Int := w.map fun x => 1 - x
end DL
namespace DL
open PySem PySem.Spec L2
/-! dicts from cells to any data, on the plain side -/
section
variable {α : Type}
def mapD (g : α → D) (m : List (Cell × α)) : D := .dT (m.map fun p => keyC p.1) (m.map fun p => g p.2)
def akeys (m : List (Cell × α)) : List Cell := m.map (·.1)
def aset (m : List (Cell × α)) (c : Cell) (v : α) : List (Cell × α) := if c ∈ akeys m then m.map fun p => if p.1 = c then (p.1, v) else p else m ++ [(c, v)]
def aget : List (Cell × α) → Cell → Option α
  | [], _ => none
  | p :: m, c => if p.1 = c then some p.2 else aget m c
theorem akeys_aset (m : List (Cell × α)) (c : Cell) (v : α) : akeys (aset m c v) = ins (akeys m) c := by
  unfold aset ins
  by_cases h : c ∈ akeys m
  · rw [if_pos h, if_pos h]
    unfold akeys
    rw [List.map_map]
    refine List.map_congr_left fun p _ => ?_
    simp only [Function.comp]
    split <;> rfl
  · rw [if_neg h, if_neg h]
    unfold akeys
    rw [List.map_append]
    rfl
theorem aget_some {m : List (Cell × α)} {c : Cell} : (aget m c).isSome = decide (c ∈ akeys m) := by
  induction m with
  | nil => rfl
  | cons p m ih =>
    rw [aget]
    by_cases e : p.1 = c
    · rw [if_pos e, decide_eq_true (by unfold akeys; rw [List.map_cons, e]; exact List.mem_cons_self ..)]
      rfl
    · rw [if_neg e, ih]
      have : c ∈ akeys (p :: m) ↔ c ∈ akeys m := by
        unfold akeys
        rw [List.map_cons, List.mem_cons]
        exact ⟨fun z => z.elim (fun q => absurd q.symm e) id, .inr⟩
      simp only [this]
theorem aget_none {m : List (Cell × α)} {c : Cell} (h : c ∉ akeys m) : aget m c = none := by
  have := aget_some (m := m) (c := c)
  rw [decide_eq_false h] at this
  exact Option.isNone_iff_eq_none.mp (by rw [← Option.not_isSome, this]; rfl)
theorem aget_app (m : List (Cell × α)) (c b : Cell) (v : α) : aget (m ++ [(c, v)]) b = (aget m b).or (if c = b then some v else none) := by
  induction m with
  | nil => rfl
  | cons p m ih =>
    rw [List.cons_append, aget, aget]
    by_cases e : p.1 = b
    · rw [if_pos e, if_pos e]; rfl
    · rw [if_neg e, if_neg e, ih]
theorem aget_map (m : List (Cell × α)) (c b : Cell) (v : α) : aget (m.map fun p => if p.1 = c then (p.1, v) else p) b = if b = c then (aget m b).map fun _ => v else aget m b := by
  induction m with
  | nil => by_cases e : b = c <;> simp [aget, e]
  | cons p m ih =>
    rw [List.map_cons, aget, aget]
    by_cases e : p.1 = c
    · rw [if_pos e]
      by_cases f : p.1 = b
      · rw [if_pos f, if_pos f, if_pos (by rw [← f, e])]
        rfl
      · rw [if_neg f, if_neg f, ih]
    · rw [if_neg e]
      by_cases f : p.1 = b
      · rw [if_pos f, if_pos f, if_neg (fun z => e (f.trans z))]
      · rw [if_neg f, if_neg f, ih]
theorem aget_aset (m : List (Cell × α)) (c b : Cell) (v : α) : aget (aset m c v) b = if b = c then some v else aget m b := by
  unfold aset
  by_cases h : c ∈ akeys m
  · rw [if_pos h, aget_map]
    by_cases e : b = c
    · rw [if_pos e, if_pos e, e]
      have := aget_some (m := m) (c := c)
      rw [decide_eq_true h] at this
      obtain ⟨x, hx⟩ := Option.isSome_iff_exists.mp this
      rw [hx]; rfl
    · rw [if_neg e, if_neg e]
  · rw [if_neg h, aget_app]
    by_cases e : b = c
    · rw [if_pos e, e, aget_none h, if_pos rfl]; rfl
    · rw [if_neg e, if_neg (fun z => e z.symm)]
      cases aget m b <;> rfl
theorem mem_akeys_aset {m : List (Cell × α)} {c b : Cell} {v : α} : b ∈ akeys (aset m c v) ↔ b ∈ akeys m ∨ b = c := by rw [akeys_aset]; exact mem_ins
variable {g : α → D}
end
end DL
namespace DL
open PySem PySem.Spec L2
instance {f : EX} [hf : MX f] : MX (xFrz f) := mx_bind' hf
@[simp] theorem e_frz {f : EX} {s : Slt} {ρ : Env} : xFrz f (s :: ρ) = (f (s :: ρ)).bind frzD := (rfl)
@[simp] theorem frz_lst {xs : List D} : frzD (.lst xs) = if pures xs = true then some (.frz xs) else none := (rfl)
end DL
namespace DL
open PySem PySem.Spec L2
end DL
namespace DL
open PySem PySem.Spec L2
/-! ### reversed -/
instance {f : EX} [hf : MX f] : MX (xRvI f) := ⟨fun {ρ ρ' d} l e => by
  obtain ⟨xs, e1, e2⟩ := Option.map_eq_some_iff.mp e
  obtain ⟨y, e3, e4⟩ := obind e1
  show ((f ρ').bind itemsOf).map List.reverse = _
  rw [hf.mono l e3, Option.bind_some, e4]
  rw [← e2]
  rfl⟩
instance {f g : EX} [hf : MX f] [hg : MX g] : MX (xRvR2 f g) := mx_two hf hg
@[simp] theorem e_rvI {f : EX} {s : Slt} {ρ : Env} : xRvI f (s :: ρ) = ((f (s :: ρ)).bind itemsOf).map List.reverse := (rfl)
end DL
namespace DL
open PySem PySem.Spec L2
/-! ### cells set one after another in a table -/
def setF (val : List (Cell × Int) → Cell → Int) (m : List (Cell × Int)) (c : Cell) : List (Cell × Int) := aset m c (val m c)
def gtc (a b : Cell) : Prop := ltc b a
/-! ### two scans -/
def adC (c d : Cell) : Cell := (c.1 + d.1, c.2 + d.2)
def sbC (c d : Cell) : Cell := (c.1 - d.1, c.2 - d.2)
def val1 (st : List Cell) (m : List (Cell × Int)) (c : Cell) : Int := minI (st.map fun d => (aget m (sbC c d)).getD 0) + 1
def val2 (st cs : List Cell) (m : List (Cell × Int)) (c : Cell) : Int := minI ((aget m c).getD 0 :: st.map fun d => if adC c d ∈ cs then (aget m (adC c d)).getD 0 + 1 else 1)
def scan1 (st cs : List Cell) : List (Cell × Int) := cs.foldl (setF (val1 st)) []
def scan2 (st cs : List Cell) : List (Cell × Int) := cs.reverse.foldl (setF (val2 st cs)) (scan1 st cs)
def f1 (st cs : List Cell) (c : Cell) : Int := (aget (scan1 st cs) c).getD 0
def f2 (st cs : List Cell) (c : Cell) : Int := (aget (scan2 st cs) c).getD 0
section
variable {st cs : List Cell} (p : cs.Pairwise ltc)
include p
end
/-! ### distances -/
def ab (a : Int) : Int := if a < 0 then -a else a
def farI (k : Nat) (a b : Cell) : Int :=
  if k = 0 then ab (a.1 - b.1) + ab (a.2 - b.2) else if k = 1 then (if ab (a.2 - b.2) > ab (a.1 - b.1) then ab (a.2 - b.2) else ab (a.1 - b.1)) else ab (a.1 - b.1) * ab (a.1 - b.1) + ab (a.2 - b.2) * ab (a.2 - b.2)
/-- the steps back of each scan -/
def stK (k : Nat) : List Cell := if k = 0 then [(1, 0), (0, 1)] else [(1, 1), (1, 0), (1, -1), (0, 1)]
section
variable {k : Nat} {cs : List Cell} (p : cs.Pairwise ltc)
include p
omit p in
end
end DL
namespace DL
open PySem PySem.Spec L2
/-! ### up and down a column -/
abbrev up1 : List Cell := [(1, 0)]
section
variable {cs : List Cell} (p : cs.Pairwise ltc)
include p
end
/-- squares of distances: the least over the columns of the wider box -/
def cols (cs : List Cell) : List Int := (List.range (right cs + 1 - (left cs - 1)).toNat).map fun i : Nat => left cs - 1 + (i : Int)
def sqs (cs : List Cell) (c : Cell) : List Int := (cols cs).map fun q => f2 up1 cs (c.1, q) ^ 2 + (c.2 - q) ^ 2
def mapV (k : Nat) (cs : List Cell) (c : Cell) : Int := if k = 2 then minI (sqs cs c) else f2 (stK k) cs c
section
variable {cs : List Cell} (p : cs.Pairwise ltc)
include p
omit p in
omit p in
end
end DL
namespace DL
open PySem PySem.Spec L2
namespace C
def c_METRICS : D := (.ctp [(.str "city"), (.str "chess"), (.str "square")])
abbrev N_need_metric : List Str := ["metric"]
def s_need_metric : ES := (sIf (tP' (yOr (yNot (xBool (xIsi ["str"] (xVar 0)))) (xBool (xOp oNin (xVar 0) (xC c_METRICS))))) sNever sNext)
def F_need_metric : List D → Option D := fnP N_need_metric s_need_metric
abbrev N_far : List Str := ["one", "other", "metric", "down", "right"]
def s_far : ES := (sSeq (sPar 3 4 (msCons (mP (xCall absD (xsCons (xOp oSub (xOp ixD (xVar 0) (xC (.int 0))) (xOp ixD (xVar 1) (xC (.int 0)))) xsNil))) (msCons (mP (xCall absD (xsCons (xOp oSub (xOp ixD (xVar 0) (xC (.int 1))) (xOp ixD (xVar 1) (xC (.int 1)))) xsNil))) msNil)))
  (sSeq (sIf (tP' (xBool (xOp oEq (xVar 2) (xC (.str "city"))))) (sRet (mP (xOp oAdd (xVar 3) (xVar 4)))) sNext)
  (sRet (mP (xIf (xBool (xOp oEq (xVar 2) (xC (.str "chess")))) (xCall max2D (xsCons (xVar 3) (xsCons (xVar 4) xsNil))) (xOp oAdd (xOp oMul (xVar 3) (xVar 3)) (xOp oMul (xVar 4) (xVar 4))))))))
def F_far : List D → Option D := fnP N_far s_far
abbrev N_between : List Str := ["one", "other", "metric"]
def s_between : ES := (sSeq (sDrop (mP (xCall F_need_cell (xsCons (xVar 0) xsNil))))
  (sSeq (sDrop (mP (xCall F_need_cell (xsCons (xVar 1) xsNil))))
  (sSeq (sDrop (mP (xCall F_need_metric (xsCons (xVar 2) xsNil))))
  (sRet (mP (xCall F_far (xsCons (xVar 0) (xsCons (xVar 1) (xsCons (xVar 2) xsNil)))))))))
def F_between : List D → Option D := fnP N_between s_between
abbrev N_scanned : List Str := ["ink", "steps", "cells", "found", "cell", "some", "down", "right", "other"]
def s_scanned : ES := (sSeq (sAsg (mP (xDict [4] (xIt (xVar 0)) (putB 4) yYes (xPure (xVar 4)) (xC (.bl true)))) (put 2))
  (sSeq (sAsg (mP (xC (.dT [] []))) (put 3))
  (sSeq (sFor (iP (xIt (xPure (xVar 0)))) (put 4)
  (sSeq (sAsg (mP (xComp [6, 7] (xIt (xVar 1)) (gTupD 2 (gsCons (putB 6) (gsCons (putB 7) gsNil))) yYes (xGet2 (xVar 3) (xTup (xsCons (xOp oSub (xOp ixD (xVar 4) (xC (.int 0))) (xVar 6)) (xsCons (xOp oSub (xOp ixD (xVar 4) (xC (.int 1))) (xVar 7)) xsNil))) (xC (.int 0))))) (put 5))
  (sAsg (mP (xOp oAdd (xCall minLD (xsCons (xVar 5) xsNil)) (xC (.int 1)))) (gSub' 3 (xVar 4) setT))))
  (sSeq (sFor (iP (xRvI (xPure (xVar 0)))) (put 4)
  (sSeq (sAsg (mP (xComp [6, 7] (xIt (xVar 1)) (gTupD 2 (gsCons (putB 6) (gsCons (putB 7) gsNil))) yYes (xTup (xsCons (xOp oAdd (xOp ixD (xVar 4) (xC (.int 0))) (xVar 6)) (xsCons (xOp oAdd (xOp ixD (xVar 4) (xC (.int 1))) (xVar 7)) xsNil))))) (put 5))
  (sAsg (mP (xCall minLD (xsCons (xLst (xsCons (xPure (xOp ixD (xVar 3) (xVar 4))) (xsStar (xComp [8] (xIt (xVar 5)) (putB 8) yYes (xIf (xBool (xOp oIn (xVar 8) (xVar 2))) (xOp oAdd (xOp ixD (xVar 3) (xVar 8)) (xC (.int 1))) (xC (.int 1)))) xsNil))) xsNil))) (gSub' 3 (xVar 4) setT))))
  (sRet (mMove 3))))))
def F_scanned : List D → Option D := fnP N_scanned s_scanned
abbrev N_square_map : List Str := ["ink", "top", "left", "bottom", "right", "cells", "upright", "column", "row", "found", "some", "cell", "other"]
def s_square_map : ES := (sSeq (sAsg (mP (xCall F_box_in (xsCons (xVar 0) xsNil))) (gTupD 4 (gsCons (put 1) (gsCons (put 2) (gsCons (put 3) (gsCons (put 4) gsNil))))))
  (sSeq (sAsg (mP (xDict [11] (xIt (xVar 0)) (putB 11) yYes (xPure (xVar 11)) (xC (.bl true)))) (put 5))
  (sSeq (sAsg (mP (xC (.dT [] []))) (put 6))
  (sSeq (sFor (iP (xRng2 (xsCons (xOp oSub (xVar 2) (xC (.int 1))) (xsCons (xOp oAdd (xVar 4) (xC (.int 1))) xsNil)))) (put 7)
  (sSeq (sFor (iP (xRng2 (xsCons (xOp oSub (xVar 1) (xC (.int 1))) (xsCons (xOp oAdd (xVar 3) (xC (.int 1))) xsNil)))) (put 8)
  (sAsg (mP (xIf (xBool (xOp oIn (xTup (xsCons (xPure (xVar 8)) (xsCons (xPure (xVar 7)) xsNil))) (xVar 5))) (xOp oAdd (xGet2 (xVar 6) (xTup (xsCons (xOp oSub (xVar 8) (xC (.int 1))) (xsCons (xPure (xVar 7)) xsNil))) (xC (.int 0))) (xC (.int 1))) (xC (.int 0)))) (gSub' 6 (xTup (xsCons (xPure (xVar 8)) (xsCons (xPure (xVar 7)) xsNil))) setT)))
  (sFor (iP (xRvR2 (xOp oSub (xVar 1) (xC (.int 1))) (xOp oAdd (xVar 3) (xC (.int 1))))) (put 8)
  (sIf (tP' (xBool (xOp oIn (xTup (xsCons (xPure (xVar 8)) (xsCons (xPure (xVar 7)) xsNil))) (xVar 5)))) (sAsg (mP (xCall min2D (xsCons (xOp ixD (xVar 6) (xTup (xsCons (xPure (xVar 8)) (xsCons (xPure (xVar 7)) xsNil)))) (xsCons (xOp oAdd (xOp ixD (xVar 6) (xTup (xsCons (xOp oAdd (xVar 8) (xC (.int 1))) (xsCons (xPure (xVar 7)) xsNil)))) (xC (.int 1))) xsNil)))) (gSub' 6 (xTup (xsCons (xPure (xVar 8)) (xsCons (xPure (xVar 7)) xsNil))) setT)) sNext))))
  (sSeq (sAsg (mP (xC (.dT [] []))) (put 9))
  (sSeq (sFor (iP (xIt (xPure (xVar 0)))) (gTupD 2 (gsCons (put 8) (gsCons (put 7) gsNil)))
  (sSeq (sAsg (mP (xComp [12] (xRng2 (xsCons (xOp oSub (xVar 2) (xC (.int 1))) (xsCons (xOp oAdd (xVar 4) (xC (.int 1))) xsNil))) (putB 12) yYes (xOp oAdd (xOp oPow (xOp ixD (xVar 6) (xTup (xsCons (xPure (xVar 8)) (xsCons (xPure (xVar 12)) xsNil)))) (xC (.int 2))) (xOp oPow (xOp oSub (xVar 7) (xVar 12)) (xC (.int 2)))))) (put 10))
  (sAsg (mP (xCall minLD (xsCons (xVar 10) xsNil))) (gSub' 9 (xTup (xsCons (xPure (xVar 8)) (xsCons (xPure (xVar 7)) xsNil))) setT))))
  (sRet (mMove 9))))))))
def F_square_map : List D → Option D := fnP N_square_map s_square_map
abbrev N_map_in : List Str := ["ink", "metric"]
def s_map_in : ES := (sSeq (sIf (tP' (xBool (xOp oEq (xVar 0) (xTup xsNil)))) (sRet (mP (xC (.dT [] [])))) sNext)
  (sSeq (sIf (tP' (xBool (xOp oEq (xVar 1) (xC (.str "square"))))) (sRet (mP (xCall F_square_map (xsCons (xVar 0) xsNil)))) sNext)
  (sRet (mP (xCall F_scanned (xsCons (xVar 0) (xsCons (xIf (xBool (xOp oEq (xVar 1) (xC (.str "city")))) (xTup (xsCons (xTup (xsCons (xC (.int 1)) (xsCons (xC (.int 0)) xsNil))) (xsCons (xTup (xsCons (xC (.int 0)) (xsCons (xC (.int 1)) xsNil))) xsNil))) (xTup (xsCons (xTup (xsCons (xC (.int 1)) (xsCons (xC (.int 1)) xsNil))) (xsCons (xTup (xsCons (xC (.int 1)) (xsCons (xC (.int 0)) xsNil))) (xsCons (xTup (xsCons (xC (.int 1)) (xsCons (xNeg (xC (.int 1))) xsNil))) (xsCons (xTup (xsCons (xC (.int 0)) (xsCons (xC (.int 1)) xsNil))) xsNil)))))) xsNil)))))))
def F_map_in : List D → Option D := fnP N_map_in s_map_in
abbrev N_distance_map : List Str := ["ink", "metric", "found", "cell"]
def s_distance_map : ES := (sSeq (sDrop (mP (xCall F_need_ink (xsCons (xVar 0) xsNil))))
  (sSeq (sDrop (mP (xCall F_need_metric (xsCons (xVar 1) xsNil))))
  (sSeq (sAsg (mP (xCall F_map_in (xsCons (xVar 0) (xsCons (xVar 1) xsNil)))) (put 2))
  (sRet (mP (xCall tupleD (xsCons (xComp [3] (xIt (xVar 0)) (putB 3) yYes (xPure (xOp ixD (xVar 2) (xVar 3)))) xsNil)))))))
def F_distance_map : List D → Option D := fnP N_distance_map s_distance_map
def P_scanned1 : ES := (sAsg (mP (xDict [4] (xIt (xVar 0)) (putB 4) yYes (xPure (xVar 4)) (xC (.bl true)))) (put 2))
instance : MS P_scanned1 := by unfold P_scanned1; infer_instance
def P_scanned3b1 : ES := (sAsg (mP (xComp [6, 7] (xIt (xVar 1)) (gTupD 2 (gsCons (putB 6) (gsCons (putB 7) gsNil))) yYes (xGet2 (xVar 3) (xTup (xsCons (xOp oSub (xOp ixD (xVar 4) (xC (.int 0))) (xVar 6)) (xsCons (xOp oSub (xOp ixD (xVar 4) (xC (.int 1))) (xVar 7)) xsNil))) (xC (.int 0))))) (put 5))
instance : MS P_scanned3b1 := by unfold P_scanned3b1; infer_instance
def P_scanned3b2 : ES := (sAsg (mP (xOp oAdd (xCall minLD (xsCons (xVar 5) xsNil)) (xC (.int 1)))) (gSub' 3 (xVar 4) setT))
instance : MS P_scanned3b2 := by unfold P_scanned3b2; infer_instance
def P_scanned3b : ES := (sSeq P_scanned3b1 P_scanned3b2)
instance : MS P_scanned3b := by unfold P_scanned3b; infer_instance
def P_scanned3 : ES := (sFor (iP (xIt (xPure (xVar 0)))) (put 4) P_scanned3b)
instance : MS P_scanned3 := by unfold P_scanned3; infer_instance
def P_scanned4b1 : ES := (sAsg (mP (xComp [6, 7] (xIt (xVar 1)) (gTupD 2 (gsCons (putB 6) (gsCons (putB 7) gsNil))) yYes (xTup (xsCons (xOp oAdd (xOp ixD (xVar 4) (xC (.int 0))) (xVar 6)) (xsCons (xOp oAdd (xOp ixD (xVar 4) (xC (.int 1))) (xVar 7)) xsNil))))) (put 5))
instance : MS P_scanned4b1 := by unfold P_scanned4b1; infer_instance
def P_scanned4b2 : ES := (sAsg (mP (xCall minLD (xsCons (xLst (xsCons (xPure (xOp ixD (xVar 3) (xVar 4))) (xsStar (xComp [8] (xIt (xVar 5)) (putB 8) yYes (xIf (xBool (xOp oIn (xVar 8) (xVar 2))) (xOp oAdd (xOp ixD (xVar 3) (xVar 8)) (xC (.int 1))) (xC (.int 1)))) xsNil))) xsNil))) (gSub' 3 (xVar 4) setT))
instance : MS P_scanned4b2 := by unfold P_scanned4b2; infer_instance
def P_scanned4b : ES := (sSeq P_scanned4b1 P_scanned4b2)
instance : MS P_scanned4b := by unfold P_scanned4b; infer_instance
def P_scanned4 : ES := (sFor (iP (xRvI (xPure (xVar 0)))) (put 4) P_scanned4b)
instance : MS P_scanned4 := by unfold P_scanned4; infer_instance
def P_scanned : ES := (sSeq P_scanned1 (sSeq (sAsg (mP (xC (.dT [] []))) (put 3)) (sSeq P_scanned3 (sSeq P_scanned4 (sRet (mMove 3))))))
instance : MS P_scanned := by unfold P_scanned; infer_instance
/-! ### the three ways to measure -/
def mt : Nat → Str
  | 0 => "city"
  | 1 => "chess"
  | _ => "square"
def In60 (c : Cell) : Prop := (-60 ≤ c.1 ∧ c.1 ≤ 60) ∧ (-60 ≤ c.2 ∧ c.2 ≤ 60)
/-! ### the scans -/
section
variable {st cs : List Cell} {m : List (Cell × Int)} {c : Cell}
def stD (st : List Cell) : D := .tup (st.map cellD)
abbrev scE (st cs : List Cell) (m : List (Cell × Int)) : DL.Env := [ow (inkD cs), ow (stD st), ow (fd cs), ow (mapD D.int m), none, none, none, none, none]
end
end C
end DL
namespace DL
open PySem PySem.Spec L2
/-! ### columns, row by row, and back -/
def valA (cs : List Cell) (m : List (Cell × Int)) (c : Cell) : Int := if c ∈ cs then (aget m (c.1 - 1, c.2)).getD 0 + 1 else 0
def valB (m : List (Cell × Int)) (c : Cell) : Int := if (aget m (c.1 + 1, c.2)).getD 0 + 1 < (aget m c).getD 0 then (aget m (c.1 + 1, c.2)).getD 0 + 1 else (aget m c).getD 0
def rows (cs : List Cell) : List Int := (List.range (bot cs + 1 - (top cs - 1)).toNat).map fun i : Nat => top cs - 1 + (i : Int)
def colC (cs : List Cell) (q : Int) : List Cell := (rows cs).map fun r => (r, q)
def colA (cs : List Cell) (m : List (Cell × Int)) (q : Int) : List (Cell × Int) := (colC cs q).foldl (setF (valA cs)) m
def stB (cs : List Cell) (m : List (Cell × Int)) (c : Cell) : List (Cell × Int) := if c ∈ cs then setF valB m c else m
def colB (cs : List Cell) (m : List (Cell × Int)) (q : Int) : List (Cell × Int) := (colC cs q).reverse.foldl (stB cs) m
def colF (cs : List Cell) (m : List (Cell × Int)) (q : Int) : List (Cell × Int) := colB cs (colA cs m q) q
section
variable {cs : List Cell} (p : cs.Pairwise ltc)
include p
omit p in
omit p in
end
end DL
namespace DL
open PySem PySem.Spec L2
namespace C
def P_square_map1 : ES := (sAsg (mP (xCall F_box_in (xsCons (xVar 0) xsNil))) (gTupD 4 (gsCons (put 1) (gsCons (put 2) (gsCons (put 3) (gsCons (put 4) gsNil))))))
instance : MS P_square_map1 := by unfold P_square_map1; infer_instance
def P_square_map2 : ES := (sAsg (mP (xDict [11] (xIt (xVar 0)) (putB 11) yYes (xPure (xVar 11)) (xC (.bl true)))) (put 5))
instance : MS P_square_map2 := by unfold P_square_map2; infer_instance
def P_square_map4b1b : ES := (sAsg (mP (xIf (xBool (xOp oIn (xTup (xsCons (xPure (xVar 8)) (xsCons (xPure (xVar 7)) xsNil))) (xVar 5))) (xOp oAdd (xGet2 (xVar 6) (xTup (xsCons (xOp oSub (xVar 8) (xC (.int 1))) (xsCons (xPure (xVar 7)) xsNil))) (xC (.int 0))) (xC (.int 1))) (xC (.int 0)))) (gSub' 6 (xTup (xsCons (xPure (xVar 8)) (xsCons (xPure (xVar 7)) xsNil))) setT))
instance : MS P_square_map4b1b := by unfold P_square_map4b1b; infer_instance
def P_square_map4b1 : ES := (sFor (iP (xRng2 (xsCons (xOp oSub (xVar 1) (xC (.int 1))) (xsCons (xOp oAdd (xVar 3) (xC (.int 1))) xsNil)))) (put 8) P_square_map4b1b)
instance : MS P_square_map4b1 := by unfold P_square_map4b1; infer_instance
def P_square_map4b2bt : ES := (sAsg (mP (xCall min2D (xsCons (xOp ixD (xVar 6) (xTup (xsCons (xPure (xVar 8)) (xsCons (xPure (xVar 7)) xsNil)))) (xsCons (xOp oAdd (xOp ixD (xVar 6) (xTup (xsCons (xOp oAdd (xVar 8) (xC (.int 1))) (xsCons (xPure (xVar 7)) xsNil)))) (xC (.int 1))) xsNil)))) (gSub' 6 (xTup (xsCons (xPure (xVar 8)) (xsCons (xPure (xVar 7)) xsNil))) setT))
instance : MS P_square_map4b2bt := by unfold P_square_map4b2bt; infer_instance
def P_square_map4b2b : ES := (sIf (tP' (xBool (xOp oIn (xTup (xsCons (xPure (xVar 8)) (xsCons (xPure (xVar 7)) xsNil))) (xVar 5)))) P_square_map4b2bt sNext)
instance : MS P_square_map4b2b := by unfold P_square_map4b2b; infer_instance
def P_square_map4b2 : ES := (sFor (iP (xRvR2 (xOp oSub (xVar 1) (xC (.int 1))) (xOp oAdd (xVar 3) (xC (.int 1))))) (put 8) P_square_map4b2b)
instance : MS P_square_map4b2 := by unfold P_square_map4b2; infer_instance
def P_square_map4b : ES := (sSeq P_square_map4b1 P_square_map4b2)
instance : MS P_square_map4b := by unfold P_square_map4b; infer_instance
def P_square_map4 : ES := (sFor (iP (xRng2 (xsCons (xOp oSub (xVar 2) (xC (.int 1))) (xsCons (xOp oAdd (xVar 4) (xC (.int 1))) xsNil)))) (put 7) P_square_map4b)
instance : MS P_square_map4 := by unfold P_square_map4; infer_instance
def P_square_map6b1 : ES := (sAsg (mP (xComp [12] (xRng2 (xsCons (xOp oSub (xVar 2) (xC (.int 1))) (xsCons (xOp oAdd (xVar 4) (xC (.int 1))) xsNil))) (putB 12) yYes (xOp oAdd (xOp oPow (xOp ixD (xVar 6) (xTup (xsCons (xPure (xVar 8)) (xsCons (xPure (xVar 12)) xsNil)))) (xC (.int 2))) (xOp oPow (xOp oSub (xVar 7) (xVar 12)) (xC (.int 2)))))) (put 10))
instance : MS P_square_map6b1 := by unfold P_square_map6b1; infer_instance
def P_square_map6b2 : ES := (sAsg (mP (xCall minLD (xsCons (xVar 10) xsNil))) (gSub' 9 (xTup (xsCons (xPure (xVar 8)) (xsCons (xPure (xVar 7)) xsNil))) setT))
instance : MS P_square_map6b2 := by unfold P_square_map6b2; infer_instance
def P_square_map6b : ES := (sSeq P_square_map6b1 P_square_map6b2)
instance : MS P_square_map6b := by unfold P_square_map6b; infer_instance
def P_square_map6 : ES := (sFor (iP (xIt (xPure (xVar 0)))) (gTupD 2 (gsCons (put 8) (gsCons (put 7) gsNil))) P_square_map6b)
instance : MS P_square_map6 := by unfold P_square_map6; infer_instance
def P_square_map : ES := (sSeq P_square_map1 (sSeq P_square_map2 (sSeq (sAsg (mP (xC (.dT [] []))) (put 6)) (sSeq P_square_map4 (sSeq (sAsg (mP (xC (.dT [] []))) (put 9)) (sSeq P_square_map6 (sRet (mMove 9))))))))
instance : MS P_square_map := by unfold P_square_map; infer_instance
def P_map_in1 : ES := (sIf (tP' (xBool (xOp oEq (xVar 0) (xTup xsNil)))) (sRet (mP (xC (.dT [] [])))) sNext)
instance : MS P_map_in1 := by unfold P_map_in1; infer_instance
def P_map_in2 : ES := (sIf (tP' (xBool (xOp oEq (xVar 1) (xC (.str "square"))))) (sRet (mP (xCall F_square_map (xsCons (xVar 0) xsNil)))) sNext)
instance : MS P_map_in2 := by unfold P_map_in2; infer_instance
def P_map_in3 : ES := (sRet (mP (xCall F_scanned (xsCons (xVar 0) (xsCons (xIf (xBool (xOp oEq (xVar 1) (xC (.str "city")))) (xTup (xsCons (xTup (xsCons (xC (.int 1)) (xsCons (xC (.int 0)) xsNil))) (xsCons (xTup (xsCons (xC (.int 0)) (xsCons (xC (.int 1)) xsNil))) xsNil))) (xTup (xsCons (xTup (xsCons (xC (.int 1)) (xsCons (xC (.int 1)) xsNil))) (xsCons (xTup (xsCons (xC (.int 1)) (xsCons (xC (.int 0)) xsNil))) (xsCons (xTup (xsCons (xC (.int 1)) (xsCons (xNeg (xC (.int 1))) xsNil))) (xsCons (xTup (xsCons (xC (.int 0)) (xsCons (xC (.int 1)) xsNil))) xsNil)))))) xsNil)))))
instance : MS P_map_in3 := by unfold P_map_in3; infer_instance
def P_map_in : ES := (sSeq P_map_in1 (sSeq P_map_in2 P_map_in3))
instance : MS P_map_in := by unfold P_map_in; infer_instance
def P_distance_map1 : ES := (sDrop (mP (xCall F_need_ink (xsCons (xVar 0) xsNil))))
instance : MS P_distance_map1 := by unfold P_distance_map1; infer_instance
def P_distance_map2 : ES := (sDrop (mP (xCall F_need_metric (xsCons (xVar 1) xsNil))))
instance : MS P_distance_map2 := by unfold P_distance_map2; infer_instance
def P_distance_map3 : ES := (sAsg (mP (xCall F_map_in (xsCons (xVar 0) (xsCons (xVar 1) xsNil)))) (put 2))
instance : MS P_distance_map3 := by unfold P_distance_map3; infer_instance
def P_distance_map4 : ES := (sRet (mP (xCall tupleD (xsCons (xComp [3] (xIt (xVar 0)) (putB 3) yYes (xPure (xOp ixD (xVar 2) (xVar 3)))) xsNil))))
instance : MS P_distance_map4 := by unfold P_distance_map4; infer_instance
def P_distance_map : ES := (sSeq P_distance_map1 (sSeq P_distance_map2 (sSeq P_distance_map3 P_distance_map4)))
instance : MS P_distance_map := by unfold P_distance_map; infer_instance
section
variable {cs : List Cell}
abbrev sqE (cs : List Cell) (M : D) (x7 x8 x9 x10 : Slt) : DL.Env := [ow (inkD cs), ow (.int (top cs)), ow (.int (left cs)), ow (.int (bot cs)), ow (.int (right cs)), ow (fd cs), ow M, x7, x8, x9, x10, none, none]
theorem good_box {cs : List Cell} (g : Good cs) (h0 : cs ≠ []) : (-60 ≤ top cs ∧ bot cs ≤ 61) ∧ (-60 ≤ left cs ∧ right cs ≤ 61) ∧ top cs ≤ bot cs ∧ left cs ≤ right cs := by
  have b := DL.box_in (t := -60) (l := -60) (b := 61) (r := 61) h0 fun c hc => by
    have := g.row c hc
    have := g.col c hc
    omega
  obtain ⟨c, hc⟩ := List.exists_mem_of_ne_nil cs h0
  have := in_box hc
  omega
def uprM (cs : List Cell) : List (Cell × Int) := (cols cs).foldl (colF cs) []
def sqM (cs : List Cell) : List (Cell × Int) := cs.foldl (setF fun _ c => minI (sqs cs c)) []
/-- the table of the distances -/
def tabV (k : Nat) (cs : List Cell) : List (Cell × Int) := if cs = [] then [] else if k = 2 then sqM cs else scan2 (stK k) cs
def mapT (k : Nat) (cs : List Cell) : List Int := cs.map (mapV k cs)
def wT (ns : List Int) : D := .tup (ns.map D.int)
end
end C
end DL
namespace DL
open PySem PySem.Spec L2
namespace C
abbrev N_law_far : List Str := ["_law_one", "_law_other", "_law_metric", "_law_down", "_law_right"]
def s_law_far : ES := (sSeq (sPar 3 4 (msCons (mP (xCall absD (xsCons (xOp oSub (xOp ixD (xVar 0) (xC (.int 0))) (xOp ixD (xVar 1) (xC (.int 0)))) xsNil))) (msCons (mP (xCall absD (xsCons (xOp oSub (xOp ixD (xVar 0) (xC (.int 1))) (xOp ixD (xVar 1) (xC (.int 1)))) xsNil))) msNil)))
  (sSeq (sIf (tP' (xBool (xOp oEq (xVar 2) (xC (.str "square"))))) (sRet (mP (xOp oAdd (xOp oMul (xVar 3) (xVar 3)) (xOp oMul (xVar 4) (xVar 4))))) sNext)
  (sRet (mP (xIf (xBool (xOp oEq (xVar 2) (xC (.str "city")))) (xOp oAdd (xVar 3) (xVar 4)) (xCall max2D (xsCons (xVar 3) (xsCons (xVar 4) xsNil))))))))
def F_law_far : List D → Option D := fnP N_law_far s_law_far
abbrev N_law_ground : List Str := ["_law_ink_here", "_law_top", "_law_left", "_law_bottom", "_law_right", "_law_found", "_law_line", "_law_column"]
def s_law_ground : ES := (sSeq (sAsg (mP (xCall F_law_box (xsCons (xVar 0) xsNil))) (gTupD 4 (gsCons (put 1) (gsCons (put 2) (gsCons (put 3) (gsCons (put 4) gsNil))))))
  (sSeq (sAsg (mP (xLst xsNil)) (put 5))
  (sSeq (sFor (iP (xRng2 (xsCons (xOp oSub (xVar 1) (xC (.int 1))) (xsCons (xOp oAdd (xVar 3) (xC (.int 1))) xsNil)))) (put 6)
  (sAsg (mP (xOp oAdd (xVar 5) (xComp [7] (xRng2 (xsCons (xOp oSub (xVar 2) (xC (.int 1))) (xsCons (xOp oAdd (xVar 4) (xC (.int 1))) xsNil))) (putB 7) (xBool (xOp oNin (xTup (xsCons (xPure (xVar 6)) (xsCons (xPure (xVar 7)) xsNil))) (xVar 0))) (xTup (xsCons (xPure (xVar 6)) (xsCons (xPure (xVar 7)) xsNil)))))) (put 5)))
  (sRet (mMove 5)))))
def F_law_ground : List D → Option D := fnP N_law_ground s_law_ground
def P_law_far1 : ES := (sPar 3 4 (msCons (mP (xCall absD (xsCons (xOp oSub (xOp ixD (xVar 0) (xC (.int 0))) (xOp ixD (xVar 1) (xC (.int 0)))) xsNil))) (msCons (mP (xCall absD (xsCons (xOp oSub (xOp ixD (xVar 0) (xC (.int 1))) (xOp ixD (xVar 1) (xC (.int 1)))) xsNil))) msNil)))
instance : MS P_law_far1 := by unfold P_law_far1; infer_instance
def P_law_far2t : ES := (sRet (mP (xOp oAdd (xOp oMul (xVar 3) (xVar 3)) (xOp oMul (xVar 4) (xVar 4)))))
instance : MS P_law_far2t := by unfold P_law_far2t; infer_instance
def P_law_far2 : ES := (sIf (tP' (xBool (xOp oEq (xVar 2) (xC (.str "square"))))) P_law_far2t sNext)
instance : MS P_law_far2 := by unfold P_law_far2; infer_instance
def P_law_far3 : ES := (sRet (mP (xIf (xBool (xOp oEq (xVar 2) (xC (.str "city")))) (xOp oAdd (xVar 3) (xVar 4)) (xCall max2D (xsCons (xVar 3) (xsCons (xVar 4) xsNil))))))
instance : MS P_law_far3 := by unfold P_law_far3; infer_instance
def P_law_far : ES := (sSeq P_law_far1 (sSeq P_law_far2 P_law_far3))
instance : MS P_law_far := by unfold P_law_far; infer_instance
def P_law_ground1 : ES := (sAsg (mP (xCall F_law_box (xsCons (xVar 0) xsNil))) (gTupD 4 (gsCons (put 1) (gsCons (put 2) (gsCons (put 3) (gsCons (put 4) gsNil))))))
instance : MS P_law_ground1 := by unfold P_law_ground1; infer_instance
def P_law_ground3b : ES := (sAsg (mP (xOp oAdd (xVar 5) (xComp [7] (xRng2 (xsCons (xOp oSub (xVar 2) (xC (.int 1))) (xsCons (xOp oAdd (xVar 4) (xC (.int 1))) xsNil))) (putB 7) (xBool (xOp oNin (xTup (xsCons (xPure (xVar 6)) (xsCons (xPure (xVar 7)) xsNil))) (xVar 0))) (xTup (xsCons (xPure (xVar 6)) (xsCons (xPure (xVar 7)) xsNil)))))) (put 5))
instance : MS P_law_ground3b := by unfold P_law_ground3b; infer_instance
def P_law_ground3 : ES := (sFor (iP (xRng2 (xsCons (xOp oSub (xVar 1) (xC (.int 1))) (xsCons (xOp oAdd (xVar 3) (xC (.int 1))) xsNil)))) (put 6) P_law_ground3b)
instance : MS P_law_ground3 := by unfold P_law_ground3; infer_instance
def P_law_ground : ES := (sSeq P_law_ground1 (sSeq (sAsg (mP (xLst xsNil)) (put 5)) (sSeq P_law_ground3 (sRet (mMove 5)))))
instance : MS P_law_ground := by unfold P_law_ground; infer_instance
end C
end DL
namespace DL
open PySem PySem.Spec L2
/-! ### sums and orders -/
/-! ### layers of ways -/
abbrev SW := List (Cell × (Int × Int))
def wOf (f : SW) (c : Cell) : Int := ((aget f c).getD (0, 0)).2
/-- one neighbor met from a cell of the rim -/
def meetC (cs : List Cell) (f : SW) (w : Int) (m : List (Cell × Int)) (b : Cell) : List (Cell × Int) := if b ∈ cs ∧ b ∉ akeys f then aset m b ((aget m b).getD 0 + w) else m
def rimC (nb : Cell → List Cell) (cs : List Cell) (f : SW) (m : List (Cell × Int)) (a : Cell) : List (Cell × Int) := (nb a).foldl (meetC cs f (wOf f a)) m
def moreC (nb : Cell → List Cell) (cs : List Cell) (f : SW) (rim : List Cell) : List (Cell × Int) := rim.foldl (rimC nb cs f) []
def putC (t : Int) (f : SW) (m : List (Cell × Int)) : SW := m.foldl (fun f p => aset f p.1 (t, p.2)) f
def sumW (nb : Cell → List Cell) (f : SW) (rim : List Cell) (c : Cell) : Int := (rim.map fun a => ((nb a).count c : Int) * wOf f a).sum
/-! ### the same layers, whatever the order -/
structure Sim (f g : SW) (r s : List Cell) : Prop where
  get : ∀ c, aget f c = aget g c
  nr : r.Nodup
  ns : s.Nodup
  mem : ∀ c, c ∈ r ↔ c ∈ s
/-- rounds -/
def rnd (nb : Cell → List Cell) (cs : List Cell) (x : SW × List Cell) (t : Nat) : SW × List Cell := (putC ((t : Int) + 1) x.1 (moreC nb cs x.1 x.2), akeys (moreC nb cs x.1 x.2))
def rnds (nb : Cell → List Cell) (cs : List Cell) (a : Cell) (n : Nat) : SW × List Cell := (List.range n).foldl (rnd nb cs) ([(a, (0, 1))], [a])
end DL
namespace DL
open PySem PySem.Spec L2
/-! ### steps within cells -/
/-- n steps from a to b within cs -/
def Rch (nb : Cell → List Cell) (cs : List Cell) : Nat → Cell → Cell → Prop
  | 0, a, b => a = b ∧ a ∈ cs
  | n + 1, a, b => ∃ c, Rch nb cs n a c ∧ b ∈ nb c ∧ b ∈ cs
section
variable {nb : Cell → List Cell} {cs : List Cell}
theorem Rch.mem : ∀ {n : Nat} {a b : Cell}, Rch nb cs n a b → a ∈ cs ∧ b ∈ cs
  | 0, a, b, ⟨e, h⟩ => ⟨h, e ▸ h⟩
  | n + 1, a, b, ⟨c, h, _, hb⟩ => ⟨h.mem.1, hb⟩
theorem Rch.front (sy : ∀ a b, b ∈ nb a → a ∈ nb b) : ∀ {n : Nat} {a b c : Cell}, c ∈ cs → a ∈ nb c → Rch nb cs n a b → Rch nb cs (n + 1) c b
  | 0, a, b, c, hc, h, ⟨e, ha⟩ => ⟨c, ⟨rfl, hc⟩, e ▸ h, e ▸ ha⟩
  | n + 1, a, b, c, hc, h, ⟨d, hd, h1, h2⟩ => ⟨d, Rch.front sy hc h hd, h1, h2⟩
theorem Rch.symm (sy : ∀ a b, b ∈ nb a → a ∈ nb b) : ∀ {n : Nat} {a b : Cell}, Rch nb cs n a b → Rch nb cs n b a
  | 0, a, b, ⟨e, h⟩ => ⟨e.symm, e ▸ h⟩
  | n + 1, a, b, ⟨c, h, h1, h2⟩ => Rch.front sy h2 (sy _ _ h1) (Rch.symm sy h)
/-- the least number of steps -/
def Far (nb : Cell → List Cell) (cs : List Cell) (a b : Cell) (n : Nat) : Prop := Rch nb cs n a b ∧ ∀ m, m < n → ¬ Rch nb cs m a b
theorem Far.uniq {a b : Cell} {n m : Nat} (h : Far nb cs a b n) (k : Far nb cs a b m) : n = m := by
  rcases Nat.lt_trichotomy n m with l | l | l
  · exact absurd h.1 (k.2 n l)
  · exact l
  · exact absurd k.1 (h.2 m l)
theorem Far.symm (sy : ∀ a b, b ∈ nb a → a ∈ nb b) {a b : Cell} {n : Nat} (h : Far nb cs a b n) : Far nb cs b a n := ⟨h.1.symm sy, fun m l k => h.2 m l (k.symm sy)⟩
theorem Far.of {a b : Cell} : ∀ {n : Nat}, Rch nb cs n a b → ∃ m, m ≤ n ∧ Far nb cs a b m := by
  intro n
  induction n using Nat.strongRecOn with
  | ind n ih =>
    intro h
    by_cases q : ∃ m, m < n ∧ Rch nb cs m a b
    · obtain ⟨m, l, k⟩ := q
      obtain ⟨j, lj, f⟩ := ih m l k
      exact ⟨j, by omega, f⟩
    · exact ⟨n, Nat.le_refl _, h, fun m l k => q ⟨m, l, k⟩⟩
/-- what has been found after n rounds -/
structure Lay (nb : Cell → List Cell) (cs : List Cell) (a : Cell) (n : Nat) (x : SW × List Cell) : Prop where
  far : ∀ c v, aget x.1 c = some v → ∃ d : Nat, v.1 = d ∧ d ≤ n ∧ Far nb cs a c d
  all : ∀ c d, d ≤ n → Far nb cs a c d → ∃ v, aget x.1 c = some v
  rim : ∀ c, c ∈ x.2 ↔ Far nb cs a c n
/-- all layers -/
def layF (nb : Cell → List Cell) (cs : List Cell) (a : Cell) : SW := (rnds nb cs a cs.length).1
end
end DL
namespace DL
open PySem PySem.Spec L2
/-! ### loops over a name that is lent for the while -/
section
variable {i : Nat}
theorem ms_lend {src : IM} {gx : GX} {b : ES} [hm : MM src] [hg : MG gx] [hb : MS b] (dead : ∀ ρ : Env, ρ[i]? = some none ∨ ρ[i]? = none → src ρ = none) : MS (sLend i (sFor src gx b)) := ⟨fun {ρ ρ' o} l z => by
  have hs : MS (sFor src gx b) := inferInstance
  have dd : (ρ[i]? = some none ∨ ρ[i]? = none) → sFor src gx b ρ = none := fun h => by
    unfold sFor
    rw [dead ρ h]
    rfl
  unfold sLend at z ⊢
  rcases l.at i with ⟨q, q'⟩ | ⟨s, t, q, q', ls⟩
  · simp only [q] at z
    rw [dd (.inr q)] at z
    cases z
  · rcases ls with rfl | ⟨rfl, _⟩
    · simp only [q] at z
      simp only [q']
      cases s with
      | none =>
        have z : sFor src gx b ρ = some o := z
        rw [dd (.inl q)] at z
        cases z
      | some s =>
        obtain ⟨m, d⟩ := s
        cases m with
        | own =>
          have z : (sFor src gx b (ρ.set i (some (.bor, d)))).bind (backO i ρ) = some o := z
          show _ ∧ ∃ o', (sFor src gx b (ρ'.set i (some (.bor, d)))).bind (backO i ρ') = some o' ∧ _
          obtain ⟨o1, e1, z⟩ := obind z
          obtain ⟨_, o2, e2, l2⟩ := hs.mono (l.set' i (some (.bor, d))) e1
          rw [e2]
          exact backO_le l l2 z fun s e => by rw [q'] at e; cases e; rfl
        | bor => exact hs.mono l z
        | pin => exact hs.mono l z
        | tag P => exact hs.mono l z
    · simp only [q] at z
      have z : sFor src gx b ρ = some o := z
      rw [dd (.inl q)] at z
      cases z⟩
instance : MM (srcI i) := ⟨fun {ρ ρ' d ρ1} l z => by
  rcases l.at i with ⟨q, q'⟩ | ⟨s, t, q, q', ls⟩
  · unfold srcI at z; rw [q] at z; cases z
  · rcases ls with rfl | ⟨rfl, _⟩
    · cases s with
      | none => unfold srcI at z; rw [q] at z; cases z
      | some s =>
        obtain ⟨m, x⟩ := s
        cases m with
        | bor =>
          cases x with
          | dT ks xs =>
            unfold srcI at z ⊢
            rw [q] at z
            rw [q']
            replace z : some (pairsT ks xs, ρ) = some (d, ρ1) := z
            cases z
            exact ⟨rfl, ρ', rfl, l⟩
          | _ => unfold srcI at z; rw [q] at z; cases z
        | _ => unfold srcI at z; rw [q] at z; cases z
    · unfold srcI at z; rw [q] at z; cases z⟩
theorem srcI_dead (ρ : Env) (h : ρ[i]? = some none ∨ ρ[i]? = none) : srcI i ρ = none := by
  unfold srcI
  rcases h with h | h <;> rw [h]
instance {gx : GX} {b : ES} [hg : MG gx] [hb : MS b] : MS (sItems i gx b) := ⟨fun {ρ ρ' o} l z => by
  have hs : MS (sLend i (sFor (srcI i) gx b)) := ms_lend srcI_dead
  unfold sItems at z ⊢
  rcases l.at i with ⟨q, q'⟩ | ⟨s, t, q, q', ls⟩
  · simp only [q] at z; cases z
  · rcases ls with rfl | ⟨rfl, _⟩
    · simp only [q] at z
      simp only [q']
      cases s with
      | none => cases z
      | some s =>
        obtain ⟨m, x⟩ := s
        cases m with
        | own => exact hs.mono l z
        | bor => cases z
        | pin => cases z
        | tag P => cases z
    · simp only [q] at z; cases z⟩
theorem ev_back {g : ES} {ρ ρe : Env} {d : D} (q : ρ[i]? = some (some (.own, d))) (h : Ev g (ρ.set i (some (.bor, d))) (.nx ρe)) (hl : ρe.length = ρ.length) : Ev (sLend i g) ρ (.nx (backL i 0 ρ ρe)) := by
  obtain ⟨o, e, l⟩ := h
  cases o with
  | nx σ =>
    have l : Le ρe σ := l
    refine ⟨.nx (backL i 0 ρ σ), ?_, backL_le (Le.refl ρ) l fun s z _ => by rw [show i - 0 = i from rfl, q] at z; cases z; rfl⟩
    unfold sLend
    rw [q]
    show (g (ρ.set i (some (.bor, d)))).bind (backO i ρ) = _
    rw [e]
    show (if σ.length = ρ.length then some (Out.nx (backL i 0 ρ σ)) else none) = _
    rw [if_pos (by rw [← l.len, hl])]
  | _ => exact l.elim
theorem Ev.items {gx : GX} {b : ES} {ρ ρe : Env} {ks : List (List Key)} {xs : List D} (q : ρ[i]? = some (some (.own, .dT ks xs))) (h : EvF gx b (pairsT ks xs) (ρ.set i (some (.bor, .dT ks xs))) (.nx ρe)) (hl : ρe.length = ρ.length) : Ev (sItems i gx b) ρ (.nx (backL i 0 ρ ρe)) := by
  have hi := Ok.len_lt q
  have k : Ev (sFor (srcI i) gx b) (ρ.set i (some (.bor, .dT ks xs))) (.nx ρe) := Ev.for (ρ1 := ρ.set i (some (.bor, .dT ks xs))) (by unfold srcI; rw [List.getElem?_set_self hi]) h
  obtain ⟨o, e, l⟩ := ev_back q k hl
  refine ⟨o, ?_, l⟩
  unfold sItems
  rw [q]
  exact e
end
/-! ### the least of cells -/
def minC : List Cell → Cell
  | [] => (0, 0)
  | c :: cs => cs.foldl (fun a b => if ltc b a then b else a) c
section
variable {α : Type} {g : α → D}
end
def swD (p : Int × Int) : D := .tup [.int p.1, .int p.2]
end DL
namespace DL
open PySem PySem.Spec L2
namespace C
def c_FOUR : D := (.ctp [(.ctp [(.int (-1)), (.int 0)]), (.ctp [(.int 0), (.int (-1))]), (.ctp [(.int 0), (.int 1)]), (.ctp [(.int 1), (.int 0)])])
def c_EIGHT : D := (.ctp [(.ctp [(.int (-1)), (.int (-1))]), (.ctp [(.int (-1)), (.int 0)]), (.ctp [(.int (-1)), (.int 1)]), (.ctp [(.int 0), (.int (-1))]), (.ctp [(.int 0), (.int 1)]), (.ctp [(.int 1), (.int (-1))]), (.ctp [(.int 1), (.int 0)]), (.ctp [(.int 1), (.int 1)])])
abbrev N_need_kind : List Str := ["kind"]
def s_need_kind : ES := (sIf (tP' (yOr (yNot (xBool (xCall F_is_integer (xsCons (xVar 0) xsNil)))) (xBool (xOp oNin (xVar 0) (xTup (xsCons (xC (.int 4)) (xsCons (xC (.int 8)) xsNil))))))) sNever sNext)
def F_need_kind : List D → Option D := fnP N_need_kind s_need_kind
abbrev N_steps_of : List Str := ["kind"]
def s_steps_of : ES := (sRet (mP (xIf (xBool (xOp oEq (xVar 0) (xC (.int 4)))) (xC c_FOUR) (xC c_EIGHT))))
def F_steps_of : List D → Option D := fnP N_steps_of s_steps_of
abbrev N_near : List Str := ["cell", "kind", "down", "right"]
def s_near : ES := (sRet (mP (xComp [2, 3] (xIt (xCall F_steps_of (xsCons (xVar 1) xsNil))) (gTupD 2 (gsCons (putB 2) (gsCons (putB 3) gsNil))) yYes (xTup (xsCons (xOp oAdd (xOp ixD (xVar 0) (xC (.int 0))) (xVar 2)) (xsCons (xOp oAdd (xOp ixD (xVar 0) (xC (.int 1))) (xVar 3)) xsNil))))))
def F_near : List D → Option D := fnP N_near s_near
abbrev N_need_own : List Str := ["ink", "cell"]
def s_need_own : ES := (sIf (tP' (yOr (yNot (xBool (xCall F_is_cell (xsCons (xVar 1) xsNil)))) (xBool (xOp oNin (xVar 1) (xVar 0))))) sNever sNext)
def F_need_own : List D → Option D := fnP N_need_own s_need_own
abbrev N_layers : List Str := ["ink", "cell", "kind", "cells", "found", "rim", "steps", "more", "one", "other", "many"]
def s_layers : ES := (sSeq (sAsg (mP (xDict [8] (xIt (xVar 0)) (putB 8) yYes (xPure (xVar 8)) (xC (.bl true)))) (put 3))
  (sSeq (sPar3 4 5 6 (msCons (mDisp (msCons (mP (xPure (xVar 1))) (msCons (mP (xTup (xsCons (xC (.int 0)) (xsCons (xC (.int 1)) xsNil)))) msNil))) (msCons (mP (xLst (xsCons (xPure (xVar 1)) xsNil))) (msCons (mP (xC (.int 0))) msNil))))
  (sSeq (sWhile (tP' (xBool (xOp oNe (xVar 5) (xLst xsNil))))
  (sSeq (sPar 7 6 (msCons (mP (xC (.dT [] []))) (msCons (mP (xOp oAdd (xVar 6) (xC (.int 1)))) msNil)))
  (sSeq (sLend 5 (sFor (srcB 5) (put 8)
  (sFor (iP (xIt (xCall F_near (xsCons (xVar 8) (xsCons (xVar 2) xsNil))))) (put 9)
  (sIf (tP' (yAnd (xBool (xOp oIn (xVar 9) (xVar 3))) (xBool (xOp oNin (xVar 9) (xVar 4))))) (sAsg (mP (xOp oAdd (xGet2 (xVar 7) (xVar 9) (xC (.int 0))) (xOp ixD (xOp ixD (xVar 4) (xVar 8)) (xC (.int 1))))) (gSub' 7 (xVar 9) setT)) sNext))))
  (sSeq (sItems 7 (gTupD 2 (gsCons (put 9) (gsCons (put 10) gsNil)))
  (sAsg (mP (xTup (xsCons (xPure (xVar 6)) (xsCons (xPure (xVar 10)) xsNil)))) (gSub' 4 (xVar 9) setT)))
  (sAsg (mP (xCall listA (xsCons (xVar 7) xsNil))) (put 5))))))
  (sRet (mMove 4)))))
def F_layers : List D → Option D := fnP N_layers s_layers
abbrev N_need_ends : List Str := ["ink", "one", "other", "kind"]
def s_need_ends : ES := (sSeq (sDrop (mP (xCall F_need_ink (xsCons (xVar 0) xsNil))))
  (sSeq (sDrop (mP (xCall F_need_own (xsCons (xVar 0) (xsCons (xVar 1) xsNil)))))
  (sSeq (sDrop (mP (xCall F_need_own (xsCons (xVar 0) (xsCons (xVar 2) xsNil)))))
  (sDrop (mP (xCall F_need_kind (xsCons (xVar 3) xsNil)))))))
def F_need_ends : List D → Option D := fnP N_need_ends s_need_ends
abbrev N_steps : List Str := ["ink", "one", "other", "kind"]
def s_steps : ES := (sSeq (sDrop (mP (xCall F_need_ends (xsCons (xVar 0) (xsCons (xVar 1) (xsCons (xVar 2) (xsCons (xVar 3) xsNil)))))))
  (sRet (mP (xPure (xOp ixD (xGet2 (xCall F_layers (xsCons (xVar 0) (xsCons (xVar 1) (xsCons (xVar 3) xsNil)))) (xVar 2) (xTup (xsCons (xC .non) (xsCons (xC (.int 0)) xsNil)))) (xC (.int 0)))))))
def F_steps : List D → Option D := fnP N_steps s_steps
abbrev N_count_ways : List Str := ["ink", "one", "other", "kind"]
def s_count_ways : ES := (sSeq (sDrop (mP (xCall F_need_ends (xsCons (xVar 0) (xsCons (xVar 1) (xsCons (xVar 2) (xsCons (xVar 3) xsNil)))))))
  (sRet (mP (xPure (xOp ixD (xGet2 (xCall F_layers (xsCons (xVar 0) (xsCons (xVar 1) (xsCons (xVar 3) xsNil)))) (xVar 2) (xTup (xsCons (xC .non) (xsCons (xC (.int 0)) xsNil)))) (xC (.int 1)))))))
def F_count_ways : List D → Option D := fnP N_count_ways s_count_ways
abbrev N_least_way : List Str := ["ink", "one", "other", "kind", "table", "found", "left", "more"]
def s_least_way : ES := (sSeq (sDrop (mP (xCall F_need_ends (xsCons (xVar 0) (xsCons (xVar 1) (xsCons (xVar 2) (xsCons (xVar 3) xsNil)))))))
  (sSeq (sAsg (mP (xCall F_layers (xsCons (xVar 0) (xsCons (xVar 2) (xsCons (xVar 3) xsNil))))) (put 4))
  (sSeq (sIf (tP' (xBool (xOp oNin (xVar 1) (xVar 4)))) (sRet (mP (xC .non))) sNext)
  (sSeq (sAsg (mP (xLst (xsCons (xPure (xVar 1)) xsNil))) (put 5))
  (sSeq (sWhile (tP' (xBool (xOp oNe (xOp ixD (xVar 5) (xNeg (xC (.int 1)))) (xVar 2))))
  (sSeq (sAsg (mP (xPure (xOp ixD (xOp ixD (xVar 4) (xOp ixD (xVar 5) (xNeg (xC (.int 1))))) (xC (.int 0))))) (put 6))
  (sDrop (mMut isL appendD 5 (msCons (mP (xCall minLD (xsCons (xComp [7] (xIt (xCall F_near (xsCons (xOp ixD (xVar 5) (xNeg (xC (.int 1)))) (xsCons (xVar 3) xsNil)))) (putB 7) (yAnd (xBool (xOp oIn (xVar 7) (xVar 4))) (xBool (xOp oEq (xOp ixD (xOp ixD (xVar 4) (xVar 7)) (xC (.int 0))) (xOp oSub (xVar 6) (xC (.int 1)))))) (xPure (xVar 7))) xsNil))) msNil)))))
  (sRet (mP (xCall tupleD (xsCons (xVar 5) xsNil)))))))))
def F_least_way : List D → Option D := fnP N_least_way s_least_way
abbrev N_law_steps : List Str := ["_law_kind", "_law_four"]
def s_law_steps : ES := (sSeq (sAsg (mP (xLst (xsCons (xTup (xsCons (xNeg (xC (.int 1))) (xsCons (xC (.int 0)) xsNil))) (xsCons (xTup (xsCons (xC (.int 0)) (xsCons (xNeg (xC (.int 1))) xsNil))) (xsCons (xTup (xsCons (xC (.int 0)) (xsCons (xC (.int 1)) xsNil))) (xsCons (xTup (xsCons (xC (.int 1)) (xsCons (xC (.int 0)) xsNil))) xsNil)))))) (put 1))
  (sRet (mIf (tP' (xBool (xOp oEq (xVar 0) (xC (.int 4))))) (mMove 1) (mP (xOp oAdd (xVar 1) (xLst (xsCons (xTup (xsCons (xNeg (xC (.int 1))) (xsCons (xNeg (xC (.int 1))) xsNil))) (xsCons (xTup (xsCons (xNeg (xC (.int 1))) (xsCons (xC (.int 1)) xsNil))) (xsCons (xTup (xsCons (xC (.int 1)) (xsCons (xNeg (xC (.int 1))) xsNil))) (xsCons (xTup (xsCons (xC (.int 1)) (xsCons (xC (.int 1)) xsNil))) xsNil))))))))))
def F_law_steps : List D → Option D := fnP N_law_steps s_law_steps
abbrev N_law_near : List Str := ["_law_cell", "_law_kind", "_law_down", "_law_right"]
def s_law_near : ES := (sRet (mP (xComp [2, 3] (xIt (xCall F_law_steps (xsCons (xVar 1) xsNil))) (gTupD 2 (gsCons (putB 2) (gsCons (putB 3) gsNil))) yYes (xTup (xsCons (xOp oAdd (xOp ixD (xVar 0) (xC (.int 0))) (xVar 2)) (xsCons (xOp oAdd (xOp ixD (xVar 0) (xC (.int 1))) (xVar 3)) xsNil))))))
def F_law_near : List D → Option D := fnP N_law_near s_law_near
abbrev N_law_layers : List Str := ["_law_ink_here", "_law_cell", "_law_kind", "_law_found", "_law_rim", "_law_layer", "_law_more", "_law_one", "_law_other"]
def s_law_layers : ES := (sSeq (sPar 3 4 (msCons (mDisp (msCons (mP (xPure (xVar 1))) (msCons (mP (xTup (xsCons (xC (.int 0)) (xsCons (xC (.int 1)) xsNil)))) msNil))) (msCons (mP (xLst (xsCons (xPure (xVar 1)) xsNil))) msNil)))
  (sSeq (sFor (iP (xRng2 (xsCons (xC (.int 1)) (xsCons (xOp oAdd (xCall lenD (xsCons (xVar 0) xsNil)) (xC (.int 1))) xsNil)))) (put 5)
  (sSeq (sAsg (mP (xC (.dT [] []))) (put 6))
  (sSeq (sLend 4 (sFor (srcB 4) (put 7)
  (sFor (iP (xIt (xCall F_law_near (xsCons (xVar 7) (xsCons (xVar 2) xsNil))))) (put 8)
  (sIf (tP' (yAnd (xBool (xOp oIn (xVar 8) (xVar 0))) (xBool (xOp oNin (xVar 8) (xVar 3))))) (sAsg (mP (xOp oAdd (xGet2 (xVar 6) (xVar 8) (xC (.int 0))) (xOp ixD (xOp ixD (xVar 3) (xVar 7)) (xC (.int 1))))) (gSub' 6 (xVar 8) setT)) sNext))))
  (sSeq (sAsg (mP (xCall listA (xsCons (xVar 6) xsNil))) (put 4))
  (sLend 4 (sFor (srcB 4) (put 8)
  (sAsg (mP (xTup (xsCons (xPure (xVar 5)) (xsCons (xPure (xOp ixD (xVar 6) (xVar 8))) xsNil)))) (gSub' 3 (xVar 8) setT))))))))
  (sRet (mMove 3))))
def F_law_layers : List D → Option D := fnP N_law_layers s_law_layers
def P_need_ends1 : ES := (sDrop (mP (xCall F_need_ink (xsCons (xVar 0) xsNil))))
instance : MS P_need_ends1 := by unfold P_need_ends1; infer_instance
def P_need_ends2 : ES := (sDrop (mP (xCall F_need_own (xsCons (xVar 0) (xsCons (xVar 1) xsNil)))))
instance : MS P_need_ends2 := by unfold P_need_ends2; infer_instance
def P_need_ends3 : ES := (sDrop (mP (xCall F_need_own (xsCons (xVar 0) (xsCons (xVar 2) xsNil)))))
instance : MS P_need_ends3 := by unfold P_need_ends3; infer_instance
def P_need_ends4 : ES := (sDrop (mP (xCall F_need_kind (xsCons (xVar 3) xsNil))))
instance : MS P_need_ends4 := by unfold P_need_ends4; infer_instance
def P_need_ends : ES := (sSeq P_need_ends1 (sSeq P_need_ends2 (sSeq P_need_ends3 P_need_ends4)))
instance : MS P_need_ends := by unfold P_need_ends; infer_instance
def P_layers1 : ES := (sAsg (mP (xDict [8] (xIt (xVar 0)) (putB 8) yYes (xPure (xVar 8)) (xC (.bl true)))) (put 3))
instance : MS P_layers1 := by unfold P_layers1; infer_instance
def P_layers2 : ES := (sPar3 4 5 6 (msCons (mDisp (msCons (mP (xPure (xVar 1))) (msCons (mP (xTup (xsCons (xC (.int 0)) (xsCons (xC (.int 1)) xsNil)))) msNil))) (msCons (mP (xLst (xsCons (xPure (xVar 1)) xsNil))) (msCons (mP (xC (.int 0))) msNil))))
instance : MS P_layers2 := by unfold P_layers2; infer_instance
def P_layers3b1 : ES := (sPar 7 6 (msCons (mP (xC (.dT [] []))) (msCons (mP (xOp oAdd (xVar 6) (xC (.int 1)))) msNil)))
instance : MS P_layers3b1 := by unfold P_layers3b1; infer_instance
def P_layers3b2bbt : ES := (sAsg (mP (xOp oAdd (xGet2 (xVar 7) (xVar 9) (xC (.int 0))) (xOp ixD (xOp ixD (xVar 4) (xVar 8)) (xC (.int 1))))) (gSub' 7 (xVar 9) setT))
instance : MS P_layers3b2bbt := by unfold P_layers3b2bbt; infer_instance
def P_layers3b2bb : ES := (sIf (tP' (yAnd (xBool (xOp oIn (xVar 9) (xVar 3))) (xBool (xOp oNin (xVar 9) (xVar 4))))) P_layers3b2bbt sNext)
instance : MS P_layers3b2bb := by unfold P_layers3b2bb; infer_instance
def P_layers3b2b : ES := (sFor (iP (xIt (xCall F_near (xsCons (xVar 8) (xsCons (xVar 2) xsNil))))) (put 9) P_layers3b2bb)
instance : MS P_layers3b2b := by unfold P_layers3b2b; infer_instance
def P_layers3b2 : ES := (sLend 5 (sFor (srcB 5) (put 8) P_layers3b2b))
instance : MS P_layers3b2 := by unfold P_layers3b2; infer_instance
def P_layers3b3 : ES := (sItems 7 (gTupD 2 (gsCons (put 9) (gsCons (put 10) gsNil))) (sAsg (mP (xTup (xsCons (xPure (xVar 6)) (xsCons (xPure (xVar 10)) xsNil)))) (gSub' 4 (xVar 9) setT)))
instance : MS P_layers3b3 := by unfold P_layers3b3; infer_instance
def P_layers3b4 : ES := (sAsg (mP (xCall listA (xsCons (xVar 7) xsNil))) (put 5))
instance : MS P_layers3b4 := by unfold P_layers3b4; infer_instance
def P_layers3b : ES := (sSeq P_layers3b1 (sSeq P_layers3b2 (sSeq P_layers3b3 P_layers3b4)))
instance : MS P_layers3b := by unfold P_layers3b; infer_instance
def P_layers3 : ES := (sWhile (tP' (xBool (xOp oNe (xVar 5) (xLst xsNil)))) P_layers3b)
instance : MS P_layers3 := by unfold P_layers3; infer_instance
def P_layers : ES := (sSeq P_layers1 (sSeq P_layers2 (sSeq P_layers3 (sRet (mMove 4)))))
instance : MS P_layers := by unfold P_layers; infer_instance
def P_steps1 : ES := (sDrop (mP (xCall F_need_ends (xsCons (xVar 0) (xsCons (xVar 1) (xsCons (xVar 2) (xsCons (xVar 3) xsNil)))))))
instance : MS P_steps1 := by unfold P_steps1; infer_instance
def P_steps2 : ES := (sRet (mP (xPure (xOp ixD (xGet2 (xCall F_layers (xsCons (xVar 0) (xsCons (xVar 1) (xsCons (xVar 3) xsNil)))) (xVar 2) (xTup (xsCons (xC .non) (xsCons (xC (.int 0)) xsNil)))) (xC (.int 0))))))
instance : MS P_steps2 := by unfold P_steps2; infer_instance
def P_steps : ES := (sSeq P_steps1 P_steps2)
instance : MS P_steps := by unfold P_steps; infer_instance
def P_count_ways1 : ES := (sDrop (mP (xCall F_need_ends (xsCons (xVar 0) (xsCons (xVar 1) (xsCons (xVar 2) (xsCons (xVar 3) xsNil)))))))
instance : MS P_count_ways1 := by unfold P_count_ways1; infer_instance
def P_count_ways2 : ES := (sRet (mP (xPure (xOp ixD (xGet2 (xCall F_layers (xsCons (xVar 0) (xsCons (xVar 1) (xsCons (xVar 3) xsNil)))) (xVar 2) (xTup (xsCons (xC .non) (xsCons (xC (.int 0)) xsNil)))) (xC (.int 1))))))
instance : MS P_count_ways2 := by unfold P_count_ways2; infer_instance
def P_count_ways : ES := (sSeq P_count_ways1 P_count_ways2)
instance : MS P_count_ways := by unfold P_count_ways; infer_instance
def P_least_way1 : ES := (sDrop (mP (xCall F_need_ends (xsCons (xVar 0) (xsCons (xVar 1) (xsCons (xVar 2) (xsCons (xVar 3) xsNil)))))))
instance : MS P_least_way1 := by unfold P_least_way1; infer_instance
def P_least_way2 : ES := (sAsg (mP (xCall F_layers (xsCons (xVar 0) (xsCons (xVar 2) (xsCons (xVar 3) xsNil))))) (put 4))
instance : MS P_least_way2 := by unfold P_least_way2; infer_instance
def P_least_way3 : ES := (sIf (tP' (xBool (xOp oNin (xVar 1) (xVar 4)))) (sRet (mP (xC .non))) sNext)
instance : MS P_least_way3 := by unfold P_least_way3; infer_instance
def P_least_way4 : ES := (sAsg (mP (xLst (xsCons (xPure (xVar 1)) xsNil))) (put 5))
instance : MS P_least_way4 := by unfold P_least_way4; infer_instance
def P_least_way5b1 : ES := (sAsg (mP (xPure (xOp ixD (xOp ixD (xVar 4) (xOp ixD (xVar 5) (xNeg (xC (.int 1))))) (xC (.int 0))))) (put 6))
instance : MS P_least_way5b1 := by unfold P_least_way5b1; infer_instance
def P_least_way5b2 : ES := (sDrop (mMut isL appendD 5 (msCons (mP (xCall minLD (xsCons (xComp [7] (xIt (xCall F_near (xsCons (xOp ixD (xVar 5) (xNeg (xC (.int 1)))) (xsCons (xVar 3) xsNil)))) (putB 7) (yAnd (xBool (xOp oIn (xVar 7) (xVar 4))) (xBool (xOp oEq (xOp ixD (xOp ixD (xVar 4) (xVar 7)) (xC (.int 0))) (xOp oSub (xVar 6) (xC (.int 1)))))) (xPure (xVar 7))) xsNil))) msNil)))
instance : MS P_least_way5b2 := by unfold P_least_way5b2; infer_instance
def P_least_way5b : ES := (sSeq P_least_way5b1 P_least_way5b2)
instance : MS P_least_way5b := by unfold P_least_way5b; infer_instance
def P_least_way5 : ES := (sWhile (tP' (xBool (xOp oNe (xOp ixD (xVar 5) (xNeg (xC (.int 1)))) (xVar 2)))) P_least_way5b)
instance : MS P_least_way5 := by unfold P_least_way5; infer_instance
def P_least_way6 : ES := (sRet (mP (xCall tupleD (xsCons (xVar 5) xsNil))))
instance : MS P_least_way6 := by unfold P_least_way6; infer_instance
def P_least_way : ES := (sSeq P_least_way1 (sSeq P_least_way2 (sSeq P_least_way3 (sSeq P_least_way4 (sSeq P_least_way5 P_least_way6)))))
instance : MS P_least_way := by unfold P_least_way; infer_instance
def P_law_steps1 : ES := (sAsg (mP (xLst (xsCons (xTup (xsCons (xNeg (xC (.int 1))) (xsCons (xC (.int 0)) xsNil))) (xsCons (xTup (xsCons (xC (.int 0)) (xsCons (xNeg (xC (.int 1))) xsNil))) (xsCons (xTup (xsCons (xC (.int 0)) (xsCons (xC (.int 1)) xsNil))) (xsCons (xTup (xsCons (xC (.int 1)) (xsCons (xC (.int 0)) xsNil))) xsNil)))))) (put 1))
instance : MS P_law_steps1 := by unfold P_law_steps1; infer_instance
def P_law_steps2 : ES := (sRet (mIf (tP' (xBool (xOp oEq (xVar 0) (xC (.int 4))))) (mMove 1) (mP (xOp oAdd (xVar 1) (xLst (xsCons (xTup (xsCons (xNeg (xC (.int 1))) (xsCons (xNeg (xC (.int 1))) xsNil))) (xsCons (xTup (xsCons (xNeg (xC (.int 1))) (xsCons (xC (.int 1)) xsNil))) (xsCons (xTup (xsCons (xC (.int 1)) (xsCons (xNeg (xC (.int 1))) xsNil))) (xsCons (xTup (xsCons (xC (.int 1)) (xsCons (xC (.int 1)) xsNil))) xsNil)))))))))
instance : MS P_law_steps2 := by unfold P_law_steps2; infer_instance
def P_law_steps : ES := (sSeq P_law_steps1 P_law_steps2)
instance : MS P_law_steps := by unfold P_law_steps; infer_instance
def P_law_layers1 : ES := (sPar 3 4 (msCons (mDisp (msCons (mP (xPure (xVar 1))) (msCons (mP (xTup (xsCons (xC (.int 0)) (xsCons (xC (.int 1)) xsNil)))) msNil))) (msCons (mP (xLst (xsCons (xPure (xVar 1)) xsNil))) msNil)))
instance : MS P_law_layers1 := by unfold P_law_layers1; infer_instance
def P_law_layers2b2bbt : ES := (sAsg (mP (xOp oAdd (xGet2 (xVar 6) (xVar 8) (xC (.int 0))) (xOp ixD (xOp ixD (xVar 3) (xVar 7)) (xC (.int 1))))) (gSub' 6 (xVar 8) setT))
instance : MS P_law_layers2b2bbt := by unfold P_law_layers2b2bbt; infer_instance
def P_law_layers2b2bb : ES := (sIf (tP' (yAnd (xBool (xOp oIn (xVar 8) (xVar 0))) (xBool (xOp oNin (xVar 8) (xVar 3))))) P_law_layers2b2bbt sNext)
instance : MS P_law_layers2b2bb := by unfold P_law_layers2b2bb; infer_instance
def P_law_layers2b2b : ES := (sFor (iP (xIt (xCall F_law_near (xsCons (xVar 7) (xsCons (xVar 2) xsNil))))) (put 8) P_law_layers2b2bb)
instance : MS P_law_layers2b2b := by unfold P_law_layers2b2b; infer_instance
def P_law_layers2b2 : ES := (sLend 4 (sFor (srcB 4) (put 7) P_law_layers2b2b))
instance : MS P_law_layers2b2 := by unfold P_law_layers2b2; infer_instance
def P_law_layers2b3 : ES := (sAsg (mP (xCall listA (xsCons (xVar 6) xsNil))) (put 4))
instance : MS P_law_layers2b3 := by unfold P_law_layers2b3; infer_instance
def P_law_layers2b4b : ES := (sAsg (mP (xTup (xsCons (xPure (xVar 5)) (xsCons (xPure (xOp ixD (xVar 6) (xVar 8))) xsNil)))) (gSub' 3 (xVar 8) setT))
instance : MS P_law_layers2b4b := by unfold P_law_layers2b4b; infer_instance
def P_law_layers2b4 : ES := (sLend 4 (sFor (srcB 4) (put 8) P_law_layers2b4b))
instance : MS P_law_layers2b4 := by unfold P_law_layers2b4; infer_instance
def P_law_layers2b : ES := (sSeq (sAsg (mP (xC (.dT [] []))) (put 6)) (sSeq P_law_layers2b2 (sSeq P_law_layers2b3 P_law_layers2b4)))
instance : MS P_law_layers2b := by unfold P_law_layers2b; infer_instance
def P_law_layers2 : ES := (sFor (iP (xRng2 (xsCons (xC (.int 1)) (xsCons (xOp oAdd (xCall lenD (xsCons (xVar 0) xsNil)) (xC (.int 1))) xsNil)))) (put 5) P_law_layers2b)
instance : MS P_law_layers2 := by unfold P_law_layers2; infer_instance
def P_law_layers : ES := (sSeq P_law_layers1 (sSeq P_law_layers2 (sRet (mMove 3))))
instance : MS P_law_layers := by unfold P_law_layers; infer_instance
end C
end DL
namespace DL
open PySem PySem.Spec L2
/-! ### neighbors of a kind -/
def st4 : List Cell := [(-1, 0), (0, -1), (0, 1), (1, 0)]
def st8 : List Cell := [(-1, -1), (-1, 0), (-1, 1), (0, -1), (0, 1), (1, -1), (1, 0), (1, 1)]
def sl8 : List Cell := [(-1, 0), (0, -1), (0, 1), (1, 0), (-1, -1), (-1, 1), (1, -1), (1, 1)]
def knd (e : Bool) : Int := if e then 8 else 4
def stP (e : Bool) : List Cell := if e then st8 else st4
def stL (e : Bool) : List Cell := if e then sl8 else st4
def nbP (e : Bool) (c : Cell) : List Cell := (stP e).map (adC c)
def nbL (e : Bool) (c : Cell) : List Cell := (stL e).map (adC c)
theorem nb_perm (e : Bool) (c : Cell) : (nbP e c).Perm (nbL e c) := by
  refine List.Perm.map _ ?_
  cases e
  · exact List.Perm.refl _
  · exact (by decide : st8.Perm sl8)
theorem nb_len (e : Bool) (c : Cell) : (nbP e c).length ≤ 8 ∧ (nbL e c).length ≤ 8 := by
  unfold nbP nbL
  rw [List.length_map, List.length_map]
  cases e <;> decide
theorem st_neg : ∀ e : Bool, ∀ d ∈ stL e, ((-d.1, -d.2) : Cell) ∈ stL e := by decide
theorem nb_symm (e : Bool) (a b : Cell) (h : b ∈ nbL e a) : a ∈ nbL e b := by
  obtain ⟨d, hd, rfl⟩ := List.mem_map.mp h
  refine List.mem_map.mpr ⟨_, st_neg e d hd, ?_⟩
  unfold adC
  exact Prod.ext (by simp only; omega) (by simp only; omega)
def stcD (d : Cell) : D := .ctp [.int d.1, .int d.2]
namespace C
end C
end DL
namespace DL
open PySem PySem.Spec L2
namespace C
section
variable {cs : List Cell} {a : Cell} {e : Bool} {f : SW} {t : Int} {m : List (Cell × Int)}
abbrev lyE (cs : List Cell) (a : Cell) (e : Bool) (f : SW) (R : Slt) (t : Int) (M x8 x9 x10 : Slt) : DL.Env := [ow (inkD cs), ow (cellD a), ow (.int (knd e)), ow (fd cs), ow (mapD swD f), R, ow (.int t), M, x8, x9, x10]
end
end C
end DL
namespace DL
open PySem PySem.Spec L2
namespace C
section
variable {cs : List Cell} {a : Cell} {e : Bool} {f : SW} {t : Int} {m : List (Cell × Int)}
abbrev lyS (cs : List Cell) (a : Cell) (e : Bool) (n : Nat) : DL.Env := lyE cs a e (rnds (nbP e) cs a n).1 (ow (.lst ((rnds (nbP e) cs a n).2.map cellD))) n none none none none
end
end C
end DL
namespace DL
open PySem PySem.Spec L2
namespace C
section
variable {cs : List Cell} {a : Cell} {e : Bool} {f : SW} {t : Int} {m : List (Cell × Int)}
abbrev llE (cs : List Cell) (a : Cell) (e : Bool) (f : SW) (R T M x7 x8 : Slt) : DL.Env := [ow (inkD cs), ow (cellD a), ow (.int (knd e)), ow (mapD swD f), R, T, M, x7, x8]
abbrev llS (cs : List Cell) (a : Cell) (e : Bool) (x : SW × List Cell) : DL.Env := llE cs a e x.1 (ow (.lst (x.2.map cellD))) none none none none
end
end C
end DL
namespace DL
open PySem PySem.Spec L2
/-! ### the way back by layers -/
def dOf (f : SW) (c : Cell) : Int := ((aget f c).getD (0, 0)).1
def nearer (f : SW) (c : Cell) (d : Cell) : Bool := decide (d ∈ akeys f) && decide (dOf f d = dOf f c - 1)
def nxC (nb : Cell → List Cell) (f : SW) (c : Cell) : Cell := minC ((nb c).filter (nearer f c))
def stpC (nb : Cell → List Cell) (f : SW) (a : Cell) : Nat → Cell
  | 0 => a
  | k + 1 => nxC nb f (stpC nb f a k)
def pth (nb : Cell → List Cell) (f : SW) (a : Cell) (k : Nat) : List Cell := (List.range (k + 1)).map (stpC nb f a)
section
variable {nb : Cell → List Cell} {cs : List Cell} {b : Cell}
end
end DL
namespace DL
open PySem PySem.Spec L2
def noV : D := .tup [.non, .int 0]
def tvD (o : Option (Int × Int)) : D := (o.map swD).getD noV
def farD : Option (Int × Int) → D
  | some v => .int v.1
  | none => .non
def manyD : Option (Int × Int) → D
  | some v => .int v.2
  | none => .int 0
/-- the way that the law builds -/
def wayC (e : Bool) (cs : List Cell) (a b : Cell) (k : Nat) : List Cell := pth (nbL e) (layF (nbL e) cs b) a k
def wayD (e : Bool) (cs : List Cell) (a b : Cell) (d : Nat) : D := .tup ((wayC e cs a b d).map cellD)
namespace C
section
variable {cs : List Cell} {a b : Cell} {e : Bool}
abbrev lwE (e : Bool) (cs : List Cell) (a b : Cell) (f : SW) (R x6 x7 : Slt) : DL.Env := [ow (inkD cs), ow (cellD a), ow (cellD b), ow (.int (knd e)), ow (mapD swD f), R, x6, x7]
theorem nbP_symm (e : Bool) (a b : Cell) (h : b ∈ nbP e a) : a ∈ nbP e b := (nb_perm e b).mem_iff.mpr (nb_symm e a b ((nb_perm e a).mem_iff.mp h))
end
end C
end DL
namespace DL
open PySem PySem.Spec L2
/-! ### sorted pairs of a dict of cells -/
instance {f : EX} [hf : MX f] : MX (xSrtI f) := mx_bind' hf
@[simp] theorem e_srtI {f : EX} {s : Slt} {ρ : Env} : xSrtI f (s :: ρ) = (f (s :: ρ)).bind srtID := (rfl)
def pairC (p : Cell × Int) : D := .tup [cellD p.1, .int p.2]
end DL
namespace DL
open PySem PySem.Spec L2
namespace C
abbrev N_need_radius : List Str := ["radius"]
def s_need_radius : ES := (sIf (tP' (yNot (xBool (xCall F_is_in (xsCons (xVar 0) (xsCons (xC (.int 1)) (xsCons (xC (.int 400)) xsNil))))))) sNever sNext)
def F_need_radius : List D → Option D := fnP N_need_radius s_need_radius
abbrev N_disk_in : List Str := ["cell", "radius", "metric", "most", "row", "column", "some", "down", "right", "other"]
def s_disk_in : ES := (sSeq (sAsg (mP (xC (.int 0))) (put 3))
  (sSeq (sWhile (tP' (xBool (xOp oLt (xCall F_far (xsCons (xTup (xsCons (xC (.int 0)) (xsCons (xC (.int 0)) xsNil))) (xsCons (xTup (xsCons (xC (.int 0)) (xsCons (xPure (xVar 3)) xsNil))) (xsCons (xVar 2) xsNil)))) (xVar 1))))
  (sAug 3 (o2 (fun _ _ => true) fun i j => i + j) (mP (xC (.int 1)))))
  (sSeq (sAsg (mP (xPure (xVar 0))) (gTupD 2 (gsCons (put 4) (gsCons (put 5) gsNil))))
  (sSeq (sAsg (mP (xComp2 [7, 8] [8] (xRng2 (xsCons (xNeg (xVar 3)) (xsCons (xOp oAdd (xVar 3) (xC (.int 1))) xsNil))) (putB 7) yYes (xRng2 (xsCons (xNeg (xVar 3)) (xsCons (xOp oAdd (xVar 3) (xC (.int 1))) xsNil))) (putB 8) yYes (xTup (xsCons (xOp oAdd (xVar 4) (xVar 7)) (xsCons (xOp oAdd (xVar 5) (xVar 8)) xsNil))))) (put 6))
  (sRet (mP (xComp [9] (xIt (xVar 6)) (putB 9) (xBool (xOp oLt (xCall F_far (xsCons (xVar 0) (xsCons (xVar 9) (xsCons (xVar 2) xsNil)))) (xVar 1))) (xPure (xVar 9)))))))))
def F_disk_in : List D → Option D := fnP N_disk_in s_disk_in
abbrev N_disk : List Str := ["cell", "radius", "metric"]
def s_disk : ES := (sSeq (sDrop (mP (xCall F_need_cell (xsCons (xVar 0) xsNil))))
  (sSeq (sDrop (mP (xCall F_need_radius (xsCons (xVar 1) xsNil))))
  (sSeq (sDrop (mP (xCall F_need_metric (xsCons (xVar 2) xsNil))))
  (sRet (mP (xCall F_made (xsCons (xCall F_disk_in (xsCons (xVar 0) (xsCons (xVar 1) (xsCons (xVar 2) xsNil)))) xsNil)))))))
def F_disk : List D → Option D := fnP N_disk s_disk
abbrev N_core : List Str := ["ink", "radius", "metric", "cell", "own"]
def s_core : ES := (sSeq (sDrop (mP (xCall F_need_ink (xsCons (xVar 0) xsNil))))
  (sSeq (sDrop (mP (xCall F_need_radius (xsCons (xVar 1) xsNil))))
  (sSeq (sDrop (mP (xCall F_need_metric (xsCons (xVar 2) xsNil))))
  (sRet (mP (xCall tupleD (xsCons (xComp [3, 4] (xIt (xSrtI (xCall F_map_in (xsCons (xVar 0) (xsCons (xVar 2) xsNil))))) (gTupD 2 (gsCons (putB 3) (gsCons (putB 4) gsNil))) (xBool (xOp oGe (xVar 4) (xVar 1))) (xPure (xVar 3))) xsNil)))))))
def F_core : List D → Option D := fnP N_core s_core
section
variable {k : Nat} {r : Int} {c : Cell}
/-- the distance of an offset -/
def offI (k : Nat) (a b : Int) : Int := farI k (0, 0) (a, b)
/-- the cells nearer than a radius -/
def dsk (k : Nat) (m : Nat) (r : Int) (c : Cell) : List Cell := (wideC (c.1 - m) (c.2 - m) (2 * m + 1) (2 * m + 1)).filter fun x => decide (farI k c x < r)
end
end C
end DL
namespace DL
open PySem PySem.Spec L2
/-- the cells as far from the ground as a radius -/
def coreC (k : Nat) (r : Int) (cs : List Cell) : List Cell := cs.filter fun c => decide (r ≤ mapV k cs c)
namespace C
section
variable {k : Nat} {r : Int} {cs : List Cell}
end
end C
end DL
namespace DL
open PySem PySem.Spec L2
/-! ### sums of rows and columns -/
namespace C
abbrev N_need_frame : List Str := ["ink", "high", "wide", "side", "index", "row", "column"]
def s_need_frame : ES := (sSeq (sDrop (mP (xCall F_need_ink (xsCons (xVar 0) xsNil))))
  (sSeq (sFor (iP (xIt (xTup (xsCons (xPure (xVar 1)) (xsCons (xPure (xVar 2)) xsNil))))) (put 3)
  (sIf (tP' (yNot (xBool (xCall F_is_in (xsCons (xVar 3) (xsCons (xC (.int 1)) (xsCons (xC (.int 12)) xsNil))))))) sNever sNext))
  (sFor (iP (xEn (xPure (xVar 0)))) (gTupD 2 (gsCons (put 4) (gsCons (gTupD 2 (gsCons (put 5) (gsCons (put 6) gsNil))) gsNil)))
  (sIf (tP' (yOr (yNot (xBool (xChain oLe oLt (xC (.int 0)) (xVar 5) (xVar 1)))) (yNot (xBool (xChain oLe oLt (xC (.int 0)) (xVar 6) (xVar 2)))))) sNever sNext))))
def F_need_frame : List D → Option D := fnP N_need_frame s_need_frame
abbrev N_sums_in : List Str := ["ink", "high", "wide", "rows", "columns", "row", "column"]
def s_sums_in : ES := (sSeq (sPar 3 4 (msCons (mP (xOp oRep (xLst (xsCons (xC (.int 0)) xsNil)) (xVar 1))) (msCons (mP (xOp oRep (xLst (xsCons (xC (.int 0)) xsNil)) (xVar 2))) msNil)))
  (sSeq (sFor (iP (xIt (xPure (xVar 0)))) (gTupD 2 (gsCons (put 5) (gsCons (put 6) gsNil)))
  (sSeq (sAugS 3 (xVar 5) getLD (o2 (fun _ _ => true) fun i j => i + j) (xC (.int 1)) setL)
  (sAugS 4 (xVar 6) getLD (o2 (fun _ _ => true) fun i j => i + j) (xC (.int 1)) setL)))
  (sRet (mP (xTup (xsCons (xCall tupleD (xsCons (xVar 3) xsNil)) (xsCons (xCall tupleD (xsCons (xVar 4) xsNil)) xsNil)))))))
def F_sums_in : List D → Option D := fnP N_sums_in s_sums_in
abbrev N_sums : List Str := ["ink", "high", "wide"]
def s_sums : ES := (sSeq (sDrop (mP (xCall F_need_frame (xsCons (xVar 0) (xsCons (xVar 1) (xsCons (xVar 2) xsNil))))))
  (sRet (mP (xCall F_sums_in (xsCons (xVar 0) (xsCons (xVar 1) (xsCons (xVar 2) xsNil)))))))
def F_sums : List D → Option D := fnP N_sums s_sums
abbrev N_law_sums : List Str := ["_law_ink", "_law_high", "_law_wide", "_law_rows", "_law_line", "_law_cell", "_law_column"]
def s_law_sums : ES := (sSeq (sAsg (mP (xComp [4] (xRng1 (xsCons (xVar 1) xsNil)) (putB 4) yYes (xCall lenD (xsCons (xComp [5] (xIt (xVar 0)) (putB 5) (xBool (xOp oEq (xOp ixD (xVar 5) (xC (.int 0))) (xVar 4))) (xPure (xVar 5))) xsNil)))) (put 3))
  (sRet (mP (xTup (xsCons (xCall tupleD (xsCons (xVar 3) xsNil)) (xsCons (xCall tupleD (xsCons (xComp [6] (xRng1 (xsCons (xVar 2) xsNil)) (putB 6) yYes (xCall lenD (xsCons (xComp [5] (xIt (xVar 0)) (putB 5) (xBool (xOp oEq (xOp ixD (xVar 5) (xC (.int 1))) (xVar 6))) (xPure (xVar 5))) xsNil))) xsNil)) xsNil))))))
def F_law_sums : List D → Option D := fnP N_law_sums s_law_sums
section
variable {ns : List Int} {cs : List Cell} {i w : Nat}
def cnt (f : Cell → Int) (cs : List Cell) (k : Nat) : Int := ((cs.filter fun c => decide (f c = (k : Int))).length : Nat)
abbrev cl (f : Cell → Int) (cs : List Cell) (n : Nat) : List D := (List.range n).map fun k => D.int (cnt f cs k)
end
end C
end DL
namespace DL
open PySem PySem.Spec L2
/-! readings that raise, on the plain side -/
@[simp] theorem x_fnX {N : List Str} {b : ESX} {ds : List D} : DL.fnX N b ds = (b (ds.map argSlot ++ List.replicate (N.length - ds.length) none)).bind fun o => match o with | .o (.rt d _) => some (.inl d) | .o (.nx _) => some (.inl .non) | .er e => some (.inr e) | _ => none := by
  unfold DL.fnX outXP env0
  rfl
section
variable {P : PySem.Addr} {f : EXR} {h : Er → Option D} {w0 : Str} {x : D} {ρ : DL.Env} {s : Slt} {a : PySem.Addr} {dd : Option PySem.Addr} {y z : Str} {i : Nat} {k : Bool} {g : EX}
@[simp] theorem x_mErr : mErr P f h w0 (some (.tag P, x) :: ρ) = (f (some (.tag P, x) :: ρ)).bind fun r => match r with
    | .inl _ => some (.str w0, some (.tag P, x) :: ρ)
    | .inr e => (h e).bind fun d => some (d, some (.tag P, x) :: ρ) := by
  show (if P = P then _ else _) = _
  exact (if_pos rfl).trans rfl
@[simp] theorem x_isE : xIsE a dd y z i (s :: ρ) = match (s :: ρ)[i]? with
  | some (some (_, .exc b d _ _)) => if b = a ∧ d = dd then some (.bl (decide (y = z))) else none
  | _ => none := rfl
@[simp] theorem x_fld : xFld a dd y i (s :: ρ) = match (s :: ρ)[i]? with
  | some (some (_, .exc b d ns xs)) => if b = a ∧ d = dd ∧ dd.isSome = true then (ns.zip xs).lookup y else none
  | _ => none := rfl
@[simp] theorem x_bls : blsAt i (s :: ρ) = match (s :: ρ)[i]? with
  | some (some (_, .lst xs)) => toBls xs
  | _ => none := rfl
@[simp] theorem x_cnt : xCnt i k (s :: ρ) = (blsAt i (s :: ρ)).bind fun bs => some (.int ((bs.count k : Nat) : Int)) := rfl
@[simp] theorem x_idx : xIdx i k (s :: ρ) = (blsAt i (s :: ρ)).bind fun bs => if k ∈ bs then some (.int ((bs.idxOf k : Nat) : Int)) else none := rfl
@[simp] theorem x_rz1 : xRaise1 y z g (s :: ρ) = (g (s :: ρ)).bind fun d => if DL.pure d = true then some (.er ⟨y, [(z, d)]⟩) else none := rfl
@[simp] theorem x_rop {o : D → D → Option D} : rOp o f g (s :: ρ) = (f (s :: ρ)).bind fun r => match r with
  | .inl d => (g (s :: ρ)).bind fun y => (o d y).bind fun z => some (.inl z)
  | .inr e => some (.inr e) := rfl
end
namespace C
abbrev X_need_ink : List Str := ["value", "index", "cell"]
def niB : ESX := (xIfS (tP' (yOr (yNot (xBool (xCall F_is_cell (xsCons (xVar 2) xsNil)))) (yAnd (xBool (xOp oGt (xVar 1) (xC (.int 0)))) (xBool (xOp oLe (xVar 2) (xOp ixD (xVar 0) (xOp oSub (xVar 1) (xC (.int 1))))))))) (xRaise1 "BadInk" "index" (xVar 1)) xNext)
def sX_need_ink : ESX := (xSeq (xIfS (tP' (yNot (xBool (xCall F_is_list (xsCons (xVar 0) (xsCons (xC (.int 0)) (xsCons (xC (.int 400)) xsNil))))))) (xRaise1 "BadInk" "index" (xC .non)) xNext)
  (xFor (iP (xEn (xPure (xVar 0)))) (gTupD 2 (gsCons (put 1) (gsCons (put 2) gsNil))) niB))
def FX_need_ink : List D → Option (D ⊕ Er) := DL.fnX X_need_ink sX_need_ink
/-- bad inks of the refused laws -/
def badsX : List D := [.non, .frz [.tup [.int 0, .int 0]], .tup [.tup [.int 1, .int 0], .tup [.int 0, .int 0]], .int 5]
/-! made -/
def sX_made : ESX := (xSeq (xLift (sAsg (mP (xCall tupleD (xsCons (xCall sortedA (xsCons (xDict [2] (xIt (xVar 0)) (putB 2) yYes (xPure (xVar 2)) (xC (.bl true))) xsNil)) xsNil))) (put 1)))
  (xSeq (xIfS (tP' (yNot (xBool (xCall allD (xsCons (xComp2 [2, 3] [3] (xIt (xVar 1)) (putB 2) yYes (xIt (xPure (xVar 2))) (putB 3) yYes (xChain oLe oLe (xNeg (xC (.int 60))) (xVar 3) (xC (.int 60)))) xsNil))))) (xRaise0 "OutOfRange") xNext)
  (xSeq (xIfS (tP' (xBool (xOp oGt (xCall lenD (xsCons (xVar 1) xsNil)) (xC (.int 400))))) (xRaise1 "TooMany" "most" (xC (.int 400))) xNext)
  (xLift (sRet (mP (xPure (xVar 1))))))))
def FX_made : List D → Option (D ⊕ Er) := DL.fnX N_made sX_made
def inb (v : Int) : Bool := decide (-60 ≤ v ∧ v ≤ 60)
def partsX (cs : List Cell) : List Int := cs.flatMap fun a => [a.1, a.2]
end C
end DL
namespace DL
open PySem PySem.Spec L2
/-! ### the plain side of DW14..DW19 -/
section
variable {i : Nat} {f : EX}
instance : MX (xItemsOf i) := ⟨fun {ρ ρ' d} l z => by
  unfold xItemsOf at z ⊢
  split at z
  · rename_i m ks xs q
    rw [l.get q]
    exact z
  · cases z⟩
instance : MX (xKeysOf i) := ⟨fun {ρ ρ' d} l z => by
  unfold xKeysOf at z ⊢
  split at z
  · rename_i m ks xs q
    rw [l.get q]
    exact z
  · cases z⟩
instance [hf : MX f] : MX (xVals f) := mx_bind' hf
instance [hf : MX f] : MX (xSrtNums f) := mx_bind' hf
end
section
variable {gx gx1 : GX} {q q1 : QX} {src src1 : IX} {fk fe : EX}
theorem pair_mono (hg : MG gx1) (hq : MX q1) (hk : MX fk) (he : MX fe) {ρ ρ' : Env} (l : Le ρ ρ') : ∀ {ds : List D} {ks : List (List Key)} {xs : List D} {r}, pairE gx1 q1 fk fe ρ ds ks xs = some r → pairE gx1 q1 fk fe ρ' ds ks xs = some r
  | [], _, _, _, h => h
  | d :: ds, ks, xs, r, h => by
    rw [pairE] at h ⊢
    obtain ⟨ρ1, e1, h⟩ := obind h
    obtain ⟨_, ρ2, e2, l2⟩ := hg.mono l e1
    obtain ⟨b, e3, h⟩ := obind h
    rw [e2, Option.bind_some, hq.mono l2 e3, Option.bind_some]
    cases b with
    | true =>
      obtain ⟨y, e4, h⟩ := obind h
      obtain ⟨kk, e5, h⟩ := obind h
      obtain ⟨w, e6, h⟩ := obind h
      show (fk ρ2).bind _ = _
      rw [hk.mono l2 e4, Option.bind_some, e5, Option.bind_some, he.mono l2 e6, Option.bind_some]
      split at h
      · rename_i pw
        rw [if_pos pw]
        split at h
        · rename_i pl
          rw [if_pos pl]
          exact pair_mono hg hq hk he l h
        · cases h
      · cases h
    | false => exact pair_mono hg hq hk he l h
theorem dict2_mono {vs vs1 : List Nat} (hg : MG gx) (ge : GE gx) (hq : MX q) (hs1 : MX src1) (hg1 : MG gx1) (hq1 : MX q1) (hk : MX fk) (he : MX fe) {ρ ρ' : Env} (l : Le ρ ρ') (lv : ∀ v ∈ vs, ρ[v]? = ρ'[v]?) : ∀ {ds : List D} {ks : List (List Key)} {xs : List D} {r}, dict2E vs vs1 gx q src1 gx1 q1 fk fe ρ ds ks xs = some r → dict2E vs vs1 gx q src1 gx1 q1 fk fe ρ' ds ks xs = some r
  | [], _, _, _, h => h
  | d :: ds, ks, xs, r, h => by
    rw [dict2E] at h ⊢
    obtain ⟨ρ1, e1, h⟩ := obind h
    obtain ⟨_, ρ2, e2, l2⟩ := hg.mono l e1
    rw [e2, Option.bind_some]
    split at h
    · rename_i pa
      rw [if_pos (plainAt_mono (fun v hv => ge.keep e1 e2 v (lv v hv)) pa)]
      obtain ⟨b, e3, h⟩ := obind h
      rw [hq.mono l2 e3, Option.bind_some]
      cases b with
      | true =>
        obtain ⟨its, e4, h⟩ := obind h
        obtain ⟨zs, e5, h⟩ := obind h
        show (src1 ρ2).bind _ = _
        rw [hs1.mono l2 e4, Option.bind_some, pair_mono hg1 hq1 hk he (l2.wipes vs1) e5, Option.bind_some]
        exact dict2_mono hg ge hq hs1 hg1 hq1 hk he l lv h
      | false => exact dict2_mono hg ge hq hs1 hg1 hq1 hk he l lv h
    · cases h
instance {vs vs1 : List Nat} [hs : MX src] [hg : MG gx] [ge : GE gx] [hq : MX q] [hs1 : MX src1] [hg1 : MG gx1] [hq1 : MX q1] [hk : MX fk] [he : MX fe] : MX (xDict2 vs vs1 src gx q src1 gx1 q1 fk fe) := ⟨fun {ρ ρ' d} l z => by
  obtain ⟨its, e1, z⟩ := obind z
  obtain ⟨ys, e2, z⟩ := obind z
  show (src ρ').bind _ = _
  rw [hs.mono l e1, Option.bind_some, dict2_mono hg ge hq hs1 hg1 hq1 hk he (l.wipes vs) (fun v hv => wipe_same l.len hv) e2]
  exact z⟩
end
section
variable {s : Slt} {ρ : Env} {f fk fe : EX} {i : Nat}
@[simp] theorem e_vals : xVals f (s :: ρ) = (f (s :: ρ)).bind valsD := (rfl)
@[simp] theorem e_srtNums : xSrtNums f (s :: ρ) = (f (s :: ρ)).bind srtNums := (rfl)
@[simp] theorem e_itemsOf : xItemsOf i (s :: ρ) = match (s :: ρ)[i]? with
  | some (some (_, .dT ks xs)) => if pures xs = true then some (pairsT ks xs) else none
  | _ => none := (rfl)
@[simp] theorem e_keysOf : xKeysOf i (s :: ρ) = match (s :: ρ)[i]? with
  | some (some (_, .dT ks xs)) => if pures xs = true then some (ks.map tupK) else none
  | _ => none := (rfl)
@[simp] theorem e_dict2 {vs vs1 : List Nat} {src : IX} {gx : GX} {q : QX} {src1 : IX} {gx1 : GX} {q1 : QX} : xDict2 vs vs1 src gx q src1 gx1 q1 fk fe (s :: ρ) = (src (s :: ρ)).bind fun its => (dict2E vs vs1 gx q src1 gx1 q1 fk fe (wipeE (s :: ρ) vs) its [] []).bind fun r => some (.dT r.1 r.2) := (rfl)
end
/-- what a dict's pairs are -/
def itemsF (d : D) : Option (List D) := match d with
  | .dT ks xs => if pures xs = true then some (pairsT ks xs) else none
  | _ => none
def keysF (d : D) : Option (List D) := match d with
  | .dT ks xs => if pures xs = true then some (ks.map tupK) else none
  | _ => none
section
variable {α : Type} {g : α → D}
end
/-! ### a while loop that answers -/
end DL
namespace DL
open PySem PySem.Spec L2
/-! ### cells that hash apart -/
def hashC (a b : Int) : Int := hashKs [.inl a, .inl b]
def gridC : List Cell := (List.range 22).flatMap fun i : Nat => (List.range 22).map fun j : Nat => (((i : Nat) : Int) - 1, ((j : Nat) : Int) - 1)
def hashN (a b : Int) : Nat := (hashC a b % 18446744073709551616).toNat
def distN : List Nat → Bool
  | [] => true
  | x :: xs => (xs.all fun y => !Nat.beq x y) && distN xs
def gridL : List Nat := [
  960947337673586213, 2575514064802888272, 9083154820904886697, 18238467482657373819, 6299364165049820628, 1406290136077124262, 7913930892179122687, 10023214265296752984, 5130140236324056618, 11637780992426055043, 6744706963453358677,
  8853990336570988974, 3960916307598292608, 10468557063700291033, 16976197819802289458, 7684766407845224964, 14192407163947223389, 9299333134974527023, 15806973891076525448, 6515542479119460954, 13023183235221459379, 1084079917613906188,
  8374038142897728572, 9988604870027030631, 16496245626129029056, 7204814214171964562, 13712454970273962987, 1773351652666409796, 15327021697403265046, 17436305070520895343, 12543231041548198977, 604127723940645786, 14157797768677501036,
  16267081141795131333, 4327977824187578142, 17881647868924433392, 5942544551316880201, 1049470522344183835, 3158753895461814132, 16712423940198669382, 4773320622591116191, 11280961378693114616, 1989529966736050122, 8497170722838048547,
  11667555493965305581, 13282122221094607640, 8389048192121911274, 14896688948223909699, 17005972321341539996, 12112898292368843630, 173794974761290439, 13727465019498145689, 15836748392615775986, 3897645075008222795, 17451315119745078045,
  5512211802137524854, 14667524463890011976, 2728421146282458785, 16282091191019314035, 4342987873411760844, 6452271246529391141, 1559197217556694775, 8066837973658693200, 3173763944685996834, 5283047317803627131, 389973288830930765,
  3070960072220142017, 4685526799349444076, 6794810172467074373, 1901736143494378007, 8409376899596376432, 3516302870623680066, 10023943626725678491, 12133226999843308788, 7240152970870612422, 13747793726972610847, 8854719697999914481,
  10964003071117544778, 6070929042144848412, 12578569798246846837, 639466480639293646, 9794779142391780768, 16302419898493779193, 11409345869521082827, 17916986625623081252, 8625555213666016758, 15133195969768015183, 3194092652160461992,
  5032259608464264452, 2248468952609198383, 8756109708711196808, 3863035679738500442, 5972319052856130739, 1079245023883434373, 7586885779985432798, 14094526536087431223, 4803095124130366729, 11310735880232365154, 6417661851259668788,
  12925302607361667213, 3633871195404602719, 10141511951506601144, 16649152707608599569, 11756078678635903203, 13865362051753533500, 8972288022780837134, 15479928778882835559, 10586854749910139193, 17094495506012137618, 757034805420216299,
  10484050877444284376, 12098617604573586435, 159514286966033244, 9314826948718520366, 15822467704820518791, 3883364387212965600, 17437034431949820850, 1099573731357899531, 14653243776094754781, 2714140458487201590, 16267810503224056840,
  18377093876341687137, 6437990558734133946, 1544916529761437580, 8052557285863436005, 17207869947615923127, 5268766630008369936, 375692601035673570, 6883333357137671995, 8992616730255302292, 4099542701282605926, 10607183457384604351,
  13777568228511861385, 15392134955641163444, 3453031638033610253, 12608344299786097375, 669240982178544184, 14222911026915399434, 2283807709307846243, 11439120371060333365, 17946761127162331790, 6007657809554778599, 1114583780582082233,
  7622224536684080658, 16777537198436567780, 4838433880829014589, 18392103925565869839, 6453000607958316648, 8562283981075946945, 3669209952103250579, 10176850708205249004, 5283776679232552638, 7393060052350182935, 13900700808452181360,
  15738867764755983820, 12955077108900917751, 8062003079928221385, 14569643836030219810, 2630540518422666619, 11785853180175153741, 18293493936277152166, 13400419907304455800, 1461316589696902609, 3570599962814532906, 17124270007551388156,
  5185166689943834965, 292092660971138599, 2401376034088768896, 15955046078825624146, 4015942761218070955, 10523583517320069380, 1232152105363004886, 7739792861465003311, 2846718832492306945, 9354359588594305370, 62928176637240876,
  2743914960026452128, 4358481687155754187, 10866122443257752612, 5973048414285056246, 8082331787402686543, 3189257758429990177, 9696898514531988602, 16204539270633987027, 6913107858676922533, 13420748614778920958, 8527674585806224592,
  15035315341908223017, 5743883929951158523, 12251524686053156948, 312421368445603757, 13866091413182459007, 15975374786300089304, 11082300757327392938, 17589941513429391363, 5650838195821838172, 14806150857574325294, 2867047539966772103,
  4705214496270574563, 1921423840415508494, 8429064596517506919, 3535990567544810553, 10043631323646808978, 752199911689744484, 7259840667791742909, 13767481423893741334, 8874407394921044968, 10983690768038675265, 6090616739065978899,
  12598257495167977324, 7705183466195280958, 9814466839312911255, 16322107595414909680, 11429033566442213314, 17936674322544211739, 13043600293571515373, 15152883666689145670, 10259809637716449304, 16767450393818447729, 4828347076210894538,
  14555363148234962615, 11771572492379896546, 18279213248481894971, 13386139219509198605, 15495422592626828902, 3556319275019275711, 17109989319756130961, 5170886002148577770, 14326198663901064892, 2387095346293511701, 15940765391030366951,
  4001662073422813760, 6110945446540444057, 1217871417567747691, 7725512173669746116, 2832438144697049750, 9340078900799048175, 48647488841983681, 6556288244943982106, 13063929001045980531, 8170854972073284165, 10280138345190914462,
  17848880499302539624, 15065089843447473555, 3125986525839920364, 16679656570576775614, 342195869984854295, 13895865914721709545, 1956762597114156354, 15510432641851011604, 3571329324243458413, 5680612697361088710, 787538668388392344,
  7295179424490390769, 2402105395517694403, 4511388768635324700, 18065058813372179950, 6125955495764626759, 12633596251866625184, 3342164839909560690, 9849805596011559115, 4956731567038862749, 11464372323140861174, 13573655696258491471,
  4853927694573007932, 6468494421702309991, 12976135177804308416, 3684703765847243922, 10192344521949242347, 5299270492976545981, 11806911249078544406, 18314552005180542831, 9023120593223478337, 15530761349325476762, 10637687320352780396,
  17145328076454778821, 807867375862857502, 14361537420599712752, 2422434102992159561, 15976104147729014811, 18085387520846645108, 13192313491873948742, 1253210174266395551, 7760850930368393976, 16916163592120881098, 4977060274513327907,
  6815227230817130367, 4031436574962064298, 10539077331064062723, 5646003302091366357, 12153644058193364782, 2862212646236300288, 9369853402338298713, 15877494158440297138, 10984420129467600772, 13093703502585231069, 8200629473612534703,
  14708270229714533128, 9815196200741836762, 11924479573859467059, 18432120329961465484, 13539046300988769118, 1599942983381215927, 10755255645133703049, 17262896401235701474, 5323793083628148283, 430719054655451917, 6938359810757450342,
  4378169384076884674, 5992736111206186733, 8102019484323817030, 3208945455351120664, 9716586211453119089, 4823512182480422723, 6932795555598053020, 13440436311700051445, 8547362282727355079, 15055003038829353504, 5763571626872289010,
  12271212382974287435, 7378138354001591069, 13885779110103589494, 1946675792496036303, 11101988454248523425, 17609629210350521850, 12716555181377825484, 777451863770272293, 9932764525522759415, 16440405281624757840, 4501301964017204649,
  1512149160139543812, 17175102577994029359, 5235999260386476168, 342925231413779802, 2452208604531410099, 16005878649268265349, 4066775331660712158, 17620445376397567408, 1282984675805646089, 7790625431907644514, 2897551402934948148,
  9405192159036946573, 4512118130064250207, 6621401503181880504, 13129042259283878929, 8235968230311182563, 14743608986413180988, 5452177574456116494, 11959818330558114919, 7066744301585418553, 13574385057687416978, 15683668430805047275,
  17521835387108849735, 14738044731253783666, 2798941413646230475, 16352611458383085725, 4413508140775532534, 17967178185512387784, 1629717484920466465, 15183387529657321715, 3244284212049768524, 9751924968151766949, 460493556194702455,
  6968134312296700880, 2075060283324004514, 8582701039426002939, 17738013701178490061, 5798910383570936870, 12306551139672935295, 7413477110700238929, 9522760483817869226, 4629686454845172860, 11137327210947171285, 17644967967049169710,
  8925239965363686171, 6141449309508620102, 12649090065610618527, 7756016036637922161, 14263656792739920586, 4972225380782856092, 11479866136884854517, 17987506892986852942, 13094432864014156576, 15203716237131786873, 10310642208159090507,
  16818282964261088932, 4879179646653535741, 14034492308406022863, 2095388990798469672, 15649059035535324922, 3709955717927771731, 12865268379680258853, 926165062072705662, 7433805818174704087, 2540731789202007721, 4650015162319638018,
  6488182118623440478, 8102748845752742537, 10212032218870372834, 5318958189897676468, 11826598945999674893, 6933524917026978527, 9042808290144608824, 15550449046246607249, 10657375017273910883, 17165015773375909308, 7873584361418844814,
  14381225117520843239, 9488151088548146873, 15995791844650145298, 18105075217767775595, 13212001188795079229, 1272897871187526038, 14826567915924381288, 2887464598316828097, 4996747971434458394, 103673942461762028, 6611314698563760453,
  3622161894686099616, 838371238831033547, 7346011994933031972, 2452937965960335606, 4562221339077965903, 18115891383814821153, 6176788066207267962, 12684428822309266387, 3392997410352201893, 9900638166454200318, 5007564137481503952,
  11515204893583502377, 2223773481626437883, 8731414237728436308, 15239054993830434733, 10345980964857738367, 12455264337975368664, 7562190309002672298, 14069831065104670723, 9176757036131974357, 15684397792233972782, 17793681165351603079,
  1185104047945853923, 16848057465800339470, 4908954148192786279, 15880119220089913, 6523520875322088338, 15678833537074575460, 3739730219467022269, 17293400264203877519, 5354296946596324328, 11861937702698322753, 2570506290741258259,
  9078147046843256684, 4185073017870560318, 10692713773972558743, 12801997147090189040, 7908923118117492674, 14416563874219491099, 9523489845246794733, 11632773218364425030, 6739699189391728664, 13247339945493727089, 1308236627886173898,
  17194790274915159846, 362612928334910289, 6870253684436908714, 16025566346189395836, 4086463028581842645, 17640133073318697895, 5701029755711144704, 14856342417463631826, 2917239099856078635, 9424879855958077060, 4531805826985380694,
  6641089200103010991, 1748015171130314625, 8255655927232313050, 3362581898259616684, 5471865271377246981, 11979506027479245406, 7086431998506549040, 13594072754608547465, 4302641342651482971, 10810282098753481396, 17317922854855479821]
end DL
namespace DL
open PySem PySem.Spec L2
/-! ### heights and their tables -/
namespace C
abbrev N_need_heights : List Str := ["heights", "row", "one"]
def s_need_heights : ES := (sSeq (sIf (tP' (yNot (xBool (xCall F_is_list (xsCons (xVar 0) (xsCons (xC (.int 1)) (xsCons (xC (.int 12)) xsNil))))))) sNever sNext)
  (sFor (iP (xIt (xPure (xVar 0)))) (put 1)
  (sSeq (sIf (tP' (yOr (yNot (xBool (xCall F_is_list (xsCons (xVar 1) (xsCons (xC (.int 1)) (xsCons (xC (.int 12)) xsNil)))))) (xBool (xOp oNe (xCall lenD (xsCons (xVar 1) xsNil)) (xCall lenD (xsCons (xOp ixD (xVar 0) (xC (.int 0))) xsNil)))))) sNever sNext)
  (sIf (tP' (yNot (xBool (xCall allD (xsCons (xComp [2] (xIt (xVar 1)) (putB 2) yYes (xCall F_is_in (xsCons (xVar 2) (xsCons (xC (.int 0)) (xsCons (xC (.int 99)) xsNil))))) xsNil))))) sNever sNext))))
def F_need_heights : List D → Option D := fnP N_need_heights s_need_heights
abbrev N_table_of : List Str := ["heights", "row", "line", "column", "one"]
def s_table_of : ES := (sRet (mP (xDict2 [1, 2, 3, 4] [3, 4] (xEn (xVar 0)) (gTupD 2 (gsCons (putB 1) (gsCons (putB 2) gsNil))) yYes (xEn (xPure (xVar 2))) (gTupD 2 (gsCons (putB 3) (gsCons (putB 4) gsNil))) yYes (xTup (xsCons (xPure (xVar 1)) (xsCons (xPure (xVar 3)) xsNil))) (xPure (xVar 4)))))
def F_table_of : List D → Option D := fnP N_table_of s_table_of
abbrev N_flooded : List Str := ["cells", "start", "kind", "found", "waiting", "cell", "other"]
def s_flooded : ES := (sSeq (sPar 3 4 (msCons (mDisp (msCons (mP (xPure (xVar 1))) (msCons (mP (xC (.bl true))) msNil))) (msCons (mP (xLst (xsCons (xPure (xVar 1)) xsNil))) msNil)))
  (sSeq (sWhile (tP' (xBool (xOp oNe (xVar 4) (xLst xsNil))))
  (sSeq (sAsg (mMut isL popD 4 msNil) (put 5))
  (sFor (iP (xIt (xCall F_near (xsCons (xVar 5) (xsCons (xVar 2) xsNil))))) (put 6)
  (sIf (tP' (yAnd (xBool (xOp oIn (xVar 6) (xVar 0))) (xBool (xOp oNin (xVar 6) (xVar 3))))) (sSeq (sAsg (mP (xC (.bl true))) (gSub' 3 (xVar 6) setT))
  (sDrop (mMut isL appendD 4 (msCons (mP (xPure (xVar 6))) msNil)))) sNext))))
  (sRet (mMove 3))))
def F_flooded : List D → Option D := fnP N_flooded s_flooded
abbrev N_parts_in : List Str := ["cells", "kind", "left", "found", "cell", "some", "other"]
def s_parts_in : ES := (sSeq (sPar 2 3 (msCons (mP (xCall copyD (xsCons (xVar 0) xsNil))) (msCons (mP (xLst xsNil)) msNil)))
  (sSeq (sFor (iP (xIt (xCall sortedA (xsCons (xCall listA (xsCons (xVar 0) xsNil)) xsNil)))) (put 4)
  (sIf (tP' (xBool (xOp oIn (xVar 4) (xVar 2)))) (sSeq (sAsg (mP (xCall F_flooded (xsCons (xVar 2) (xsCons (xVar 4) (xsCons (xVar 1) xsNil))))) (put 5))
  (sSeq (sDrop (mMut isL appendD 3 (msCons (mP (xCall tupleD (xsCons (xCall sortedA (xsCons (xCall listA (xsCons (xVar 5) xsNil)) xsNil)) xsNil))) msNil)))
  (sAsg (mP (xDict [6] (xKeysOf 2) (putB 6) (xBool (xOp oNin (xVar 6) (xVar 5))) (xPure (xVar 6)) (xC (.bl true)))) (put 2)))) sNext))
  (sRet (mMove 3))))
def F_parts_in : List D → Option D := fnP N_parts_in s_parts_in
abbrev N_basins : List Str := ["heights", "kind", "table", "found", "own", "part", "cell", "one", "other"]
def s_basins : ES := (sSeq (sDrop (mP (xCall F_need_heights (xsCons (xVar 0) xsNil))))
  (sSeq (sDrop (mP (xCall F_need_kind (xsCons (xVar 1) xsNil))))
  (sSeq (sAsg (mP (xTup (xsCons (xCall F_table_of (xsCons (xVar 0) xsNil)) (xsCons (xLst xsNil) xsNil)))) (gTupD 2 (gsCons (put 2) (gsCons (put 3) gsNil))))
  (sSeq (sFor (iP (xIt (xSrtNums (xVals (xVar 2))))) (put 4)
  (sFor (iP (xIt (xCall F_parts_in (xsCons (xDict [6, 7] (xItemsOf 2) (gTupD 2 (gsCons (putB 6) (gsCons (putB 7) gsNil))) (xBool (xOp oEq (xVar 7) (xVar 4))) (xPure (xVar 6)) (xC (.bl true))) (xsCons (xVar 1) xsNil))))) (put 5)
  (sIf (tP' (yNot (xBool (xCall anyD (xsCons (xComp2 [6, 8] [8] (xIt (xVar 5)) (putB 6) yYes (xIt (xCall F_near (xsCons (xVar 6) (xsCons (xVar 1) xsNil)))) (putB 8) yYes (xOp oLt (xGet2 (xVar 2) (xVar 8) (xVar 4)) (xVar 4))) xsNil))))) (sDrop (mMut isL appendD 3 (msCons (mP (xPure (xVar 5))) msNil))) sNext)))
  (sRet (mP (xCall sortedA (xsCons (xVar 3) xsNil))))))))
def F_basins : List D → Option D := fnP N_basins s_basins
abbrev N_need_place : List Str := ["heights", "cell"]
def s_need_place : ES := (sIf (tP' (yOr (yNot (xBool (xCall F_is_cell (xsCons (xVar 1) xsNil)))) (yOr (yNot (xBool (xChain oLe oLt (xC (.int 0)) (xOp ixD (xVar 1) (xC (.int 0))) (xCall lenD (xsCons (xVar 0) xsNil))))) (yNot (xBool (xChain oLe oLt (xC (.int 0)) (xOp ixD (xVar 1) (xC (.int 1))) (xCall lenD (xsCons (xOp ixD (xVar 0) (xC (.int 0))) xsNil)))))))) sNever sNext)
def F_need_place : List D → Option D := fnP N_need_place s_need_place
abbrev N_runoff : List Str := ["heights", "cell", "kind", "table", "found", "own", "some", "other"]
def s_runoff : ES := (sSeq (sDrop (mP (xCall F_need_heights (xsCons (xVar 0) xsNil))))
  (sSeq (sDrop (mP (xCall F_need_place (xsCons (xVar 0) (xsCons (xVar 1) xsNil)))))
  (sSeq (sDrop (mP (xCall F_need_kind (xsCons (xVar 2) xsNil))))
  (sSeq (sAsg (mP (xTup (xsCons (xCall F_table_of (xsCons (xVar 0) xsNil)) (xsCons (xLst (xsCons (xPure (xVar 1)) xsNil)) xsNil)))) (gTupD 2 (gsCons (put 3) (gsCons (put 4) gsNil))))
  (sWhile (tP' (xBool (xC (.bl true))))
  (sSeq (sAsg (mP (xPure (xOp ixD (xVar 3) (xOp ixD (xVar 4) (xNeg (xC (.int 1))))))) (put 5))
  (sSeq (sAsg (mP (xCall sortedA (xsCons (xComp [7] (xIt (xCall F_near (xsCons (xOp ixD (xVar 4) (xNeg (xC (.int 1)))) (xsCons (xVar 2) xsNil)))) (putB 7) (xBool (xOp oIn (xVar 7) (xVar 3))) (xTup (xsCons (xPure (xOp ixD (xVar 3) (xVar 7))) (xsCons (xPure (xVar 7)) xsNil)))) xsNil))) (put 6))
  (sSeq (sIf (tP' (yOr (xBool (xOp oEq (xVar 6) (xLst xsNil))) (xBool (xOp oGe (xOp ixD (xOp ixD (xVar 6) (xC (.int 0))) (xC (.int 0))) (xVar 5))))) (sRet (mP (xCall tupleD (xsCons (xVar 4) xsNil)))) sNext)
  (sDrop (mMut isL appendD 4 (msCons (mP (xPure (xOp ixD (xOp ixD (xVar 6) (xC (.int 0))) (xC (.int 1))))) msNil)))))))))))
def F_runoff : List D → Option D := fnP N_runoff s_runoff
abbrev N_law_heights : List Str := ["_law_row", "_law_high", "_law_wide", "_law_top", "_law_found", "_law_line", "_law_column"]
def s_law_heights : ES := (sSeq (sAsg (mCallR F_law_pick 0 (msCons (mP (xLst (xsCons (xC (.int 2)) (xsCons (xC (.int 3)) (xsCons (xC (.int 5)) (xsCons (xC (.int 10)) (xsCons (xC (.int 100)) xsNil))))))) msNil)) (put 3))
  (sSeq (sAsg (mP (xLst xsNil)) (put 4))
  (sSeq (sFor (iP (xRng1 (xsCons (xVar 1) xsNil))) (put 5)
  (sDrop (mMut isL appendD 4 (msCons (mCall tupleD (msCons (mComp [6] (iP (xRng1 (xsCons (xVar 2) xsNil))) (put 6) (tP' yYes) (mCallR takenF 0 (msCons (mP (xPure (xVar 3))) msNil))) msNil)) msNil))))
  (sRet (mP (xCall tupleD (xsCons (xVar 4) xsNil)))))))
def F_law_heights : D → List D → Option (D × D) := fnR N_law_heights s_law_heights
abbrev N_law_table : List Str := ["_law_heights_here", "_law_found", "_law_line", "_law_column"]
def s_law_table : ES := (sSeq (sAsg (mP (xC (.dT [] []))) (put 1))
  (sSeq (sFor (iP (xRng1 (xsCons (xCall lenD (xsCons (xVar 0) xsNil)) xsNil))) (put 2)
  (sFor (iP (xRng1 (xsCons (xCall lenD (xsCons (xOp ixD (xVar 0) (xC (.int 0))) xsNil)) xsNil))) (put 3)
  (sAsg (mP (xPure (xOp ixD (xOp ixD (xVar 0) (xVar 2)) (xVar 3)))) (gSub' 1 (xTup (xsCons (xPure (xVar 2)) (xsCons (xPure (xVar 3)) xsNil))) setT))))
  (sRet (mMove 1))))
def F_law_table : List D → Option D := fnP N_law_table s_law_table
end C
abbrev htD (H : List (List Int)) : D := .tup (H.map wD)
structure Hts (H : List (List Int)) (h w : Nat) : Prop where
  len : H.length = h
  row : ∀ r ∈ H, r.length = w
  val : ∀ r ∈ H, ∀ x ∈ r, 0 ≤ x ∧ x ≤ 99
  h1 : 1 ≤ h ∧ h ≤ 12
  w1 : 1 ≤ w ∧ w ≤ 12
theorem gD {l : List Int} {j : Nat} (h : j < l.length) : l[j]? = some (l.getD j 0) := by
  rw [List.getD_eq_getElem?_getD, List.getElem?_eq_getElem h]; rfl
def hgt (H : List (List Int)) (c : Cell) : Int := (H.getD c.1.toNat []).getD c.2.toNat 0
def tblC (H : List (List Int)) (cs : List Cell) : List (Cell × Int) := cs.map fun c => (c, hgt H c)
def tbl (H : List (List Int)) (h w : Nat) : List (Cell × Int) := tblC H (wideC 0 0 h w)
abbrev tD (m : List (Cell × Int)) : D := mapD D.int m
section
variable {H : List (List Int)} {h w : Nat}
theorem Hts.hw (g : Hts H h w) : h * w ≤ 144 := Nat.mul_le_mul g.h1.2 g.w1.2
theorem Hts.rowD (g : Hts H h w) {i : Nat} (hi : i < h) : H[i]? = some (H.getD i []) ∧ (H.getD i []) ∈ H ∧ (H.getD i []).length = w := by
  have e : H[i]? = some (H.getD i []) := by
    rw [List.getD_eq_getElem?_getD, List.getElem?_eq_getElem (by rw [g.len]; exact hi)]; rfl
  have m := List.mem_of_getElem? e
  exact ⟨e, m, g.row _ m⟩
theorem Hts.valD (g : Hts H h w) {c : Cell} (hc : c ∈ wideC 0 0 h w) : 0 ≤ hgt H c ∧ hgt H c ≤ 99 := by
  have hm := mem_wide.mp hc
  obtain ⟨e, m, l⟩ := g.rowD (i := c.1.toNat) (by omega)
  have hl : c.2.toNat < (H.getD c.1.toNat []).length := by rw [l]; omega
  exact g.val _ m _ (List.mem_of_getElem? (gD hl))
end
/-! ### a dict of two clauses, new keys each time -/
section
variable {α β γ : Type} {gx gx1 : GX} {q q1 : QX} {src1 : IX} {fk fe : EX} {gg : γ → D}
abbrev kM (m : List (Cell × γ)) : List (List Key) := m.map fun p => keyC p.1
abbrev vM (gg : γ → D) (m : List (Cell × γ)) : List D := m.map fun p => gg p.2
end
theorem wide00 (h w : Nat) : wideC 0 0 h w = (List.range h).flatMap fun i : Nat => (List.range w).map fun j : Nat => ((((i : Nat) : Int), ((j : Nat) : Int)) : Cell) := by
  unfold wideC
  simp only [Int.zero_add]
namespace C
section
variable {H : List (List Int)} {h w : Nat}
end
end C
end DL
namespace DL
open PySem PySem.Spec L2
theorem aset_new {α : Type} {m : List (Cell × α)} {c : Cell} {v : α} (h : c ∉ akeys m) : aset m c v = m ++ [(c, v)] := by
  unfold aset
  rw [if_neg h]
def rowC (i w : Nat) : List Cell := (List.range w).map fun j : Nat => (((i : Nat) : Int), ((j : Nat) : Int))
theorem wide_rows (h w : Nat) : wideC 0 0 h w = (List.range h).flatMap fun i => rowC i w := wide00 h w
namespace C
section
variable {H : List (List Int)} {h w : Nat} {ns : List Int}
abbrev l4 (HH : D) (a b c : Slt) : Env := [ow HH, a, b, c]
end
end C
end DL
namespace DL
open PySem PySem.Spec L2
namespace C
section
variable {H : List (List Int)} {h w : Nat} {ns : List Int}
abbrev e7 (row : D) (h w t : Int) (f x y : Slt) : Env := [pn row, ow (.int h), ow (.int w), ow (.int t), f, x, y]
end
end C
end DL
namespace DL
open PySem PySem.Spec L2
/-! ### what hangs together -/
def Conn (e : Bool) (cs : List Cell) (a b : Cell) : Prop := ∃ n, Rch (nbP e) cs n a b
theorem nbP_symm (e : Bool) (a b : Cell) (h : b ∈ nbP e a) : a ∈ nbP e b := (nb_perm e b).mem_iff.mpr (nb_symm e a b ((nb_perm e a).mem_iff.mp h))
section
variable {e : Bool} {cs : List Cell} {a b c : Cell}
theorem Conn.refl (h : a ∈ cs) : Conn e cs a a := ⟨0, rfl, h⟩
theorem Conn.step (h : Conn e cs a b) (h1 : c ∈ nbP e b) (h2 : c ∈ cs) : Conn e cs a c := let ⟨n, k⟩ := h; ⟨n + 1, b, k, h1, h2⟩
theorem Conn.mem (h : Conn e cs a b) : a ∈ cs ∧ b ∈ cs := let ⟨_, k⟩ := h; k.mem
theorem Conn.symm (h : Conn e cs a b) : Conn e cs b a := let ⟨n, k⟩ := h; ⟨n, k.symm (nbP_symm e)⟩
theorem Conn.trans (h : Conn e cs a b) (k : Conn e cs b c) : Conn e cs a c := by
  obtain ⟨n, k⟩ := k
  induction n generalizing c with
  | zero => exact k.1 ▸ h
  | succ n ih =>
    obtain ⟨d, hd, h1, h2⟩ := k
    exact (ih hd).step h1 h2
/-- a set that holds a and, with each cell, its neighbors holds all -/
theorem Conn.closed {F : List Cell} (ha : a ∈ F) (hc : ∀ x ∈ F, ∀ y ∈ nbP e x, y ∈ cs → y ∈ F) (h : Conn e cs a b) : b ∈ F := by
  obtain ⟨n, k⟩ := h
  induction n generalizing b with
  | zero => exact k.1 ▸ ha
  | succ n ih =>
    obtain ⟨d, hd, h1, h2⟩ := k
    exact hc d (ih hd) b h1 h2
end
abbrev FW := List Cell × List Cell
def stepF (cs : List Cell) (s : FW) (x : Cell) : FW := if x ∈ cs ∧ x ∉ s.1 then (s.1 ++ [x], s.2 ++ [x]) else s
namespace C
def P_flooded1 : ES := (sPar 3 4 (msCons (mDisp (msCons (mP (xPure (xVar 1))) (msCons (mP (xC (.bl true))) msNil))) (msCons (mP (xLst (xsCons (xPure (xVar 1)) xsNil))) msNil)))
instance : MS P_flooded1 := by unfold P_flooded1; infer_instance
def P_flooded2b2bt1 : ES := (sAsg (mP (xC (.bl true))) (gSub' 3 (xVar 6) setT))
instance : MS P_flooded2b2bt1 := by unfold P_flooded2b2bt1; infer_instance
def P_flooded2b2bt2 : ES := (sDrop (mMut isL appendD 4 (msCons (mP (xPure (xVar 6))) msNil)))
instance : MS P_flooded2b2bt2 := by unfold P_flooded2b2bt2; infer_instance
def P_flooded2b2bt : ES := (sSeq P_flooded2b2bt1 P_flooded2b2bt2)
instance : MS P_flooded2b2bt := by unfold P_flooded2b2bt; infer_instance
def P_flooded2b2b : ES := (sIf (tP' (yAnd (xBool (xOp oIn (xVar 6) (xVar 0))) (xBool (xOp oNin (xVar 6) (xVar 3))))) P_flooded2b2bt sNext)
instance : MS P_flooded2b2b := by unfold P_flooded2b2b; infer_instance
def P_flooded2b2 : ES := (sFor (iP (xIt (xCall F_near (xsCons (xVar 5) (xsCons (xVar 2) xsNil))))) (put 6) P_flooded2b2b)
instance : MS P_flooded2b2 := by unfold P_flooded2b2; infer_instance
def P_flooded2b : ES := (sSeq (sAsg (mMut isL popD 4 msNil) (put 5)) P_flooded2b2)
instance : MS P_flooded2b := by unfold P_flooded2b; infer_instance
def P_flooded2 : ES := (sWhile (tP' (xBool (xOp oNe (xVar 4) (xLst xsNil)))) P_flooded2b)
instance : MS P_flooded2 := by unfold P_flooded2; infer_instance
def P_flooded : ES := (sSeq P_flooded1 (sSeq P_flooded2 (sRet (mMove 3))))
instance : MS P_flooded := by unfold P_flooded; infer_instance
def P_parts_in1 : ES := (sPar 2 3 (msCons (mP (xCall copyD (xsCons (xVar 0) xsNil))) (msCons (mP (xLst xsNil)) msNil)))
instance : MS P_parts_in1 := by unfold P_parts_in1; infer_instance
def P_parts_in2bt1 : ES := (sAsg (mP (xCall F_flooded (xsCons (xVar 2) (xsCons (xVar 4) (xsCons (xVar 1) xsNil))))) (put 5))
instance : MS P_parts_in2bt1 := by unfold P_parts_in2bt1; infer_instance
def P_parts_in2bt2 : ES := (sDrop (mMut isL appendD 3 (msCons (mP (xCall tupleD (xsCons (xCall sortedA (xsCons (xCall listA (xsCons (xVar 5) xsNil)) xsNil)) xsNil))) msNil)))
instance : MS P_parts_in2bt2 := by unfold P_parts_in2bt2; infer_instance
def P_parts_in2bt3 : ES := (sAsg (mP (xDict [6] (xKeysOf 2) (putB 6) (xBool (xOp oNin (xVar 6) (xVar 5))) (xPure (xVar 6)) (xC (.bl true)))) (put 2))
instance : MS P_parts_in2bt3 := by unfold P_parts_in2bt3; infer_instance
def P_parts_in2bt : ES := (sSeq P_parts_in2bt1 (sSeq P_parts_in2bt2 P_parts_in2bt3))
instance : MS P_parts_in2bt := by unfold P_parts_in2bt; infer_instance
def P_parts_in2b : ES := (sIf (tP' (xBool (xOp oIn (xVar 4) (xVar 2)))) P_parts_in2bt sNext)
instance : MS P_parts_in2b := by unfold P_parts_in2b; infer_instance
def P_parts_in2 : ES := (sFor (iP (xIt (xCall sortedA (xsCons (xCall listA (xsCons (xVar 0) xsNil)) xsNil)))) (put 4) P_parts_in2b)
instance : MS P_parts_in2 := by unfold P_parts_in2; infer_instance
def P_parts_in : ES := (sSeq P_parts_in1 (sSeq P_parts_in2 (sRet (mMove 3))))
instance : MS P_parts_in := by unfold P_parts_in; infer_instance
section
variable {cs : List Cell} {a : Cell} {e : Bool}
abbrev fE (cs : D) (a : D) (k : Int) (f w c x : Slt) : Env := [bo cs, ow a, ow (.int k), f, w, c, x]
/-- what stands between two turns -/
structure Fld (e : Bool) (cs : List Cell) (a : Cell) (s : FW) : Prop where
  nd : s.1.Nodup
  con : ∀ x ∈ s.1, Conn e cs a x
  st : a ∈ s.1
  sub : ∀ x ∈ s.2, x ∈ s.1
  few : s.2.length ≤ s.1.length
  cl : ∀ x ∈ s.1, x ∉ s.2 → ∀ y ∈ nbP e x, y ∈ cs → y ∈ s.1
end
end C
end DL
namespace DL
open PySem PySem.Spec L2
/-! ### the parts -/
noncomputable instance {e : Bool} {cs : List Cell} {a b : Cell} : Decidable (Conn e cs a b) := Classical.propDecidable _
/-- x hangs together with none of these -/
def Off (e : Bool) (cs S : List Cell) (x : Cell) : Prop := ∀ c ∈ S, ¬ Conn e cs c x
noncomputable instance {e : Bool} {cs S : List Cell} {x : Cell} : Decidable (Off e cs S x) := Classical.propDecidable _
/-- c is the least of its part -/
def Lst (e : Bool) (cs : List Cell) (c : Cell) : Prop := ∀ x, Conn e cs c x → ¬ ltc x c
noncomputable instance {e : Bool} {cs : List Cell} {c : Cell} : Decidable (Lst e cs c) := Classical.propDecidable _
noncomputable def comp (e : Bool) (cs : List Cell) (c : Cell) : List Cell := srt (cs.filter fun x => decide (Conn e cs c x))
noncomputable def heads (e : Bool) (cs S : List Cell) : List Cell := S.filter fun c => decide (Lst e cs c)
noncomputable def parts (e : Bool) (cs : List Cell) : List (List Cell) := (heads e cs (srt cs)).map (comp e cs)
noncomputable def leftC (e : Bool) (cs S : List Cell) : List Cell := cs.filter fun x => decide (Off e cs S x)
section
variable {e : Bool} {cs S : List Cell} {a c x : Cell}
end
namespace C
section
variable {cs : List Cell} {e : Bool}
abbrev pE (cs : D) (k : Int) (l f c s x : Slt) : Env := [bo cs, ow (.int k), l, f, c, s, x]
abbrev ppD (L : List (List Cell)) : D := .lst (L.map inkD)
end
end C
end DL
namespace DL
open PySem PySem.Spec L2
/-! ### inks in order -/
def leK (as bs : List Cell) : Bool := !ltK bs as
def srtK (L : List (List Cell)) : List (List Cell) := L.mergeSort leK
end DL
namespace DL
open PySem PySem.Spec L2
/-! ### basins -/
section
variable (H : List (List Int)) (h w : Nat)
def lvC (x : Int) : List Cell := (wideC 0 0 h w).filter fun c => decide (hgt H c = x)
def lvls : List Int := srtSetI ((wideC 0 0 h w).map (hgt H))
/-- the height of a cell, another number outside -/
def hgD (o : Cell) (z : Int) : Int := if o ∈ wideC 0 0 h w then hgt H o else z
def lower (e : Bool) (x : Int) (P : List Cell) : Bool := (P.flatMap fun c => (nbP e c).map fun o => (c, o)).any fun p => decide (hgD H h w p.2 x < x)
noncomputable def basL (e : Bool) : List (List Cell) := (lvls H h w).flatMap fun x => (parts e (lvC H h w x)).filter fun P => !lower H h w e x P
end
section
variable {H : List (List Int)} {h w : Nat} {e : Bool}
end
namespace C
def P_basins1 : ES := (sDrop (mP (xCall F_need_heights (xsCons (xVar 0) xsNil))))
instance : MS P_basins1 := by unfold P_basins1; infer_instance
def P_basins2 : ES := (sDrop (mP (xCall F_need_kind (xsCons (xVar 1) xsNil))))
instance : MS P_basins2 := by unfold P_basins2; infer_instance
def P_basins3 : ES := (sAsg (mP (xTup (xsCons (xCall F_table_of (xsCons (xVar 0) xsNil)) (xsCons (xLst xsNil) xsNil)))) (gTupD 2 (gsCons (put 2) (gsCons (put 3) gsNil))))
instance : MS P_basins3 := by unfold P_basins3; infer_instance
def P_basins4bbt : ES := (sDrop (mMut isL appendD 3 (msCons (mP (xPure (xVar 5))) msNil)))
instance : MS P_basins4bbt := by unfold P_basins4bbt; infer_instance
def P_basins4bb : ES := (sIf (tP' (yNot (xBool (xCall anyD (xsCons (xComp2 [6, 8] [8] (xIt (xVar 5)) (putB 6) yYes (xIt (xCall F_near (xsCons (xVar 6) (xsCons (xVar 1) xsNil)))) (putB 8) yYes (xOp oLt (xGet2 (xVar 2) (xVar 8) (xVar 4)) (xVar 4))) xsNil))))) P_basins4bbt sNext)
instance : MS P_basins4bb := by unfold P_basins4bb; infer_instance
def P_basins4b : ES := (sFor (iP (xIt (xCall F_parts_in (xsCons (xDict [6, 7] (xItemsOf 2) (gTupD 2 (gsCons (putB 6) (gsCons (putB 7) gsNil))) (xBool (xOp oEq (xVar 7) (xVar 4))) (xPure (xVar 6)) (xC (.bl true))) (xsCons (xVar 1) xsNil))))) (put 5) P_basins4bb)
instance : MS P_basins4b := by unfold P_basins4b; infer_instance
def P_basins4 : ES := (sFor (iP (xIt (xSrtNums (xVals (xVar 2))))) (put 4) P_basins4b)
instance : MS P_basins4 := by unfold P_basins4; infer_instance
def P_basins5 : ES := (sRet (mP (xCall sortedA (xsCons (xVar 3) xsNil))))
instance : MS P_basins5 := by unfold P_basins5; infer_instance
def P_basins : ES := (sSeq P_basins1 (sSeq P_basins2 (sSeq P_basins3 (sSeq P_basins4 P_basins5))))
instance : MS P_basins := by unfold P_basins; infer_instance
section
variable {H : List (List Int)} {h w : Nat} {e : Bool}
abbrev bE (HH : D) (k : Int) (t f o p c n x : Slt) : Env := [ow HH, ow (.int k), t, f, o, p, c, n, x]
end
end C
end DL
namespace DL
open PySem PySem.Spec L2
/-! ### pairs of a height and a cell, sorted -/
abbrev HC := Int × Cell
def hcD (p : HC) : D := .tup [.int p.1, cellD p.2]
def ltH (p q : HC) : Prop := p.1 < q.1 ∨ (p.1 = q.1 ∧ ltc p.2 q.2)
instance {p q : HC} : Decidable (ltH p q) := by unfold ltH; infer_instance
def leH (p q : HC) : Bool := !decide (ltH q p)
def srtH (L : List HC) : List HC := L.mergeSort leH
/-! ### where a drop runs -/
section
variable (H : List (List Int)) (h w : Nat) (e : Bool)
def nxt (c : Cell) : List HC := srtH (((nbP e c).filter fun o => decide (o ∈ wideC 0 0 h w)).map fun o => (hgt H o, o))
def stepR (F : List Cell) : List Cell := match F.getLast? with
  | none => F
  | some z => match (nxt H h w e z).head? with
    | none => F
    | some p => if p.1 < hgt H z then F ++ [p.2] else F
def iterR : Nat → List Cell → List Cell
  | 0, F => F
  | n + 1, F => iterR n (stepR H h w e F)
end
section
variable {H : List (List Int)} {h w : Nat} {e : Bool}
/-- what a drop has passed: lower and lower -/
structure Dro (H : List (List Int)) (h w : Nat) (F : List Cell) : Prop where
  sub : ∀ x ∈ F, x ∈ wideC 0 0 h w
  dec : F.Pairwise fun a b => hgt H b < hgt H a
  ne : F ≠ []
theorem Dro.nd {F : List Cell} (d : Dro H h w F) : F.Nodup := d.dec.imp fun {a b} l (e : a = b) => by rw [e] at l; omega
theorem Dro.len {F : List Cell} (d : Dro H h w F) : F.length ≤ h * w := by
  have := sub_len F (wideC 0 0 h w) d.nd d.sub
  rwa [wide_len] at this
theorem Dro.one {c : Cell} (hc : c ∈ wideC 0 0 h w) : Dro H h w [c] := ⟨fun x hx => by rw [List.mem_singleton.mp hx]; exact hc, List.pairwise_singleton .., by simp⟩
theorem Dro.next {F : List Cell} (d : Dro H h w F) {z : Cell} (hz : F.getLast? = some z) {o : Cell} (ho : o ∈ wideC 0 0 h w) (hl : hgt H o < hgt H z) : Dro H h w (F ++ [o]) := by
  refine ⟨fun x hx => ?_, ?_, by simp⟩
  · rcases List.mem_append.mp hx with hx | hx
    · exact d.sub x hx
    · rw [List.mem_singleton.mp hx]; exact ho
  · rw [List.pairwise_append]
    refine ⟨d.dec, List.pairwise_singleton .., fun a ha b hb => ?_⟩
    rw [List.mem_singleton.mp hb]
    have el : F = F.dropLast ++ [z] := by
      have hne := d.ne
      have := List.dropLast_concat_getLast hne
      rw [List.getLast?_eq_some_getLast hne] at hz
      rw [Option.some.inj hz] at this
      exact this.symm
    have dd := d.dec
    rw [el, List.pairwise_append] at dd
    rw [el] at ha
    rcases List.mem_append.mp ha with ha | ha
    · have := dd.2.2 a ha z (List.mem_cons_self ..)
      omega
    · rw [List.mem_singleton.mp ha]; exact hl
end
namespace C
def P_runoff1 : ES := (sDrop (mP (xCall F_need_heights (xsCons (xVar 0) xsNil))))
instance : MS P_runoff1 := by unfold P_runoff1; infer_instance
def P_runoff2 : ES := (sDrop (mP (xCall F_need_place (xsCons (xVar 0) (xsCons (xVar 1) xsNil)))))
instance : MS P_runoff2 := by unfold P_runoff2; infer_instance
def P_runoff3 : ES := (sDrop (mP (xCall F_need_kind (xsCons (xVar 2) xsNil))))
instance : MS P_runoff3 := by unfold P_runoff3; infer_instance
def P_runoff4 : ES := (sAsg (mP (xTup (xsCons (xCall F_table_of (xsCons (xVar 0) xsNil)) (xsCons (xLst (xsCons (xPure (xVar 1)) xsNil)) xsNil)))) (gTupD 2 (gsCons (put 3) (gsCons (put 4) gsNil))))
instance : MS P_runoff4 := by unfold P_runoff4; infer_instance
def P_runoff5b1 : ES := (sAsg (mP (xPure (xOp ixD (xVar 3) (xOp ixD (xVar 4) (xNeg (xC (.int 1))))))) (put 5))
instance : MS P_runoff5b1 := by unfold P_runoff5b1; infer_instance
def P_runoff5b2 : ES := (sAsg (mP (xCall sortedA (xsCons (xComp [7] (xIt (xCall F_near (xsCons (xOp ixD (xVar 4) (xNeg (xC (.int 1)))) (xsCons (xVar 2) xsNil)))) (putB 7) (xBool (xOp oIn (xVar 7) (xVar 3))) (xTup (xsCons (xPure (xOp ixD (xVar 3) (xVar 7))) (xsCons (xPure (xVar 7)) xsNil)))) xsNil))) (put 6))
instance : MS P_runoff5b2 := by unfold P_runoff5b2; infer_instance
def P_runoff5b3 : ES := (sIf (tP' (yOr (xBool (xOp oEq (xVar 6) (xLst xsNil))) (xBool (xOp oGe (xOp ixD (xOp ixD (xVar 6) (xC (.int 0))) (xC (.int 0))) (xVar 5))))) (sRet (mP (xCall tupleD (xsCons (xVar 4) xsNil)))) sNext)
instance : MS P_runoff5b3 := by unfold P_runoff5b3; infer_instance
def P_runoff5b4 : ES := (sDrop (mMut isL appendD 4 (msCons (mP (xPure (xOp ixD (xOp ixD (xVar 6) (xC (.int 0))) (xC (.int 1))))) msNil)))
instance : MS P_runoff5b4 := by unfold P_runoff5b4; infer_instance
def P_runoff5b : ES := (sSeq P_runoff5b1 (sSeq P_runoff5b2 (sSeq P_runoff5b3 P_runoff5b4)))
instance : MS P_runoff5b := by unfold P_runoff5b; infer_instance
def P_runoff5 : ES := (sWhile (tP' (xBool (xC (.bl true)))) P_runoff5b)
instance : MS P_runoff5 := by unfold P_runoff5; infer_instance
def P_runoff : ES := (sSeq P_runoff1 (sSeq P_runoff2 (sSeq P_runoff3 (sSeq P_runoff4 P_runoff5))))
instance : MS P_runoff := by unfold P_runoff; infer_instance
section
variable {H : List (List Int)} {h w : Nat} {e : Bool}
abbrev rE (HH a : D) (k : Int) (t f o s x : Slt) : Env := [ow HH, ow a, ow (.int k), t, f, o, s, x]
end
end C
end DL
namespace DL
open PySem PySem.Spec L2
namespace C
section
variable {H : List (List Int)} {h w : Nat} {e : Bool}
end
end C
end DL
namespace DL
open PySem PySem.Spec L2
/-! ### a cell taken out of a list -/
def offL (A F : List Cell) : List Cell := A.filter fun y => !decide (y ∈ F)
namespace C
abbrev N_law_parts : List Str := ["_law_cells", "_law_kind", "_law_left", "_law_found", "_law_start", "_law_some", "_law_spot", "_law_other"]
def s_law_parts : ES := (sSeq (sPar 2 3 (msCons (mP (xCall sortedA (xsCons (xVar 0) xsNil))) (msCons (mP (xLst xsNil)) msNil)))
  (sSeq (sFor (iP (xIt (xCall sortedA (xsCons (xVar 0) xsNil)))) (put 4)
  (sIf (tP' (xBool (xOp oIn (xVar 4) (xVar 2)))) (sSeq (sPar 5 6 (msCons (mP (xLst (xsCons (xPure (xVar 4)) xsNil))) (msCons (mP (xC (.int 0))) msNil)))
  (sSeq (sDrop (mMut isL removeD 2 (msCons (mP (xPure (xVar 4))) msNil)))
  (sSeq (sWhile (tP' (xBool (xOp oLt (xVar 6) (xCall lenD (xsCons (xVar 5) xsNil)))))
  (sSeq (sFor (iP (xIt (xCall F_law_near (xsCons (xOp ixD (xVar 5) (xVar 6)) (xsCons (xVar 1) xsNil))))) (put 7)
  (sIf (tP' (xBool (xOp oIn (xVar 7) (xVar 2)))) (sSeq (sDrop (mMut isL removeD 2 (msCons (mP (xPure (xVar 7))) msNil)))
  (sDrop (mMut isL appendD 5 (msCons (mP (xPure (xVar 7))) msNil)))) sNext))
  (sAsg (mP (xOp oAdd (xVar 6) (xC (.int 1)))) (put 6))))
  (sDrop (mMut isL appendD 3 (msCons (mP (xCall tupleD (xsCons (xCall sortedA (xsCons (xVar 5) xsNil)) xsNil))) msNil)))))) sNext))
  (sRet (mMove 3))))
def F_law_parts : List D → Option D := fnP N_law_parts s_law_parts
abbrev N_level : List Str := ["heights", "most", "cell", "own"]
def s_level : ES := (sSeq (sDrop (mP (xCall F_need_heights (xsCons (xVar 0) xsNil))))
  (sSeq (sIf (tP' (yNot (xBool (xCall F_is_in (xsCons (xVar 1) (xsCons (xC (.int 0)) (xsCons (xC (.int 99)) xsNil))))))) sNever sNext)
  (sRet (mP (xCall tupleD (xsCons (xComp [2, 3] (xIt (xSrtI (xCall F_table_of (xsCons (xVar 0) xsNil)))) (gTupD 2 (gsCons (putB 2) (gsCons (putB 3) gsNil))) (xBool (xOp oLe (xVar 3) (xVar 1))) (xPure (xVar 2))) xsNil))))))
def F_level : List D → Option D := fnP N_level s_level
def P_law_parts1 : ES := (sPar 2 3 (msCons (mP (xCall sortedA (xsCons (xVar 0) xsNil))) (msCons (mP (xLst xsNil)) msNil)))
instance : MS P_law_parts1 := by unfold P_law_parts1; infer_instance
def P_law_parts2bt1 : ES := (sPar 5 6 (msCons (mP (xLst (xsCons (xPure (xVar 4)) xsNil))) (msCons (mP (xC (.int 0))) msNil)))
instance : MS P_law_parts2bt1 := by unfold P_law_parts2bt1; infer_instance
def P_law_parts2bt2 : ES := (sDrop (mMut isL removeD 2 (msCons (mP (xPure (xVar 4))) msNil)))
instance : MS P_law_parts2bt2 := by unfold P_law_parts2bt2; infer_instance
def P_law_parts2bt3b1bt1 : ES := (sDrop (mMut isL removeD 2 (msCons (mP (xPure (xVar 7))) msNil)))
instance : MS P_law_parts2bt3b1bt1 := by unfold P_law_parts2bt3b1bt1; infer_instance
def P_law_parts2bt3b1bt2 : ES := (sDrop (mMut isL appendD 5 (msCons (mP (xPure (xVar 7))) msNil)))
instance : MS P_law_parts2bt3b1bt2 := by unfold P_law_parts2bt3b1bt2; infer_instance
def P_law_parts2bt3b1bt : ES := (sSeq P_law_parts2bt3b1bt1 P_law_parts2bt3b1bt2)
instance : MS P_law_parts2bt3b1bt := by unfold P_law_parts2bt3b1bt; infer_instance
def P_law_parts2bt3b1b : ES := (sIf (tP' (xBool (xOp oIn (xVar 7) (xVar 2)))) P_law_parts2bt3b1bt sNext)
instance : MS P_law_parts2bt3b1b := by unfold P_law_parts2bt3b1b; infer_instance
def P_law_parts2bt3b1 : ES := (sFor (iP (xIt (xCall F_law_near (xsCons (xOp ixD (xVar 5) (xVar 6)) (xsCons (xVar 1) xsNil))))) (put 7) P_law_parts2bt3b1b)
instance : MS P_law_parts2bt3b1 := by unfold P_law_parts2bt3b1; infer_instance
def P_law_parts2bt3b2 : ES := (sAsg (mP (xOp oAdd (xVar 6) (xC (.int 1)))) (put 6))
instance : MS P_law_parts2bt3b2 := by unfold P_law_parts2bt3b2; infer_instance
def P_law_parts2bt3b : ES := (sSeq P_law_parts2bt3b1 P_law_parts2bt3b2)
instance : MS P_law_parts2bt3b := by unfold P_law_parts2bt3b; infer_instance
def P_law_parts2bt3 : ES := (sWhile (tP' (xBool (xOp oLt (xVar 6) (xCall lenD (xsCons (xVar 5) xsNil))))) P_law_parts2bt3b)
instance : MS P_law_parts2bt3 := by unfold P_law_parts2bt3; infer_instance
def P_law_parts2bt4 : ES := (sDrop (mMut isL appendD 3 (msCons (mP (xCall tupleD (xsCons (xCall sortedA (xsCons (xVar 5) xsNil)) xsNil))) msNil)))
instance : MS P_law_parts2bt4 := by unfold P_law_parts2bt4; infer_instance
def P_law_parts2bt : ES := (sSeq P_law_parts2bt1 (sSeq P_law_parts2bt2 (sSeq P_law_parts2bt3 P_law_parts2bt4)))
instance : MS P_law_parts2bt := by unfold P_law_parts2bt; infer_instance
def P_law_parts2b : ES := (sIf (tP' (xBool (xOp oIn (xVar 4) (xVar 2)))) P_law_parts2bt sNext)
instance : MS P_law_parts2b := by unfold P_law_parts2b; infer_instance
def P_law_parts2 : ES := (sFor (iP (xIt (xCall sortedA (xsCons (xVar 0) xsNil)))) (put 4) P_law_parts2b)
instance : MS P_law_parts2 := by unfold P_law_parts2; infer_instance
def P_law_parts : ES := (sSeq P_law_parts1 (sSeq P_law_parts2 (sRet (mMove 3))))
instance : MS P_law_parts := by unfold P_law_parts; infer_instance
def P_level1 : ES := (sDrop (mP (xCall F_need_heights (xsCons (xVar 0) xsNil))))
instance : MS P_level1 := by unfold P_level1; infer_instance
def P_level2 : ES := (sIf (tP' (yNot (xBool (xCall F_is_in (xsCons (xVar 1) (xsCons (xC (.int 0)) (xsCons (xC (.int 99)) xsNil))))))) sNever sNext)
instance : MS P_level2 := by unfold P_level2; infer_instance
def P_level3 : ES := (sRet (mP (xCall tupleD (xsCons (xComp [2, 3] (xIt (xSrtI (xCall F_table_of (xsCons (xVar 0) xsNil)))) (gTupD 2 (gsCons (putB 2) (gsCons (putB 3) gsNil))) (xBool (xOp oLe (xVar 3) (xVar 1))) (xPure (xVar 2))) xsNil))))
instance : MS P_level3 := by unfold P_level3; infer_instance
def P_level : ES := (sSeq P_level1 (sSeq P_level2 P_level3))
instance : MS P_level := by unfold P_level; infer_instance
section
variable {A : List Cell} {c : Cell} {e : Bool}
abbrev lpE (cs : D) (k : Int) (l f s so sp o : Slt) : DL.Env := [bo cs, ow (.int k), l, f, s, so, sp, o]
abbrev lD (L : List Cell) : D := .lst (L.map cellD)
structure LPs (e : Bool) (A : List Cell) (c : Cell) (s : List Cell × Nat) : Prop where
  nd : s.1.Nodup
  con : ∀ x ∈ s.1, Conn e A c x
  st : c ∈ s.1
  at_ : s.2 ≤ s.1.length
  cl : ∀ j, j < s.2 → ∀ z, s.1[j]? = some z → ∀ y ∈ nbP e z, y ∈ A → y ∈ s.1
end
end C
end DL
namespace DL
open PySem PySem.Spec L2
namespace C
section
variable {cs : List Cell} {e : Bool}
end
end C
end DL
namespace DL
open PySem PySem.Spec L2
/-! ### levels -/
section
variable (H : List (List Int)) (h w : Nat)
def lvLe (x : Int) : List Cell := (wideC 0 0 h w).filter fun c => decide (hgt H c ≤ x)
end
section
variable {H : List (List Int)} {h w : Nat} {e : Bool}
theorem mem_lvLe {x : Int} {c : Cell} : c ∈ lvLe H h w x ↔ c ∈ wideC 0 0 h w ∧ hgt H c ≤ x := by
  unfold lvLe
  rw [List.mem_filter, decide_eq_true_eq]
end
namespace C
section
variable {H : List (List Int)} {h w : Nat} {e : Bool}
end
end C
end DL
namespace DL
open PySem PySem.Spec L2
/-! ### enumerate(a lent list) -/
@[simp] theorem e_srcEnB {i : Nat} {s : Slt} {ρ : Env} : srcEnB i (s :: ρ) = match (s :: ρ)[i]? with | some (some (.bor, d)) => (itemsOf d).bind fun its => some (enumF 0 its, s :: ρ) | _ => none := (rfl)
instance {i : Nat} : MM (srcEnB i) := ⟨fun {ρ ρ' d ρ1} l z => by
  unfold srcEnB at z ⊢
  split at z
  · rename_i q
    obtain ⟨its, e1, z⟩ := obind z
    cases z
    refine ⟨rfl, ρ', ?_, l⟩
    rw [l.get q]
    show (itemsOf _).bind _ = _
    rw [e1]
    rfl
  · cases z⟩
theorem srcEnB_none {i : Nat} (ρ : Env) (h : ρ[i]? = some none ∨ ρ[i]? = none) : srcEnB i ρ = none := by
  unfold srcEnB
  rcases h with h | h <;> rw [h]
instance {i : Nat} {gx : GX} {b : ES} [hg : MG gx] [hb : MS b] : MS (sLend i (sFor (srcEnB i) gx b)) := ms_lend srcEnB_none
/-! ### the whole field hangs together -/
section
variable {e : Bool}
theorem nb_down (c : Cell) : (c.1 + 1, c.2) ∈ nbP e c := List.mem_map.mpr ⟨(1, 0), by cases e <;> decide, by unfold adC; simp⟩
theorem nb_right (c : Cell) : (c.1, c.2 + 1) ∈ nbP e c := List.mem_map.mpr ⟨(0, 1), by cases e <;> decide, by unfold adC; simp⟩
theorem wide_conn {h w : Nat} : ∀ i j : Nat, i < h → j < w → Conn e (wideC 0 0 h w) (0, 0) ((i : Int), (j : Int))
  | 0, 0, hi, hj => .refl (mem_wide.mpr ⟨⟨by omega, by simp only; omega⟩, ⟨by omega, by simp only; omega⟩⟩)
  | i + 1, 0, hi, hj => (wide_conn i 0 (by omega) hj).step (nb_down _) (mem_wide.mpr ⟨⟨by simp only; omega, by simp only; omega⟩, ⟨by simp only; omega, by simp only; omega⟩⟩)
  | i, j + 1, hi, hj => (wide_conn i j hi (by omega)).step (nb_right _) (mem_wide.mpr ⟨⟨by simp only; omega, by simp only; omega⟩, ⟨by simp only; omega, by simp only; omega⟩⟩)
theorem wide_conn' {h w : Nat} {c : Cell} (hc : c ∈ wideC 0 0 h w) : Conn e (wideC 0 0 h w) (0, 0) c := by
  have m := mem_wide.mp hc
  have := wide_conn (e := e) (h := h) (w := w) c.1.toNat c.2.toNat (by omega) (by omega)
  have e1 : ((c.1.toNat : Int), (c.2.toNat : Int)) = c := Prod.ext (by simp only; omega) (by simp only; omega)
  rw [e1] at this
  exact this
theorem wide_cons {h w : Nat} (h1 : 1 ≤ h) (w1 : 1 ≤ w) : ∃ rest, wideC 0 0 h w = (0, 0) :: rest := by
  obtain ⟨h, rfl⟩ : ∃ k, h = k + 1 := ⟨h - 1, by omega⟩
  obtain ⟨w, rfl⟩ : ∃ k, w = k + 1 := ⟨w - 1, by omega⟩
  rw [wide_rows, List.range_succ_eq_map, List.flatMap_cons]
  unfold rowC
  rw [List.range_succ_eq_map, List.map_cons]
  exact ⟨_, rfl⟩
end
/-! ### the rows of a tree of levels -/
abbrev RW := Int × List Cell
def rowD (r : RW) : D := .tup [.int r.1, inkD r.2]
section
variable (H : List (List Int)) (h w : Nat) (e : Bool)
noncomputable def lvRows (x : Int) : List RW := ((parts e (lvLe H h w x)).filter fun P => P.any fun c => decide (hgt H c = x)).map fun P => (x, P)
noncomputable def lrows : List RW := (lvls H h w).flatMap (lvRows H h w e)
end
def hdC (P : List Cell) : Cell := P.headD (0, 0)
def abv (R : List RW) (r : RW) (k : Nat) : Bool := match R[k]? with
  | some q => decide (r.1 < q.1) && decide (hdC r.2 ∈ q.2)
  | none => false
def above (R : List RW) (r : RW) : List Nat := (List.range R.length).filter (abv R r)
def upD (L : List Nat) : D := match L with
  | k :: _ => .int (k : Int)
  | [] => .non
def treeD (R : List RW) (r : RW) : D := .tup [.int r.1, cellD (hdC r.2), .int (r.2.length : Int), upD (above R r)]
section
variable {H : List (List Int)} {h w : Nat} {e : Bool}
end
end DL
namespace DL
open PySem PySem.Spec L2
namespace C
abbrev N_level_parts : List Str := ["heights", "kind", "table", "found", "own", "low", "cell", "one", "part"]
def s_level_parts : ES := (sSeq (sAsg (mP (xTup (xsCons (xCall F_table_of (xsCons (xVar 0) xsNil)) (xsCons (xLst xsNil) xsNil)))) (gTupD 2 (gsCons (put 2) (gsCons (put 3) gsNil))))
  (sSeq (sFor (iP (xIt (xSrtNums (xVals (xVar 2))))) (put 4)
  (sSeq (sAsg (mP (xDict [6, 7] (xItemsOf 2) (gTupD 2 (gsCons (putB 6) (gsCons (putB 7) gsNil))) (xBool (xOp oLe (xVar 7) (xVar 4))) (xPure (xVar 6)) (xC (.bl true)))) (put 5))
  (sDrop (mMut isL extendD 3 (msCons (mP (xComp [8] (xIt (xCall F_parts_in (xsCons (xVar 5) (xsCons (xVar 1) xsNil)))) (putB 8) (xBool (xCall anyD (xsCons (xComp [6] (xIt (xVar 8)) (putB 6) yYes (xOp oEq (xOp ixD (xVar 2) (xVar 6)) (xVar 4))) xsNil))) (xTup (xsCons (xPure (xVar 4)) (xsCons (xPure (xVar 8)) xsNil))))) msNil)))))
  (sRet (mMove 3))))
def F_level_parts : List D → Option D := fnP N_level_parts s_level_parts
abbrev N_level_tree : List Str := ["heights", "kind", "rows", "found", "at", "own", "part", "above", "other"]
def s_level_tree : ES := (sSeq (sDrop (mP (xCall F_need_heights (xsCons (xVar 0) xsNil))))
  (sSeq (sDrop (mP (xCall F_need_kind (xsCons (xVar 1) xsNil))))
  (sSeq (sAsg (mP (xCall F_level_parts (xsCons (xVar 0) (xsCons (xVar 1) xsNil)))) (put 2))
  (sSeq (sAsg (mP (xLst xsNil)) (put 3))
  (sSeq (sLend 2 (sFor (srcEnB 2) (gTupD 2 (gsCons (put 4) (gsCons (gTupD 2 (gsCons (put 5) (gsCons (put 6) gsNil))) gsNil)))
  (sSeq (sAsg (mP (xComp [8] (xRng2 (xsCons (xOp oAdd (xVar 4) (xC (.int 1))) (xsCons (xCall lenD (xsCons (xVar 2) xsNil)) xsNil))) (putB 8) (yAnd (xBool (xOp oGt (xOp ixD (xOp ixD (xVar 2) (xVar 8)) (xC (.int 0))) (xVar 5))) (xBool (xOp oIn (xOp ixD (xVar 6) (xC (.int 0))) (xOp ixD (xOp ixD (xVar 2) (xVar 8)) (xC (.int 1)))))) (xPure (xVar 8)))) (put 7))
  (sDrop (mMut isL appendD 3 (msCons (mP (xTup (xsCons (xPure (xVar 5)) (xsCons (xPure (xOp ixD (xVar 6) (xC (.int 0)))) (xsCons (xCall lenD (xsCons (xVar 6) xsNil)) (xsCons (xIf (xBool (xOp oNe (xVar 7) (xLst xsNil))) (xPure (xOp ixD (xVar 7) (xC (.int 0)))) (xC .non)) xsNil)))))) msNil))))))
  (sRet (mP (xCall tupleD (xsCons (xVar 3) xsNil)))))))))
def F_level_tree : List D → Option D := fnP N_level_tree s_level_tree
def P_level_parts1 : ES := (sAsg (mP (xTup (xsCons (xCall F_table_of (xsCons (xVar 0) xsNil)) (xsCons (xLst xsNil) xsNil)))) (gTupD 2 (gsCons (put 2) (gsCons (put 3) gsNil))))
instance : MS P_level_parts1 := by unfold P_level_parts1; infer_instance
def P_level_parts2b1 : ES := (sAsg (mP (xDict [6, 7] (xItemsOf 2) (gTupD 2 (gsCons (putB 6) (gsCons (putB 7) gsNil))) (xBool (xOp oLe (xVar 7) (xVar 4))) (xPure (xVar 6)) (xC (.bl true)))) (put 5))
instance : MS P_level_parts2b1 := by unfold P_level_parts2b1; infer_instance
def P_level_parts2b2 : ES := (sDrop (mMut isL extendD 3 (msCons (mP (xComp [8] (xIt (xCall F_parts_in (xsCons (xVar 5) (xsCons (xVar 1) xsNil)))) (putB 8) (xBool (xCall anyD (xsCons (xComp [6] (xIt (xVar 8)) (putB 6) yYes (xOp oEq (xOp ixD (xVar 2) (xVar 6)) (xVar 4))) xsNil))) (xTup (xsCons (xPure (xVar 4)) (xsCons (xPure (xVar 8)) xsNil))))) msNil)))
instance : MS P_level_parts2b2 := by unfold P_level_parts2b2; infer_instance
def P_level_parts2b : ES := (sSeq P_level_parts2b1 P_level_parts2b2)
instance : MS P_level_parts2b := by unfold P_level_parts2b; infer_instance
def P_level_parts2 : ES := (sFor (iP (xIt (xSrtNums (xVals (xVar 2))))) (put 4) P_level_parts2b)
instance : MS P_level_parts2 := by unfold P_level_parts2; infer_instance
def P_level_parts : ES := (sSeq P_level_parts1 (sSeq P_level_parts2 (sRet (mMove 3))))
instance : MS P_level_parts := by unfold P_level_parts; infer_instance
def P_level_tree1 : ES := (sDrop (mP (xCall F_need_heights (xsCons (xVar 0) xsNil))))
instance : MS P_level_tree1 := by unfold P_level_tree1; infer_instance
def P_level_tree2 : ES := (sDrop (mP (xCall F_need_kind (xsCons (xVar 1) xsNil))))
instance : MS P_level_tree2 := by unfold P_level_tree2; infer_instance
def P_level_tree3 : ES := (sAsg (mP (xCall F_level_parts (xsCons (xVar 0) (xsCons (xVar 1) xsNil)))) (put 2))
instance : MS P_level_tree3 := by unfold P_level_tree3; infer_instance
def P_level_tree5b1 : ES := (sAsg (mP (xComp [8] (xRng2 (xsCons (xOp oAdd (xVar 4) (xC (.int 1))) (xsCons (xCall lenD (xsCons (xVar 2) xsNil)) xsNil))) (putB 8) (yAnd (xBool (xOp oGt (xOp ixD (xOp ixD (xVar 2) (xVar 8)) (xC (.int 0))) (xVar 5))) (xBool (xOp oIn (xOp ixD (xVar 6) (xC (.int 0))) (xOp ixD (xOp ixD (xVar 2) (xVar 8)) (xC (.int 1)))))) (xPure (xVar 8)))) (put 7))
instance : MS P_level_tree5b1 := by unfold P_level_tree5b1; infer_instance
def P_level_tree5b2 : ES := (sDrop (mMut isL appendD 3 (msCons (mP (xTup (xsCons (xPure (xVar 5)) (xsCons (xPure (xOp ixD (xVar 6) (xC (.int 0)))) (xsCons (xCall lenD (xsCons (xVar 6) xsNil)) (xsCons (xIf (xBool (xOp oNe (xVar 7) (xLst xsNil))) (xPure (xOp ixD (xVar 7) (xC (.int 0)))) (xC .non)) xsNil)))))) msNil)))
instance : MS P_level_tree5b2 := by unfold P_level_tree5b2; infer_instance
def P_level_tree5b : ES := (sSeq P_level_tree5b1 P_level_tree5b2)
instance : MS P_level_tree5b := by unfold P_level_tree5b; infer_instance
def P_level_tree5 : ES := (sLend 2 (sFor (srcEnB 2) (gTupD 2 (gsCons (put 4) (gsCons (gTupD 2 (gsCons (put 5) (gsCons (put 6) gsNil))) gsNil))) P_level_tree5b))
instance : MS P_level_tree5 := by unfold P_level_tree5; infer_instance
def P_level_tree6 : ES := (sRet (mP (xCall tupleD (xsCons (xVar 3) xsNil))))
instance : MS P_level_tree6 := by unfold P_level_tree6; infer_instance
def P_level_tree : ES := (sSeq P_level_tree1 (sSeq P_level_tree2 (sSeq P_level_tree3 (sSeq (sAsg (mP (xLst xsNil)) (put 3)) (sSeq P_level_tree5 P_level_tree6)))))
instance : MS P_level_tree := by unfold P_level_tree; infer_instance
section
variable {H : List (List Int)} {h w : Nat} {e : Bool}
abbrev qE (HH : D) (k : Int) (t f o l c n p : Slt) : DL.Env := [ow HH, ow (.int k), t, f, o, l, c, n, p]
end
end C
end DL
namespace DL
open PySem PySem.Spec L2
namespace C
section
variable {H : List (List Int)} {h w : Nat} {e : Bool}
abbrev vE (HH : D) (k : Int) (r f a o p ab ot : Slt) : DL.Env := [ow HH, ow (.int k), r, f, a, o, p, ab, ot]
end
end C
end DL
namespace DL
open PySem PySem.Spec L2
/-! ### floods: the least height of ways -/
theorem Conn.mono {e : Bool} {cs ds : List Cell} (h : ∀ x ∈ cs, x ∈ ds) {a b : Cell} (k : Conn e cs a b) : Conn e ds a b := by
  obtain ⟨n, k⟩ := k
  induction n generalizing b with
  | zero => exact k.1 ▸ .refl (h a (k.1 ▸ k.2))
  | succ n ih =>
    obtain ⟨d, hd, h1, h2⟩ := k
    exact (ih hd).step h1 (h b h2)
section
variable {H : List (List Int)} {h w : Nat} {e : Bool} {S : List Cell} {m : List (Cell × Int)} {R : List HC} {p : HC}
theorem lvLe_mono {x y : Int} (l : x ≤ y) : ∀ c ∈ lvLe H h w x, c ∈ lvLe H h w y := fun c hc => by
  rw [mem_lvLe] at *
  exact ⟨hc.1, by omega⟩
/-- a way from one of S that stays at most so high -/
def From (H : List (List Int)) (h w : Nat) (e : Bool) (S : List Cell) (x : Int) (c : Cell) : Prop := ∃ s ∈ S, Conn e (lvLe H h w x) s c
theorem From.mono {x y : Int} {c : Cell} (l : x ≤ y) (k : From H h w e S x c) : From H h w e S y c := let ⟨s, hs, k⟩ := k; ⟨s, hs, k.mono (lvLe_mono l)⟩
theorem From.step {x : Int} {c o : Cell} (k : From H h w e S x c) (ho : o ∈ nbP e c) (hw : o ∈ wideC 0 0 h w) : From H h w e S (max x (hgt H o)) o := by
  obtain ⟨s, hs, k⟩ := k.mono (Int.le_max_left x (hgt H o))
  exact ⟨s, hs, k.step ho (mem_lvLe.mpr ⟨hw, Int.le_max_right ..⟩)⟩
structure Flo (H : List (List Int)) (h w : Nat) (e : Bool) (S : List Cell) (m : List (Cell × Int)) (R : List HC) : Prop where
  nd : (akeys m).Nodup
  key : ∀ c ∈ akeys m, c ∈ wideC 0 0 h w
  rc : ∀ p ∈ R, p.2 ∈ wideC 0 0 h w
  so1 : ∀ c v, aget m c = some v → From H h w e S v c
  so2 : ∀ p ∈ R, From H h w e S p.1 p.2
  mono : ∀ c v, aget m c = some v → ∀ p ∈ R, v ≤ p.1
  nb : ∀ c v, aget m c = some v → ∀ o ∈ nbP e c, o ∈ wideC 0 0 h w → (∃ u, aget m o = some u ∧ u ≤ max v (hgt H o)) ∨ (max v (hgt H o), o) ∈ R
  st : ∀ s ∈ S, (∃ u, aget m s = some u ∧ u ≤ hgt H s) ∨ (hgt H s, s) ∈ R
  few : R.length ≤ S.length + 8 * m.length
def offR (R : List HC) (p : HC) : List HC := R.filter fun q => !decide (q = p)
theorem mem_offR {q : HC} : q ∈ offR R p ↔ q ∈ R ∧ q ≠ p := by
  unfold offR
  rw [List.mem_filter]
  simp
theorem offR_len (hp : p ∈ R) : (offR R p).length + 1 ≤ R.length := by
  unfold offR
  induction R with
  | nil => cases hp
  | cons a R ih =>
    rw [List.filter_cons]
    by_cases ea : a = p
    · rw [decide_eq_true ea]
      simp only [Bool.not_true, List.length_cons]
      have := List.length_filter_le (fun q => !decide (q = p)) R
      simp
      simpa using this
    · rw [decide_eq_false ea]
      have := ih ((List.mem_cons.mp hp).resolve_left fun z => ea z.symm)
      simp only [Bool.not_false, if_true, List.length_cons]
      omega
def newR (H : List (List Int)) (h w : Nat) (e : Bool) (p : HC) : List HC := ((nbP e p.2).filter fun o => decide (o ∈ wideC 0 0 h w)).map fun o => (max p.1 (hgt H o), o)
theorem newR_len : (newR H h w e p).length ≤ 8 := by
  unfold newR
  rw [List.length_map]
  exact Nat.le_trans (List.length_filter_le _ _) (nb_len e p.2).1
theorem mem_newR {q : HC} : q ∈ newR H h w e p ↔ q.2 ∈ nbP e p.2 ∧ q.2 ∈ wideC 0 0 h w ∧ q.1 = max p.1 (hgt H q.2) := by
  unfold newR
  rw [List.mem_map]
  constructor
  · rintro ⟨o, ho, rfl⟩
    rw [List.mem_filter, decide_eq_true_eq] at ho
    exact ⟨ho.1, ho.2, rfl⟩
  · rintro ⟨h1, h2, h3⟩
    exact ⟨q.2, List.mem_filter.mpr ⟨h1, decide_eq_true h2⟩, Prod.ext h3.symm rfl⟩
theorem aget_key {c : Cell} : c ∈ akeys m ↔ ∃ v, aget m c = some v := by
  have := aget_some (m := m) (c := c)
  rw [Bool.eq_iff_iff, decide_eq_true_eq, Option.isSome_iff_exists] at this
  exact this.symm
/-- the cell was found before -/
theorem Flo.old (f : Flo H h w e S m R) (hp : p ∈ R) (hk : p.2 ∈ akeys m) : Flo H h w e S m (offR R p) := by
  obtain ⟨u, hu⟩ := aget_key.mp hk
  have ul := f.mono p.2 u hu p hp
  refine ⟨f.nd, f.key, fun q hq => f.rc q (mem_offR.mp hq).1, f.so1, fun q hq => f.so2 q (mem_offR.mp hq).1, fun c v hc q hq => f.mono c v hc q (mem_offR.mp hq).1, fun c v hc o ho hw => ?_, fun s hs => ?_, Nat.le_trans (by have := offR_len hp; omega) f.few⟩
  · rcases f.nb c v hc o ho hw with k | k
    · exact .inl k
    · by_cases ep : (max v (hgt H o), o) = p
      · subst ep
        exact .inl ⟨u, hu, ul⟩
      · exact .inr (mem_offR.mpr ⟨k, ep⟩)
  · rcases f.st s hs with k | k
    · exact .inl k
    · by_cases ep : (hgt H s, s) = p
      · subst ep
        exact .inl ⟨u, hu, ul⟩
      · exact .inr (mem_offR.mpr ⟨k, ep⟩)
/-- the cell is new -/
theorem Flo.new (f : Flo H h w e S m R) (hp : p ∈ R) (least : ∀ q ∈ R, p.1 ≤ q.1) (hk : p.2 ∉ akeys m) : Flo H h w e S (aset m p.2 p.1) (offR R p ++ newR H h w e p) := by
  have ag : ∀ c, aget (aset m p.2 p.1) c = if c = p.2 then some p.1 else aget m c := fun c => aget_aset m p.2 c p.1
  have keep : ∀ {o u}, aget m o = some u → aget (aset m p.2 p.1) o = some u := fun {o u} hu => by
    rw [ag, if_neg fun z => hk (aget_key.mpr ⟨u, by rw [← z]; exact hu⟩)]
    exact hu
  refine ⟨?_, fun c hc => ?_, fun q hq => ?_, fun c v hc => ?_, fun q hq => ?_, fun c v hc q hq => ?_, fun c v hc o ho hw => ?_, fun s hs => ?_, ?_⟩
  · rw [akeys_aset]
    unfold ins
    rw [if_neg hk]
    exact List.nodup_append.mpr ⟨f.nd, List.nodup_cons.mpr ⟨(fun z => by cases z), List.nodup_nil⟩, fun a ha b hb q => hk (by rw [← List.mem_singleton.mp hb, ← q]; exact ha)⟩
  · rcases mem_akeys_aset.mp hc with hc | rfl
    · exact f.key c hc
    · exact f.rc p hp
  · rcases List.mem_append.mp hq with hq | hq
    · exact f.rc q (mem_offR.mp hq).1
    · exact (mem_newR.mp hq).2.1
  · rw [ag] at hc
    by_cases ec : c = p.2
    · rw [if_pos ec] at hc
      cases hc
      rw [ec]
      exact f.so2 p hp
    · rw [if_neg ec] at hc
      exact f.so1 c v hc
  · rcases List.mem_append.mp hq with hq | hq
    · exact f.so2 q (mem_offR.mp hq).1
    · obtain ⟨h1, h2, h3⟩ := mem_newR.mp hq
      rw [h3]
      exact (f.so2 p hp).step h1 h2
  · have vl : v ≤ p.1 := by
      rw [ag] at hc
      by_cases ec : c = p.2
      · rw [if_pos ec] at hc
        cases hc
        exact Int.le_refl _
      · rw [if_neg ec] at hc
        exact f.mono c v hc p hp
    rcases List.mem_append.mp hq with hq | hq
    · have := least q (mem_offR.mp hq).1
      omega
    · have := (mem_newR.mp hq).2.2
      omega
  · rw [ag] at hc
    by_cases ec : c = p.2
    · rw [if_pos ec] at hc
      cases hc
      refine .inr (List.mem_append_right _ (mem_newR.mpr ⟨ec ▸ ho, hw, rfl⟩))
    · rw [if_neg ec] at hc
      rcases f.nb c v hc o ho hw with ⟨u, hu, ul⟩ | k
      · exact .inl ⟨u, keep hu, ul⟩
      · by_cases ep : (max v (hgt H o), o) = p
        · subst ep
          exact .inl ⟨max v (hgt H o), by rw [ag, if_pos rfl], Int.le_refl _⟩
        · exact .inr (List.mem_append_left _ (mem_offR.mpr ⟨k, ep⟩))
  · rcases f.st s hs with ⟨u, hu, ul⟩ | k
    · exact .inl ⟨u, keep hu, ul⟩
    · by_cases ep : (hgt H s, s) = p
      · subst ep
        exact .inl ⟨hgt H s, by rw [ag, if_pos rfl], Int.le_refl _⟩
      · exact .inr (List.mem_append_left _ (mem_offR.mpr ⟨k, ep⟩))
  · have e1 : (aset m p.2 p.1).length = m.length + 1 := by rw [aset_new hk, List.length_append]; rfl
    have e2 := offR_len hp
    have e3 := newR_len (H := H) (h := h) (w := w) (e := e) (p := p)
    have := f.few
    rw [e1, List.length_append]
    omega
/-- all is done -/
theorem Flo.done (f : Flo H h w e S m []) {x : Int} {c : Cell} (k : From H h w e S x c) : ∃ u, aget m c = some u ∧ u ≤ x := by
  obtain ⟨s, hs, n, k⟩ := k
  induction n generalizing c with
  | zero =>
    have hk := mem_lvLe.mp k.2
    have ec : s = c := k.1
    subst ec
    rcases f.st s hs with ⟨u, hu, ul⟩ | z
    · exact ⟨u, hu, by omega⟩
    · cases z
  | succ n ih =>
    obtain ⟨d, hd, h1, h2⟩ := k
    obtain ⟨v, hv, vl⟩ := ih hd
    have hk := mem_lvLe.mp h2
    rcases f.nb d v hv c h1 hk.1 with ⟨u, hu, ul⟩ | z
    · exact ⟨u, hu, by omega⟩
    · cases z
theorem Flo.start (hS : ∀ s ∈ S, s ∈ wideC 0 0 h w) : Flo H h w e S [] (S.map fun s => (hgt H s, s)) := by
  refine ⟨List.nodup_nil, (fun c hc => by cases hc), fun q hq => ?_, (fun c v hc => by cases hc), fun q hq => ?_, (fun c v hc => by cases hc), (fun c v hc => by cases hc), fun s hs => .inr (List.mem_map.mpr ⟨s, hs, rfl⟩), (by rw [List.length_map]; exact Nat.le_add_right ..)⟩
  · obtain ⟨s, hs, rfl⟩ := List.mem_map.mp hq
    exact hS s hs
  · obtain ⟨s, hs, rfl⟩ := List.mem_map.mp hq
    exact ⟨s, hs, .refl (mem_lvLe.mpr ⟨hS s hs, Int.le_refl _⟩)⟩
/-- the least height of a way -/
def Pas (H : List (List Int)) (h w : Nat) (e : Bool) (S : List Cell) (c : Cell) (x : Int) : Prop := From H h w e S x c ∧ ∀ y, From H h w e S y c → x ≤ y
theorem Pas.uniq {c : Cell} {x y : Int} (a : Pas H h w e S c x) (b : Pas H h w e S c y) : x = y := by
  have := a.2 y b.1
  have := b.2 x a.1
  omega
end
/-! ### the least of pairs -/
def minH (p : HC) (L : List HC) : HC := L.foldl (fun a b => if ltH b a then b else a) p
end DL
namespace DL
open PySem PySem.Spec L2
namespace C
abbrev N_floods : List Str := ["table", "starts", "kind", "found", "rim", "row", "high", "cell", "other"]
def s_floods : ES := (sSeq (sPar 3 4 (msCons (mP (xC (.dT [] []))) (msCons (mP (xComp [7] (xIt (xVar 1)) (putB 7) yYes (xTup (xsCons (xPure (xOp ixD (xVar 0) (xVar 7))) (xsCons (xPure (xVar 7)) xsNil))))) msNil)))
  (sSeq (sWhile (tP' (xBool (xOp oNe (xVar 4) (xLst xsNil))))
  (sSeq (sAsg (mP (xCall minLD (xsCons (xVar 4) xsNil))) (put 5))
  (sSeq (sAsg (mP (xComp [8] (xIt (xVar 4)) (putB 8) (xBool (xOp oNe (xVar 8) (xVar 5))) (xPure (xVar 8)))) (put 4))
  (sSeq (sAsg (mP (xPure (xVar 5))) (gTupD 2 (gsCons (put 6) (gsCons (put 7) gsNil))))
  (sIf (tP' (xBool (xOp oNin (xVar 7) (xVar 3)))) (sSeq (sAsg (mP (xPure (xVar 6))) (gSub' 3 (xVar 7) setT))
  (sDrop (mMut isL extendD 4 (msCons (mP (xComp [8] (xIt (xCall F_near (xsCons (xVar 7) (xsCons (xVar 2) xsNil)))) (putB 8) (xBool (xOp oIn (xVar 8) (xVar 0))) (xTup (xsCons (xCall max2D (xsCons (xVar 6) (xsCons (xOp ixD (xVar 0) (xVar 8)) xsNil))) (xsCons (xPure (xVar 8)) xsNil))))) msNil)))) sNext)))))
  (sRet (mMove 3))))
def F_floods : List D → Option D := fnP N_floods s_floods
abbrev N_passage : List Str := ["heights", "one", "other", "kind"]
def s_passage : ES := (sSeq (sDrop (mP (xCall F_need_heights (xsCons (xVar 0) xsNil))))
  (sSeq (sDrop (mP (xCall F_need_place (xsCons (xVar 0) (xsCons (xVar 1) xsNil)))))
  (sSeq (sDrop (mP (xCall F_need_place (xsCons (xVar 0) (xsCons (xVar 2) xsNil)))))
  (sSeq (sDrop (mP (xCall F_need_kind (xsCons (xVar 3) xsNil))))
  (sRet (mP (xPure (xOp ixD (xCall F_floods (xsCons (xCall F_table_of (xsCons (xVar 0) xsNil)) (xsCons (xLst (xsCons (xPure (xVar 1)) xsNil)) (xsCons (xVar 3) xsNil)))) (xVar 2)))))))))
def F_passage : List D → Option D := fnP N_passage s_passage
def P_floods1 : ES := (sPar 3 4 (msCons (mP (xC (.dT [] []))) (msCons (mP (xComp [7] (xIt (xVar 1)) (putB 7) yYes (xTup (xsCons (xPure (xOp ixD (xVar 0) (xVar 7))) (xsCons (xPure (xVar 7)) xsNil))))) msNil)))
instance : MS P_floods1 := by unfold P_floods1; infer_instance
def P_floods2b1 : ES := (sAsg (mP (xCall minLD (xsCons (xVar 4) xsNil))) (put 5))
instance : MS P_floods2b1 := by unfold P_floods2b1; infer_instance
def P_floods2b2 : ES := (sAsg (mP (xComp [8] (xIt (xVar 4)) (putB 8) (xBool (xOp oNe (xVar 8) (xVar 5))) (xPure (xVar 8)))) (put 4))
instance : MS P_floods2b2 := by unfold P_floods2b2; infer_instance
def P_floods2b3 : ES := (sAsg (mP (xPure (xVar 5))) (gTupD 2 (gsCons (put 6) (gsCons (put 7) gsNil))))
instance : MS P_floods2b3 := by unfold P_floods2b3; infer_instance
def P_floods2b4t1 : ES := (sAsg (mP (xPure (xVar 6))) (gSub' 3 (xVar 7) setT))
instance : MS P_floods2b4t1 := by unfold P_floods2b4t1; infer_instance
def P_floods2b4t2 : ES := (sDrop (mMut isL extendD 4 (msCons (mP (xComp [8] (xIt (xCall F_near (xsCons (xVar 7) (xsCons (xVar 2) xsNil)))) (putB 8) (xBool (xOp oIn (xVar 8) (xVar 0))) (xTup (xsCons (xCall max2D (xsCons (xVar 6) (xsCons (xOp ixD (xVar 0) (xVar 8)) xsNil))) (xsCons (xPure (xVar 8)) xsNil))))) msNil)))
instance : MS P_floods2b4t2 := by unfold P_floods2b4t2; infer_instance
def P_floods2b4t : ES := (sSeq P_floods2b4t1 P_floods2b4t2)
instance : MS P_floods2b4t := by unfold P_floods2b4t; infer_instance
def P_floods2b4 : ES := (sIf (tP' (xBool (xOp oNin (xVar 7) (xVar 3)))) P_floods2b4t sNext)
instance : MS P_floods2b4 := by unfold P_floods2b4; infer_instance
def P_floods2b : ES := (sSeq P_floods2b1 (sSeq P_floods2b2 (sSeq P_floods2b3 P_floods2b4)))
instance : MS P_floods2b := by unfold P_floods2b; infer_instance
def P_floods2 : ES := (sWhile (tP' (xBool (xOp oNe (xVar 4) (xLst xsNil)))) P_floods2b)
instance : MS P_floods2 := by unfold P_floods2; infer_instance
def P_floods : ES := (sSeq P_floods1 (sSeq P_floods2 (sRet (mMove 3))))
instance : MS P_floods := by unfold P_floods; infer_instance
def P_passage1 : ES := (sDrop (mP (xCall F_need_heights (xsCons (xVar 0) xsNil))))
instance : MS P_passage1 := by unfold P_passage1; infer_instance
def P_passage2 : ES := (sDrop (mP (xCall F_need_place (xsCons (xVar 0) (xsCons (xVar 1) xsNil)))))
instance : MS P_passage2 := by unfold P_passage2; infer_instance
def P_passage3 : ES := (sDrop (mP (xCall F_need_place (xsCons (xVar 0) (xsCons (xVar 2) xsNil)))))
instance : MS P_passage3 := by unfold P_passage3; infer_instance
def P_passage4 : ES := (sDrop (mP (xCall F_need_kind (xsCons (xVar 3) xsNil))))
instance : MS P_passage4 := by unfold P_passage4; infer_instance
def P_passage5 : ES := (sRet (mP (xPure (xOp ixD (xCall F_floods (xsCons (xCall F_table_of (xsCons (xVar 0) xsNil)) (xsCons (xLst (xsCons (xPure (xVar 1)) xsNil)) (xsCons (xVar 3) xsNil)))) (xVar 2)))))
instance : MS P_passage5 := by unfold P_passage5; infer_instance
def P_passage : ES := (sSeq P_passage1 (sSeq P_passage2 (sSeq P_passage3 (sSeq P_passage4 P_passage5))))
instance : MS P_passage := by unfold P_passage; infer_instance
section
variable {H : List (List Int)} {h w : Nat} {e : Bool} {S : List Cell}
abbrev uE (T s : D) (k : Int) (f r p x c o : Slt) : DL.Env := [bo T, bo s, ow (.int k), f, r, p, x, c, o]
abbrev rD (R : List HC) : D := .lst (R.map hcD)
end
end C
end DL
namespace DL
open PySem PySem.Spec L2
/-! ### the law's passage: by all levels -/
section
variable {e : Bool} {cs : List Cell} {a b : Cell}
end
section
variable {H : List (List Int)} {h w : Nat} {e : Bool} {a b : Cell} {x : Int}
theorem from_one : From H h w e [a] x b ↔ Conn e (lvLe H h w x) a b := ⟨fun ⟨s, hs, k⟩ => by rw [List.mem_singleton.mp hs] at k; exact k, fun k => ⟨a, List.mem_singleton.mpr rfl, k⟩⟩
noncomputable def atLv (H : List (List Int)) (h w : Nat) (e : Bool) (a b : Cell) (y : Int) : Option D := if Conn e (lvLe H h w y) a b then some (.int y) else none
end
namespace C
abbrev N_law_passage : List Str := ["_law_table_here", "_law_one", "_law_other", "_law_kind", "_law_own", "_law_low", "_law_cell", "_law_part"]
def s_law_passage : ES := (sSeq (sFor (iP (xIt (xSrtNums (xVals (xVar 0))))) (put 4)
  (sSeq (sAsg (mP (xComp [6] (xIt (xCall listA (xsCons (xVar 0) xsNil))) (putB 6) (xBool (xOp oLe (xOp ixD (xVar 0) (xVar 6)) (xVar 4))) (xPure (xVar 6)))) (put 5))
  (sIf (tP' (yAnd (xBool (xOp oIn (xVar 1) (xVar 5))) (xBool (xOp oNe (xComp [7] (xIt (xCall F_law_parts (xsCons (xVar 5) (xsCons (xVar 3) xsNil)))) (putB 7) (yAnd (xBool (xOp oIn (xVar 1) (xVar 7))) (xBool (xOp oIn (xVar 2) (xVar 7)))) (xPure (xVar 7))) (xLst xsNil))))) (sRet (mP (xPure (xVar 4)))) sNext)))
  (sRet (mP (xC .non))))
def F_law_passage : List D → Option D := fnP N_law_passage s_law_passage
def P_law_passage1b1 : ES := (sAsg (mP (xComp [6] (xIt (xCall listA (xsCons (xVar 0) xsNil))) (putB 6) (xBool (xOp oLe (xOp ixD (xVar 0) (xVar 6)) (xVar 4))) (xPure (xVar 6)))) (put 5))
instance : MS P_law_passage1b1 := by unfold P_law_passage1b1; infer_instance
def P_law_passage1b2 : ES := (sIf (tP' (yAnd (xBool (xOp oIn (xVar 1) (xVar 5))) (xBool (xOp oNe (xComp [7] (xIt (xCall F_law_parts (xsCons (xVar 5) (xsCons (xVar 3) xsNil)))) (putB 7) (yAnd (xBool (xOp oIn (xVar 1) (xVar 7))) (xBool (xOp oIn (xVar 2) (xVar 7)))) (xPure (xVar 7))) (xLst xsNil))))) (sRet (mP (xPure (xVar 4)))) sNext)
instance : MS P_law_passage1b2 := by unfold P_law_passage1b2; infer_instance
def P_law_passage1b : ES := (sSeq P_law_passage1b1 P_law_passage1b2)
instance : MS P_law_passage1b := by unfold P_law_passage1b; infer_instance
def P_law_passage1 : ES := (sFor (iP (xIt (xSrtNums (xVals (xVar 0))))) (put 4) P_law_passage1b)
instance : MS P_law_passage1 := by unfold P_law_passage1; infer_instance
def P_law_passage : ES := (sSeq P_law_passage1 (sRet (mP (xC .non))))
instance : MS P_law_passage := by unfold P_law_passage; infer_instance
section
variable {H : List (List Int)} {h w : Nat} {e : Bool} {a b : Cell} {x : Int}
abbrev gE (T A B : D) (k : Int) (o l c p : Slt) : DL.Env := [bo T, ow A, ow B, ow (.int k), o, l, c, p]
end
end C
end DL
namespace DL
open PySem PySem.Spec L2
/-! ### standing water -/
def brdP (h w : Nat) (c : Cell) : Bool := decide (c.1 ∈ [(0 : Int), (h : Int) - 1]) || decide (c.2 ∈ [(0 : Int), (w : Int) - 1])
def brdC (h w : Nat) : List Cell := (wideC 0 0 h w).filter (brdP h w)
def gridOf (h w : Nat) (v : Cell → Int) : List (List Int) := (List.range h).map fun i : Nat => (List.range w).map fun j : Nat => v ((i : Int), (j : Int))
section
variable {H : List (List Int)} {h w : Nat} {e : Bool} {v : Cell → Int}
theorem brd_wide {c : Cell} (hc : c ∈ brdC h w) : c ∈ wideC 0 0 h w := (List.mem_filter.mp hc).1
theorem brd_ne (h1 : 1 ≤ h) (w1 : 1 ≤ w) : brdC h w ≠ [] := by
  obtain ⟨rest, er⟩ := wide_cons h1 w1
  have m0 : ((0, 0) : Cell) ∈ brdC h w := List.mem_filter.mpr ⟨by rw [er]; exact List.mem_cons_self .., by unfold brdP; simp⟩
  intro z
  rw [z] at m0
  cases m0
theorem hgt_grid {c : Cell} (hc : c ∈ wideC 0 0 h w) : hgt (gridOf h w v) c = v c := by
  have m := mem_wide.mp hc
  unfold hgt gridOf
  rw [List.getD_eq_getElem?_getD, List.getD_eq_getElem?_getD, List.getElem?_map, List.getElem?_range (by omega), Option.map_some, Option.getD_some, List.getElem?_map, List.getElem?_range (by omega), Option.map_some, Option.getD_some]
  have e1 : ((c.1.toNat : Int), (c.2.toNat : Int)) = c := Prod.ext (by simp only; omega) (by simp only; omega)
  rw [e1]
theorem wide_nat {i j : Nat} (hi : i < h) (hj : j < w) : ((i : Int), (j : Int)) ∈ wideC 0 0 h w := mem_wide.mpr ⟨⟨by simp only; omega, by simp only; omega⟩, ⟨by simp only; omega, by simp only; omega⟩⟩
theorem grid_eq {u : Cell → Int} (huv : ∀ c ∈ wideC 0 0 h w, u c = v c) : gridOf h w u = gridOf h w v := by
  unfold gridOf
  refine List.map_congr_left fun i hi => List.map_congr_left fun j hj => ?_
  exact huv _ (wide_nat (List.mem_range.mp hi) (List.mem_range.mp hj))
/-- the heights of the water -/
def Fil (H : List (List Int)) (h w : Nat) (e : Bool) (v : Cell → Int) : Prop := ∀ c ∈ wideC 0 0 h w, Pas H h w e (brdC h w) c (v c)
theorem from_top (g : Hts H h w) {c : Cell} (hc : c ∈ wideC 0 0 h w) : From H h w e (brdC h w) 99 c := by
  have all : lvLe H h w 99 = wideC 0 0 h w := by
    unfold lvLe
    exact List.filter_eq_self.mpr fun c hc => decide_eq_true (g.valD hc).2
  obtain ⟨s, hs⟩ := List.exists_mem_of_ne_nil _ (brd_ne g.h1.1 g.w1.1)
  refine ⟨s, hs, ?_⟩
  rw [all]
  exact (wide_conn' (brd_wide hs)).symm.trans (wide_conn' hc)
theorem from_low {S : List Cell} {x : Int} {c : Cell} (k : From H h w e S x c) : hgt H c ≤ x := let ⟨_, _, k⟩ := k; (mem_lvLe.mp k.mem.2).2
theorem Fil.low (f : Fil H h w e v) {c : Cell} (hc : c ∈ wideC 0 0 h w) : hgt H c ≤ v c := from_low (f c hc).1
theorem Fil.rim (f : Fil H h w e v) {c : Cell} (hc : c ∈ brdC h w) : v c = hgt H c := by
  have hw := brd_wide hc
  have := f.low hw
  have := (f c hw).2 (hgt H c) ⟨c, hc, .refl (mem_lvLe.mpr ⟨hw, Int.le_refl _⟩)⟩
  omega
theorem Fil.val (g : Hts H h w) (f : Fil H h w e v) : ∀ c ∈ wideC 0 0 h w, 0 ≤ v c ∧ v c ≤ 99 := fun c hc => by
  have := f.low hc
  have := (g.valD hc).1
  have := (f c hc).2 99 (from_top g hc)
  omega
/-- the ways over the water -/
theorem Fil.same (g : Hts H h w) (f : Fil H h w e v) {x : Int} {c : Cell} : From (gridOf h w v) h w e (brdC h w) x c ↔ From H h w e (brdC h w) x c := by
  constructor
  · rintro ⟨s, hs, k⟩
    refine ⟨s, hs, k.mono fun d hd => ?_⟩
    have := mem_lvLe.mp hd
    rw [hgt_grid this.1] at this
    exact mem_lvLe.mpr ⟨this.1, by have := f.low this.1; omega⟩
  · rintro ⟨s, hs, n, k⟩
    induction n generalizing c with
    | zero =>
      have hk := mem_lvLe.mp k.2
      have ec : s = c := k.1
      subst ec
      refine ⟨s, hs, .refl (mem_lvLe.mpr ⟨hk.1, ?_⟩)⟩
      rw [hgt_grid hk.1, f.rim hs]
      exact hk.2
    | succ n ih =>
      have kk : From H h w e (brdC h w) x c := ⟨s, hs, n + 1, k⟩
      obtain ⟨d, hd, h1, h2⟩ := k
      obtain ⟨t, ht, q⟩ := ih hd
      have hk := mem_lvLe.mp h2
      refine ⟨t, ht, q.step h1 (mem_lvLe.mpr ⟨hk.1, ?_⟩)⟩
      rw [hgt_grid hk.1]
      exact (f c hk.1).2 x kk
theorem Fil.uniq {u : Cell → Int} (a : Fil H h w e u) (b : Fil H h w e v) : gridOf h w u = gridOf h w v := grid_eq fun c hc => (a c hc).uniq (b c hc)
/-- the water stands as low as the least passage to the rim -/
theorem Fil.min (f : Fil H h w e v) {c : Cell} (hc : c ∈ wideC 0 0 h w) {q : Cell → Int} (hq : ∀ o ∈ brdC h w, Pas H h w e [c] o (q o)) (hne : brdC h w ≠ []) : minI ((brdC h w).map q) = v c := by
  have n1 : (brdC h w).map q ≠ [] := by simpa using hne
  obtain ⟨o, ho, eo⟩ := List.mem_map.mp (minI_mem n1)
  have l1 : v c ≤ minI ((brdC h w).map q) := by
    rw [← eo]
    exact (f c hc).2 _ ⟨o, ho, (from_one.mp (hq o ho).1).symm⟩
  obtain ⟨s, hs, k⟩ := (f c hc).1
  have l2 := (hq s hs).2 (v c) (from_one.mpr k.symm)
  have l3 := minI_le (ns := (brdC h w).map q) (List.mem_map.mpr ⟨s, hs, rfl⟩)
  omega
end
namespace C
abbrev N_filled_heights : List Str := ["heights", "kind", "table", "high", "wide", "rim", "found", "row", "column"]
def s_filled_heights : ES := (sSeq (sDrop (mP (xCall F_need_heights (xsCons (xVar 0) xsNil))))
  (sSeq (sDrop (mP (xCall F_need_kind (xsCons (xVar 1) xsNil))))
  (sSeq (sAsg (mP (xCall F_table_of (xsCons (xVar 0) xsNil))) (put 2))
  (sSeq (sAsg (mP (xTup (xsCons (xCall lenD (xsCons (xVar 0) xsNil)) (xsCons (xCall lenD (xsCons (xOp ixD (xVar 0) (xC (.int 0))) xsNil)) xsNil)))) (gTupD 2 (gsCons (put 3) (gsCons (put 4) gsNil))))
  (sSeq (sAsg (mP (xComp [7, 8] (xKeysOf 2) (gTupD 2 (gsCons (putB 7) (gsCons (putB 8) gsNil))) (yOr (xBool (xOp oIn (xVar 7) (xTup (xsCons (xC (.int 0)) (xsCons (xOp oSub (xVar 3) (xC (.int 1))) xsNil))))) (xBool (xOp oIn (xVar 8) (xTup (xsCons (xC (.int 0)) (xsCons (xOp oSub (xVar 4) (xC (.int 1))) xsNil)))))) (xTup (xsCons (xPure (xVar 7)) (xsCons (xPure (xVar 8)) xsNil))))) (put 5))
  (sSeq (sAsg (mP (xCall F_floods (xsCons (xVar 2) (xsCons (xVar 5) (xsCons (xVar 1) xsNil))))) (put 6))
  (sRet (mP (xCall tupleD (xsCons (xComp [7] (xRng1 (xsCons (xVar 3) xsNil)) (putB 7) yYes (xCall tupleD (xsCons (xComp [8] (xRng1 (xsCons (xVar 4) xsNil)) (putB 8) yYes (xPure (xOp ixD (xVar 6) (xTup (xsCons (xPure (xVar 7)) (xsCons (xPure (xVar 8)) xsNil)))))) xsNil))) xsNil))))))))))
def F_filled_heights : List D → Option D := fnP N_filled_heights s_filled_heights
def P_filled_heights1 : ES := (sDrop (mP (xCall F_need_heights (xsCons (xVar 0) xsNil))))
instance : MS P_filled_heights1 := by unfold P_filled_heights1; infer_instance
def P_filled_heights2 : ES := (sDrop (mP (xCall F_need_kind (xsCons (xVar 1) xsNil))))
instance : MS P_filled_heights2 := by unfold P_filled_heights2; infer_instance
def P_filled_heights3 : ES := (sAsg (mP (xCall F_table_of (xsCons (xVar 0) xsNil))) (put 2))
instance : MS P_filled_heights3 := by unfold P_filled_heights3; infer_instance
def P_filled_heights4 : ES := (sAsg (mP (xTup (xsCons (xCall lenD (xsCons (xVar 0) xsNil)) (xsCons (xCall lenD (xsCons (xOp ixD (xVar 0) (xC (.int 0))) xsNil)) xsNil)))) (gTupD 2 (gsCons (put 3) (gsCons (put 4) gsNil))))
instance : MS P_filled_heights4 := by unfold P_filled_heights4; infer_instance
def P_filled_heights5 : ES := (sAsg (mP (xComp [7, 8] (xKeysOf 2) (gTupD 2 (gsCons (putB 7) (gsCons (putB 8) gsNil))) (yOr (xBool (xOp oIn (xVar 7) (xTup (xsCons (xC (.int 0)) (xsCons (xOp oSub (xVar 3) (xC (.int 1))) xsNil))))) (xBool (xOp oIn (xVar 8) (xTup (xsCons (xC (.int 0)) (xsCons (xOp oSub (xVar 4) (xC (.int 1))) xsNil)))))) (xTup (xsCons (xPure (xVar 7)) (xsCons (xPure (xVar 8)) xsNil))))) (put 5))
instance : MS P_filled_heights5 := by unfold P_filled_heights5; infer_instance
def P_filled_heights6 : ES := (sAsg (mP (xCall F_floods (xsCons (xVar 2) (xsCons (xVar 5) (xsCons (xVar 1) xsNil))))) (put 6))
instance : MS P_filled_heights6 := by unfold P_filled_heights6; infer_instance
def P_filled_heights7 : ES := (sRet (mP (xCall tupleD (xsCons (xComp [7] (xRng1 (xsCons (xVar 3) xsNil)) (putB 7) yYes (xCall tupleD (xsCons (xComp [8] (xRng1 (xsCons (xVar 4) xsNil)) (putB 8) yYes (xPure (xOp ixD (xVar 6) (xTup (xsCons (xPure (xVar 7)) (xsCons (xPure (xVar 8)) xsNil)))))) xsNil))) xsNil))))
instance : MS P_filled_heights7 := by unfold P_filled_heights7; infer_instance
def P_filled_heights : ES := (sSeq P_filled_heights1 (sSeq P_filled_heights2 (sSeq P_filled_heights3 (sSeq P_filled_heights4 (sSeq P_filled_heights5 (sSeq P_filled_heights6 P_filled_heights7))))))
instance : MS P_filled_heights := by unfold P_filled_heights; infer_instance
section
variable {H : List (List Int)} {h w : Nat} {e : Bool}
abbrev yE (HH : D) (k : Int) (t hh ww r f a b : Slt) : DL.Env := [ow HH, ow (.int k), t, hh, ww, r, f, a, b]
end
end C
end DL
namespace DL
open PySem PySem.Spec L2
/-! ### holes lie within the box -/
section
variable {cs : List Cell}
noncomputable def holesL (cs : List Cell) : List (List Cell) := (parts false (grd cs 1)).filter fun P => !decide ((top cs - 1, left cs - 1) ∈ P)
end
namespace C
abbrev N_law_holes : List Str := ["_law_ink", "_law_kind", "_law_beyond", "_law_part"]
def s_law_holes : ES := (sSeq (sIf (tP' (xBool (xOp oEq (xVar 0) (xTup xsNil)))) (sRet (mP (xLst xsNil))) sNext)
  (sSeq (sAsg (mP (xCall F_law_ground (xsCons (xVar 0) xsNil))) (put 2))
  (sRet (mP (xComp [3] (xIt (xCall F_law_parts (xsCons (xVar 2) (xsCons (xOp oSub (xC (.int 12)) (xVar 1)) xsNil)))) (putB 3) (xBool (xOp oNin (xOp ixD (xVar 2) (xC (.int 0))) (xVar 3))) (xPure (xVar 3)))))))
def F_law_holes : List D → Option D := fnP N_law_holes s_law_holes
def P_law_holes1 : ES := (sIf (tP' (xBool (xOp oEq (xVar 0) (xTup xsNil)))) (sRet (mP (xLst xsNil))) sNext)
instance : MS P_law_holes1 := by unfold P_law_holes1; infer_instance
def P_law_holes2 : ES := (sAsg (mP (xCall F_law_ground (xsCons (xVar 0) xsNil))) (put 2))
instance : MS P_law_holes2 := by unfold P_law_holes2; infer_instance
def P_law_holes3 : ES := (sRet (mP (xComp [3] (xIt (xCall F_law_parts (xsCons (xVar 2) (xsCons (xOp oSub (xC (.int 12)) (xVar 1)) xsNil)))) (putB 3) (xBool (xOp oNin (xOp ixD (xVar 2) (xC (.int 0))) (xVar 3))) (xPure (xVar 3)))))
instance : MS P_law_holes3 := by unfold P_law_holes3; infer_instance
def P_law_holes : ES := (sSeq P_law_holes1 (sSeq P_law_holes2 P_law_holes3))
instance : MS P_law_holes := by unfold P_law_holes; infer_instance
end C
end DL
namespace DL
open PySem PySem.Spec L2
/-! ### drawn pieces -/
structure Pie (F : List Cell) (t l b r : Int) : Prop where
  nd : F.Nodup
  ne : F ≠ []
  inb : ∀ c ∈ F, (t ≤ c.1 ∧ c.1 < b) ∧ (l ≤ c.2 ∧ c.2 < r)
  sm : (b - t) + (r - l) ≤ 30
  bd : (-30 ≤ t ∧ b ≤ 31) ∧ (-30 ≤ l ∧ r ≤ 31)
theorem mul_bound {p q n : Nat} (hn : n ≤ 34) (h : p + q ≤ n) : p * q ≤ 289 := by
  have k : ∀ p, p < 35 → p * (34 - p) ≤ 289 := by decide
  have h1 : p * q ≤ p * (34 - p) := Nat.mul_le_mul_left _ (by omega)
  exact Nat.le_trans h1 (k p (by omega))
section
variable {F : List Cell} {t l b r : Int}
theorem Pie.len (p : Pie F t l b r) : F.length ≤ 289 := by
  have sub := sub_len F (wideC t l (b - t).toNat (r - l).toNat) p.nd fun c hc => by
    have := p.inb c hc
    exact mem_wide.mpr ⟨by omega, by omega⟩
  rw [wide_len] at sub
  obtain ⟨c, hc⟩ := List.exists_mem_of_ne_nil _ p.ne
  have := p.inb c hc
  have := p.sm
  exact Nat.le_trans sub (mul_bound (n := 34) (by omega) (by omega))
theorem Pie.good (p : Pie F t l b r) : Good (srt F) := by
  refine ⟨by rw [srt_len]; have := p.len; omega, fun c hc => ?_, fun c hc => ?_, srt_pair p.nd⟩
  · have := p.inb c (srt_mem.mp hc)
    have := p.bd
    omega
  · have := p.inb c (srt_mem.mp hc)
    have := p.bd
    omega
theorem Pie.srtne (p : Pie F t l b r) : srt F ≠ [] := fun z => p.ne (by
  have := srt_len (cs := F)
  rw [z] at this
  exact List.eq_nil_of_length_eq_zero this.symm)
theorem Pie.box (p : Pie F t l b r) : (t ≤ top (srt F) ∧ bot (srt F) ≤ b) ∧ (l ≤ left (srt F) ∧ right (srt F) ≤ r) := by
  have := box_in (t := t) (l := l) (b := b) (r := r) p.srtne fun c hc => by
    have := p.inb c (srt_mem.mp hc)
    omega
  omega
theorem Pie.grd (p : Pie F t l b r) : (grd (srt F) 1).length ≤ 289 := by
  unfold DL.grd
  refine Nat.le_trans (List.length_filter_le _ _) ?_
  rw [wide_len]
  have := p.box
  have := p.sm
  obtain ⟨_, _, b5, b6⟩ := C.good_box p.good p.srtne
  exact mul_bound (n := 34) (by omega) (by omega)
theorem Pie.add (p : Pie F t l b r) {c : Cell} (hc : (t ≤ c.1 ∧ c.1 < b) ∧ (l ≤ c.2 ∧ c.2 < r)) : Pie (ins F c) t l b r := by
  refine ⟨?_, ?_, fun d hd => ?_, p.sm, p.bd⟩
  · unfold ins
    split
    · exact p.nd
    · rename_i hn
      exact List.nodup_append.mpr ⟨p.nd, List.nodup_cons.mpr ⟨(fun z => by cases z), List.nodup_nil⟩, fun a ha b hb q => hn (by rw [← List.mem_singleton.mp hb, ← q]; exact ha)⟩
  · obtain ⟨d, hd⟩ := List.exists_mem_of_ne_nil _ p.ne
    intro z
    have : d ∈ ins F c := mem_ins.mpr (.inl hd)
    rw [z] at this
    cases this
  · rcases mem_ins.mp hd with h | rfl
    · exact p.inb d h
    · exact hc
end
/-- after k cells put side by side -/
def Gro (F : List Cell) (k : Int) : Prop := ∃ t l b r : Int, F.Nodup ∧ F ≠ [] ∧ (∀ c ∈ F, (t ≤ c.1 ∧ c.1 < b) ∧ (l ≤ c.2 ∧ c.2 < r)) ∧ (b - t) + (r - l) ≤ 2 + k ∧ (-k ≤ t ∧ b ≤ k + 1) ∧ (-k ≤ l ∧ r ≤ k + 1)
theorem st4_one : ∀ d ∈ stL false, (d.1 = 0 ∧ (d.2 = 1 ∨ d.2 = -1)) ∨ (d.2 = 0 ∧ (d.1 = 1 ∨ d.1 = -1)) := by decide
theorem Gro.add {F : List Cell} {k : Int} (g : Gro F k) {c o : Cell} (hc : c ∈ F) (ho : o ∈ nbL false c) : Gro (ins F o) (k + 1) := by
  obtain ⟨t, l, b, r, h1, h2, h3, h4, h5, h6⟩ := g
  obtain ⟨d, hd, rfl⟩ := List.mem_map.mp ho
  have q := st4_one d hd
  have hb := h3 c hc
  have e1 : (adC c d).1 = c.1 + d.1 := rfl
  have e2 : (adC c d).2 = c.2 + d.2 := rfl
  refine ⟨min t (c.1 + d.1), min l (c.2 + d.2), max b (c.1 + d.1 + 1), max r (c.2 + d.2 + 1), ?_, ?_, fun x hx => ?_, by omega, by omega, by omega⟩
  · unfold ins
    split
    · exact h1
    · rename_i hn
      exact List.nodup_append.mpr ⟨h1, List.nodup_cons.mpr ⟨(fun z => by cases z), List.nodup_nil⟩, fun a ha b hb q => hn (by rw [← List.mem_singleton.mp hb, ← q]; exact ha)⟩
  · intro z
    have : c ∈ ins F (adC c d) := mem_ins.mpr (.inl hc)
    rw [z] at this
    cases this
  · rcases mem_ins.mp hx with h | rfl
    · have := h3 x h
      omega
    · rw [e1, e2]
      omega
namespace C
abbrev N_law_piece : List Str := ["_law_row", "_law_most", "_law_found", "_law_turn", "_law_cell", "_law_ink", "_law_more", "_law_part", "_law_line", "_law_column"]
def s_law_piece : ES := (sSeq (sAsg (mDisp (msCons (mP (xTup (xsCons (xC (.int 0)) (xsCons (xC (.int 0)) xsNil)))) (msCons (mP (xC (.bl true))) msNil))) (put 2))
  (sSeq (sFor (mRng1 (msCons (mCallR takenF 0 (msCons (mP (xPure (xVar 1))) msNil)) msNil)) (put 3)
  (sSeq (sAsg (mCallR F_law_pick 0 (msCons (mP (xCall sortedA (xsCons (xCall listA (xsCons (xVar 2) xsNil)) xsNil))) msNil)) (put 4))
  (sAsg (mP (xC (.bl true))) (gSubM 2 (mCallR F_law_pick 0 (msCons (mP (xCall F_law_near (xsCons (xVar 4) (xsCons (xC (.int 4)) xsNil)))) msNil)) setT))))
  (sSeq (sFor (iP (xRng1 (xsCons (xC (.int 40)) xsNil))) (put 3)
  (sSeq (sAsg (mP (xCall tupleD (xsCons (xCall sortedA (xsCons (xCall listA (xsCons (xVar 2) xsNil)) xsNil)) xsNil))) (put 5))
  (sSeq (sAsg (mP (xLst xsNil)) (put 6))
  (sSeq (sFor (iP (xIt (xCall F_law_holes (xsCons (xVar 5) (xsCons (xC (.int 8)) xsNil))))) (put 7)
  (sAsg (mP (xOp oAdd (xVar 6) (xCall listA (xsCons (xVar 7) xsNil)))) (put 6)))
  (sSeq (sFor (iP (xIt (xPure (xVar 5)))) (gTupD 2 (gsCons (put 8) (gsCons (put 9) gsNil)))
  (sSeq (sIf (tP' (yAnd (xBool (xOp oIn (xTup (xsCons (xOp oAdd (xVar 8) (xC (.int 1))) (xsCons (xOp oAdd (xVar 9) (xC (.int 1))) xsNil))) (xVar 2))) (yAnd (xBool (xOp oNin (xTup (xsCons (xOp oAdd (xVar 8) (xC (.int 1))) (xsCons (xPure (xVar 9)) xsNil))) (xVar 2))) (xBool (xOp oNin (xTup (xsCons (xPure (xVar 8)) (xsCons (xOp oAdd (xVar 9) (xC (.int 1))) xsNil))) (xVar 2)))))) (sDrop (mMut isL appendD 6 (msCons (mP (xTup (xsCons (xOp oAdd (xVar 8) (xC (.int 1))) (xsCons (xPure (xVar 9)) xsNil)))) msNil))) sNext)
  (sIf (tP' (yAnd (xBool (xOp oIn (xTup (xsCons (xOp oAdd (xVar 8) (xC (.int 1))) (xsCons (xOp oSub (xVar 9) (xC (.int 1))) xsNil))) (xVar 2))) (yAnd (xBool (xOp oNin (xTup (xsCons (xOp oAdd (xVar 8) (xC (.int 1))) (xsCons (xPure (xVar 9)) xsNil))) (xVar 2))) (xBool (xOp oNin (xTup (xsCons (xPure (xVar 8)) (xsCons (xOp oSub (xVar 9) (xC (.int 1))) xsNil))) (xVar 2)))))) (sDrop (mMut isL appendD 6 (msCons (mP (xTup (xsCons (xOp oAdd (xVar 8) (xC (.int 1))) (xsCons (xPure (xVar 9)) xsNil)))) msNil))) sNext)))
  (sLend 6 (sFor (srcB 6) (put 4)
  (sAsg (mP (xC (.bl true))) (gSub' 2 (xVar 4) setT)))))))))
  (sRet (mP (xCall tupleD (xsCons (xCall sortedA (xsCons (xCall listA (xsCons (xVar 2) xsNil)) xsNil)) xsNil)))))))
def F_law_piece : D → List D → Option (D × D) := fnR N_law_piece s_law_piece
def P_law_piece1 : ES := (sAsg (mDisp (msCons (mP (xTup (xsCons (xC (.int 0)) (xsCons (xC (.int 0)) xsNil)))) (msCons (mP (xC (.bl true))) msNil))) (put 2))
instance : MS P_law_piece1 := by unfold P_law_piece1; infer_instance
def P_law_piece2b1 : ES := (sAsg (mCallR F_law_pick 0 (msCons (mP (xCall sortedA (xsCons (xCall listA (xsCons (xVar 2) xsNil)) xsNil))) msNil)) (put 4))
instance : MS P_law_piece2b1 := by unfold P_law_piece2b1; infer_instance
def P_law_piece2b2 : ES := (sAsg (mP (xC (.bl true))) (gSubM 2 (mCallR F_law_pick 0 (msCons (mP (xCall F_law_near (xsCons (xVar 4) (xsCons (xC (.int 4)) xsNil)))) msNil)) setT))
instance : MS P_law_piece2b2 := by unfold P_law_piece2b2; infer_instance
def P_law_piece2b : ES := (sSeq P_law_piece2b1 P_law_piece2b2)
instance : MS P_law_piece2b := by unfold P_law_piece2b; infer_instance
def P_law_piece2 : ES := (sFor (mRng1 (msCons (mCallR takenF 0 (msCons (mP (xPure (xVar 1))) msNil)) msNil)) (put 3) P_law_piece2b)
instance : MS P_law_piece2 := by unfold P_law_piece2; infer_instance
def P_law_piece3b1 : ES := (sAsg (mP (xCall tupleD (xsCons (xCall sortedA (xsCons (xCall listA (xsCons (xVar 2) xsNil)) xsNil)) xsNil))) (put 5))
instance : MS P_law_piece3b1 := by unfold P_law_piece3b1; infer_instance
def P_law_piece3b3b : ES := (sAsg (mP (xOp oAdd (xVar 6) (xCall listA (xsCons (xVar 7) xsNil)))) (put 6))
instance : MS P_law_piece3b3b := by unfold P_law_piece3b3b; infer_instance
def P_law_piece3b3 : ES := (sFor (iP (xIt (xCall F_law_holes (xsCons (xVar 5) (xsCons (xC (.int 8)) xsNil))))) (put 7) P_law_piece3b3b)
instance : MS P_law_piece3b3 := by unfold P_law_piece3b3; infer_instance
def P_law_piece3b4b1t : ES := (sDrop (mMut isL appendD 6 (msCons (mP (xTup (xsCons (xOp oAdd (xVar 8) (xC (.int 1))) (xsCons (xPure (xVar 9)) xsNil)))) msNil)))
instance : MS P_law_piece3b4b1t := by unfold P_law_piece3b4b1t; infer_instance
def P_law_piece3b4b1 : ES := (sIf (tP' (yAnd (xBool (xOp oIn (xTup (xsCons (xOp oAdd (xVar 8) (xC (.int 1))) (xsCons (xOp oAdd (xVar 9) (xC (.int 1))) xsNil))) (xVar 2))) (yAnd (xBool (xOp oNin (xTup (xsCons (xOp oAdd (xVar 8) (xC (.int 1))) (xsCons (xPure (xVar 9)) xsNil))) (xVar 2))) (xBool (xOp oNin (xTup (xsCons (xPure (xVar 8)) (xsCons (xOp oAdd (xVar 9) (xC (.int 1))) xsNil))) (xVar 2)))))) P_law_piece3b4b1t sNext)
instance : MS P_law_piece3b4b1 := by unfold P_law_piece3b4b1; infer_instance
def P_law_piece3b4b2t : ES := (sDrop (mMut isL appendD 6 (msCons (mP (xTup (xsCons (xOp oAdd (xVar 8) (xC (.int 1))) (xsCons (xPure (xVar 9)) xsNil)))) msNil)))
instance : MS P_law_piece3b4b2t := by unfold P_law_piece3b4b2t; infer_instance
def P_law_piece3b4b2 : ES := (sIf (tP' (yAnd (xBool (xOp oIn (xTup (xsCons (xOp oAdd (xVar 8) (xC (.int 1))) (xsCons (xOp oSub (xVar 9) (xC (.int 1))) xsNil))) (xVar 2))) (yAnd (xBool (xOp oNin (xTup (xsCons (xOp oAdd (xVar 8) (xC (.int 1))) (xsCons (xPure (xVar 9)) xsNil))) (xVar 2))) (xBool (xOp oNin (xTup (xsCons (xPure (xVar 8)) (xsCons (xOp oSub (xVar 9) (xC (.int 1))) xsNil))) (xVar 2)))))) P_law_piece3b4b2t sNext)
instance : MS P_law_piece3b4b2 := by unfold P_law_piece3b4b2; infer_instance
def P_law_piece3b4b : ES := (sSeq P_law_piece3b4b1 P_law_piece3b4b2)
instance : MS P_law_piece3b4b := by unfold P_law_piece3b4b; infer_instance
def P_law_piece3b4 : ES := (sFor (iP (xIt (xPure (xVar 5)))) (gTupD 2 (gsCons (put 8) (gsCons (put 9) gsNil))) P_law_piece3b4b)
instance : MS P_law_piece3b4 := by unfold P_law_piece3b4; infer_instance
def P_law_piece3b5b : ES := (sAsg (mP (xC (.bl true))) (gSub' 2 (xVar 4) setT))
instance : MS P_law_piece3b5b := by unfold P_law_piece3b5b; infer_instance
def P_law_piece3b5 : ES := (sLend 6 (sFor (srcB 6) (put 4) P_law_piece3b5b))
instance : MS P_law_piece3b5 := by unfold P_law_piece3b5; infer_instance
def P_law_piece3b : ES := (sSeq P_law_piece3b1 (sSeq (sAsg (mP (xLst xsNil)) (put 6)) (sSeq P_law_piece3b3 (sSeq P_law_piece3b4 P_law_piece3b5))))
instance : MS P_law_piece3b := by unfold P_law_piece3b; infer_instance
def P_law_piece3 : ES := (sFor (iP (xRng1 (xsCons (xC (.int 40)) xsNil))) (put 3) P_law_piece3b)
instance : MS P_law_piece3 := by unfold P_law_piece3; infer_instance
def P_law_piece4 : ES := (sRet (mP (xCall tupleD (xsCons (xCall sortedA (xsCons (xCall listA (xsCons (xVar 2) xsNil)) xsNil)) xsNil))))
instance : MS P_law_piece4 := by unfold P_law_piece4; infer_instance
def P_law_piece : ES := (sSeq P_law_piece1 (sSeq P_law_piece2 (sSeq P_law_piece3 P_law_piece4)))
instance : MS P_law_piece := by unfold P_law_piece; infer_instance
section
variable {ns : List Int} {F : List Cell} {t l b r : Int}
abbrev zE (row : D) (m : Int) (f tu c i mo p li co : Slt) : DL.Env := [pn row, ow (.int m), f, tu, c, i, mo, p, li, co]
end
end C
end DL
namespace DL
open PySem PySem.Spec L2
namespace C
section
variable {ns : List Int} {F : List Cell} {t l b r : Int}
end
end C
end DL
namespace DL
open PySem PySem.Spec L2
/-! ### dominoes in order -/
abbrev Dom := Cell × Cell
def domD (p : Dom) : D := .tup [cellD p.1, cellD p.2]
def ltD (p q : Dom) : Prop := ltc p.1 q.1 ∨ (p.1 = q.1 ∧ ltc p.2 q.2)
instance {p q : Dom} : Decidable (ltD p q) := by unfold ltD; infer_instance
def leD' (p q : Dom) : Bool := !decide (ltD q p)
def srtD (L : List Dom) : List Dom := L.mergeSort leD'
end DL
namespace DL
open PySem PySem.Spec L2
/-! ### frozen dicts, reversed lists: the plain side -/
section
variable {f : EX} {fs : EXs} {s : Slt} {ρ : Env}
instance [hf : MX f] : MX (xFrzT f) := mx_bind' hf
instance [hf : MX f] : MX (xKeysF f) := mx_bind' hf
instance [hf : MX f] : MX (xItemsF f) := mx_bind' hf
instance [hf : MX f] : MX (xValsF f) := mx_bind' hf
instance [hf : MX f] : MX (xLstRev f) := mx_bind' hf
instance [hf : MX f] [hs : MX fs] : MX (xsStarR f fs) := ⟨fun {ρ ρ' d} l e => by
  obtain ⟨x, e1, e⟩ := obind e
  obtain ⟨y, e2, e⟩ := obind e
  show (f ρ').bind _ = _
  rw [hf.mono l e1, Option.bind_some, e2, Option.bind_some]
  cases y with
  | lst xs =>
    obtain ⟨ys, e3, e⟩ := obind e
    show (fs ρ').bind _ = _
    rw [hs.mono l e3]
    exact e
  | _ => cases e⟩
@[simp] theorem e_frzT : xFrzT f (s :: ρ) = (f (s :: ρ)).bind frzDD := (rfl)
@[simp] theorem e_keysF : xKeysF f (s :: ρ) = (f (s :: ρ)).bind keysFD := (rfl)
@[simp] theorem e_itemsF : xItemsF f (s :: ρ) = (f (s :: ρ)).bind itemsFD := (rfl)
@[simp] theorem e_valsF : xValsF f (s :: ρ) = (f (s :: ρ)).bind valsFD := (rfl)
@[simp] theorem e_lstRev : xLstRev f (s :: ρ) = (f (s :: ρ)).bind revLD := (rfl)
@[simp] theorem e_starR : xsStarR f fs (s :: ρ) = (f (s :: ρ)).bind fun d => (revLD d).bind fun d' => match d' with
  | .lst xs => (fs (s :: ρ)).bind fun ys => some (xs ++ ys)
  | _ => none := (rfl)
@[simp] theorem rev_lst {xs : List D} : revLD (.lst xs) = if pures xs = true then some (.lst xs.reverse) else none := (rfl)
end
section
variable {α : Type} {g : α → D}
def fmapD (g : α → D) (m : List (Cell × α)) : D := .fdT (m.map fun p => keyC p.1) (m.map fun p => g p.2)
end
end DL
namespace DL
open PySem PySem.Spec L2
/-! ### the number of ways of so many steps; it is the same there and back -/
section
variable {nb : Cell → List Cell} {cs : List Cell}
/-- the number of ways of n steps within cs -/
def wlk (nb : Cell → List Cell) (cs : List Cell) (a : Cell) : Nat → Cell → Int
  | 0, c => if a = c then 1 else 0
  | n + 1, c => (cs.map fun b => ((nb b).count c : Int) * wlk nb cs a n b).sum
/-- steps add up -/
theorem Rch.trans {a b : Cell} {n : Nat} (h : Rch nb cs n a b) : ∀ {m : Nat} {c : Cell}, Rch nb cs m b c → Rch nb cs (n + m) a c
  | 0, c, ⟨e, _⟩ => e ▸ h
  | m + 1, c, ⟨d, hd, h1, h2⟩ => ⟨d, Rch.trans h hd, h1, h2⟩
end
end DL
namespace DL
open PySem PySem.Spec L2
namespace C
/-! ### draws of cells and kinds; within_steps; between -/
section
variable {cs : List Cell} {a b : Cell} {e : Bool} {N row : D}
end
abbrev N_within_steps : List Str := ["ink", "cell", "many", "kind", "one", "told"]
def s_within_steps : ES := (sSeq (sDrop (mP (xCall F_need_ink (xsCons (xVar 0) xsNil))))
  (sSeq (sDrop (mP (xCall F_need_own (xsCons (xVar 0) (xsCons (xVar 1) xsNil)))))
  (sSeq (sIf (tP' (yNot (xBool (xCall F_is_in (xsCons (xVar 2) (xsCons (xC (.int 0)) (xsCons (xC (.int 400)) xsNil))))))) sNever sNext)
  (sSeq (sDrop (mP (xCall F_need_kind (xsCons (xVar 3) xsNil))))
  (sRet (mP (xCall tupleD (xsCons (xCall sortedA (xsCons (xComp [4, 5] (xItemsF (xFrzT (xCall F_layers (xsCons (xVar 0) (xsCons (xVar 1) (xsCons (xVar 3) xsNil)))))) (gTupD 2 (gsCons (putB 4) (gsCons (putB 5) gsNil))) (xBool (xOp oLe (xOp ixD (xVar 5) (xC (.int 0))) (xVar 2))) (xPure (xVar 4))) xsNil)) xsNil))))))))
def F_within_steps : List D → Option D := fnP N_within_steps s_within_steps
def P_within_steps1 : ES := (sDrop (mP (xCall F_need_ink (xsCons (xVar 0) xsNil))))
instance : MS P_within_steps1 := by unfold P_within_steps1; infer_instance
def P_within_steps2 : ES := (sDrop (mP (xCall F_need_own (xsCons (xVar 0) (xsCons (xVar 1) xsNil)))))
instance : MS P_within_steps2 := by unfold P_within_steps2; infer_instance
def P_within_steps3 : ES := (sIf (tP' (yNot (xBool (xCall F_is_in (xsCons (xVar 2) (xsCons (xC (.int 0)) (xsCons (xC (.int 400)) xsNil))))))) sNever sNext)
instance : MS P_within_steps3 := by unfold P_within_steps3; infer_instance
def P_within_steps4 : ES := (sDrop (mP (xCall F_need_kind (xsCons (xVar 3) xsNil))))
instance : MS P_within_steps4 := by unfold P_within_steps4; infer_instance
def P_within_steps5 : ES := (sRet (mP (xCall tupleD (xsCons (xCall sortedA (xsCons (xComp [4, 5] (xItemsF (xFrzT (xCall F_layers (xsCons (xVar 0) (xsCons (xVar 1) (xsCons (xVar 3) xsNil)))))) (gTupD 2 (gsCons (putB 4) (gsCons (putB 5) gsNil))) (xBool (xOp oLe (xOp ixD (xVar 5) (xC (.int 0))) (xVar 2))) (xPure (xVar 4))) xsNil)) xsNil))))
instance : MS P_within_steps5 := by unfold P_within_steps5; infer_instance
def P_within_steps : ES := (sSeq P_within_steps1 (sSeq P_within_steps2 (sSeq P_within_steps3 (sSeq P_within_steps4 P_within_steps5))))
instance : MS P_within_steps := by unfold P_within_steps; infer_instance
/-- the cells within m steps -/
def wst (F : SW) (m : Int) : List Cell := (F.filter fun p => decide (p.2.1 ≤ m)).map (·.1)
end C
end DL
namespace DL
open PySem PySem.Spec L2
/-! ### a dict comprehension with values, the keys unlike -/
section
variable {α β : Type} {gv : α → D}
end
/-! ### the greatest and the least of numbers, as sets -/
end DL
namespace DL
open PySem PySem.Spec L2
/-! ### how often: a dict that counts, its sorted pairs -/
def bumpM (m : List (Cell × Int)) (v : Cell) : List (Cell × Int) := aset m v ((aget m v).getD 0 + 1)
def cntM (L : List Cell) : List (Cell × Int) := L.foldl bumpM []
/-- the sorted pairs -/
def cduL (L : List Cell) : List (Cell × Int) := (srt (akeys (cntM L))).map fun v => (v, ((L.count v : Nat) : Int))
def ltP (p q : Cell × Int) : Prop := ltc p.1 q.1 ∨ (p.1 = q.1 ∧ p.2 < q.2)
instance {p q : Cell × Int} : Decidable (ltP p q) := by unfold ltP; infer_instance
def leP (p q : Cell × Int) : Bool := !decide (ltP q p)
/-! ### all differences -/
def dfs (cs : List Cell) : List Cell := cs.flatMap fun a => cs.map fun b => subC b a
end DL
namespace DL
open PySem PySem.Spec L2
/-! ### the word of an error in a law, plainly -/
instance {f : EX} [hf : MX f] : MX (xSrtSet f) := mx_bind' hf
@[simp] theorem e_srtSet {f : EX} {s : Slt} {ρ : Env} : xSrtSet f (s :: ρ) = (f (s :: ρ)).bind srtSetD := (rfl)
instance {m : EM} [hs : MM m] : MM (mIt m) := mm_k (k := itemsOf) hs
instance {F : List D → Option (D ⊕ Er)} {fs : EXs} [MX fs] : MX (rCall F fs) := mx_bind' ‹_›
instance {P : PySem.Addr} {f : EXR} {h : Er → Option D} {w0 : Str} [hf : MX f] : MM (mErr P f h w0) := ⟨fun {ρ ρ' d ρ1} l e => by
  unfold mErr at e
  split at e
  · rename_i P' z q
    split at e
    · rename_i hp
      obtain ⟨r, e1, e⟩ := obind e
      have q' : ρ'[(0 : Nat)]? = some (some (.tag P', z)) := by
        cases ρ with
        | nil => cases q
        | cons s ρ =>
          cases ρ' with
          | nil => exact l.elim
          | cons t ρ' =>
            have q : some s = some (some (Fl.tag P', z)) := q
            cases q
            rcases l.1 with e | ⟨e, _⟩
            · rw [← e]; rfl
            · cases e
      have e2 := hf.mono l e1
      have key : ∀ r : D ⊕ Er, f ρ' = some r → mErr P f h w0 ρ' = (match r with
          | .inl _ => some (.str w0, ρ')
          | .inr e => (h e).bind fun d => some (d, ρ')) := fun r e2 => by
        show (match ρ'[(0 : Nat)]? with | some (some (.tag P', _)) => _ | _ => none) = _
        rw [q']
        show (if P' = P then _ else _) = _
        rw [if_pos hp, e2]
        rfl
      rw [key r e2]
      cases r with
      | inl y =>
        cases e
        exact ⟨rfl, ρ', rfl, l⟩
      | inr y =>
        obtain ⟨w, e3, e⟩ := obind e
        cases e
        refine ⟨rfl, ρ', ?_, l⟩
        show (h y).bind _ = _
        rw [e3]
        rfl
    · cases e
  · cases e⟩
end DL
namespace DL
open PySem PySem.Spec L2
/-! ### a draw within a lambda, `and` with effects, on the plain side -/
instance {F : List D → Option (D ⊕ Er)} {ms : EMs} [hs : MM ms] : MM (mCallX F ms) := mm_k (k := F) hs
instance {P : PySem.Addr} {f : EMX} {h : Er → Option D} {w0 : Str} [hf : MM f] : MM (mErrM P f h w0) := ⟨fun {ρ ρ' d ρ1} l e => by
  unfold mErrM at e
  split at e
  · rename_i P' z q
    split at e
    · rename_i hp
      obtain ⟨⟨r, ρ2⟩, e1, e⟩ := obind e
      have q' : ρ'[(0 : Nat)]? = some (some (.tag P', z)) := by
        cases ρ with
        | nil => cases q
        | cons s ρ =>
          cases ρ' with
          | nil => exact l.elim
          | cons t ρ' =>
            have q : some s = some (some (Fl.tag P', z)) := q
            cases q
            rcases l.1 with e | ⟨e, _⟩
            · rw [← e]; rfl
            · cases e
      obtain ⟨n2, ρ3, e2, l3⟩ := hf.mono l e1
      have key : ∀ r : D ⊕ Er, f ρ' = some (r, ρ3) → mErrM P f h w0 ρ' = (match r with
          | .inl _ => some (.str w0, ρ3)
          | .inr e => (h e).bind fun d => some (d, ρ3)) := fun r e2 => by
        show (match ρ'[(0 : Nat)]? with | some (some (.tag P', _)) => _ | _ => none) = _
        rw [q']
        show (if P' = P then _ else _) = _
        rw [if_pos hp, e2]
        rfl
      rw [key r e2]
      cases r with
      | inl y =>
        cases e
        exact ⟨n2, ρ3, rfl, l3⟩
      | inr y =>
        obtain ⟨w, e3, e⟩ := obind e
        cases e
        refine ⟨n2, ρ3, ?_, l3⟩
        show (h y).bind _ = _
        rw [e3]
        rfl
    · cases e
  · cases e⟩
instance {f g : EM} [hf : MM f] [hg : MM g] : MM (mAnd f g) := ⟨fun {ρ ρ' d ρ1} l e => by
  obtain ⟨⟨x, ρ2⟩, e1, e⟩ := obind e
  obtain ⟨n2, ρ3, e2, l3⟩ := hf.mono l e1
  cases x with
  | bl k =>
    cases k with
    | true =>
      obtain ⟨n4, ρ4, e4, l4⟩ := hg.mono l3 e
      refine ⟨n4.trans n2, ρ4, ?_, l4⟩
      show (f ρ').bind _ = _
      rw [e2]
      exact e4
    | false =>
      cases e
      refine ⟨n2, ρ3, ?_, l3⟩
      show (f ρ').bind _ = _
      rw [e2]
      rfl
  | _ => cases e⟩
section
variable {s : Slt} {ρ : Env} {P : PySem.Addr} {x : D}
@[simp] theorem x_callX {F : List D → Option (D ⊕ Er)} {ms : EMs} : mCallX F ms (s :: ρ) = (ms (s :: ρ)).bind fun x => (F x.1).bind fun r => some (r, x.2) := rfl
@[simp] theorem x_mErrM {f : EMX} {h : Er → Option D} {w0 : Str} : mErrM P f h w0 (some (.tag P, x) :: ρ) = (f (some (.tag P, x) :: ρ)).bind fun x => match x.1 with
    | .inl _ => some (.str w0, x.2)
    | .inr e => (h e).bind fun d => some (d, x.2) := if_pos rfl
@[simp] theorem x_mand {f g : EM} : mAnd f g (s :: ρ) = (f (s :: ρ)).bind fun x => match x.1 with
    | .bl true => g x.2
    | .bl false => some (.bl false, x.2)
    | _ => none := rfl
end
end DL
namespace DL
open PySem PySem.Spec L2
/-! ### three clauses, loops over a dict's keys, on the plain side -/
section
variable {s : Slt} {ρ : Env}
@[simp] theorem e_dict3 {vs vs1 vs2 : List Nat} {src : IX} {gx : GX} {q : QX} {src1 : IX} {gx1 : GX} {q1 : QX} {src2 : IX} {gx2 : GX} {q2 : QX} {fk fe : EX} : xDict3 vs vs1 vs2 src gx q src1 gx1 q1 src2 gx2 q2 fk fe (s :: ρ) = (src (s :: ρ)).bind fun its => (dict3E vs vs1 vs2 gx q src1 gx1 q1 src2 gx2 q2 fk fe (wipeE (s :: ρ) vs) its [] []).bind fun r => some (.dT r.1 r.2) := (rfl)
end
def insL (S Z : List Cell) : List Cell := Z.foldl ins S
section
variable {gx : GX} {q : QX} {fk fe : EX}
end
section
variable {i : Nat} {a b : ES} {ρ ρ1 : Env} {o : Out}
theorem Ev.keys {gx : GX} {b : ES} {ρ ρe : Env} {ks : List (List Key)} {xs : List D} [hg : MG gx] [hb : MS b] (q : ρ[i]? = some (some (.own, .dT ks xs))) (h : EvF gx b (ks.map tupK) (ρ.set i (some (.bor, .dT ks xs))) (.nx ρe)) (hl : ρe.length = ρ.length) : Ev (sKeysL i gx b) ρ (.nx (backL i 0 ρ ρe)) := by
  have hi := Ok.len_lt q
  have k : Ev (sFor (srcKd i) gx b) (ρ.set i (some (.bor, .dT ks xs))) (.nx ρe) := Ev.for (ρ1 := ρ.set i (some (.bor, .dT ks xs))) (by unfold srcKd; rw [List.getElem?_set_self hi]) h
  obtain ⟨o, e, l⟩ := ev_back q k hl
  refine ⟨o, ?_, l⟩
  unfold sKeysL
  rw [q]
  exact e
end
end DL
namespace DL
open PySem PySem.Spec L2
/-! ### a tuple whose first bad place is told -/
end DL
namespace DL
open PySem PySem.Spec L2
/-! ### what a statement that may raise comes to, names forgotten -/
def LeX : OutX → OutX → Prop
  | .o a, .o b => LeO a b
  | .er e, .er e' => e = e'
  | _, _ => False
/-- so from every state that knows as much -/
def RX (g : ESX) (ρ : Env) (o : OutX) : Prop := ∀ ρ', Le ρ ρ' → ∃ o', g ρ' = some o' ∧ LeX o o'
def RF (gx : GX) (g : ESX) (ds : List D) (ρ : Env) (o : OutX) : Prop := ∀ ρ', Le ρ ρ' → ∃ o', forX gx g ds ρ' = some o' ∧ LeX o o'
section
variable {ρ ρ1 ρ2 : Env} {o : OutX} {a b g1 g2 : ESX} {ee : Er} {gx : GX} {d : D} {ds : List D}
theorem RX.seq (h : RX a ρ (.o (.nx ρ1))) (k : RX b ρ1 o) : RX (xSeq a b) ρ o := fun ρ' l => by
  obtain ⟨o1, e, q⟩ := h ρ' l
  cases o1 with
  | er x => exact q.elim
  | o x =>
    cases x with
    | nx σ =>
      obtain ⟨o2, e2, q2⟩ := k σ q
      refine ⟨o2, ?_, q2⟩
      unfold xSeq
      rw [e]
      exact e2
    | _ => exact q.elim
theorem RX.next : RX xNext ρ (.o (.nx ρ)) := fun ρ' l => ⟨_, rfl, l⟩
theorem RX.drop {f : EXR} [MX f] {d : D} (h : f ρ = some (.inl d)) : RX (xDrop f) ρ (.o (.nx ρ)) := fun ρ' l => by
  have e := MX.mono (f := f) l h
  refine ⟨.o (.nx ρ'), ?_, l⟩
  unfold xDrop
  rw [e]
  rfl
theorem RF.nil : RF gx a [] ρ (.o (.nx ρ)) := fun ρ' l => ⟨_, rfl, l⟩
theorem RF.cons [MG gx] (p : pure d = true) (hg : gx d ρ = some ρ1) (h : RX a ρ1 (.o (.nx ρ2))) (k : RF gx a ds ρ2 o) : RF gx a (d :: ds) ρ o := fun ρ' l => by
  obtain ⟨_, σ, e, q⟩ := MG.mono (g := gx) l hg
  obtain ⟨o1, e1, q1⟩ := h σ q
  cases o1 with
  | er x => exact q1.elim
  | o x =>
    cases x with
    | nx τ =>
      obtain ⟨o2, e2, q2⟩ := k τ q1
      refine ⟨o2, ?_, q2⟩
      rw [forX, if_pos p, e, Option.bind_some, e1]
      exact e2
    | _ => exact q1.elim
theorem RX.for {src : IM} [MM src] (hs : src ρ = some (ds, ρ1)) (h : RF gx a ds ρ1 o) : RX (xFor src gx a) ρ o := fun ρ' l => by
  obtain ⟨_, σ, e, q⟩ := MM.mono (f := src) l hs
  obtain ⟨o', e', q'⟩ := h σ q
  refine ⟨o', ?_, q'⟩
  unfold xFor
  rw [e]
  exact e'
theorem RX.fnR {N : List Str} (he : env0 N ds = ρ) (h : RX a ρ (.o (.rt d ρ1))) : fnX N a ds = some (.inl d) := by
  obtain ⟨o', e, q⟩ := h ρ (Le.refl _)
  cases o' with
  | er x => exact q.elim
  | o x =>
    cases x with
    | rt d' σ =>
      have q : d = d' ∧ _ := q
      unfold fnX
      rw [he, e, q.1]
      rfl
    | _ => exact q.elim
end
end DL
namespace DL
open PySem PySem.Spec L2
/-! dicts from whole numbers to any data, on the plain side -/
section
variable {α : Type}
def mapK (g : α → D) (m : List (Int × α)) : D := .dK (m.map fun p => (Sum.inl p.1 : Key)) (m.map fun p => g p.2)
def ikeys (m : List (Int × α)) : List Int := m.map (·.1)
def iset (m : List (Int × α)) (c : Int) (v : α) : List (Int × α) := if c ∈ ikeys m then m.map fun p => if p.1 = c then (p.1, v) else p else m ++ [(c, v)]
def iget : List (Int × α) → Int → Option α
  | [], _ => none
  | p :: m, c => if p.1 = c then some p.2 else iget m c
variable {g : α → D}
end
end DL
namespace DL
open PySem PySem.Spec L2
/-! ### loops over whole numbers, dicts of cells -/
/-- whole numbers from one to below another -/
def intL (a b : Int) : List Int := (List.range (b - a).toNat).map fun i : Nat => a + (i : Int)
end DL
namespace DL
open PySem PySem.Spec L2
/-! ### hulls: chains of turns to the left -/
def sd (a b p : Cell) : Int := (b.1 - a.1) * (p.2 - a.2) - (b.2 - a.2) * (p.1 - a.1)
def crs (a b c d : Int) : Int := a * d - b * c
/-- a direction that goes ahead -/
def fwd (x y : Int) : Prop := 0 < x ∨ (x = 0 ∧ 0 < y)
theorem nn_of_mul {a b : Int} (hb : 0 < b) (h : 0 ≤ a * b) : 0 ≤ a := by
  rcases Int.lt_or_le a 0 with c | c
  · have := Int.mul_neg_of_neg_of_pos c hb
    omega
  · exact c
theorem sd_neg (a b p : Cell) : sd a b p = -sd b a p := by unfold sd; grind
/-! the stack: its top first -/
def popR (p : Cell) : List Cell → List Cell
  | m :: u :: r => if sd u m p ≤ 0 then popR p (u :: r) else m :: u :: r
  | s => s
def Cvx : List Cell → Prop
  | m :: u :: t :: r => 0 < sd t u m ∧ Cvx (u :: t :: r)
  | _ => True
def Abv (Q : List Cell) : List Cell → Prop
  | m :: u :: r => (∀ q ∈ Q, 0 ≤ sd u m q) ∧ Abv Q (u :: r)
  | _ => True
theorem Abv.sub {Q R : List Cell} (hs : ∀ q ∈ R, q ∈ Q) : ∀ {s : List Cell}, Abv Q s → Abv R s
  | [], _ => trivial
  | [_], _ => trivial
  | m :: u :: r, h => ⟨fun q hq => h.1 q (hs q hq), Abv.sub hs h.2⟩
/-- what stands when a new point has taken points off -/
structure Popd (Q : List Cell) (p : Cell) (s0 s : List Cell) : Prop where
  ne : s ≠ []
  sub : ∀ c ∈ s, c ∈ s0
  last : s.getLast? = s0.getLast?
  desc : s.Pairwise fun a b => ltc b a
  cvx : Cvx s
  abv : Abv Q s
  turn : ∀ m u r, s = m :: u :: r → 0 < sd u m p
  top : ∀ m r, s = m :: r → ∀ q ∈ Q, ltc m q → 0 ≤ sd m p q
def pushR (s : List Cell) (p : Cell) : List Cell := p :: popR p s
def chnR (ps : List Cell) : List Cell := ps.foldl pushR []
structure Chn (Q s : List Cell) : Prop where
  ne : s ≠ []
  sub : ∀ c ∈ s, c ∈ Q
  head : s.head? = Q.getLast?
  last : s.getLast? = Q.head?
  desc : s.Pairwise fun a b => ltc b a
  cvx : Cvx s
  abv : Abv Q s
/-! turned around -/
def ng (c : Cell) : Cell := (-c.1, -c.2)
theorem ng_ng (c : Cell) : ng (ng c) = c := by
  unfold ng
  simp
theorem ltc_ng {a b : Cell} : ltc (ng a) (ng b) ↔ ltc b a := by
  unfold ltc ng
  simp only
  omega
end DL
namespace DL
open PySem PySem.Spec L2
/-! ### hulls: around -/
def EdgI (Q l : List Cell) : Prop := ∀ (i : Nat) (a b : Cell), l[i]? = some a → l[i + 1]? = some b → ∀ q ∈ Q, 0 ≤ sd a b q
def TrnI (l : List Cell) : Prop := ∀ (i : Nat) (a b c : Cell), l[i]? = some a → l[i + 1]? = some b → l[i + 2]? = some c → 0 < sd a b c
/-! points on one line -/
/-! the two chains -/
def lowL (ps : List Cell) : List Cell := (chnR ps).reverse
def highL (ps : List Cell) : List Cell := (chnR ps.reverse).reverse
section
variable {ps : List Cell}
/-- the hull's corners -/
def hullL (ps : List Cell) : List Cell := if ps.length < 3 then ps else (lowL ps).dropLast ++ (highL ps).dropLast
structure Hull (ps C : List Cell) : Prop where
  ne : C ≠ []
  sub : ∀ c ∈ C, c ∈ ps
  head : C.head? = ps.head?
  edge : 2 < C.length → ∀ (i : Nat) (a b : Cell), (C ++ [C.head!])[i]? = some a → (C ++ [C.head!])[i + 1]? = some b → ∀ q ∈ ps, 0 ≤ sd a b q
  turn : 2 < C.length → ∀ (i : Nat) (a b c : Cell), (C ++ C.take 2)[i]? = some a → (C ++ C.take 2)[i + 1]? = some b → (C ++ C.take 2)[i + 2]? = some c → 0 < sd a b c
  few : C.length ≤ 2 → C = (if ps.length > 1 then [ps.head!, ps.getLast!] else ps) ∧ ∀ q ∈ ps, sd C.head! C.getLast! q = 0
end
end DL
namespace DL
open PySem PySem.Spec L2
namespace C
abbrev N_side : List Str := ["one", "other", "point"]
def s_side : ES := (sRet (mP (xOp oSub (xOp oMul (xOp oSub (xOp ixD (xVar 1) (xC (.int 0))) (xOp ixD (xVar 0) (xC (.int 0)))) (xOp oSub (xOp ixD (xVar 2) (xC (.int 1))) (xOp ixD (xVar 0) (xC (.int 1))))) (xOp oMul (xOp oSub (xOp ixD (xVar 1) (xC (.int 1))) (xOp ixD (xVar 0) (xC (.int 1)))) (xOp oSub (xOp ixD (xVar 2) (xC (.int 0))) (xOp ixD (xVar 0) (xC (.int 0))))))))
def F_side : List D → Option D := fnP N_side s_side
abbrev N_chain : List Str := ["points", "found", "point"]
def s_chain : ES := (sSeq (sAsg (mP (xLst xsNil)) (put 1))
  (sSeq (sLend 0 (sFor (srcB 0) (put 2)
  (sSeq (sWhile (tP' (yAnd (xBool (xOp oGt (xCall lenD (xsCons (xVar 1) xsNil)) (xC (.int 1)))) (xBool (xOp oLe (xCall F_side (xsCons (xOp ixD (xVar 1) (xNeg (xC (.int 2)))) (xsCons (xOp ixD (xVar 1) (xNeg (xC (.int 1)))) (xsCons (xVar 2) xsNil)))) (xC (.int 0))))))
  (sDrop (mMut isL popD 1 msNil)))
  (sDrop (mMut isL appendD 1 (msCons (mP (xPure (xVar 2))) msNil))))))
  (sRet (mMove 1))))
def F_chain : List D → Option D := fnP N_chain s_chain
abbrev N_hull_in : List Str := ["points", "low", "high"]
def s_hull_in : ES := (sSeq (sIf (tP' (xBool (xOp oLt (xCall lenD (xsCons (xVar 0) xsNil)) (xC (.int 3))))) (sRet (mP (xCall tupleD (xsCons (xVar 0) xsNil)))) sNext)
  (sSeq (sPar 1 2 (msCons (mP (xCall F_chain (xsCons (xVar 0) xsNil))) (msCons (mP (xCall F_chain (xsCons (xLstRev (xVar 0)) xsNil))) msNil)))
  (sRet (mP (xCall tupleD (xsCons (xLst (xsStar (xCut (xVar 1) none (some (xNeg (xC (.int 1))))) (xsStar (xCut (xVar 2) none (some (xNeg (xC (.int 1))))) xsNil))) xsNil))))))
def F_hull_in : List D → Option D := fnP N_hull_in s_hull_in
abbrev N_need_cells : List Str := ["ink"]
def s_need_cells : ES := (sSeq (sDrop (mP (xCall F_need_ink (xsCons (xVar 0) xsNil))))
  (sIf (tP' (xBool (xOp oEq (xVar 0) (xTup xsNil)))) sNever sNext))
def F_need_cells : List D → Option D := fnP N_need_cells s_need_cells
abbrev N_hull : List Str := ["ink"]
def s_hull : ES := (sSeq (sDrop (mP (xCall F_need_cells (xsCons (xVar 0) xsNil))))
  (sRet (mP (xCall F_hull_in (xsCons (xCall listA (xsCons (xVar 0) xsNil)) xsNil)))))
def F_hull : List D → Option D := fnP N_hull s_hull
abbrev N_law_points : List Str := ["_law_row", "_law_most", "_law_found", "_law_top", "_law_turn"]
def s_law_points : ES := (sSeq (sPar 2 3 (msCons (mP (xC (.dT [] []))) (msCons (mCallR F_law_pick 0 (msCons (mP (xLst (xsCons (xC (.int 2)) (xsCons (xC (.int 4)) (xsCons (xC (.int 6)) xsNil))))) msNil)) msNil)))
  (sSeq (sFor (mRng1 (msCons (mOp oAdd (mP (xC (.int 1))) (mCallR takenF 0 (msCons (mP (xPure (xVar 1))) msNil))) msNil)) (put 4)
  (sAsg (mP (xC (.bl true))) (gSubM 2 (mTup (msCons (mCallR F_law_signed 0 (msCons (mP (xPure (xVar 3))) msNil)) (msCons (mCallR F_law_signed 0 (msCons (mP (xPure (xVar 3))) msNil)) msNil))) setT)))
  (sRet (mP (xCall tupleD (xsCons (xCall sortedA (xsCons (xCall listA (xsCons (xVar 2) xsNil)) xsNil)) xsNil))))))
def F_law_points : D → List D → Option (D × D) := fnR N_law_points s_law_points
def P_side : ES := (sRet (mP (xOp oSub (xOp oMul (xOp oSub (xOp ixD (xVar 1) (xC (.int 0))) (xOp ixD (xVar 0) (xC (.int 0)))) (xOp oSub (xOp ixD (xVar 2) (xC (.int 1))) (xOp ixD (xVar 0) (xC (.int 1))))) (xOp oMul (xOp oSub (xOp ixD (xVar 1) (xC (.int 1))) (xOp ixD (xVar 0) (xC (.int 1)))) (xOp oSub (xOp ixD (xVar 2) (xC (.int 0))) (xOp ixD (xVar 0) (xC (.int 0))))))))
instance : MS P_side := by unfold P_side; infer_instance
def P_chain2b1b : ES := (sDrop (mMut isL popD 1 msNil))
instance : MS P_chain2b1b := by unfold P_chain2b1b; infer_instance
def P_chain2b1 : ES := (sWhile (tP' (yAnd (xBool (xOp oGt (xCall lenD (xsCons (xVar 1) xsNil)) (xC (.int 1)))) (xBool (xOp oLe (xCall F_side (xsCons (xOp ixD (xVar 1) (xNeg (xC (.int 2)))) (xsCons (xOp ixD (xVar 1) (xNeg (xC (.int 1)))) (xsCons (xVar 2) xsNil)))) (xC (.int 0)))))) P_chain2b1b)
instance : MS P_chain2b1 := by unfold P_chain2b1; infer_instance
def P_chain2b2 : ES := (sDrop (mMut isL appendD 1 (msCons (mP (xPure (xVar 2))) msNil)))
instance : MS P_chain2b2 := by unfold P_chain2b2; infer_instance
def P_chain2b : ES := (sSeq P_chain2b1 P_chain2b2)
instance : MS P_chain2b := by unfold P_chain2b; infer_instance
def P_chain2 : ES := (sLend 0 (sFor (srcB 0) (put 2) P_chain2b))
instance : MS P_chain2 := by unfold P_chain2; infer_instance
def P_chain : ES := (sSeq (sAsg (mP (xLst xsNil)) (put 1)) (sSeq P_chain2 (sRet (mMove 1))))
instance : MS P_chain := by unfold P_chain; infer_instance
def P_hull_in1 : ES := (sIf (tP' (xBool (xOp oLt (xCall lenD (xsCons (xVar 0) xsNil)) (xC (.int 3))))) (sRet (mP (xCall tupleD (xsCons (xVar 0) xsNil)))) sNext)
instance : MS P_hull_in1 := by unfold P_hull_in1; infer_instance
def P_hull_in2 : ES := (sPar 1 2 (msCons (mP (xCall F_chain (xsCons (xVar 0) xsNil))) (msCons (mP (xCall F_chain (xsCons (xLstRev (xVar 0)) xsNil))) msNil)))
instance : MS P_hull_in2 := by unfold P_hull_in2; infer_instance
def P_hull_in3 : ES := (sRet (mP (xCall tupleD (xsCons (xLst (xsStar (xCut (xVar 1) none (some (xNeg (xC (.int 1))))) (xsStar (xCut (xVar 2) none (some (xNeg (xC (.int 1))))) xsNil))) xsNil))))
instance : MS P_hull_in3 := by unfold P_hull_in3; infer_instance
def P_hull_in : ES := (sSeq P_hull_in1 (sSeq P_hull_in2 P_hull_in3))
instance : MS P_hull_in := by unfold P_hull_in; infer_instance
def P_need_cells1 : ES := (sDrop (mP (xCall F_need_ink (xsCons (xVar 0) xsNil))))
instance : MS P_need_cells1 := by unfold P_need_cells1; infer_instance
def P_need_cells2 : ES := (sIf (tP' (xBool (xOp oEq (xVar 0) (xTup xsNil)))) sNever sNext)
instance : MS P_need_cells2 := by unfold P_need_cells2; infer_instance
def P_need_cells : ES := (sSeq P_need_cells1 P_need_cells2)
instance : MS P_need_cells := by unfold P_need_cells; infer_instance
def P_hull1 : ES := (sDrop (mP (xCall F_need_cells (xsCons (xVar 0) xsNil))))
instance : MS P_hull1 := by unfold P_hull1; infer_instance
def P_hull2 : ES := (sRet (mP (xCall F_hull_in (xsCons (xCall listA (xsCons (xVar 0) xsNil)) xsNil))))
instance : MS P_hull2 := by unfold P_hull2; infer_instance
def P_hull : ES := (sSeq P_hull1 P_hull2)
instance : MS P_hull := by unfold P_hull; infer_instance
def P_law_points1 : ES := (sPar 2 3 (msCons (mP (xC (.dT [] []))) (msCons (mCallR F_law_pick 0 (msCons (mP (xLst (xsCons (xC (.int 2)) (xsCons (xC (.int 4)) (xsCons (xC (.int 6)) xsNil))))) msNil)) msNil)))
instance : MS P_law_points1 := by unfold P_law_points1; infer_instance
def P_law_points2b : ES := (sAsg (mP (xC (.bl true))) (gSubM 2 (mTup (msCons (mCallR F_law_signed 0 (msCons (mP (xPure (xVar 3))) msNil)) (msCons (mCallR F_law_signed 0 (msCons (mP (xPure (xVar 3))) msNil)) msNil))) setT))
instance : MS P_law_points2b := by unfold P_law_points2b; infer_instance
def P_law_points2 : ES := (sFor (mRng1 (msCons (mOp oAdd (mP (xC (.int 1))) (mCallR takenF 0 (msCons (mP (xPure (xVar 1))) msNil))) msNil)) (put 4) P_law_points2b)
instance : MS P_law_points2 := by unfold P_law_points2; infer_instance
def P_law_points3 : ES := (sRet (mP (xCall tupleD (xsCons (xCall sortedA (xsCons (xCall listA (xsCons (xVar 2) xsNil)) xsNil)) xsNil))))
instance : MS P_law_points3 := by unfold P_law_points3; infer_instance
def P_law_points : ES := (sSeq P_law_points1 (sSeq P_law_points2 P_law_points3))
instance : MS P_law_points := by unfold P_law_points; infer_instance
section
variable {ns : List Int} {ps : List Cell}
abbrev chE (P : D) (f p : Slt) : DL.Env := [bo P, f, p]
end
end C
end DL
namespace DL
open PySem PySem.Spec L2
namespace C
section
variable {ns : List Int}
structure Pts (most : Nat) (ps : List Cell) : Prop where
  ne : ps ≠ []
  srt : ps.Pairwise ltc
  row : ∀ c ∈ ps, -6 ≤ c.1 ∧ c.1 ≤ 6
  col : ∀ c ∈ ps, -6 ≤ c.2 ∧ c.2 ≤ 6
  len : ps.length ≤ most
theorem Pts.good {most : Nat} {ps : List Cell} (h : Pts most ps) (hm : most ≤ 400) : Good ps := ⟨by have := h.len; omega, fun c hc => by have := h.row c hc; omega, fun c hc => by have := h.col c hc; omega, h.srt⟩
abbrev ptE (row : D) (m : Nat) (t : Int) (cs : List Cell) (k : Slt) : DL.Env := [pn row, ow (.int (m : Int)), ow (fd cs), ow (.int t), k]
end
end C
end DL
namespace DL
open PySem PySem.Spec PyProof.Rows L2
/-! ### dict(zip(..)) and frozen dicts on the plain side -/
@[simp] theorem e_dictZip {fs : EXs} {s : Slt} {ρ : Env} : xDictZip fs (s :: ρ) = (fs (s :: ρ)).bind dictZipD := (rfl)
@[simp] theorem e_get2F {a b c : EX} {s : Slt} {ρ : Env} : xGet2F a b c (s :: ρ) = (a (s :: ρ)).bind fun d => (b (s :: ρ)).bind fun k => (c (s :: ρ)).bind fun z => get2F d k z := (rfl)
@[simp] theorem e_gUnl {n : Nat} {gs : GXs} {ds : List D} {s : Slt} {ρ : Env} : gUnlD n gs (.lst ds) (s :: ρ) = if ds.length = n then gs ds (s :: ρ) else none := (rfl)
instance {n : Nat} {gs : GXs} [hs : MG gs] : MG (gUnlD n gs) := ⟨fun {ρ ρ' d ρ1} l z => by
  cases d with
  | lst ds =>
    have z : (if ds.length = n then gs ds ρ else none) = some ρ1 := z
    show _ ∧ ∃ ρ2, (if ds.length = n then gs ds ρ' else none) = _ ∧ _
    split at z
    · rename_i h
      rw [if_pos h]
      exact hs.mono l z
    · cases z
  | _ => cases z⟩
section
variable {f g h : EX} {fs : EXs}
instance [MX fs] : MX (xDictZip fs) := mx_bind' ‹_›
instance [hf : MX f] [hg : MX g] [hh : MX h] : MX (xGet2F f g h) := ⟨fun {ρ ρ' d} l e => by
  obtain ⟨x, e1, e⟩ := obind e
  obtain ⟨y, e2, e⟩ := obind e
  obtain ⟨z, e3, e⟩ := obind e
  show (f ρ').bind _ = _
  rw [hf.mono l e1, Option.bind_some, hg.mono l e2, Option.bind_some, hh.mono l e3]
  exact e⟩
end
section
variable {α : Type} {g : α → D} {cs : List Cell} {f : Cell → α}
/-- a table of a value for each cell -/
def tabF (cs : List Cell) (f : Cell → α) : List (Cell × α) := cs.map fun c => (c, f c)
end
end DL
namespace DL
open PySem PySem.Spec L2
/-! ### the chains of a hull are the only ones of their kind; sorted(set(..)) of a tuple of cells -/
section
variable {ps Q : List Cell}
end
section
variable {S C : List Cell}
def wdC (c : Cell) : Wd := [c.1, c.2]
theorem wdC_inj {a b : Cell} (h : wdC a = wdC b) : a = b := by
  unfold wdC at h
  simp only [List.cons.injEq, and_true] at h
  exact Prod.ext h.1 h.2
theorem tupsD_cells (C : List Cell) : tupsD (C.map cellD) = some (C.map wdC) := by
  have e : C.map cellD = (C.map wdC).map wordD := by rw [List.map_map]; rfl
  rw [e]
  exact tupsD_map _
theorem ltW_cell {a b : Cell} (h : ltc a b) : leW (wdC a) (wdC b) = true := by
  have n0 : ∀ a b : Wd, ltW [] [] = false := fun _ _ => ltW_irr []
  unfold leW wdC
  rw [Bool.not_eq_true', ltW_cons, ltW_cons, ltW_irr]
  rw [ltc_iff] at h
  simp
  omega
end
section
variable {f : EX}
@[simp] theorem e_srtTup {s : Slt} {ρ : Env} : xSrtTup f (s :: ρ) = (f (s :: ρ)).bind srtTupD := (rfl)
instance [MX f] : MX (xSrtTup f) := mx_bind' ‹_›
end
end DL
namespace DL
open PySem PySem.Spec L2
/-! ### points in the hull of others: combinations with weights -/
section
variable {S ps G Q : List Cell} {a b q : Cell}
/-- q is a mean of three of the points -/
structure Cmb (S : List Cell) (q : Cell) : Prop where
  ex : ∃ x y z : Cell, x ∈ S ∧ y ∈ S ∧ z ∈ S ∧ ∃ u v w : Int, 0 ≤ u ∧ 0 ≤ v ∧ 0 ≤ w ∧ 0 < u + v + w ∧ (u + v + w) * q.1 = u * x.1 + v * y.1 + w * z.1 ∧ (u + v + w) * q.2 = u * x.2 + v * y.2 + w * z.2
theorem Cmb.sub {R : List Cell} (h : Cmb S q) (s : ∀ c ∈ S, c ∈ R) : Cmb R q := by
  obtain ⟨x, y, z, hx, hy, hz, r⟩ := h.ex
  exact ⟨x, y, z, s x hx, s y hy, s z hz, r⟩
theorem mul_pos' {a b : Int} (ha : 0 < a) (h : 0 ≤ a * b) : 0 ≤ b := nn_of_mul ha (by rw [Int.mul_comm]; exact h)
theorem Cmb.left (h : Cmb S q) (k : ∀ s ∈ S, 0 ≤ sd a b s) : 0 ≤ sd a b q := by
  obtain ⟨x, y, z, hx, hy, hz, u, v, w, hu, hv, hw, hT, e1, e2⟩ := h.ex
  have m1 := Int.mul_nonneg hu (k x hx)
  have m2 := Int.mul_nonneg hv (k y hy)
  have m3 := Int.mul_nonneg hw (k z hz)
  have e : (u + v + w) * sd a b q = u * sd a b x + v * sd a b y + w * sd a b z := by
    unfold sd
    have : (u + v + w) * ((b.1 - a.1) * (q.2 - a.2) - (b.2 - a.2) * (q.1 - a.1)) = (b.1 - a.1) * ((u + v + w) * q.2 - (u + v + w) * a.2) - (b.2 - a.2) * ((u + v + w) * q.1 - (u + v + w) * a.1) := by grind
    rw [this, e1, e2]
    grind
  exact mul_pos' hT (by rw [e]; omega)
theorem Cmb.zero (h : Cmb S q) (k : ∀ s ∈ S, sd a b s = 0) : sd a b q = 0 := by
  have h1 := h.left (a := a) (b := b) fun s hs => by rw [k s hs]; exact Int.le_refl _
  have h2 := h.left (a := b) (b := a) fun s hs => by have := sd_neg b a s; rw [k s hs] at this; omega
  have := sd_neg a b q
  omega
theorem Cmb.ge1 {lo : Int} (h : Cmb S q) (k : ∀ s ∈ S, lo ≤ s.1) : lo ≤ q.1 := by
  obtain ⟨x, y, z, hx, hy, hz, u, v, w, hu, hv, hw, hT, e1, e2⟩ := h.ex
  have m1 := Int.mul_nonneg hu (show 0 ≤ x.1 - lo by have := k x hx; omega)
  have m2 := Int.mul_nonneg hv (show 0 ≤ y.1 - lo by have := k y hy; omega)
  have m3 := Int.mul_nonneg hw (show 0 ≤ z.1 - lo by have := k z hz; omega)
  have e : (u + v + w) * (q.1 - lo) = u * (x.1 - lo) + v * (y.1 - lo) + w * (z.1 - lo) := by
    rw [Int.mul_sub, e1]; grind
  have := mul_pos' hT (show 0 ≤ (u + v + w) * (q.1 - lo) by rw [e]; omega)
  omega
theorem Cmb.neg (h : Cmb S q) : Cmb (S.map ng) (ng q) := by
  obtain ⟨x, y, z, hx, hy, hz, u, v, w, hu, hv, hw, hT, e1, e2⟩ := h.ex
  refine ⟨ng x, ng y, ng z, List.mem_map.mpr ⟨x, hx, rfl⟩, List.mem_map.mpr ⟨y, hy, rfl⟩, List.mem_map.mpr ⟨z, hz, rfl⟩, u, v, w, hu, hv, hw, hT, ?_, ?_⟩
  · show (u + v + w) * (-q.1) = u * (-x.1) + v * (-y.1) + w * (-z.1)
    grind
  · show (u + v + w) * (-q.2) = u * (-x.2) + v * (-y.2) + w * (-z.2)
    grind
/-- the order's least point stays the least -/
theorem Cmb.least {p : Cell} (h : Cmb S q) (k : ∀ s ∈ S, s = p ∨ ltc p s) : q = p ∨ ltc p q := by
  have k1 : ∀ s ∈ S, p.1 ≤ s.1 := fun s hs => by
    rcases k s hs with e | e
    · rw [e]; exact Int.le_refl _
    · rw [ltc_iff] at e; omega
  have g1 := h.ge1 k1
  by_cases c : p.1 = q.1
  · have g2 : p.2 ≤ q.2 := by
      obtain ⟨x, y, z, hx, hy, hz, u, v, w, hu, hv, hw, hT, e1, e2⟩ := h.ex
      have a1 := Int.mul_nonneg hu (show 0 ≤ x.1 - p.1 by have := k1 x hx; omega)
      have a2 := Int.mul_nonneg hv (show 0 ≤ y.1 - p.1 by have := k1 y hy; omega)
      have a3 := Int.mul_nonneg hw (show 0 ≤ z.1 - p.1 by have := k1 z hz; omega)
      have e : u * (x.1 - p.1) + v * (y.1 - p.1) + w * (z.1 - p.1) = 0 := by
        have : (u + v + w) * (q.1 - p.1) = u * (x.1 - p.1) + v * (y.1 - p.1) + w * (z.1 - p.1) := by rw [Int.mul_sub, e1]; grind
        rw [← this, c]
        simp
      have part : ∀ (t : Int) (s : Cell), s ∈ S → 0 ≤ t → t * (s.1 - p.1) = 0 → 0 ≤ t * (s.2 - p.2) := fun t s hs ht ez => by
        rcases Int.mul_eq_zero.mp ez with z0 | z0
        · rw [z0]; simp
        · refine Int.mul_nonneg ht ?_
          rcases k s hs with e | e
          · rw [e]; omega
          · rw [ltc_iff] at e; omega
      have b1 := part u x hx hu (by omega)
      have b2 := part v y hy hv (by omega)
      have b3 := part w z hz hw (by omega)
      have f : (u + v + w) * (q.2 - p.2) = u * (x.2 - p.2) + v * (y.2 - p.2) + w * (z.2 - p.2) := by
        rw [Int.mul_sub, e2]; grind
      have := mul_pos' hT (show 0 ≤ (u + v + w) * (q.2 - p.2) by rw [f]; omega)
      omega
    by_cases c2 : p.2 = q.2
    · exact .inl (Prod.ext c.symm c2.symm)
    · exact .inr (by rw [ltc_iff]; omega)
  · exact .inr (by rw [ltc_iff]; omega)
theorem Cmb.most {p : Cell} (h : Cmb S q) (k : ∀ s ∈ S, s = p ∨ ltc s p) : q = p ∨ ltc q p := by
  have := h.neg.least (p := ng p) fun s hs => by
    obtain ⟨c, hc, rfl⟩ := List.mem_map.mp hs
    exact (k c hc).imp (fun e => by rw [e]) fun e => ltc_ng.mpr e
  refine this.imp (fun e => ?_) fun e => ltc_ng.mp e
  have := congrArg ng e
  rw [ng_ng, ng_ng] at this
  exact this
/-! ### a point that lies left of all edges lies in a triangle -/
/-! ### the hull of points that lie between -/
end
end DL
namespace DL
open PySem PySem.Spec L2
/-! ### points within a hull: the program's is_within and points_in -/
section
variable {fs : EXs}
@[simp] theorem e_zipM {s : Slt} {ρ : Env} : xZipM fs (s :: ρ) = (fs (s :: ρ)).bind zipD := (rfl)
instance [MX fs] : MX (xZipM fs) := mx_bind' ‹_›
end
/-- the sides of a polygon, around -/
def sides (G : List Cell) : List (Cell × Cell) := G.zip (G.drop 1 ++ [G.head!])
def witB (G : List Cell) (q : Cell) : Bool := match G with
  | [a] => decide (q = a)
  | [a, z] => decide (sd a z q = 0) && (!decide (ltc q a) && !decide (ltc z q))
  | G => (sides G).all fun e => decide (0 ≤ sd e.1 e.2 q)
namespace C
abbrev N_is_within : List Str := ["polygon", "point", "one", "other"]
def s_is_within : ES := (sSeq (sIf (tP' (xBool (xOp oEq (xCall lenD (xsCons (xVar 0) xsNil)) (xC (.int 1))))) (sRet (mP (xOp oEq (xVar 1) (xOp ixD (xVar 0) (xC (.int 0)))))) sNext)
  (sSeq (sIf (tP' (xBool (xOp oEq (xCall lenD (xsCons (xVar 0) xsNil)) (xC (.int 2))))) (sRet (mP (xAnd (xOp oEq (xCall F_side (xsCons (xOp ixD (xVar 0) (xC (.int 0))) (xsCons (xOp ixD (xVar 0) (xC (.int 1))) (xsCons (xVar 1) xsNil)))) (xC (.int 0))) (xChain oLe oLe (xOp ixD (xVar 0) (xC (.int 0))) (xVar 1) (xOp ixD (xVar 0) (xC (.int 1))))))) sNext)
  (sRet (mP (xCall allD (xsCons (xComp [2, 3] (xZipM (xsCons (xVar 0) (xsCons (xLst (xsStar (xCut (xVar 0) (some (xC (.int 1))) none) (xsCons (xPure (xOp ixD (xVar 0) (xC (.int 0)))) xsNil))) xsNil))) (gTupD 2 (gsCons (putB 2) (gsCons (putB 3) gsNil))) yYes (xOp oGe (xCall F_side (xsCons (xVar 2) (xsCons (xVar 3) (xsCons (xVar 1) xsNil)))) (xC (.int 0)))) xsNil))))))
def F_is_within : List D → Option D := fnP N_is_within s_is_within
abbrev N_points_in : List Str := ["polygon", "top", "left", "bottom", "right", "every", "row", "column", "point"]
def s_points_in : ES := (sSeq (sAsg (mP (xCall F_box_in (xsCons (xVar 0) xsNil))) (gTupD 4 (gsCons (put 1) (gsCons (put 2) (gsCons (put 3) (gsCons (put 4) gsNil))))))
  (sSeq (sAsg (mP (xComp2 [6, 7] [7] (xRng2 (xsCons (xVar 1) (xsCons (xVar 3) xsNil))) (putB 6) yYes (xRng2 (xsCons (xVar 2) (xsCons (xVar 4) xsNil))) (putB 7) yYes (xTup (xsCons (xPure (xVar 6)) (xsCons (xPure (xVar 7)) xsNil))))) (put 5))
  (sRet (mP (xComp [8] (xIt (xVar 5)) (putB 8) (xBool (xCall F_is_within (xsCons (xVar 0) (xsCons (xVar 8) xsNil)))) (xPure (xVar 8)))))))
def F_points_in : List D → Option D := fnP N_points_in s_points_in
/-- all points of a polygon's box that lie in it -/
def inL (G : List Cell) : List Cell := (wideC (top G) (left G) (bot G - top G).toNat (right G - left G).toNat).filter (witB G)
end C
end DL
namespace DL
open PySem PySem.Spec L2
/-! ### within the hull: by its sides, by triangles, by weights -/
section
variable {ps G : List Cell} {q : Cell}
/-! by triangles -/
def triB (q x y z : Cell) : Bool := decide (0 < sd x y z) && (decide (0 ≤ sd x y q) && (decide (0 ≤ sd y z q) && decide (0 ≤ sd z x q)))
def segB (q x y : Cell) : Bool := decide (ltc x y) && (decide (sd x y q = 0) && (decide (ltc x q) && decide (ltc q y)))
def inhB (ps : List Cell) (q : Cell) : Bool := decide (q ∈ ps) || ps.any fun x => ps.any fun y => segB q x y || ps.any (triB q x y)
/-! the points of a hull -/
end
end DL
namespace DL
open PySem PySem.Spec L2
/-! ### plain side: d.setdefault(k, []).append(x), list(range(a, b)), d.values() -/
section
variable {s : Slt} {ρ : Env} {fk fv f g : EX} {i : Nat}
@[simp] theorem e_setApp : mSetApp i fk fv (s :: ρ) = (ownAt i (s :: ρ)).bind fun z => (fk (s :: ρ)).bind fun k => (toKey k).bind fun q => (setd1 z.2 q).bind fun d1 => (fv ((s :: ρ).set i (some (z.1, d1)))).bind fun v =>
  if pure v = true then (app1 d1 q v).bind fun d2 => some (.non, ((s :: ρ).set i (some (z.1, d1))).set i (some (z.1, d2))) else none := (rfl)
@[simp] theorem e_lstRg : xLstRg f g (s :: ρ) = (f (s :: ρ)).bind fun x => (g (s :: ρ)).bind fun y => lstRgD x y := (rfl)
@[simp] theorem e_valsOf : xValsOf i (s :: ρ) = match (s :: ρ)[i]? with | some (some (_, .dK _ xs)) => some xs | _ => none := (rfl)
instance [hf : MX f] [hg : MX g] : MX (xLstRg f g) := ⟨fun {ρ ρ' d} l e => by
  obtain ⟨x, e1, e⟩ := obind e
  obtain ⟨y, e2, e⟩ := obind e
  show (f ρ').bind _ = _
  rw [hf.mono l e1, Option.bind_some]
  show (g ρ').bind _ = _
  rw [hg.mono l e2]
  exact e⟩
instance : MX (xValsOf i) := ⟨fun {ρ ρ' d} l e => by
  unfold xValsOf at e ⊢
  split at e
  · rename_i md ks xs q
    cases e
    rw [l.get q]
  · cases e⟩
instance [hk : MX fk] [hv : MX fv] : MM (mSetApp i fk fv) := ⟨fun {ρ ρ' d ρ1} l z => by
  obtain ⟨z0, e0, z⟩ := obind z
  obtain ⟨k, e1, z⟩ := obind z
  obtain ⟨q, e2, z⟩ := obind z
  obtain ⟨d1, e3, z⟩ := obind z
  obtain ⟨v, e4, z⟩ := obind z
  split at z
  · rename_i pv
    obtain ⟨d2, e5, z⟩ := obind z
    cases z
    have l2 := l.set' i (some (z0.1, d1))
    refine ⟨by rw [List.length_set, List.length_set], (ρ'.set i (some (z0.1, d1))).set i (some (z0.1, d2)), ?_, l2.set' i _⟩
    show (ownAt i ρ').bind _ = _
    rw [own_mono l e0, Option.bind_some]
    show (fk ρ').bind _ = _
    rw [hk.mono l e1, Option.bind_some]
    show (toKey k).bind _ = _
    rw [e2, Option.bind_some]
    show (setd1 z0.2 q).bind _ = _
    rw [e3, Option.bind_some]
    show (fv (ρ'.set i (some (z0.1, d1)))).bind _ = _
    rw [hv.mono l2 e4, Option.bind_some, if_pos pv, e5]
    rfl
  · cases z⟩
end
abbrev intsD (l : List Int) : D := .lst (l.map D.int)
def gApp : List (Int × List Int) → Int → Int → List (Int × List Int)
  | [], _, _ => []
  | p :: m, k, v => if p.1 = k then (p.1, p.2 ++ [v]) :: m else p :: gApp m k v
def gNew (m : List (Int × List Int)) (k : Int) : List (Int × List Int) := if k ∈ ikeys m then m else m ++ [(k, [])]
def gStep (m : List (Int × List Int)) (e : Int × Int) : List (Int × List Int) := gApp (gNew m e.1) e.1 e.2
theorem gApp_keys (k v : Int) : ∀ m, ikeys (gApp m k v) = ikeys m
  | [] => rfl
  | p :: m => by
    rw [gApp]
    split
    · rfl
    · show p.1 :: ikeys (gApp m k v) = p.1 :: ikeys m
      rw [gApp_keys k v m]
theorem gApp_mem {k v : Int} {q : Int × List Int} : ∀ {m : List (Int × List Int)}, (ikeys m).Nodup → q ∈ gApp m k v → (q.1 ≠ k ∧ q ∈ m) ∨ (q.1 = k ∧ ∃ l, (k, l) ∈ m ∧ q.2 = l ++ [v])
  | [], _, h => by cases h
  | p :: m, nd, h => by
    obtain ⟨n1, n2⟩ := List.nodup_cons.mp (show (p.1 :: ikeys m).Nodup from nd)
    rw [gApp] at h
    by_cases e : p.1 = k
    · rw [if_pos e] at h
      rcases List.mem_cons.mp h with rfl | h
      · exact .inr ⟨e, p.2, by rw [← e]; exact List.mem_cons_self .., rfl⟩
      · refine .inl ⟨fun z => n1 ?_, List.mem_cons_of_mem _ h⟩
        rw [e, ← z]
        exact List.mem_map_of_mem h
    · rw [if_neg e] at h
      rcases List.mem_cons.mp h with rfl | h
      · exact .inl ⟨e, List.mem_cons_self ..⟩
      · rcases gApp_mem n2 h with ⟨h1, h2⟩ | ⟨h1, l, h2, h3⟩
        · exact .inl ⟨h1, List.mem_cons_of_mem _ h2⟩
        · exact .inr ⟨h1, l, List.mem_cons_of_mem _ h2, h3⟩
theorem gNew_keys {m : List (Int × List Int)} {k : Int} (nd : (ikeys m).Nodup) : (ikeys (gNew m k)).Nodup ∧ (∀ j, j ∈ ikeys (gNew m k) ↔ j ∈ ikeys m ∨ j = k) ∧ (gNew m k).length ≤ m.length + 1 := by
  unfold gNew
  by_cases h : k ∈ ikeys m
  · rw [if_pos h]
    exact ⟨nd, fun j => ⟨.inl, fun z => z.elim id fun e => e ▸ h⟩, by omega⟩
  · rw [if_neg h]
    have e : ikeys (m ++ [(k, [])]) = ikeys m ++ [k] := by unfold ikeys; rw [List.map_append]; rfl
    rw [e]
    refine ⟨List.nodup_append.mpr ⟨nd, List.nodup_cons.mpr ⟨(fun z => by cases z), List.nodup_nil⟩, fun a ha b hb z => h ?_⟩, fun j => by rw [List.mem_append, List.mem_singleton], by rw [List.length_append]; exact Nat.le_refl _⟩
    rw [← List.mem_singleton.mp hb, ← z]
    exact ha
def valsG (ps : List (Int × Int)) (k : Int) : List Int := (ps.filter fun e => decide (e.1 = k)).map (·.2)
structure Grp (ps : List (Int × Int)) (m : List (Int × List Int)) : Prop where
  nd : (ikeys m).Nodup
  vals : ∀ p ∈ m, p.2 = valsG ps p.1
  keys : ∀ k, k ∈ ikeys m ↔ k ∈ ps.map (·.1)
theorem valsG_snoc (ps : List (Int × Int)) (e : Int × Int) (k : Int) : valsG (ps ++ [e]) k = if e.1 = k then valsG ps k ++ [e.2] else valsG ps k := by
  unfold valsG
  rw [List.filter_append, List.map_append]
  by_cases h : e.1 = k
  · rw [if_pos h, List.filter_cons_of_pos (by simpa using h)]; rfl
  · rw [if_neg h, List.filter_cons_of_neg (by simpa using h), List.filter_nil, List.map_nil, List.append_nil]
theorem valsG_none {ps : List (Int × Int)} {k : Int} (h : k ∉ ps.map (·.1)) : valsG ps k = [] := by
  unfold valsG
  rw [List.filter_eq_nil_iff.mpr fun e he z => h (by rw [← of_decide_eq_true z]; exact List.mem_map_of_mem he)]
  rfl
theorem Grp.step {ps : List (Int × Int)} {m : List (Int × List Int)} (g : Grp ps m) (e : Int × Int) : Grp (ps ++ [e]) (gStep m e) := by
  obtain ⟨h1, h2, _⟩ := gNew_keys (k := e.1) g.nd
  refine ⟨by unfold gStep; rw [gApp_keys]; exact h1, fun p hp => ?_, fun k => ?_⟩
  · rw [valsG_snoc]
    have old : ∀ q ∈ gNew m e.1, q.2 = valsG ps q.1 := fun q hq => by
      unfold gNew at hq
      split at hq
      · exact g.vals q hq
      · rename_i n
        rcases List.mem_append.mp hq with hq | hq
        · exact g.vals q hq
        · rw [List.mem_singleton.mp hq]
          exact (valsG_none fun z => n ((g.keys _).mpr z)).symm
    rcases gApp_mem h1 hp with ⟨n, hp⟩ | ⟨n, l, hl, hp⟩
    · rw [if_neg (Ne.symm n)]
      exact old p hp
    · rw [if_pos n.symm, hp, n, ← old _ hl]
  · unfold gStep
    rw [gApp_keys, h2, g.keys, List.map_append, List.mem_append]
    simp
/-! ### sorted numbers, single runs -/
def srtI (l : List Int) : List Int := l.mergeSort leI
def runB (l : List Int) : Bool := decide (maxI l - minI l + 1 = (l.length : Int))
end DL
namespace DL
open PySem PySem.Spec L2
namespace C
section
variable {ns : List Int} {F : List Cell} {t l b r : Int}
end
end C
theorem mul_few {p q : Nat} (h : p + q ≤ 11) : p * q ≤ 30 := by
  have k : ∀ p, p < 12 → p * (11 - p) ≤ 30 := by decide
  have h1 : p * q ≤ p * (11 - p) := Nat.mul_le_mul_left _ (by omega)
  exact Nat.le_trans h1 (k p (by omega))
theorem Pie.few {F : List Cell} {t l b r : Int} (p : Pie F t l b r) (h : (b - t) + (r - l) ≤ 11) : F.length ≤ 30 := by
  have b1 := box_few (t := t) (l := l) (h := (b - t).toNat) (w := (r - l).toNat) p.nd fun c hc => by
    have := p.inb c hc
    omega
  refine Nat.le_trans b1 (mul_few ?_)
  cases hF : F with
  | nil => exact absurd hF p.ne
  | cons c L =>
    have := p.inb c (by rw [hF]; exact List.mem_cons_self ..)
    omega
end DL
namespace DL
open PySem PySem.Spec L2
/-! ### sorted(set(x)) of a tuple of cells, fewer than 76 of them unlike -/
theorem dd_nd : ∀ ks : List Wd, (dd ks).Nodup
  | [] => .nil
  | k :: ks => by
    rw [dd]
    by_cases h : k ∈ dd ks
    · rw [if_pos h]; exact dd_nd ks
    · rw [if_neg h, List.nodup_cons]; exact ⟨h, dd_nd ks⟩
section
variable {C S : List Cell}
theorem srtTupW_cells (few : S.length < 76) (hS : S.Pairwise ltc) (m : ∀ c, c ∈ S ↔ c ∈ C) : srtTupW (.tup (C.map cellD)) = some (.lst (S.map cellD)) := by
  show (tupsD (C.map cellD)).bind _ = _
  have eS : srtW (C.map wdC) = S.map wdC := by
    refine srtW_eq (List.pairwise_map.mpr (hS.imp fun h => ltW_cell h)) ?_ fun x => ?_
    · rw [List.nodup_iff_pairwise_ne, List.pairwise_map]
      exact (List.nodup_iff_pairwise_ne.mp (pair_nodup hS)).imp fun h e => h (wdC_inj e)
    · rw [List.mem_map, List.mem_map]
      exact ⟨fun ⟨c, h1, h2⟩ => ⟨c, (m c).mp h1, h2⟩, fun ⟨c, h1, h2⟩ => ⟨c, (m c).mpr h1, h2⟩⟩
  have so : sortOk ((dd (C.map wdC)).map wordD) = true := by
    refine sortOk_perm (sortOk_IT (isIT_cells S)) fun x hx => ?_
    obtain ⟨w, h1, rfl⟩ := List.mem_map.mp hx
    obtain ⟨c, h2, rfl⟩ := List.mem_map.mp (mem_dd.mp h1)
    exact List.mem_map.mpr ⟨c, (m c).mpr h2, rfl⟩
  have fw : (dd (C.map wdC)).length < 76 := by
    refine Nat.lt_of_le_of_lt (nodup_sub (N := S.map wdC) (dd_nd _) fun x hx => ?_) (by rw [List.length_map]; exact few)
    obtain ⟨c, h2, rfl⟩ := List.mem_map.mp (mem_dd.mp hx)
    exact List.mem_map.mpr ⟨c, (m c).mpr h2, rfl⟩
  rw [tupsD_cells, Option.bind_some, if_pos fw, if_pos so, eS, List.map_map]
  rfl
end
section
variable {f : EX}
@[simp] theorem e_srtTupW {s : Slt} {ρ : Env} : xSrtTupW f (s :: ρ) = (f (s :: ρ)).bind srtTupW := (rfl)
instance [MX f] : MX (xSrtTupW f) := mx_bind' ‹_›
end
end DL
namespace K27
open PySem PySem.Spec PyProof.Rows L2 DL
def topS (i : Nat) : Stmt := PySem.Challenge.pw_gridink_k27_whole_adjoint_pairs.main.body.getD i (.Pass ⟨0, 0, 0, 0⟩)
/-- what the top has left -/
structure Top (K : PySem.W.Frag) (mg : Str → Option Value) : Prop where
  d_is_list : DefAt K mg "is_list" (topS 3) ["value", "least", "most"]
  d_is_integer : DefAt K mg "is_integer" (topS 1) ["value"]
  d_is_in : DefAt K mg "is_in" (topS 2) ["value", "least", "most"]
  d_is_cell : DefAt K mg "is_cell" (topS 13) ["value"]
  d_need_ink : DefAt K mg "need_ink" (topS 14) ["value"]
  d_need_shape : DefAt K mg "need_shape" (topS 17) ["shape"]
  d_made : DefAt K mg "made" (topS 15) ["cells"]
  d_sum_of : DefAt K mg "sum_of" (topS 18) ["ink", "shape"]
  d_fits : DefAt K mg "fits" (topS 19) ["cells", "place", "shape"]
  d_shrunk : DefAt K mg "shrunk" (topS 20) ["ink", "shape"]
  d_opened : DefAt K mg "opened" (topS 23) ["ink", "shape"]
  d_eroded : DefAt K mg "eroded" (topS 22) ["ink", "shape"]
  d_law_taken : DefAt K mg "_law_taken" (topS 26) ["_law_row", "_law_many"]
  d_law_pick : DefAt K mg "_law_pick" (topS 27) ["_law_row", "_law_things"]
  d_law_signed : DefAt K mg "_law_signed" (topS 28) ["_law_row", "_law_most"]
  d_law_ink : DefAt K mg "_law_ink" (topS 29) ["_law_row", "_law_high", "_law_wide"]
  d_law_shape : DefAt K mg "_law_shape" (topS 30) ["_law_row"]
  d_dilated : DefAt K mg "dilated" (topS 21) ["ink", "shape"]
  d_closed : DefAt K mg "closed" (topS 24) ["ink", "shape"]
  d_law : DefAt K mg "law" (topS 31) ["_law_script"]
  n_isinstance : mg "isinstance" = none
  n_tuple : mg "tuple" = none
  n_len : mg "len" = none
  n_int : mg "int" = none
  n_bool : mg "bool" = none
  n_enumerate : mg "enumerate" = none
  n_sorted : mg "sorted" = none
  n_all : mg "all" = none
  n_range : mg "range" = none
  n_list : mg "list" = none
  n_set : mg "set" = none
  k_MOST : IntAt mg "MOST" 60
  k_MOST_CELLS : IntAt mg "MOST_CELLS" 400
section
variable {P : Program} {w : World} {K : PySem.W.Frag} {mg : Str → Option Value} {base : Heap}
/-! is_list -/
abbrev st_is_list : Stmt := topS 3
abbrev N_is_list : List Str := ["value", "least", "most"]
theorem sc_is_list : FnScope N_is_list ["value", "least", "most"] (defScope st_is_list) := ⟨rfl, rfl, rfl, by decide +kernel, rfl, by decide +kernel, by decide +kernel⟩
def s_is_list : ES := (sRet (mP (xAnd (xIsi ["tuple"] (xVar 0)) (xChain oLe oLe (xVar 1) (xCall lenD (xsCons (xVar 0) xsNil)) (xVar 2)))))
def F_is_list : List D → Option D := fnP N_is_list s_is_list
theorem ok_is_list (T : Top K mg) : FnAt P w K mg base 1 "is_list" ["value", "least", "most"] (spP K 3 F_is_list) := by
  exact at_p T.d_is_list sc_is_list fun f cdv A outer s H E hr => (s_one (s_ret (m_p (p_and (p_b (p_isi (by rfl) T.n_isinstance (by rfl) T.n_tuple (by decide +kernel) (by decide) (b_var (pv 0)))) (p_one (p_chain (r_le hr) d_ord (r_le hr) d_ord (b_var (pv 1)) (p_b (p_callB c_len d_len (by rfl) T.n_len (by decide +kernel) (a_cons (b_var (pv 0)) a_nil))) (b_var (pv 2))))))))
/-! is_integer -/
abbrev st_is_integer : Stmt := topS 1
abbrev N_is_integer : List Str := ["value"]
theorem sc_is_integer : FnScope N_is_integer ["value"] (defScope st_is_integer) := ⟨rfl, rfl, rfl, by decide +kernel, rfl, by decide +kernel, by decide +kernel⟩
def s_is_integer : ES := (sRet (mP (xAnd (xIsi ["int"] (xVar 0)) (xNot (xIsi ["bool"] (xVar 0))))))
def F_is_integer : List D → Option D := fnP N_is_integer s_is_integer
theorem ok_is_integer (T : Top K mg) : FnAt P w K mg base 1 "is_integer" ["value"] (spP K 1 F_is_integer) := by
  exact at_p T.d_is_integer sc_is_integer fun f cdv A outer s H E hr => (s_one (s_ret (m_p (p_and (p_b (p_isi (by rfl) T.n_isinstance (by rfl) T.n_int (by decide +kernel) (by decide) (b_var (pv 0)))) (p_one (p_not (p_b (p_isi (by rfl) T.n_isinstance (by rfl) T.n_bool (by decide +kernel) (by decide) (b_var (pv 0))))))))))
/-! is_in -/
abbrev st_is_in : Stmt := topS 2
abbrev N_is_in : List Str := ["value", "least", "most"]
theorem sc_is_in : FnScope N_is_in ["value", "least", "most"] (defScope st_is_in) := ⟨rfl, rfl, rfl, by decide +kernel, rfl, by decide +kernel, by decide +kernel⟩
def s_is_in : ES := (sRet (mP (xAnd (xCall F_is_integer (xsCons (xVar 0) xsNil)) (xChain oLe oLe (xVar 1) (xVar 0) (xVar 2)))))
def F_is_in : List D → Option D := fnP N_is_in s_is_in
theorem ok_is_in (T : Top K mg) : FnAt P w K mg base 2 "is_in" ["value", "least", "most"] (spP K 3 F_is_in) := by
  have G_is_integer := (ok_is_integer (P := P) (w := w) (base := base) T).mono (show 1 ≤ 1 by decide)
  exact at_p T.d_is_in sc_is_in fun f cdv A outer s H E hr => (s_one (s_ret (m_p (p_and (p_b (p_at G_is_integer hr (by rfl) (a_cons (b_var (pv 0)) a_nil) (len_cons len_nil))) (p_one (p_chain (r_le hr) d_ord (r_le hr) d_ord (b_var (pv 1)) (b_var (pv 0)) (b_var (pv 2))))))))
/-! is_cell -/
abbrev st_is_cell : Stmt := topS 13
abbrev N_is_cell : List Str := ["value"]
theorem sc_is_cell : FnScope N_is_cell ["value"] (defScope st_is_cell) := ⟨rfl, rfl, rfl, by decide +kernel, rfl, by decide +kernel, by decide +kernel⟩
def s_is_cell : ES := (sRet (mP (xAnd (xCall F_is_list (xsCons (xVar 0) (xsCons (xC (.int 2)) (xsCons (xC (.int 2)) xsNil)))) (xAnd (xCall F_is_in (xsCons (xOp ixD (xVar 0) (xC (.int 0))) (xsCons (xNeg (xC (.int 60))) (xsCons (xC (.int 60)) xsNil)))) (xCall F_is_in (xsCons (xOp ixD (xVar 0) (xC (.int 1))) (xsCons (xNeg (xC (.int 60))) (xsCons (xC (.int 60)) xsNil))))))))
def F_is_cell : List D → Option D := fnP N_is_cell s_is_cell
theorem ok_is_cell (T : Top K mg) : FnAt P w K mg base 3 "is_cell" ["value"] (spP K 1 F_is_cell) := by
  have G_is_list := (ok_is_list (P := P) (w := w) (base := base) T).mono (show 1 ≤ 2 by decide)
  have G_is_in := (ok_is_in (P := P) (w := w) (base := base) T).mono (show 2 ≤ 2 by decide)
  exact at_p T.d_is_cell sc_is_cell fun f cdv A outer s H E hr => (s_one (s_ret (m_p (p_and (p_b (p_at G_is_list hr (by rfl) (a_cons (b_var (pv 0)) (a_cons (p_b p_int) (a_cons (p_b p_int) a_nil))) (len_cons (len_cons (len_cons len_nil))))) (p_and (p_b (p_at G_is_in hr (by rfl) (a_cons (b_ix hr (b_var (pv 0)) (p_b p_int) (fun _ _ => rfl)) (a_cons (p_b (p_neg' (p_b (p_gI (by rfl) T.k_MOST)))) (a_cons (p_b (p_gI (by rfl) T.k_MOST)) a_nil))) (len_cons (len_cons (len_cons len_nil))))) (p_one (p_at G_is_in hr (by rfl) (a_cons (b_ix hr (b_var (pv 0)) (p_b p_int) (fun _ _ => rfl)) (a_cons (p_b (p_neg' (p_b (p_gI (by rfl) T.k_MOST)))) (a_cons (p_b (p_gI (by rfl) T.k_MOST)) a_nil))) (len_cons (len_cons (len_cons len_nil))))))))))
/-! need_ink -/
abbrev st_need_ink : Stmt := topS 14
abbrev N_need_ink : List Str := ["value", "index", "cell"]
theorem sc_need_ink : FnScope N_need_ink ["value"] (defScope st_need_ink) := ⟨rfl, rfl, rfl, by decide +kernel, rfl, by decide +kernel, by decide +kernel⟩
def s_need_ink : ES := (sSeq (sIf (tP' (yNot (xBool (xCall F_is_list (xsCons (xVar 0) (xsCons (xC (.int 0)) (xsCons (xC (.int 400)) xsNil))))))) sNever sNext)
  (sFor (iP (xEn (xPure (xVar 0)))) (gTupD 2 (gsCons (put 1) (gsCons (put 2) gsNil)))
  (sIf (tP' (yOr (yNot (xBool (xCall F_is_cell (xsCons (xVar 2) xsNil)))) (yAnd (xBool (xOp oGt (xVar 1) (xC (.int 0)))) (xBool (xOp oLe (xVar 2) (xOp ixD (xVar 0) (xOp oSub (xVar 1) (xC (.int 1))))))))) sNever sNext)))
def F_need_ink : List D → Option D := fnP N_need_ink s_need_ink
theorem ok_need_ink (T : Top K mg) : FnAt P w K mg base 4 "need_ink" ["value"] (spP K 1 F_need_ink) := by
  have G_is_list := (ok_is_list (P := P) (w := w) (base := base) T).mono (show 1 ≤ 3 by decide)
  have G_is_cell := (ok_is_cell (P := P) (w := w) (base := base) T).mono (show 3 ≤ 3 by decide)
  exact at_p T.d_need_ink sc_need_ink fun f cdv A outer s H E hr => (s_cons (s_if (t_p (q_not (q_val (p_b (p_at G_is_list hr (by rfl) (a_cons (b_var (pv 0)) (a_cons (p_b p_int) (a_cons (p_b (p_gI (by rfl) T.k_MOST_CELLS)) a_nil))) (len_cons (len_cons (len_cons len_nil)))))))) (s_one s_never) s_nil)
    (s_one (s_for PassesOwn.never rfl (i_p (i_enum (by rfl) T.n_enumerate (p_var (pv 0)))) (g_tup rfl (gs_cons (g_name (pg_name (i := 1) sc_need_ink.nd rfl (by first | exact Or.inl rfl | exact Or.inr rfl))) (gs_cons (g_name (pg_name (i := 2) sc_need_ink.nd rfl (by first | exact Or.inl rfl | exact Or.inr rfl))) gs_nil)))
    (s_one (s_if (t_p (PW.pt (w_or (q_not (q_val (p_b (p_at G_is_cell hr (by rfl) (a_cons (b_var (pv 2)) a_nil) (len_cons len_nil))))) (w_or1 (PW.pt (w_and (q_cmp (r_gt hr) d_ord (b_var (pv 1)) (p_b p_int) (nomark _)) (w_and1 (q_cmp (r_le hr) d_ord (b_var (pv 2)) (b_ix hr (b_var (pv 0)) (p_b (p_op op_sub d_sub (b_var (pv 1)) (p_b p_int))) (fun _ _ => rfl)) (nomark _))))))))) (s_one s_never) s_nil)))))
/-! need_shape -/
abbrev st_need_shape : Stmt := topS 17
abbrev N_need_shape : List Str := ["shape"]
theorem sc_need_shape : FnScope N_need_shape ["shape"] (defScope st_need_shape) := ⟨rfl, rfl, rfl, by decide +kernel, rfl, by decide +kernel, by decide +kernel⟩
def s_need_shape : ES := (sSeq (sDrop (mP (xCall F_need_ink (xsCons (xVar 0) xsNil))))
  (sIf (tP' (xBool (xOp oEq (xVar 0) (xTup xsNil)))) sNever sNext))
def F_need_shape : List D → Option D := fnP N_need_shape s_need_shape
theorem ok_need_shape (T : Top K mg) : FnAt P w K mg base 5 "need_shape" ["shape"] (spP K 1 F_need_shape) := by
  have G_need_ink := (ok_need_ink (P := P) (w := w) (base := base) T).mono (show 4 ≤ 4 by decide)
  exact at_p T.d_need_shape sc_need_shape fun f cdv A outer s H E hr => (s_cons (s_expr (m_p (p_at G_need_ink hr (by rfl) (a_cons (b_var (pv 0)) a_nil) (len_cons len_nil))))
    (s_one (s_if (t_p (q_cmp (r_eq hr) d_eq (b_var (pv 0)) (p_b (p_tup a_nil)) (nomark _))) (s_one s_never) s_nil)))
/-! made -/
abbrev st_made : Stmt := topS 15
abbrev N_made : List Str := ["cells", "found", "cell", "part"]
theorem sc_made : FnScope N_made ["cells"] (defScope st_made) := ⟨rfl, rfl, rfl, by decide +kernel, rfl, by decide +kernel, by decide +kernel⟩
def s_made : ES := (sSeq (sAsg (mP (xCall tupleD (xsCons (xCall sortedA (xsCons (xDict [2] (xIt (xVar 0)) (putB 2) yYes (xPure (xVar 2)) (xC (.bl true))) xsNil)) xsNil))) (put 1))
  (sSeq (sIf (tP' (yNot (xBool (xCall allD (xsCons (xComp2 [2, 3] [3] (xIt (xVar 1)) (putB 2) yYes (xIt (xPure (xVar 2))) (putB 3) yYes (xChain oLe oLe (xNeg (xC (.int 60))) (xVar 3) (xC (.int 60)))) xsNil))))) sNever sNext)
  (sSeq (sIf (tP' (xBool (xOp oGt (xCall lenD (xsCons (xVar 1) xsNil)) (xC (.int 400))))) sNever sNext)
  (sRet (mP (xPure (xVar 1)))))))
def F_made : List D → Option D := fnP N_made s_made
theorem ok_made (T : Top K mg) : FnAt P w K mg base 1 "made" ["cells"] (spP K 1 F_made) := by
  exact at_p T.d_made sc_made fun f cdv A outer s H E hr => (s_cons (s_set (i := 1) sc_made.nd rfl (by first | exact Or.inl rfl | exact Or.inr rfl) (m_p (p_callTy call_tuple_of d_tuple (by rfl) T.n_tuple (by decide +kernel) (a_cons (p_b (p_callB (c_sortedA rfl hr) d_sortedA (by rfl) T.n_sorted (by decide +kernel) (a_cons (p_b (p_dt (own := [("cell", 2)]) hr rfl sc_made.nd (i_seq (b_var (pv 0))) (blkOk_by (own := [("cell", 2)]) (N := N_made) (sc := defScope st_made) (by decide +kernel)) (fun _ _ _ _ _ => (gp_name (pg_name (i := 2) sc_made.nd rfl (by first | exact Or.inl rfl | exact Or.inr rfl)) (by simp))) (fun _ _ _ _ _ => qs_nil) (fun _ _ _ _ _ => (p_var (pv 2))) (fun _ _ _ _ _ => p_bl))) a_nil))) a_nil))))
    (s_cons (s_if (t_p (q_not (q_val (p_b (p_callB (cr_all rfl) d_all (by rfl) T.n_all (by decide +kernel) (a_cons (p_b (p_lc2 (own := [("cell", 2), ("part", 3)]) rfl sc_made.nd (i_seq (b_var (pv 1))) (blkOk_by (own := [("cell", 2), ("part", 3)]) (N := N_made) (sc := defScope st_made) (by decide +kernel)) (by decide) (go_put (by simp)) (fun _ _ _ _ _ => (gp_name (pg_name (i := 2) sc_made.nd rfl (by first | exact Or.inl rfl | exact Or.inr rfl)) (by simp))) (fun _ _ _ _ _ => qs_nil) (fun _ _ _ _ _ => (i_seq (p_var (pv 2)))) (fun _ _ _ _ _ => (gp_name (pg_name (i := 3) sc_made.nd rfl (by first | exact Or.inl rfl | exact Or.inr rfl)) (by simp))) (fun _ _ _ _ _ => qs_nil) (fun _ _ _ _ _ => (p_chain (r_le hr) d_ord (r_le hr) d_ord (p_b (p_neg' (p_b (p_gI (by rfl) T.k_MOST)))) (b_var (pv 3)) (p_b (p_gI (by rfl) T.k_MOST)))))) a_nil)))))) (s_one s_never) s_nil)
    (s_cons (s_if (t_p (q_cmp (r_gt hr) d_ord (p_b (p_callB c_len d_len (by rfl) T.n_len (by decide +kernel) (a_cons (b_var (pv 1)) a_nil))) (p_b (p_gI (by rfl) T.k_MOST_CELLS)) (nomark _))) (s_one s_never) s_nil)
    (s_one (s_ret (m_p (p_var (pv 1))))))))
/-! sum_of -/
abbrev st_sum_of : Stmt := topS 18
abbrev N_sum_of : List Str := ["ink", "shape", "row", "column", "down", "right"]
theorem sc_sum_of : FnScope N_sum_of ["ink", "shape"] (defScope st_sum_of) := ⟨rfl, rfl, rfl, by decide +kernel, rfl, by decide +kernel, by decide +kernel⟩
def s_sum_of : ES := (sRet (mP (xCall F_made (xsCons (xComp2 [2, 3, 4, 5] [4, 5] (xIt (xVar 0)) (gTupD 2 (gsCons (putB 2) (gsCons (putB 3) gsNil))) yYes (xIt (xPure (xVar 1))) (gTupD 2 (gsCons (putB 4) (gsCons (putB 5) gsNil))) yYes (xTup (xsCons (xOp oAdd (xVar 2) (xVar 4)) (xsCons (xOp oAdd (xVar 3) (xVar 5)) xsNil)))) xsNil))))
def F_sum_of : List D → Option D := fnP N_sum_of s_sum_of
theorem ok_sum_of (T : Top K mg) : FnAt P w K mg base 2 "sum_of" ["ink", "shape"] (spP K 2 F_sum_of) := by
  have G_made := (ok_made (P := P) (w := w) (base := base) T).mono (show 1 ≤ 1 by decide)
  exact at_p T.d_sum_of sc_sum_of fun f cdv A outer s H E hr => (s_one (s_ret (m_p (p_at G_made hr (by rfl) (a_cons (p_b (p_lc2 (own := [("row", 2), ("column", 3), ("down", 4), ("right", 5)]) rfl sc_sum_of.nd (i_seq (b_var (pv 0))) (blkOk_by (own := [("row", 2), ("column", 3), ("down", 4), ("right", 5)]) (N := N_sum_of) (sc := defScope st_sum_of) (by decide +kernel)) (by decide) (go_tup (gos_cons (go_put (by simp)) (gos_cons (go_put (by simp)) gos_nil))) (fun _ _ _ _ _ => (gp_tup rfl (gps_cons (gp_name (pg_name (i := 2) sc_sum_of.nd rfl (by first | exact Or.inl rfl | exact Or.inr rfl)) (by simp)) (gps_cons (gp_name (pg_name (i := 3) sc_sum_of.nd rfl (by first | exact Or.inl rfl | exact Or.inr rfl)) (by simp)) gps_nil)))) (fun _ _ _ _ _ => qs_nil) (fun _ _ _ _ _ => (i_seq (p_var (pv 1)))) (fun _ _ _ _ _ => (gp_tup rfl (gps_cons (gp_name (pg_name (i := 4) sc_sum_of.nd rfl (by first | exact Or.inl rfl | exact Or.inr rfl)) (by simp)) (gps_cons (gp_name (pg_name (i := 5) sc_sum_of.nd rfl (by first | exact Or.inl rfl | exact Or.inr rfl)) (by simp)) gps_nil)))) (fun _ _ _ _ _ => qs_nil) (fun _ _ _ _ _ => (p_tup (a_cons (p_op r_add d_add (b_var (pv 2)) (b_var (pv 4))) (a_cons (p_op r_add d_add (b_var (pv 3)) (b_var (pv 5))) a_nil)))))) a_nil) (len_cons len_nil)))))
/-! fits -/
abbrev st_fits : Stmt := topS 19
abbrev N_fits : List Str := ["cells", "place", "shape", "down", "right"]
theorem sc_fits : FnScope N_fits ["cells", "place", "shape"] (defScope st_fits) := ⟨rfl, rfl, rfl, by decide +kernel, rfl, by decide +kernel, by decide +kernel⟩
def s_fits : ES := (sRet (mP (xCall allD (xsCons (xComp [3, 4] (xIt (xVar 2)) (gTupD 2 (gsCons (putB 3) (gsCons (putB 4) gsNil))) yYes (xOp oIn (xTup (xsCons (xOp oAdd (xOp ixD (xVar 1) (xC (.int 0))) (xVar 3)) (xsCons (xOp oAdd (xOp ixD (xVar 1) (xC (.int 1))) (xVar 4)) xsNil))) (xVar 0))) xsNil))))
def F_fits : List D → Option D := fnP N_fits s_fits
theorem ok_fits (T : Top K mg) : FnAt P w K mg base 1 "fits" ["cells", "place", "shape"] (spP K 3 F_fits) := by
  exact at_p T.d_fits sc_fits fun f cdv A outer s H E hr => (s_one (s_ret (m_p (p_callB (cr_all rfl) d_all (by rfl) T.n_all (by decide +kernel) (a_cons (p_b (p_lc (own := [("down", 3), ("right", 4)]) rfl sc_fits.nd  (i_seq (b_var (pv 2))) (blkOk_by (own := [("down", 3), ("right", 4)]) (N := N_fits) (sc := defScope st_fits) (by decide +kernel)) (fun _ _ _ _ _ => (gp_tup rfl (gps_cons (gp_name (pg_name (i := 3) sc_fits.nd rfl (by first | exact Or.inl rfl | exact Or.inr rfl)) (by simp)) (gps_cons (gp_name (pg_name (i := 4) sc_fits.nd rfl (by first | exact Or.inl rfl | exact Or.inr rfl)) (by simp)) gps_nil)))) (fun _ _ _ _ _ => qs_nil) (fun _ _ _ _ _ => (p_cmp (r_in hr) d_in' (p_b (p_tup (a_cons (p_op r_add d_add (b_ix hr (b_var (pv 1)) (p_b p_int) (fun _ _ => rfl)) (b_var (pv 3))) (a_cons (p_op r_add d_add (b_ix hr (b_var (pv 1)) (p_b p_int) (fun _ _ => rfl)) (b_var (pv 4))) a_nil)))) (b_var (pv 0)) (by rfl))))) a_nil)))))
/-! shrunk -/
abbrev st_shrunk : Stmt := topS 20
abbrev N_shrunk : List Str := ["ink", "shape", "cells", "down", "right", "places", "cell", "row", "column", "place"]
theorem sc_shrunk : FnScope N_shrunk ["ink", "shape"] (defScope st_shrunk) := ⟨rfl, rfl, rfl, by decide +kernel, rfl, by decide +kernel, by decide +kernel⟩
def s_shrunk : ES := (sSeq (sAsg (mP (xTup (xsCons (xDict [6] (xIt (xVar 0)) (putB 6) yYes (xPure (xVar 6)) (xC (.bl true))) (xsCons (xPure (xOp ixD (xVar 1) (xC (.int 0)))) xsNil)))) (gTupD 2 (gsCons (put 2) (gsCons (gTupD 2 (gsCons (put 3) (gsCons (put 4) gsNil))) gsNil))))
  (sSeq (sAsg (mP (xComp [7, 8] (xIt (xVar 0)) (gTupD 2 (gsCons (putB 7) (gsCons (putB 8) gsNil))) yYes (xTup (xsCons (xOp oSub (xVar 7) (xVar 3)) (xsCons (xOp oSub (xVar 8) (xVar 4)) xsNil))))) (put 5))
  (sRet (mP (xCall F_made (xsCons (xComp [9] (xIt (xVar 5)) (putB 9) (xBool (xCall F_fits (xsCons (xVar 2) (xsCons (xVar 9) (xsCons (xVar 1) xsNil))))) (xPure (xVar 9))) xsNil))))))
def F_shrunk : List D → Option D := fnP N_shrunk s_shrunk
theorem ok_shrunk (T : Top K mg) : FnAt P w K mg base 2 "shrunk" ["ink", "shape"] (spP K 2 F_shrunk) := by
  have G_made := (ok_made (P := P) (w := w) (base := base) T).mono (show 1 ≤ 1 by decide)
  have G_fits := (ok_fits (P := P) (w := w) (base := base) T).mono (show 1 ≤ 1 by decide)
  exact at_p T.d_shrunk sc_shrunk fun f cdv A outer s H E hr => (s_cons (s_asg (m_p (p_tup (a_cons (p_dt (own := [("cell", 6)]) hr rfl sc_shrunk.nd (i_seq (b_var (pv 0))) (blkOk_by (own := [("cell", 6)]) (N := N_shrunk) (sc := defScope st_shrunk) (by decide +kernel)) (fun _ _ _ _ _ => (gp_name (pg_name (i := 6) sc_shrunk.nd rfl (by first | exact Or.inl rfl | exact Or.inr rfl)) (by simp))) (fun _ _ _ _ _ => qs_nil) (fun _ _ _ _ _ => (p_var (pv 6))) (fun _ _ _ _ _ => p_bl)) (a_cons (p_pure (b_ix hr (b_var (pv 1)) (p_b p_int) (fun _ _ => rfl))) a_nil)))) (g_tup rfl (gs_cons (g_name (pg_name (i := 2) sc_shrunk.nd rfl (by first | exact Or.inl rfl | exact Or.inr rfl))) (gs_cons (g_tup rfl (gs_cons (g_name (pg_name (i := 3) sc_shrunk.nd rfl (by first | exact Or.inl rfl | exact Or.inr rfl))) (gs_cons (g_name (pg_name (i := 4) sc_shrunk.nd rfl (by first | exact Or.inl rfl | exact Or.inr rfl))) gs_nil))) gs_nil))))
    (s_cons (s_setLc (i := 5) (own := [("row", 7), ("column", 8)]) rfl sc_shrunk.nd rfl rfl (sw_true rfl rfl rfl (by decide +kernel)) (i_seq (b_var (pv 0))) (blkOk_by (own := [("row", 7), ("column", 8)]) (N := N_shrunk) (sc := defScope st_shrunk) (by decide +kernel)) (fun _ _ _ _ _ => (gp_tup rfl (gps_cons (gp_name (pg_name (i := 7) sc_shrunk.nd rfl (by first | exact Or.inl rfl | exact Or.inr rfl)) (by simp)) (gps_cons (gp_name (pg_name (i := 8) sc_shrunk.nd rfl (by first | exact Or.inl rfl | exact Or.inr rfl)) (by simp)) gps_nil)))) (fun _ _ _ _ _ => qs_nil) (fun _ _ _ _ _ => (p_tup (a_cons (p_op op_sub d_sub (b_var (pv 7)) (b_var (pv 3))) (a_cons (p_op op_sub d_sub (b_var (pv 8)) (b_var (pv 4))) a_nil)))))
    (s_one (s_ret (m_p (p_at G_made hr (by rfl) (a_cons (p_b (p_lc (own := [("place", 9)]) rfl sc_shrunk.nd  (i_seq (b_var (pv 5))) (blkOk_by (own := [("place", 9)]) (N := N_shrunk) (sc := defScope st_shrunk) (by decide +kernel)) (fun _ _ _ _ _ => (gp_name (pg_name (i := 9) sc_shrunk.nd rfl (by first | exact Or.inl rfl | exact Or.inr rfl)) (by simp))) (fun _ _ _ _ _ => (qs_one (q_val (p_b (p_at G_fits hr (by rfl) (a_cons (b_var (pv 2)) (a_cons (b_var (pv 9)) (a_cons (b_var (pv 1)) a_nil))) (len_cons (len_cons (len_cons len_nil)))))))) (fun _ _ _ _ _ => (p_var (pv 9))))) a_nil) (len_cons len_nil)))))))
/-! opened -/
abbrev st_opened : Stmt := topS 23
abbrev N_opened : List Str := ["ink", "shape"]
theorem sc_opened : FnScope N_opened ["ink", "shape"] (defScope st_opened) := ⟨rfl, rfl, rfl, by decide +kernel, rfl, by decide +kernel, by decide +kernel⟩
def s_opened : ES := (sSeq (sDrop (mP (xCall F_need_ink (xsCons (xVar 0) xsNil))))
  (sSeq (sDrop (mP (xCall F_need_shape (xsCons (xVar 1) xsNil))))
  (sRet (mP (xCall F_sum_of (xsCons (xCall F_shrunk (xsCons (xVar 0) (xsCons (xVar 1) xsNil))) (xsCons (xVar 1) xsNil)))))))
def F_opened : List D → Option D := fnP N_opened s_opened
theorem ok_opened (T : Top K mg) : FnAt P w K mg base 6 "opened" ["ink", "shape"] (spP K 2 F_opened) := by
  have G_need_ink := (ok_need_ink (P := P) (w := w) (base := base) T).mono (show 4 ≤ 5 by decide)
  have G_need_shape := (ok_need_shape (P := P) (w := w) (base := base) T).mono (show 5 ≤ 5 by decide)
  have G_sum_of := (ok_sum_of (P := P) (w := w) (base := base) T).mono (show 2 ≤ 5 by decide)
  have G_shrunk := (ok_shrunk (P := P) (w := w) (base := base) T).mono (show 2 ≤ 5 by decide)
  exact at_p T.d_opened sc_opened fun f cdv A outer s H E hr => (s_cons (s_expr (m_p (p_at G_need_ink hr (by rfl) (a_cons (b_var (pv 0)) a_nil) (len_cons len_nil))))
    (s_cons (s_expr (m_p (p_at G_need_shape hr (by rfl) (a_cons (b_var (pv 1)) a_nil) (len_cons len_nil))))
    (s_one (s_ret (m_p (p_at G_sum_of hr (by rfl) (a_cons (p_b (p_at G_shrunk hr (by rfl) (a_cons (b_var (pv 0)) (a_cons (b_var (pv 1)) a_nil)) (len_cons (len_cons len_nil)))) (a_cons (b_var (pv 1)) a_nil)) (len_cons (len_cons len_nil))))))))
/-! eroded -/
abbrev st_eroded : Stmt := topS 22
abbrev N_eroded : List Str := ["ink", "shape"]
theorem sc_eroded : FnScope N_eroded ["ink", "shape"] (defScope st_eroded) := ⟨rfl, rfl, rfl, by decide +kernel, rfl, by decide +kernel, by decide +kernel⟩
def s_eroded : ES := (sSeq (sDrop (mP (xCall F_need_ink (xsCons (xVar 0) xsNil))))
  (sSeq (sDrop (mP (xCall F_need_shape (xsCons (xVar 1) xsNil))))
  (sRet (mP (xCall F_shrunk (xsCons (xVar 0) (xsCons (xVar 1) xsNil)))))))
def F_eroded : List D → Option D := fnP N_eroded s_eroded
theorem ok_eroded (T : Top K mg) : FnAt P w K mg base 6 "eroded" ["ink", "shape"] (spP K 2 F_eroded) := by
  have G_need_ink := (ok_need_ink (P := P) (w := w) (base := base) T).mono (show 4 ≤ 5 by decide)
  have G_need_shape := (ok_need_shape (P := P) (w := w) (base := base) T).mono (show 5 ≤ 5 by decide)
  have G_shrunk := (ok_shrunk (P := P) (w := w) (base := base) T).mono (show 2 ≤ 5 by decide)
  exact at_p T.d_eroded sc_eroded fun f cdv A outer s H E hr => (s_cons (s_expr (m_p (p_at G_need_ink hr (by rfl) (a_cons (b_var (pv 0)) a_nil) (len_cons len_nil))))
    (s_cons (s_expr (m_p (p_at G_need_shape hr (by rfl) (a_cons (b_var (pv 1)) a_nil) (len_cons len_nil))))
    (s_one (s_ret (m_p (p_at G_shrunk hr (by rfl) (a_cons (b_var (pv 0)) (a_cons (b_var (pv 1)) a_nil)) (len_cons (len_cons len_nil))))))))
/-! _law_taken -/
abbrev st_law_taken : Stmt := topS 26
abbrev N_law_taken : List Str := ["_law_row", "_law_many", "_law_found", "_law_cell"]
theorem sc_law_taken : FnScope N_law_taken ["_law_row", "_law_many"] (defScope st_law_taken) := ⟨rfl, rfl, rfl, by decide +kernel, rfl, by decide +kernel, by decide +kernel⟩
def s_law_taken : ES := (sSeq (sIf (tP' (xBool (xOp oGt (xOp ixD (xVar 0) (xC (.int 3))) (xC (.int 0))))) (sSeq (sAsg (mP (xOp oMod (xCall intD (xsCons (xOp ixD (xVar 0) (xC (.int 3))) xsNil)) (xVar 1))) (put 2))
  (sSeq (sAsg (mP (xOp oFdiv (xOp ixD (xVar 0) (xC (.int 3))) (xVar 1))) (gSub' 0 (xC (.int 3)) setL))
  (sRet (mP (xPure (xVar 2)))))) sNext)
  (sSeq (sAsg (mP (xOp oAdd (xOp ixD (xVar 0) (xC (.int 1))) (xC (.int 1)))) (gSub' 0 (xC (.int 1)) setL))
  (sSeq (sIf (tP' (xBool (xOp oGt (xOp ixD (xVar 0) (xC (.int 1))) (xCall lenD (xsCons (xOp ixD (xVar 0) (xC (.int 0))) xsNil))))) (sSeq (sAsg (mP (xOp oMod (xCall intD (xsCons (xOp oAdd (xOp oMul (xOp ixD (xVar 0) (xC (.int 2))) (xC (.int 48271))) (xC (.int 11))) xsNil)) (xC (.int 2147483647)))) (gSub' 0 (xC (.int 2)) setL))
  (sRet (mP (xOp oMod (xCall intD (xsCons (xOp oFdiv (xOp ixD (xVar 0) (xC (.int 2))) (xC (.int 7))) xsNil)) (xVar 1))))) sNext)
  (sSeq (sAsg (mP (xPure (xOp ixD (xOp ixD (xVar 0) (xC (.int 0))) (xOp oSub (xOp ixD (xVar 0) (xC (.int 1))) (xC (.int 1)))))) (put 3))
  (sSeq (sAsg (mP (xOp oMod (xCall intD (xsCons (xOp oAdd (xOp oAdd (xOp oMul (xOp ixD (xVar 0) (xC (.int 2))) (xC (.int 48271))) (xVar 3)) (xC (.int 11))) xsNil)) (xC (.int 2147483647)))) (gSub' 0 (xC (.int 2)) setL))
  (sSeq (sIf (tP' (xBool (xOp oGe (xVar 3) (xOp oPow (xC (.int 10)) (xC (.int 18)))))) (sAsg (mP (xOp oFdiv (xVar 3) (xVar 1))) (gSub' 0 (xC (.int 3)) setL)) sNext)
  (sRet (mP (xOp oMod (xCall intD (xsCons (xVar 3) xsNil)) (xVar 1))))))))))
def F_law_taken : D → List D → Option (D × D) := fnR N_law_taken s_law_taken
theorem ok_law_taken (T : Top K mg) : FnAt P w K mg base 1 "_law_taken" ["_law_row", "_law_many"] (spR K 1 F_law_taken) := by
  exact at_r T.d_law_taken sc_law_taken rfl fun f cdv A outer s H E hr => (s_cons (s_if (t_p (q_cmp (r_gt hr) d_ord (b_ix hr (b_var (pv 0)) (p_b p_int) (fun _ _ => rfl)) (p_b p_int) (nomark _))) (s_cons (s_set (i := 2) sc_law_taken.nd rfl (by first | exact Or.inl rfl | exact Or.inr rfl) (m_p (p_op op_modN d_mod (p_b (p_callTy call_int1 d_int (by rfl) T.n_int (by decide +kernel) (a_cons (b_ix hr (b_var (pv 0)) (p_b p_int) (fun _ _ => rfl)) a_nil))) (b_var (pv 1)))))
    (s_cons (s_asg (m_p (p_op op_fdivN d_fdiv (b_ix hr (b_var (pv 0)) (p_b p_int) (fun _ _ => rfl)) (b_var (pv 1)))) (g_sub (pv 0) (p_b p_int) set_list st_list))
    (s_one (s_ret (m_p (p_var (pv 2))))))) s_nil)
    (s_cons (s_asg (m_p (p_op r_add d_add (b_ix hr (b_var (pv 0)) (p_b p_int) (fun _ _ => rfl)) (p_b p_int))) (g_sub (pv 0) (p_b p_int) set_list st_list))
    (s_cons (s_if (t_p (q_cmp (r_gt hr) d_ord (b_ix hr (b_var (pv 0)) (p_b p_int) (fun _ _ => rfl)) (p_b (p_callB c_len d_len (by rfl) T.n_len (by decide +kernel) (a_cons (b_ix hr (b_var (pv 0)) (p_b p_int) (fun _ _ => rfl)) a_nil))) (nomark _))) (s_cons (s_asg (m_p (p_op op_modN d_mod (p_b (p_callTy call_int1 d_int (by rfl) T.n_int (by decide +kernel) (a_cons (p_b (p_op r_add d_add (p_b (p_op op_mul d_mul (b_ix hr (b_var (pv 0)) (p_b p_int) (fun _ _ => rfl)) (p_b p_int))) (p_b p_int))) a_nil))) (p_b p_int))) (g_sub (pv 0) (p_b p_int) set_list st_list))
    (s_one (s_ret (m_p (p_op op_modN d_mod (p_b (p_callTy call_int1 d_int (by rfl) T.n_int (by decide +kernel) (a_cons (p_b (p_op op_fdivN d_fdiv (b_ix hr (b_var (pv 0)) (p_b p_int) (fun _ _ => rfl)) (p_b p_int))) a_nil))) (b_var (pv 1))))))) s_nil)
    (s_cons (s_set (i := 3) sc_law_taken.nd rfl (by first | exact Or.inl rfl | exact Or.inr rfl) (m_p (p_pure (b_ix hr (b_ix hr (b_var (pv 0)) (p_b p_int) (fun _ _ => rfl)) (p_b (p_op op_sub d_sub (b_ix hr (b_var (pv 0)) (p_b p_int) (fun _ _ => rfl)) (p_b p_int))) (fun _ _ => rfl)))))
    (s_cons (s_asg (m_p (p_op op_modN d_mod (p_b (p_callTy call_int1 d_int (by rfl) T.n_int (by decide +kernel) (a_cons (p_b (p_op r_add d_add (p_b (p_op r_add d_add (p_b (p_op op_mul d_mul (b_ix hr (b_var (pv 0)) (p_b p_int) (fun _ _ => rfl)) (p_b p_int))) (b_var (pv 3)))) (p_b p_int))) a_nil))) (p_b p_int))) (g_sub (pv 0) (p_b p_int) set_list st_list))
    (s_cons (s_if (t_p (q_cmp (r_ge hr) d_ord (b_var (pv 3)) (p_b (p_op op_pow d_pow (p_b p_int) (p_b p_int))) (nomark _))) (s_one (s_asg (m_p (p_op op_fdivN d_fdiv (b_var (pv 3)) (b_var (pv 1)))) (g_sub (pv 0) (p_b p_int) set_list st_list))) s_nil)
    (s_one (s_ret (m_p (p_op op_modN d_mod (p_b (p_callTy call_int1 d_int (by rfl) T.n_int (by decide +kernel) (a_cons (b_var (pv 3)) a_nil))) (b_var (pv 1))))))))))))
/-! _law_pick -/
abbrev st_law_pick : Stmt := topS 27
abbrev N_law_pick : List Str := ["_law_row", "_law_things"]
theorem sc_law_pick : FnScope N_law_pick ["_law_row", "_law_things"] (defScope st_law_pick) := ⟨rfl, rfl, rfl, by decide +kernel, rfl, by decide +kernel, by decide +kernel⟩
def s_law_pick : ES := (sRet (mIxV 1 (mCallR F_law_taken 0 (msCons (mP (xCall lenD (xsCons (xVar 1) xsNil))) msNil))))
def F_law_pick : D → List D → Option (D × D) := fnR N_law_pick s_law_pick
theorem ok_law_pick (T : Top K mg) : FnAt P w K mg base 2 "_law_pick" ["_law_row", "_law_things"] (spR K 1 F_law_pick) := by
  have G_law_taken := (ok_law_taken (P := P) (w := w) (base := base) T).mono (show 1 ≤ 1 by decide)
  exact at_r T.d_law_pick sc_law_pick rfl fun f cdv A outer s H E hr => (s_one (s_ret (m_ixV hr (pv 1) (m_atR G_law_taken hr (by rfl) (pv 0) (ms_cons (m_p (p_callB c_len d_len (by rfl) T.n_len (by decide +kernel) (a_cons (b_var (pv 1)) a_nil))) ms_nil) (msn_cons msn_nil)) (fun _ _ => rfl))))
/-! _law_signed -/
abbrev st_law_signed : Stmt := topS 28
abbrev N_law_signed : List Str := ["_law_row", "_law_most"]
theorem sc_law_signed : FnScope N_law_signed ["_law_row", "_law_most"] (defScope st_law_signed) := ⟨rfl, rfl, rfl, by decide +kernel, rfl, by decide +kernel, by decide +kernel⟩
def s_law_signed : ES := (sRet (mOp oSub (mCallR F_law_taken 0 (msCons (mP (xOp oAdd (xOp oMul (xC (.int 2)) (xVar 1)) (xC (.int 1)))) msNil)) (mP (xPure (xVar 1)))))
def F_law_signed : D → List D → Option (D × D) := fnR N_law_signed s_law_signed
theorem ok_law_signed (T : Top K mg) : FnAt P w K mg base 2 "_law_signed" ["_law_row", "_law_most"] (spR K 1 F_law_signed) := by
  have G_law_taken := (ok_law_taken (P := P) (w := w) (base := base) T).mono (show 1 ≤ 1 by decide)
  exact at_r T.d_law_signed sc_law_signed rfl fun f cdv A outer s H E hr => (s_one (s_ret (m_op op_sub d_sub (m_atR G_law_taken hr (by rfl) (pv 0) (ms_cons (m_p (p_op r_add d_add (p_b (p_op op_mul d_mul (p_b p_int) (b_var (pv 1)))) (p_b p_int))) ms_nil) (msn_cons msn_nil)) (m_p (p_var (pv 1))))))
/-! _law_ink -/
abbrev st_law_ink : Stmt := topS 29
abbrev N_law_ink : List Str := ["_law_row", "_law_high", "_law_wide", "_law_way", "_law_found", "_law_every", "_law_line", "_law_dense", "_law_cell", "_law_turn", "_law_top", "_law_left", "_law_bottom", "_law_right", "_law_column", "_law_inner", "_law_here", "_law_down"]
theorem sc_law_ink : FnScope N_law_ink ["_law_row", "_law_high", "_law_wide"] (defScope st_law_ink) := ⟨rfl, rfl, rfl, by decide +kernel, rfl, by decide +kernel, by decide +kernel⟩
def s_law_ink : ES := (sSeq (sPar 3 4 (msCons (mCallR F_law_taken 0 (msCons (mP (xC (.int 6))) msNil)) (msCons (mP (xC (.dT [] []))) msNil)))
  (sSeq (sAsg (mP (xLst xsNil)) (put 5))
  (sSeq (sFor (iP (xRng1 (xsCons (xVar 1) xsNil))) (put 6)
  (sAsg (mP (xOp oAdd (xVar 5) (xComp [14] (xRng1 (xsCons (xVar 2) xsNil)) (putB 14) yYes (xTup (xsCons (xPure (xVar 6)) (xsCons (xPure (xVar 14)) xsNil)))))) (put 5)))
  (sSeq (sIf (tP' (xBool (xOp oLt (xVar 3) (xC (.int 2))))) (sSeq (sAsg (mCallR F_law_pick 0 (msCons (mP (xLst (xsCons (xC (.int 2)) (xsCons (xC (.int 2)) (xsCons (xC (.int 3)) (xsCons (xC (.int 4)) xsNil)))))) msNil)) (put 7))
  (sLend 5 (sFor (srcB 5) (put 8)
  (sIf (mBool (mOp oEq (mOp oEq (mCallR F_law_taken 0 (msCons (mP (xPure (xVar 7))) msNil)) (mP (xC (.int 0)))) (mP (xOp oEq (xVar 3) (xC (.int 0)))))) (sAsg (mP (xC (.bl true))) (gSub' 4 (xVar 8) setT)) sNext)))) (sIf (tP' (xBool (xOp oLt (xVar 3) (xC (.int 4))))) (sFor (mRng1 (msCons (mOp oAdd (mP (xC (.int 1))) (mCallR F_law_taken 0 (msCons (mP (xC (.int 4))) msNil))) msNil)) (put 9)
  (sSeq (sPar 10 11 (msCons (mCallR F_law_taken 0 (msCons (mP (xPure (xVar 1))) msNil)) (msCons (mCallR F_law_taken 0 (msCons (mP (xPure (xVar 2))) msNil)) msNil)))
  (sSeq (sAsg (mTup (msCons (mOp oAdd (mP (xOp oAdd (xVar 10) (xC (.int 1)))) (mCallR F_law_taken 0 (msCons (mP (xOp oSub (xVar 1) (xVar 10))) msNil))) (msCons (mOp oAdd (mP (xOp oAdd (xVar 11) (xC (.int 1)))) (mCallR F_law_taken 0 (msCons (mP (xOp oSub (xVar 2) (xVar 11))) msNil))) msNil))) (gTupD 2 (gsCons (put 12) (gsCons (put 13) gsNil))))
  (sLend 5 (sFor (srcB 5) (gTupD 2 (gsCons (put 6) (gsCons (put 14) gsNil)))
  (sSeq (sAsg (mP (xAnd (xChain oLt oLt (xVar 10) (xVar 6) (xOp oSub (xVar 12) (xC (.int 1)))) (xChain oLt oLt (xVar 11) (xVar 14) (xOp oSub (xVar 13) (xC (.int 1)))))) (put 15))
  (sIf (tP' (yAnd (xBool (xChain oLe oLt (xVar 10) (xVar 6) (xVar 12))) (yAnd (xBool (xChain oLe oLt (xVar 11) (xVar 14) (xVar 13))) (yOr (xBool (xOp oEq (xVar 3) (xC (.int 2)))) (yNot (xBool (xVar 15))))))) (sAsg (mP (xC (.bl true))) (gSub' 4 (xTup (xsCons (xPure (xVar 6)) (xsCons (xPure (xVar 14)) xsNil))) setT)) sNext))))))) (sSeq (sAsg (mTup (msCons (mCallR F_law_taken 0 (msCons (mP (xPure (xVar 1))) msNil)) (msCons (mCallR F_law_taken 0 (msCons (mP (xPure (xVar 2))) msNil)) msNil))) (put 16))
  (sFor (mRng1 (msCons (mOp oAdd (mP (xC (.int 1))) (mCallR F_law_taken 0 (msCons (mP (xOp oMul (xVar 1) (xVar 2))) msNil))) msNil)) (put 9)
  (sSeq (sAsg (mP (xC (.bl true))) (gSub' 4 (xVar 16) setT))
  (sSeq (sAsg (mCallR F_law_pick 0 (msCons (mP (xOp oAdd (xLst (xsCons (xTup (xsCons (xC (.int 0)) (xsCons (xC (.int 1)) xsNil))) (xsCons (xTup (xsCons (xC (.int 0)) (xsCons (xNeg (xC (.int 1))) xsNil))) (xsCons (xTup (xsCons (xC (.int 1)) (xsCons (xC (.int 0)) xsNil))) (xsCons (xTup (xsCons (xNeg (xC (.int 1))) (xsCons (xC (.int 0)) xsNil))) xsNil))))) (xOp oRep (xLst (xsCons (xTup (xsCons (xC (.int 1)) (xsCons (xC (.int 1)) xsNil))) (xsCons (xTup (xsCons (xNeg (xC (.int 1))) (xsCons (xC (.int 1)) xsNil))) xsNil))) (xOp oSub (xVar 3) (xC (.int 4)))))) msNil)) (gTupD 2 (gsCons (put 17) (gsCons (put 13) gsNil))))
  (sIf (tP' (yAnd (xBool (xChain oLe oLt (xC (.int 0)) (xOp oAdd (xOp ixD (xVar 16) (xC (.int 0))) (xVar 17)) (xVar 1))) (xBool (xChain oLe oLt (xC (.int 0)) (xOp oAdd (xOp ixD (xVar 16) (xC (.int 1))) (xVar 13)) (xVar 2))))) (sAsg (mP (xTup (xsCons (xOp oAdd (xOp ixD (xVar 16) (xC (.int 0))) (xVar 17)) (xsCons (xOp oAdd (xOp ixD (xVar 16) (xC (.int 1))) (xVar 13)) xsNil)))) (put 16)) sNext)))))))
  (sSeq (sAsg (mIf (mBool (mOp oEq (mCallR F_law_taken 0 (msCons (mP (xC (.int 4))) msNil)) (mP (xC (.int 0))))) (mTup (msCons (mCallR F_law_signed 0 (msCons (mP (xC (.int 9))) msNil)) (msCons (mCallR F_law_signed 0 (msCons (mP (xC (.int 9))) msNil)) msNil))) (mP (xTup (xsCons (xC (.int 0)) (xsCons (xC (.int 0)) xsNil))))) (gTupD 2 (gsCons (put 17) (gsCons (put 13) gsNil))))
  (sRet (mP (xCall tupleD (xsCons (xCall sortedA (xsCons (xComp [6, 14] (xIt (xCall listA (xsCons (xVar 4) xsNil))) (gTupD 2 (gsCons (putB 6) (gsCons (putB 14) gsNil))) yYes (xTup (xsCons (xOp oAdd (xVar 6) (xVar 17)) (xsCons (xOp oAdd (xVar 14) (xVar 13)) xsNil)))) xsNil)) xsNil)))))))))
def F_law_ink : D → List D → Option (D × D) := fnR N_law_ink s_law_ink
theorem ok_law_ink (T : Top K mg) : FnAt P w K mg base 3 "_law_ink" ["_law_row", "_law_high", "_law_wide"] (spR K 2 F_law_ink) := by
  have G_law_taken := (ok_law_taken (P := P) (w := w) (base := base) T).mono (show 1 ≤ 2 by decide)
  have G_law_pick := (ok_law_pick (P := P) (w := w) (base := base) T).mono (show 2 ≤ 2 by decide)
  have G_law_signed := (ok_law_signed (P := P) (w := w) (base := base) T).mono (show 2 ≤ 2 by decide)
  exact at_r T.d_law_ink sc_law_ink rfl fun f cdv A outer s H E hr => (s_cons (s_par (i := 3) (j := 4) rfl sc_law_ink.nd rfl rfl (by decide) rfl rfl (ms_cons (m_atR G_law_taken hr (by rfl) (pv 0) (ms_cons (m_p p_int) ms_nil) (msn_cons msn_nil)) (ms_cons (m_p p_dict0) ms_nil)) (by rfl))
    (s_cons (s_set (i := 5) sc_law_ink.nd rfl (by first | exact Or.inl rfl | exact Or.inr rfl) (m_p (p_lst a_nil)))
    (s_cons (s_for PassesOwn.never rfl (i_p (i_rng1 (by rfl) T.n_range (a_cons (b_var (pv 1)) a_nil))) (g_name (pg_name (i := 6) sc_law_ink.nd rfl (by first | exact Or.inl rfl | exact Or.inr rfl)))
    (s_one (s_set (i := 5) sc_law_ink.nd rfl (by first | exact Or.inl rfl | exact Or.inr rfl) (m_p (p_op r_add d_add (b_var (pv 5)) (p_b (p_lc (own := [("_law_column", 14)]) rfl sc_law_ink.nd  (i_rng1 (by rfl) T.n_range (a_cons (b_var (pv 2)) a_nil)) (blkOk_by (own := [("_law_column", 14)]) (N := N_law_ink) (sc := defScope st_law_ink) (by decide +kernel)) (fun _ _ _ _ _ => (gp_name (pg_name (i := 14) sc_law_ink.nd rfl (by first | exact Or.inl rfl | exact Or.inr rfl)) (by simp))) (fun _ _ _ _ _ => qs_nil) (fun _ _ _ _ _ => (p_tup (a_cons (p_var (pv 6)) (a_cons (p_var (pv 14)) a_nil)))))))))))
    (s_cons (s_if (t_p (q_cmp (r_lt hr) d_ord (b_var (pv 3)) (p_b p_int) (nomark _))) (s_cons (s_set (i := 7) sc_law_ink.nd rfl (by first | exact Or.inl rfl | exact Or.inr rfl) (m_atR G_law_pick hr (by rfl) (pv 0) (ms_cons (m_p (p_lst (a_cons p_int (a_cons p_int (a_cons p_int (a_cons p_int a_nil)))))) ms_nil) (msn_cons msn_nil)))
    (s_one (s_lend (i := 5) (s_for PassesOwn.never rfl (i_varB (pv 5)) (g_name (pg_name (i := 8) sc_law_ink.nd rfl (by first | exact Or.inl rfl | exact Or.inr rfl)))
    (s_one (s_if (t_cmp (r_eq hr) d_eq (m_cmp (r_eq hr) d_eq (m_atR G_law_taken hr (by rfl) (pv 0) (ms_cons (m_p (p_var (pv 7))) ms_nil) (msn_cons msn_nil)) (m_p p_int) (nomark _)) (m_p (p_cmp (r_eq hr) d_eq (b_var (pv 3)) (p_b p_int) (nomark _))) (nomark _)) (s_one (s_asg (m_p p_bl) (g_sub (pv 4) (b_var (pv 8)) (set_dict (hu_of hr)) st_dict))) s_nil)))))) (s_one (s_if (t_p (q_cmp (r_lt hr) d_ord (b_var (pv 3)) (p_b p_int) (nomark _))) (s_one (s_for PassesOwn.never rfl (i_mrng1 (by rfl) T.n_range (ms_cons (m_op r_add d_add (m_p p_int) (m_atR G_law_taken hr (by rfl) (pv 0) (ms_cons (m_p p_int) ms_nil) (msn_cons msn_nil))) ms_nil)) (g_name (pg_name (i := 9) sc_law_ink.nd rfl (by first | exact Or.inl rfl | exact Or.inr rfl)))
    (s_cons (s_par (i := 10) (j := 11) rfl sc_law_ink.nd rfl rfl (by decide) rfl rfl (ms_cons (m_atR G_law_taken hr (by rfl) (pv 0) (ms_cons (m_p (p_var (pv 1))) ms_nil) (msn_cons msn_nil)) (ms_cons (m_atR G_law_taken hr (by rfl) (pv 0) (ms_cons (m_p (p_var (pv 2))) ms_nil) (msn_cons msn_nil)) ms_nil)) (by rfl))
    (s_cons (s_asg (m_tup (ms_cons (m_op r_add d_add (m_p (p_op r_add d_add (b_var (pv 10)) (p_b p_int))) (m_atR G_law_taken hr (by rfl) (pv 0) (ms_cons (m_p (p_op op_sub d_sub (b_var (pv 1)) (b_var (pv 10)))) ms_nil) (msn_cons msn_nil))) (ms_cons (m_op r_add d_add (m_p (p_op r_add d_add (b_var (pv 11)) (p_b p_int))) (m_atR G_law_taken hr (by rfl) (pv 0) (ms_cons (m_p (p_op op_sub d_sub (b_var (pv 2)) (b_var (pv 11)))) ms_nil) (msn_cons msn_nil))) ms_nil))) (g_tup rfl (gs_cons (g_name (pg_name (i := 12) sc_law_ink.nd rfl (by first | exact Or.inl rfl | exact Or.inr rfl))) (gs_cons (g_name (pg_name (i := 13) sc_law_ink.nd rfl (by first | exact Or.inl rfl | exact Or.inr rfl))) gs_nil))))
    (s_one (s_lend (i := 5) (s_for PassesOwn.never rfl (i_varB (pv 5)) (g_tup rfl (gs_cons (g_name (pg_name (i := 6) sc_law_ink.nd rfl (by first | exact Or.inl rfl | exact Or.inr rfl))) (gs_cons (g_name (pg_name (i := 14) sc_law_ink.nd rfl (by first | exact Or.inl rfl | exact Or.inr rfl))) gs_nil)))
    (s_cons (s_set (i := 15) sc_law_ink.nd rfl (by first | exact Or.inl rfl | exact Or.inr rfl) (m_p (p_and (p_b (p_chain (r_lt hr) d_ord (r_lt hr) d_ord (b_var (pv 10)) (b_var (pv 6)) (p_b (p_op op_sub d_sub (b_var (pv 12)) (p_b p_int))))) (p_one (p_chain (r_lt hr) d_ord (r_lt hr) d_ord (b_var (pv 11)) (b_var (pv 14)) (p_b (p_op op_sub d_sub (b_var (pv 13)) (p_b p_int))))))))
    (s_one (s_if (t_p (PW.pt (w_and (q_chain (r_le hr) d_ord (r_lt hr) d_ord (b_var (pv 10)) (b_var (pv 6)) (b_var (pv 12))) (w_and (q_chain (r_le hr) d_ord (r_lt hr) d_ord (b_var (pv 11)) (b_var (pv 14)) (b_var (pv 13))) (w_and1 (PW.pt (w_or (q_cmp (r_eq hr) d_eq (b_var (pv 3)) (p_b p_int) (nomark _)) (w_or1 (q_not (q_val (b_var (pv 15)))))))))))) (s_one (s_asg (m_p p_bl) (g_sub (pv 4) (p_b (p_tup (a_cons (p_var (pv 6)) (a_cons (p_var (pv 14)) a_nil)))) (set_dict (hu_of hr)) st_dict))) s_nil)))))))))) (s_cons (s_set (i := 16) sc_law_ink.nd rfl (by first | exact Or.inl rfl | exact Or.inr rfl) (m_tup (ms_cons (m_atR G_law_taken hr (by rfl) (pv 0) (ms_cons (m_p (p_var (pv 1))) ms_nil) (msn_cons msn_nil)) (ms_cons (m_atR G_law_taken hr (by rfl) (pv 0) (ms_cons (m_p (p_var (pv 2))) ms_nil) (msn_cons msn_nil)) ms_nil))))
    (s_one (s_for PassesOwn.never rfl (i_mrng1 (by rfl) T.n_range (ms_cons (m_op r_add d_add (m_p p_int) (m_atR G_law_taken hr (by rfl) (pv 0) (ms_cons (m_p (p_op op_mul d_mul (b_var (pv 1)) (b_var (pv 2)))) ms_nil) (msn_cons msn_nil))) ms_nil)) (g_name (pg_name (i := 9) sc_law_ink.nd rfl (by first | exact Or.inl rfl | exact Or.inr rfl)))
    (s_cons (s_asg (m_p p_bl) (g_sub (pv 4) (b_var (pv 16)) (set_dict (hu_of hr)) st_dict))
    (s_cons (s_asg (m_atR G_law_pick hr (by rfl) (pv 0) (ms_cons (m_p (p_op r_add d_add (p_b (p_lst (a_cons (p_tup (a_cons p_int (a_cons p_int a_nil))) (a_cons (p_tup (a_cons p_int (a_cons (p_neg' (p_b p_int)) a_nil))) (a_cons (p_tup (a_cons p_int (a_cons p_int a_nil))) (a_cons (p_tup (a_cons (p_neg' (p_b p_int)) (a_cons p_int a_nil))) a_nil)))))) (p_b (p_rep (p_lst (a_cons (p_tup (a_cons p_int (a_cons p_int a_nil))) (a_cons (p_tup (a_cons (p_neg' (p_b p_int)) (a_cons p_int a_nil))) a_nil))) (p_b (p_op op_sub d_sub (b_var (pv 3)) (p_b p_int))))))) ms_nil) (msn_cons msn_nil)) (g_tup rfl (gs_cons (g_name (pg_name (i := 17) sc_law_ink.nd rfl (by first | exact Or.inl rfl | exact Or.inr rfl))) (gs_cons (g_name (pg_name (i := 13) sc_law_ink.nd rfl (by first | exact Or.inl rfl | exact Or.inr rfl))) gs_nil))))
    (s_one (s_if (t_p (PW.pt (w_and (q_chain (r_le hr) d_ord (r_lt hr) d_ord (p_b p_int) (p_b (p_op r_add d_add (b_ix hr (b_var (pv 16)) (p_b p_int) (fun _ _ => rfl)) (b_var (pv 17)))) (b_var (pv 1))) (w_and1 (q_chain (r_le hr) d_ord (r_lt hr) d_ord (p_b p_int) (p_b (p_op r_add d_add (b_ix hr (b_var (pv 16)) (p_b p_int) (fun _ _ => rfl)) (b_var (pv 13)))) (b_var (pv 2))))))) (s_one (s_set (i := 16) sc_law_ink.nd rfl (by first | exact Or.inl rfl | exact Or.inr rfl) (m_p (p_tup (a_cons (p_op r_add d_add (b_ix hr (b_var (pv 16)) (p_b p_int) (fun _ _ => rfl)) (b_var (pv 17))) (a_cons (p_op r_add d_add (b_ix hr (b_var (pv 16)) (p_b p_int) (fun _ _ => rfl)) (b_var (pv 13))) a_nil)))))) s_nil))))))))))
    (s_cons (s_asg (m_if (t_cmp (r_eq hr) d_eq (m_atR G_law_taken hr (by rfl) (pv 0) (ms_cons (m_p p_int) ms_nil) (msn_cons msn_nil)) (m_p p_int) (nomark _)) (m_tup (ms_cons (m_atR G_law_signed hr (by rfl) (pv 0) (ms_cons (m_p p_int) ms_nil) (msn_cons msn_nil)) (ms_cons (m_atR G_law_signed hr (by rfl) (pv 0) (ms_cons (m_p p_int) ms_nil) (msn_cons msn_nil)) ms_nil))) (m_p (p_tup (a_cons p_int (a_cons p_int a_nil))))) (g_tup rfl (gs_cons (g_name (pg_name (i := 17) sc_law_ink.nd rfl (by first | exact Or.inl rfl | exact Or.inr rfl))) (gs_cons (g_name (pg_name (i := 13) sc_law_ink.nd rfl (by first | exact Or.inl rfl | exact Or.inr rfl))) gs_nil))))
    (s_one (s_ret (m_p (p_callTy call_tuple_of d_tuple (by rfl) T.n_tuple (by decide +kernel) (a_cons (p_b (p_callB (c_sortedA rfl hr) d_sortedA (by rfl) T.n_sorted (by decide +kernel) (a_cons (p_b (p_lc (own := [("_law_line", 6), ("_law_column", 14)]) rfl sc_law_ink.nd  (i_seq (p_callTy (c_listA rfl) d_listA (by rfl) T.n_list (by decide +kernel) (a_cons (b_var (pv 4)) a_nil))) (blkOk_by (own := [("_law_line", 6), ("_law_column", 14)]) (N := N_law_ink) (sc := defScope st_law_ink) (by decide +kernel)) (fun _ _ _ _ _ => (gp_tup rfl (gps_cons (gp_name (pg_name (i := 6) sc_law_ink.nd rfl (by first | exact Or.inl rfl | exact Or.inr rfl)) (by simp)) (gps_cons (gp_name (pg_name (i := 14) sc_law_ink.nd rfl (by first | exact Or.inl rfl | exact Or.inr rfl)) (by simp)) gps_nil)))) (fun _ _ _ _ _ => qs_nil) (fun _ _ _ _ _ => (p_tup (a_cons (p_op r_add d_add (b_var (pv 6)) (b_var (pv 17))) (a_cons (p_op r_add d_add (b_var (pv 14)) (b_var (pv 13))) a_nil)))))) a_nil))) a_nil))))))))))
/-! _law_shape -/
abbrev st_law_shape : Stmt := topS 30
abbrev N_law_shape : List Str := ["_law_row", "_law_found", "_law_turn", "_law_named"]
theorem sc_law_shape : FnScope N_law_shape ["_law_row"] (defScope st_law_shape) := ⟨rfl, rfl, rfl, by decide +kernel, rfl, by decide +kernel, by decide +kernel⟩
def s_law_shape : ES := (sSeq (sAsg (mDisp (msCons (mTup (msCons (mCallR F_law_signed 0 (msCons (mP (xC (.int 2))) msNil)) (msCons (mCallR F_law_signed 0 (msCons (mP (xC (.int 2))) msNil)) msNil))) (msCons (mP (xC (.bl true))) msNil))) (put 1))
  (sSeq (sFor (mRng1 (msCons (mCallR F_law_taken 0 (msCons (mP (xC (.int 5))) msNil)) msNil)) (put 2)
  (sAsg (mP (xC (.bl true))) (gSubM 1 (mTup (msCons (mCallR F_law_signed 0 (msCons (mP (xC (.int 2))) msNil)) (msCons (mCallR F_law_signed 0 (msCons (mP (xC (.int 2))) msNil)) msNil))) setT)))
  (sSeq (sAsg (mP (xLst (xsCons (xTup (xsCons (xTup (xsCons (xC (.int 0)) (xsCons (xC (.int 0)) xsNil))) xsNil)) (xsCons (xTup (xsCons (xTup (xsCons (xC (.int 0)) (xsCons (xC (.int 0)) xsNil))) (xsCons (xTup (xsCons (xC (.int 0)) (xsCons (xC (.int 1)) xsNil))) xsNil))) (xsCons (xTup (xsCons (xTup (xsCons (xNeg (xC (.int 1))) (xsCons (xC (.int 0)) xsNil))) (xsCons (xTup (xsCons (xC (.int 0)) (xsCons (xNeg (xC (.int 1))) xsNil))) (xsCons (xTup (xsCons (xC (.int 0)) (xsCons (xC (.int 0)) xsNil))) (xsCons (xTup (xsCons (xC (.int 0)) (xsCons (xC (.int 1)) xsNil))) (xsCons (xTup (xsCons (xC (.int 1)) (xsCons (xC (.int 0)) xsNil))) xsNil)))))) (xsCons (xTup (xsCons (xTup (xsCons (xC (.int 0)) (xsCons (xC (.int 0)) xsNil))) (xsCons (xTup (xsCons (xC (.int 0)) (xsCons (xC (.int 1)) xsNil))) (xsCons (xTup (xsCons (xC (.int 1)) (xsCons (xC (.int 0)) xsNil))) (xsCons (xTup (xsCons (xC (.int 1)) (xsCons (xC (.int 1)) xsNil))) xsNil))))) xsNil)))))) (put 3))
  (sRet (mCallR F_law_pick 0 (msCons (mP (xOp oAdd (xLst (xsCons (xCall tupleD (xsCons (xCall sortedA (xsCons (xCall listA (xsCons (xVar 1) xsNil)) xsNil)) xsNil)) (xsCons (xCall tupleD (xsCons (xCall sortedA (xsCons (xCall listA (xsCons (xVar 1) xsNil)) xsNil)) xsNil)) xsNil))) (xVar 3))) msNil))))))
def F_law_shape : D → List D → Option (D × D) := fnR N_law_shape s_law_shape
theorem ok_law_shape (T : Top K mg) : FnAt P w K mg base 3 "_law_shape" ["_law_row"] (spR K 0 F_law_shape) := by
  have G_law_pick := (ok_law_pick (P := P) (w := w) (base := base) T).mono (show 2 ≤ 2 by decide)
  have G_law_taken := (ok_law_taken (P := P) (w := w) (base := base) T).mono (show 1 ≤ 2 by decide)
  have G_law_signed := (ok_law_signed (P := P) (w := w) (base := base) T).mono (show 2 ≤ 2 by decide)
  exact at_r T.d_law_shape sc_law_shape rfl fun f cdv A outer s H E hr => (s_cons (s_set (i := 1) sc_law_shape.nd rfl (by first | exact Or.inl rfl | exact Or.inr rfl) (m_disp hr (dpp_cons (m_tup (ms_cons (m_atR G_law_signed hr (by rfl) (pv 0) (ms_cons (m_p p_int) ms_nil) (msn_cons msn_nil)) (ms_cons (m_atR G_law_signed hr (by rfl) (pv 0) (ms_cons (m_p p_int) ms_nil) (msn_cons msn_nil)) ms_nil))) (m_p p_bl) dpp_nil) (msn_cons (msn_cons msn_nil)) (by decide) rfl rfl (List.cons_ne_nil _ _) (by decide)))
    (s_cons (s_for PassesOwn.never rfl (i_mrng1 (by rfl) T.n_range (ms_cons (m_atR G_law_taken hr (by rfl) (pv 0) (ms_cons (m_p p_int) ms_nil) (msn_cons msn_nil)) ms_nil)) (g_name (pg_name (i := 2) sc_law_shape.nd rfl (by first | exact Or.inl rfl | exact Or.inr rfl)))
    (s_one (s_asg (m_p p_bl) (g_subM (pv 1) (m_tup (ms_cons (m_atR G_law_signed hr (by rfl) (pv 0) (ms_cons (m_p p_int) ms_nil) (msn_cons msn_nil)) (ms_cons (m_atR G_law_signed hr (by rfl) (pv 0) (ms_cons (m_p p_int) ms_nil) (msn_cons msn_nil)) ms_nil))) (set_dict (hu_of hr)) st_dict))))
    (s_cons (s_set (i := 3) sc_law_shape.nd rfl (by first | exact Or.inl rfl | exact Or.inr rfl) (m_p (p_lst (a_cons (p_tup (a_cons (p_tup (a_cons p_int (a_cons p_int a_nil))) a_nil)) (a_cons (p_tup (a_cons (p_tup (a_cons p_int (a_cons p_int a_nil))) (a_cons (p_tup (a_cons p_int (a_cons p_int a_nil))) a_nil))) (a_cons (p_tup (a_cons (p_tup (a_cons (p_neg' (p_b p_int)) (a_cons p_int a_nil))) (a_cons (p_tup (a_cons p_int (a_cons (p_neg' (p_b p_int)) a_nil))) (a_cons (p_tup (a_cons p_int (a_cons p_int a_nil))) (a_cons (p_tup (a_cons p_int (a_cons p_int a_nil))) (a_cons (p_tup (a_cons p_int (a_cons p_int a_nil))) a_nil)))))) (a_cons (p_tup (a_cons (p_tup (a_cons p_int (a_cons p_int a_nil))) (a_cons (p_tup (a_cons p_int (a_cons p_int a_nil))) (a_cons (p_tup (a_cons p_int (a_cons p_int a_nil))) (a_cons (p_tup (a_cons p_int (a_cons p_int a_nil))) a_nil))))) a_nil)))))))
    (s_one (s_ret (m_atR G_law_pick hr (by rfl) (pv 0) (ms_cons (m_p (p_op r_add d_add (p_b (p_lst (a_cons (p_callTy call_tuple_of d_tuple (by rfl) T.n_tuple (by decide +kernel) (a_cons (p_b (p_callB (c_sortedA rfl hr) d_sortedA (by rfl) T.n_sorted (by decide +kernel) (a_cons (p_b (p_callTy (c_listA rfl) d_listA (by rfl) T.n_list (by decide +kernel) (a_cons (b_var (pv 1)) a_nil))) a_nil))) a_nil)) (a_cons (p_callTy call_tuple_of d_tuple (by rfl) T.n_tuple (by decide +kernel) (a_cons (p_b (p_callB (c_sortedA rfl hr) d_sortedA (by rfl) T.n_sorted (by decide +kernel) (a_cons (p_b (p_callTy (c_listA rfl) d_listA (by rfl) T.n_list (by decide +kernel) (a_cons (b_var (pv 1)) a_nil))) a_nil))) a_nil)) a_nil)))) (b_var (pv 3)))) ms_nil) (msn_cons msn_nil)))))))
/-! dilated -/
abbrev st_dilated : Stmt := topS 21
abbrev N_dilated : List Str := ["ink", "shape"]
theorem sc_dilated : FnScope N_dilated ["ink", "shape"] (defScope st_dilated) := ⟨rfl, rfl, rfl, by decide +kernel, rfl, by decide +kernel, by decide +kernel⟩
def s_dilated : ES := (sSeq (sDrop (mP (xCall F_need_ink (xsCons (xVar 0) xsNil))))
  (sSeq (sDrop (mP (xCall F_need_shape (xsCons (xVar 1) xsNil))))
  (sRet (mP (xCall F_sum_of (xsCons (xVar 0) (xsCons (xVar 1) xsNil)))))))
def F_dilated : List D → Option D := fnP N_dilated s_dilated
theorem ok_dilated (T : Top K mg) : FnAt P w K mg base 6 "dilated" ["ink", "shape"] (spP K 2 F_dilated) := by
  have G_need_ink := (ok_need_ink (P := P) (w := w) (base := base) T).mono (show 4 ≤ 5 by decide)
  have G_need_shape := (ok_need_shape (P := P) (w := w) (base := base) T).mono (show 5 ≤ 5 by decide)
  have G_sum_of := (ok_sum_of (P := P) (w := w) (base := base) T).mono (show 2 ≤ 5 by decide)
  exact at_p T.d_dilated sc_dilated fun f cdv A outer s H E hr => (s_cons (s_expr (m_p (p_at G_need_ink hr (by rfl) (a_cons (b_var (pv 0)) a_nil) (len_cons len_nil))))
    (s_cons (s_expr (m_p (p_at G_need_shape hr (by rfl) (a_cons (b_var (pv 1)) a_nil) (len_cons len_nil))))
    (s_one (s_ret (m_p (p_at G_sum_of hr (by rfl) (a_cons (b_var (pv 0)) (a_cons (b_var (pv 1)) a_nil)) (len_cons (len_cons len_nil))))))))
/-! closed -/
abbrev st_closed : Stmt := topS 24
abbrev N_closed : List Str := ["ink", "shape"]
theorem sc_closed : FnScope N_closed ["ink", "shape"] (defScope st_closed) := ⟨rfl, rfl, rfl, by decide +kernel, rfl, by decide +kernel, by decide +kernel⟩
def s_closed : ES := (sSeq (sDrop (mP (xCall F_need_ink (xsCons (xVar 0) xsNil))))
  (sSeq (sDrop (mP (xCall F_need_shape (xsCons (xVar 1) xsNil))))
  (sRet (mP (xCall F_shrunk (xsCons (xCall F_sum_of (xsCons (xVar 0) (xsCons (xVar 1) xsNil))) (xsCons (xVar 1) xsNil)))))))
def F_closed : List D → Option D := fnP N_closed s_closed
theorem ok_closed (T : Top K mg) : FnAt P w K mg base 6 "closed" ["ink", "shape"] (spP K 2 F_closed) := by
  have G_need_ink := (ok_need_ink (P := P) (w := w) (base := base) T).mono (show 4 ≤ 5 by decide)
  have G_need_shape := (ok_need_shape (P := P) (w := w) (base := base) T).mono (show 5 ≤ 5 by decide)
  have G_shrunk := (ok_shrunk (P := P) (w := w) (base := base) T).mono (show 2 ≤ 5 by decide)
  have G_sum_of := (ok_sum_of (P := P) (w := w) (base := base) T).mono (show 2 ≤ 5 by decide)
  exact at_p T.d_closed sc_closed fun f cdv A outer s H E hr => (s_cons (s_expr (m_p (p_at G_need_ink hr (by rfl) (a_cons (b_var (pv 0)) a_nil) (len_cons len_nil))))
    (s_cons (s_expr (m_p (p_at G_need_shape hr (by rfl) (a_cons (b_var (pv 1)) a_nil) (len_cons len_nil))))
    (s_one (s_ret (m_p (p_at G_shrunk hr (by rfl) (a_cons (p_b (p_at G_sum_of hr (by rfl) (a_cons (b_var (pv 0)) (a_cons (b_var (pv 1)) a_nil)) (len_cons (len_cons len_nil)))) (a_cons (b_var (pv 1)) a_nil)) (len_cons (len_cons len_nil))))))))
/-! law -/
abbrev st_law : Stmt := topS 31
abbrev N_law : List Str := ["_law_script", "_law_row", "_law_one", "_law_other", "_law_shape_here", "_law_grown", "_law_less", "_law_low", "_law_high", "_law_whole", "_law_wide", "_law_more", "_law_cell"]
theorem sc_law : FnScope N_law ["_law_script"] (defScope st_law) := ⟨rfl, rfl, rfl, by decide +kernel, rfl, by decide +kernel, by decide +kernel⟩
def s_law : ES := (sSeq (sAsg (mP (xLst (xsCons (xPure (xVar 0)) (xsCons (xC (.int 0)) (xsCons (xC (.int 3727)) (xsCons (xC (.int 0)) xsNil)))))) (put 1))
  (sSeq (sAsg (mTup (msCons (mCallR F_law_ink 1 (msCons (mP (xC (.int 5))) (msCons (mP (xC (.int 5))) msNil))) (msCons (mCallR F_law_ink 1 (msCons (mP (xC (.int 7))) (msCons (mP (xC (.int 7))) msNil))) (msCons (mCallR F_law_shape 1 msNil) msNil)))) (gTupD 3 (gsCons (put 2) (gsCons (put 3) (gsCons (put 4) gsNil)))))
  (sSeq (sIf (mBool (mOp oEq (mCallR F_law_taken 1 (msCons (mP (xC (.int 2))) msNil)) (mP (xC (.int 0))))) (sAsg (mCall tupleD (msCons (mComp [12] (iP (xIt (xCall F_eroded (xsCons (xVar 3) (xsCons (xVar 4) xsNil))))) (put 12) (mBool (mOp oGt (mCallR F_law_taken 1 (msCons (mP (xC (.int 3))) msNil)) (mP (xC (.int 0))))) (mP (xPure (xVar 12)))) msNil)) (put 2)) sNext)
  (sSeq (sAsg (mP (xTup (xsCons (xCall F_dilated (xsCons (xVar 2) (xsCons (xVar 4) xsNil))) (xsCons (xCall F_eroded (xsCons (xVar 3) (xsCons (xVar 4) xsNil))) xsNil)))) (gTupD 2 (gsCons (put 5) (gsCons (put 6) gsNil))))
  (sSeq (sIf (tP' (xBool (xOp oNe (xOp oEq (xComp [12] (xIt (xVar 5)) (putB 12) (xBool (xOp oNin (xVar 12) (xVar 3))) (xPure (xVar 12))) (xLst xsNil)) (xOp oEq (xComp [12] (xIt (xVar 2)) (putB 12) (xBool (xOp oNin (xVar 12) (xVar 6))) (xPure (xVar 12))) (xLst xsNil))))) (sRet (mP (xC (.bl false)))) sNext)
  (sSeq (sAsg (mP (xTup (xsCons (xCall F_opened (xsCons (xVar 3) (xsCons (xVar 4) xsNil))) (xsCons (xCall F_closed (xsCons (xVar 3) (xsCons (xVar 4) xsNil))) xsNil)))) (gTupD 2 (gsCons (put 7) (gsCons (put 8) gsNil))))
  (sSeq (sIf (tP' (yOr (xBool (xOp oNe (xComp [12] (xIt (xVar 7)) (putB 12) (xBool (xOp oNin (xVar 12) (xVar 3))) (xPure (xVar 12))) (xLst xsNil))) (xBool (xOp oNe (xComp [12] (xIt (xVar 3)) (putB 12) (xBool (xOp oNin (xVar 12) (xVar 8))) (xPure (xVar 12))) (xLst xsNil))))) (sRet (mP (xC (.bl false)))) sNext)
  (sSeq (sIf (tP' (yOr (xBool (xOp oNe (xCall F_opened (xsCons (xVar 7) (xsCons (xVar 4) xsNil))) (xVar 7))) (xBool (xOp oNe (xCall F_closed (xsCons (xVar 8) (xsCons (xVar 4) xsNil))) (xVar 8))))) (sRet (mP (xC (.bl false)))) sNext)
  (sSeq (sAsg (mP (xCall tupleD (xsCons (xSrtTupW (xOp oAdd (xVar 2) (xVar 3))) xsNil))) (put 9))
  (sSeq (sAsg (mP (xCall F_opened (xsCons (xVar 9) (xsCons (xVar 4) xsNil)))) (put 10))
  (sSeq (sAsg (mP (xCall F_eroded (xsCons (xVar 9) (xsCons (xVar 4) xsNil)))) (put 11))
  (sRet (mP (xAnd (xOp oEq (xComp [12] (xIt (xVar 7)) (putB 12) (xBool (xOp oNin (xVar 12) (xVar 10))) (xPure (xVar 12))) (xLst xsNil)) (xOp oEq (xComp [12] (xIt (xVar 6)) (putB 12) (xBool (xOp oNin (xVar 12) (xVar 11))) (xPure (xVar 12))) (xLst xsNil))))))))))))))))
def F_law : List D → Option D := fnP N_law s_law
theorem ok_law (T : Top K mg) {fa : Addr} (hfa : mg "law" = some (.ref fa)) : FnTop P w K mg 7 fa "_law_script" (spP K 1 F_law) := by
  refine at_law T.d_law hfa sc_law (fun _ _ _ _ _ _ _ => rfl) fun base f cdv A outer s H E hr => ?_
  have G_opened := (ok_opened (P := P) (w := w) (base := base) T).mono (show 6 ≤ 6 by decide)
  have G_eroded := (ok_eroded (P := P) (w := w) (base := base) T).mono (show 6 ≤ 6 by decide)
  have G_law_ink := (ok_law_ink (P := P) (w := w) (base := base) T).mono (show 3 ≤ 6 by decide)
  have G_law_shape := (ok_law_shape (P := P) (w := w) (base := base) T).mono (show 3 ≤ 6 by decide)
  have G_law_taken := (ok_law_taken (P := P) (w := w) (base := base) T).mono (show 1 ≤ 6 by decide)
  have G_dilated := (ok_dilated (P := P) (w := w) (base := base) T).mono (show 6 ≤ 6 by decide)
  have G_closed := (ok_closed (P := P) (w := w) (base := base) T).mono (show 6 ≤ 6 by decide)
  exact (s_cons (s_set (i := 1) sc_law.nd rfl (by first | exact Or.inl rfl | exact Or.inr rfl) (m_p (p_lst (a_cons (p_var (pv 0)) (a_cons p_int (a_cons p_int (a_cons p_int a_nil)))))))
    (s_cons (s_asg (m_tup (ms_cons (m_atR G_law_ink hr (by rfl) (pv 1) (ms_cons (m_p p_int) (ms_cons (m_p p_int) ms_nil)) (msn_cons (msn_cons msn_nil))) (ms_cons (m_atR G_law_ink hr (by rfl) (pv 1) (ms_cons (m_p p_int) (ms_cons (m_p p_int) ms_nil)) (msn_cons (msn_cons msn_nil))) (ms_cons (m_atR G_law_shape hr (by rfl) (pv 1) ms_nil msn_nil) ms_nil)))) (g_tup rfl (gs_cons (g_name (pg_name (i := 2) sc_law.nd rfl (by first | exact Or.inl rfl | exact Or.inr rfl))) (gs_cons (g_name (pg_name (i := 3) sc_law.nd rfl (by first | exact Or.inl rfl | exact Or.inr rfl))) (gs_cons (g_name (pg_name (i := 4) sc_law.nd rfl (by first | exact Or.inl rfl | exact Or.inr rfl))) gs_nil)))))
    (s_cons (s_if (t_cmp (r_eq hr) d_eq (m_atR G_law_taken hr (by rfl) (pv 1) (ms_cons (m_p p_int) ms_nil) (msn_cons msn_nil)) (m_p p_int) (nomark _)) (s_one (s_set (i := 2) sc_law.nd rfl (by first | exact Or.inl rfl | exact Or.inr rfl) (m_callTy call_tuple_of d_tuple (by rfl) T.n_tuple (by decide +kernel) (ms_cons (m_lc (own := [("_law_cell", 12)]) rfl sc_law.nd  (i_p (i_seq (p_at G_eroded hr (by rfl) (a_cons (b_var (pv 3)) (a_cons (b_var (pv 4)) a_nil)) (len_cons (len_cons len_nil))))) (blkOk_by (own := [("_law_cell", 12)]) (N := N_law) (sc := defScope st_law) (by decide +kernel)) (fun _ _ _ _ _ => (gm_name (pg_name (i := 12) sc_law.nd rfl (by first | exact Or.inl rfl | exact Or.inr rfl)) (by simp))) (fun _ _ _ _ _ => (qm_one (t_cmp (r_gt hr) d_ord (m_atR G_law_taken hr (by rfl) (pv 1) (ms_cons (m_p p_int) ms_nil) (msn_cons msn_nil)) (m_p p_int) (nomark _)))) (fun _ _ _ _ _ => (m_p (p_var (pv 12))))) ms_nil)))) s_nil)
    (s_cons (s_asg (m_p (p_tup (a_cons (p_at G_dilated hr (by rfl) (a_cons (b_var (pv 2)) (a_cons (b_var (pv 4)) a_nil)) (len_cons (len_cons len_nil))) (a_cons (p_at G_eroded hr (by rfl) (a_cons (b_var (pv 3)) (a_cons (b_var (pv 4)) a_nil)) (len_cons (len_cons len_nil))) a_nil)))) (g_tup rfl (gs_cons (g_name (pg_name (i := 5) sc_law.nd rfl (by first | exact Or.inl rfl | exact Or.inr rfl))) (gs_cons (g_name (pg_name (i := 6) sc_law.nd rfl (by first | exact Or.inl rfl | exact Or.inr rfl))) gs_nil))))
    (s_cons (s_if (t_p (q_cmp (r_ne hr) d_ne (p_b (p_cmp (r_eq hr) d_eq (p_b (p_lc (own := [("_law_cell", 12)]) rfl sc_law.nd  (i_seq (b_var (pv 5))) (blkOk_by (own := [("_law_cell", 12)]) (N := N_law) (sc := defScope st_law) (by decide +kernel)) (fun _ _ _ _ _ => (gp_name (pg_name (i := 12) sc_law.nd rfl (by first | exact Or.inl rfl | exact Or.inr rfl)) (by simp))) (fun _ _ _ _ _ => (qs_one (q_cmp (r_nin hr) d_nin' (b_var (pv 12)) (b_var (pv 3)) (by rfl)))) (fun _ _ _ _ _ => (p_var (pv 12))))) (p_b (p_lst a_nil)) (nomark _))) (p_b (p_cmp (r_eq hr) d_eq (p_b (p_lc (own := [("_law_cell", 12)]) rfl sc_law.nd  (i_seq (b_var (pv 2))) (blkOk_by (own := [("_law_cell", 12)]) (N := N_law) (sc := defScope st_law) (by decide +kernel)) (fun _ _ _ _ _ => (gp_name (pg_name (i := 12) sc_law.nd rfl (by first | exact Or.inl rfl | exact Or.inr rfl)) (by simp))) (fun _ _ _ _ _ => (qs_one (q_cmp (r_nin hr) d_nin' (b_var (pv 12)) (b_var (pv 6)) (by rfl)))) (fun _ _ _ _ _ => (p_var (pv 12))))) (p_b (p_lst a_nil)) (nomark _))) (nomark _))) (s_one (s_ret (m_p p_bl))) s_nil)
    (s_cons (s_asg (m_p (p_tup (a_cons (p_at G_opened hr (by rfl) (a_cons (b_var (pv 3)) (a_cons (b_var (pv 4)) a_nil)) (len_cons (len_cons len_nil))) (a_cons (p_at G_closed hr (by rfl) (a_cons (b_var (pv 3)) (a_cons (b_var (pv 4)) a_nil)) (len_cons (len_cons len_nil))) a_nil)))) (g_tup rfl (gs_cons (g_name (pg_name (i := 7) sc_law.nd rfl (by first | exact Or.inl rfl | exact Or.inr rfl))) (gs_cons (g_name (pg_name (i := 8) sc_law.nd rfl (by first | exact Or.inl rfl | exact Or.inr rfl))) gs_nil))))
    (s_cons (s_if (t_p (PW.pt (w_or (q_cmp (r_ne hr) d_ne (p_b (p_lc (own := [("_law_cell", 12)]) rfl sc_law.nd  (i_seq (b_var (pv 7))) (blkOk_by (own := [("_law_cell", 12)]) (N := N_law) (sc := defScope st_law) (by decide +kernel)) (fun _ _ _ _ _ => (gp_name (pg_name (i := 12) sc_law.nd rfl (by first | exact Or.inl rfl | exact Or.inr rfl)) (by simp))) (fun _ _ _ _ _ => (qs_one (q_cmp (r_nin hr) d_nin' (b_var (pv 12)) (b_var (pv 3)) (by rfl)))) (fun _ _ _ _ _ => (p_var (pv 12))))) (p_b (p_lst a_nil)) (nomark _)) (w_or1 (q_cmp (r_ne hr) d_ne (p_b (p_lc (own := [("_law_cell", 12)]) rfl sc_law.nd  (i_seq (b_var (pv 3))) (blkOk_by (own := [("_law_cell", 12)]) (N := N_law) (sc := defScope st_law) (by decide +kernel)) (fun _ _ _ _ _ => (gp_name (pg_name (i := 12) sc_law.nd rfl (by first | exact Or.inl rfl | exact Or.inr rfl)) (by simp))) (fun _ _ _ _ _ => (qs_one (q_cmp (r_nin hr) d_nin' (b_var (pv 12)) (b_var (pv 8)) (by rfl)))) (fun _ _ _ _ _ => (p_var (pv 12))))) (p_b (p_lst a_nil)) (nomark _)))))) (s_one (s_ret (m_p p_bl))) s_nil)
    (s_cons (s_if (t_p (PW.pt (w_or (q_cmp (r_ne hr) d_ne (p_b (p_at G_opened hr (by rfl) (a_cons (b_var (pv 7)) (a_cons (b_var (pv 4)) a_nil)) (len_cons (len_cons len_nil)))) (b_var (pv 7)) (nomark _)) (w_or1 (q_cmp (r_ne hr) d_ne (p_b (p_at G_closed hr (by rfl) (a_cons (b_var (pv 8)) (a_cons (b_var (pv 4)) a_nil)) (len_cons (len_cons len_nil)))) (b_var (pv 8)) (nomark _)))))) (s_one (s_ret (m_p p_bl))) s_nil)
    (s_cons (s_set (i := 9) sc_law.nd rfl (by first | exact Or.inl rfl | exact Or.inr rfl) (m_p (p_callTy call_tuple_of d_tuple (by rfl) T.n_tuple (by decide +kernel) (a_cons (p_b (p_sortTupW rfl hr (p_b (p_op r_add d_add (b_var (pv 2)) (b_var (pv 3)))) (by rfl) T.n_sorted (by decide +kernel) (by rfl) T.n_set (by decide +kernel))) a_nil))))
    (s_cons (s_set (i := 10) sc_law.nd rfl (by first | exact Or.inl rfl | exact Or.inr rfl) (m_p (p_at G_opened hr (by rfl) (a_cons (b_var (pv 9)) (a_cons (b_var (pv 4)) a_nil)) (len_cons (len_cons len_nil)))))
    (s_cons (s_set (i := 11) sc_law.nd rfl (by first | exact Or.inl rfl | exact Or.inr rfl) (m_p (p_at G_eroded hr (by rfl) (a_cons (b_var (pv 9)) (a_cons (b_var (pv 4)) a_nil)) (len_cons (len_cons len_nil)))))
    (s_one (s_ret (m_p (p_and (p_b (p_cmp (r_eq hr) d_eq (p_b (p_lc (own := [("_law_cell", 12)]) rfl sc_law.nd  (i_seq (b_var (pv 7))) (blkOk_by (own := [("_law_cell", 12)]) (N := N_law) (sc := defScope st_law) (by decide +kernel)) (fun _ _ _ _ _ => (gp_name (pg_name (i := 12) sc_law.nd rfl (by first | exact Or.inl rfl | exact Or.inr rfl)) (by simp))) (fun _ _ _ _ _ => (qs_one (q_cmp (r_nin hr) d_nin' (b_var (pv 12)) (b_var (pv 10)) (by rfl)))) (fun _ _ _ _ _ => (p_var (pv 12))))) (p_b (p_lst a_nil)) (nomark _))) (p_one (p_cmp (r_eq hr) d_eq (p_b (p_lc (own := [("_law_cell", 12)]) rfl sc_law.nd  (i_seq (b_var (pv 6))) (blkOk_by (own := [("_law_cell", 12)]) (N := N_law) (sc := defScope st_law) (by decide +kernel)) (fun _ _ _ _ _ => (gp_name (pg_name (i := 12) sc_law.nd rfl (by first | exact Or.inl rfl | exact Or.inr rfl)) (by simp))) (fun _ _ _ _ _ => (qs_one (q_cmp (r_nin hr) d_nin' (b_var (pv 12)) (b_var (pv 11)) (by rfl)))) (fun _ _ _ _ _ => (p_var (pv 12))))) (p_b (p_lst a_nil)) (nomark _))))))))))))))))))
end
end K27
namespace K27
open PySem PySem.Spec L2 DL DL.C
/-! ### sums and their adjoints -/
section
variable {A X W B : List Cell} {c : Cell}
abbrev gr (A B : List Cell) : List Cell := mk (sumC A B)
abbrev wn (X B : List Cell) : List Cell := mk (shrC X B)
theorem mem_gr : c ∈ gr A B ↔ ∃ a ∈ A, ∃ b ∈ B, addC a b = c := mk_mem.trans mem_sumC
theorem mem_wn (h0 : B ≠ []) : c ∈ wn X B ↔ ∀ b ∈ B, addC c b ∈ X := mk_mem.trans (mem_shrC h0)
theorem adj (h0 : B ≠ []) : (∀ c ∈ gr A B, c ∈ X) ↔ ∀ a ∈ A, a ∈ wn X B := by
  constructor
  · exact fun h a ha => (mem_wn h0).mpr fun b hb => h _ (mem_gr.mpr ⟨a, ha, b, hb, rfl⟩)
  · intro h c hc
    obtain ⟨a, ha, b, hb, rfl⟩ := mem_gr.mp hc
    exact (mem_wn h0).mp (h a ha) b hb
theorem wn_mono (h0 : B ≠ []) (s : ∀ c ∈ X, c ∈ W) : ∀ c ∈ wn X B, c ∈ wn W B := fun c hc => (mem_wn h0).mpr fun b hb => s _ ((mem_wn h0).mp hc b hb)
theorem gr_mono (s : ∀ c ∈ X, c ∈ W) : ∀ c ∈ gr X B, c ∈ gr W B := fun c hc => by
  obtain ⟨a, ha, b, hb, rfl⟩ := mem_gr.mp hc
  exact mem_gr.mpr ⟨a, s a ha, b, hb, rfl⟩
theorem low_in (h0 : B ≠ []) : ∀ c ∈ gr (wn X B) B, c ∈ X := (adj h0).mpr fun a ha => ha
theorem in_high (h0 : B ≠ []) : ∀ c ∈ X, c ∈ wn (gr X B) B := (adj h0).mp fun c hc => hc
theorem low_low (h0 : B ≠ []) : gr (wn (gr (wn X B) B) B) B = gr (wn X B) B := mk_ext fun c => by
  rw [← mk_mem, ← mk_mem (cs := sumC (wn X B) B)]
  exact ⟨fun h => low_in h0 c h, fun h => gr_mono (in_high h0) c h⟩
theorem high_sum (h0 : B ≠ []) : gr (wn (gr X B) B) B = gr X B := mk_ext fun c => by
  rw [← mk_mem, ← mk_mem (cs := sumC X B)]
  exact ⟨fun h => low_in h0 c h, fun h => gr_mono (in_high h0) c h⟩
theorem filt_nil (A X : List Cell) : A.filter (fun c => !decide (c ∈ X)) = [] ↔ ∀ c ∈ A, c ∈ X := by
  rw [List.filter_eq_nil_iff]
  exact ⟨fun h c hc => Classical.byContradiction fun n => h c hc (by rw [decide_eq_false n]; rfl), fun h c hc => by rw [decide_eq_true (h c hc)]; decide⟩
end
/-! ### how many cells -/
theorem split_len {α : Type} (p : α → Bool) : ∀ l : List α, l.length = (l.filter p).length + (l.filter fun a => !p a).length
  | [] => rfl
  | a :: l => by
    have := split_len p l
    cases e : p a with
    | true => rw [List.filter_cons_of_pos e, List.filter_cons_of_neg (by simp [e]), List.length_cons, List.length_cons]; omega
    | false => rw [List.filter_cons_of_neg (by simp [e]), List.filter_cons_of_pos (by simp [e]), List.length_cons, List.length_cons]; omega
theorem two_few {b1 b2 t l : Int} {X A : List Cell} (hX : ∀ c ∈ X, (t ≤ c.1 ∧ c.1 < t + 7) ∧ (l ≤ c.2 ∧ c.2 < l + 7)) (hb : (-2 ≤ b1 ∧ b1 ≤ 2) ∧ (-2 ≤ b2 ∧ b2 ≤ 2)) (hA : ∀ c ∈ A, (c.1 + b1, c.2 + b2) ∈ X) : (mk (A ++ X)).length ≤ 73 := by
  have nd := pair_nodup (mk_pair (A ++ X))
  have mem : ∀ c ∈ mk (A ++ X), (((t ≤ c.1 + b1 ∧ c.1 + b1 < t + 7) ∧ (l ≤ c.2 + b2 ∧ c.2 + b2 < l + 7)) ∨ ((t ≤ c.1 ∧ c.1 < t + 7) ∧ (l ≤ c.2 ∧ c.2 < l + 7))) := fun c hc => by
    rcases List.mem_append.mp (mk_mem.mp hc) with h | h
    · exact .inl (hX _ (hA c h))
    · exact .inr (hX c h)
  have p1 := split_len (fun c : Cell => decide ((t ≤ c.1 ∧ c.1 < t + 7) ∧ (l ≤ c.2 ∧ c.2 < l + 7))) (mk (A ++ X))
  have p2 := split_len (fun c : Cell => decide (t ≤ c.1 ∧ c.1 < t + 7)) ((mk (A ++ X)).filter fun c => !decide ((t ≤ c.1 ∧ c.1 < t + 7) ∧ (l ≤ c.2 ∧ c.2 < l + 7)))
  have q1 : ((mk (A ++ X)).filter fun c : Cell => decide ((t ≤ c.1 ∧ c.1 < t + 7) ∧ (l ≤ c.2 ∧ c.2 < l + 7))).length ≤ 7 * 7 := box_few (t := t) (l := l) (nd.filter _) fun c hc => by
    have := of_decide_eq_true (List.mem_filter.mp hc).2
    omega
  have q2 : (((mk (A ++ X)).filter fun c => !decide ((t ≤ c.1 ∧ c.1 < t + 7) ∧ (l ≤ c.2 ∧ c.2 < l + 7))).filter fun c : Cell => decide (t ≤ c.1 ∧ c.1 < t + 7)).length ≤ (7 - b1.natAbs) * b2.natAbs := box_few (t := if 0 ≤ b1 then t else t - b1) (l := if 0 ≤ b2 then l - b2 else l + 7) ((nd.filter _).filter _) fun c hc => by
    obtain ⟨h1, h2⟩ := List.mem_filter.mp hc
    obtain ⟨h3, h4⟩ := List.mem_filter.mp h1
    have h5 := of_decide_eq_true h2
    rw [Bool.not_eq_true', decide_eq_false_iff_not] at h4
    have h6 := mem c h3
    split <;> split <;> omega
  have q3 : (((mk (A ++ X)).filter fun c => !decide ((t ≤ c.1 ∧ c.1 < t + 7) ∧ (l ≤ c.2 ∧ c.2 < l + 7))).filter fun c : Cell => !decide (t ≤ c.1 ∧ c.1 < t + 7)).length ≤ b1.natAbs * 7 := box_few (t := if 0 ≤ b1 then t - b1 else t + 7) (l := l - b2) ((nd.filter _).filter _) fun c hc => by
    obtain ⟨h1, h2⟩ := List.mem_filter.mp hc
    obtain ⟨h3, h4⟩ := List.mem_filter.mp h1
    rw [Bool.not_eq_true', decide_eq_false_iff_not] at h2 h4
    have h6 := mem c h3
    split <;> omega
  have k : ∀ p, p < 3 → ∀ q, q < 3 → (7 - p) * q + p * 7 ≤ 24 := by decide
  have := k b1.natAbs (by omega) b2.natAbs (by omega)
  omega
end K27
namespace K27
open PySem PySem.Spec L2 DL DL.C
theorem q_taken : K27.F_law_taken = takenF := rfl
theorem q_law_ink : K27.F_law_ink = C.F_law_ink := rfl
theorem q_law_shape : K27.F_law_shape = C.F_law_shape := rfl
def P_law1 : ES := (sAsg (mP (xLst (xsCons (xPure (xVar 0)) (xsCons (xC (.int 0)) (xsCons (xC (.int 3727)) (xsCons (xC (.int 0)) xsNil)))))) (put 1))
instance : MS P_law1 := by unfold P_law1; infer_instance
def P_law2 : ES := (sAsg (mTup (msCons (mCallR F_law_ink 1 (msCons (mP (xC (.int 5))) (msCons (mP (xC (.int 5))) msNil))) (msCons (mCallR F_law_ink 1 (msCons (mP (xC (.int 7))) (msCons (mP (xC (.int 7))) msNil))) (msCons (mCallR F_law_shape 1 msNil) msNil)))) (gTupD 3 (gsCons (put 2) (gsCons (put 3) (gsCons (put 4) gsNil)))))
instance : MS P_law2 := by unfold P_law2; infer_instance
def P_law3t : ES := (sAsg (mCall tupleD (msCons (mComp [12] (iP (xIt (xCall F_eroded (xsCons (xVar 3) (xsCons (xVar 4) xsNil))))) (put 12) (mBool (mOp oGt (mCallR F_law_taken 1 (msCons (mP (xC (.int 3))) msNil)) (mP (xC (.int 0))))) (mP (xPure (xVar 12)))) msNil)) (put 2))
instance : MS P_law3t := by unfold P_law3t; infer_instance
def P_law3 : ES := (sIf (mBool (mOp oEq (mCallR F_law_taken 1 (msCons (mP (xC (.int 2))) msNil)) (mP (xC (.int 0))))) P_law3t sNext)
instance : MS P_law3 := by unfold P_law3; infer_instance
def P_law4 : ES := (sAsg (mP (xTup (xsCons (xCall F_dilated (xsCons (xVar 2) (xsCons (xVar 4) xsNil))) (xsCons (xCall F_eroded (xsCons (xVar 3) (xsCons (xVar 4) xsNil))) xsNil)))) (gTupD 2 (gsCons (put 5) (gsCons (put 6) gsNil))))
instance : MS P_law4 := by unfold P_law4; infer_instance
def P_law5 : ES := (sIf (tP' (xBool (xOp oNe (xOp oEq (xComp [12] (xIt (xVar 5)) (putB 12) (xBool (xOp oNin (xVar 12) (xVar 3))) (xPure (xVar 12))) (xLst xsNil)) (xOp oEq (xComp [12] (xIt (xVar 2)) (putB 12) (xBool (xOp oNin (xVar 12) (xVar 6))) (xPure (xVar 12))) (xLst xsNil))))) (sRet (mP (xC (.bl false)))) sNext)
instance : MS P_law5 := by unfold P_law5; infer_instance
def P_law6 : ES := (sAsg (mP (xTup (xsCons (xCall F_opened (xsCons (xVar 3) (xsCons (xVar 4) xsNil))) (xsCons (xCall F_closed (xsCons (xVar 3) (xsCons (xVar 4) xsNil))) xsNil)))) (gTupD 2 (gsCons (put 7) (gsCons (put 8) gsNil))))
instance : MS P_law6 := by unfold P_law6; infer_instance
def P_law7 : ES := (sIf (tP' (yOr (xBool (xOp oNe (xComp [12] (xIt (xVar 7)) (putB 12) (xBool (xOp oNin (xVar 12) (xVar 3))) (xPure (xVar 12))) (xLst xsNil))) (xBool (xOp oNe (xComp [12] (xIt (xVar 3)) (putB 12) (xBool (xOp oNin (xVar 12) (xVar 8))) (xPure (xVar 12))) (xLst xsNil))))) (sRet (mP (xC (.bl false)))) sNext)
instance : MS P_law7 := by unfold P_law7; infer_instance
def P_law8 : ES := (sIf (tP' (yOr (xBool (xOp oNe (xCall F_opened (xsCons (xVar 7) (xsCons (xVar 4) xsNil))) (xVar 7))) (xBool (xOp oNe (xCall F_closed (xsCons (xVar 8) (xsCons (xVar 4) xsNil))) (xVar 8))))) (sRet (mP (xC (.bl false)))) sNext)
instance : MS P_law8 := by unfold P_law8; infer_instance
def P_law9 : ES := (sAsg (mP (xCall tupleD (xsCons (xSrtTupW (xOp oAdd (xVar 2) (xVar 3))) xsNil))) (put 9))
instance : MS P_law9 := by unfold P_law9; infer_instance
def P_law10 : ES := (sAsg (mP (xCall F_opened (xsCons (xVar 9) (xsCons (xVar 4) xsNil)))) (put 10))
instance : MS P_law10 := by unfold P_law10; infer_instance
def P_law11 : ES := (sAsg (mP (xCall F_eroded (xsCons (xVar 9) (xsCons (xVar 4) xsNil)))) (put 11))
instance : MS P_law11 := by unfold P_law11; infer_instance
def P_law12 : ES := (sRet (mP (xAnd (xOp oEq (xComp [12] (xIt (xVar 7)) (putB 12) (xBool (xOp oNin (xVar 12) (xVar 10))) (xPure (xVar 12))) (xLst xsNil)) (xOp oEq (xComp [12] (xIt (xVar 6)) (putB 12) (xBool (xOp oNin (xVar 12) (xVar 11))) (xPure (xVar 12))) (xLst xsNil)))))
instance : MS P_law12 := by unfold P_law12; infer_instance
def P_law : ES := (sSeq P_law1 (sSeq P_law2 (sSeq P_law3 (sSeq P_law4 (sSeq P_law5 (sSeq P_law6 (sSeq P_law7 (sSeq P_law8 (sSeq P_law9 (sSeq P_law10 (sSeq P_law11 P_law12)))))))))))
instance : MS P_law := by unfold P_law; infer_instance
theorem eq_law : s_law = P_law := rfl
section
variable {A X B : List Cell} {N row : D} {ns : List Int}
theorem sum_len (A B : List Cell) : (sumC A B).length = A.length * B.length := by
  unfold sumC
  induction A with
  | nil => simp
  | cons a A ih => rw [List.flatMap_cons, List.length_append, ih, List.length_map, List.length_cons, Nat.succ_mul, Nat.add_comm]
theorem shr_len (X B : List Cell) : (shrC X B).length ≤ X.length := by
  unfold shrC
  refine Nat.le_trans (List.length_filter_le _ _) ?_
  rw [List.length_map]
  exact Nat.le_refl _
/-- what the draws give -/
structure Drawn (A X B : List Cell) : Prop where
  pA : A.Pairwise ltc
  pX : X.Pairwise ltc
  sB : Shp B
  bA : ∀ a ∈ A, (-15 ≤ a.1 ∧ a.1 ≤ 20) ∧ (-15 ≤ a.2 ∧ a.2 ≤ 20)
  bX : ∀ a ∈ X, (-15 ≤ a.1 ∧ a.1 ≤ 20) ∧ (-15 ≤ a.2 ∧ a.2 ≤ 20)
  lA : A.length ≤ 49
  lX : X.length ≤ 49
  few : (mk (A ++ X)).length ≤ 74
theorem good_of {Y : List Cell} (n : Nat) (hn : n ≤ 400) (p : Y.Pairwise ltc) (b : ∀ a ∈ Y, (-30 ≤ a.1 ∧ a.1 ≤ 30) ∧ (-30 ≤ a.2 ∧ a.2 ≤ 30)) (l : Y.length ≤ n) : Good Y :=
  ⟨by omega, fun c hc => by have := b c hc; omega, fun c hc => by have := b c hc; omega, p⟩
section
variable {Y : List Cell} {n : Int}
theorem b_sum (sB : Shp B) (b : ∀ a ∈ Y, (-n ≤ a.1 ∧ a.1 ≤ n) ∧ (-n ≤ a.2 ∧ a.2 ≤ n)) : ∀ a ∈ gr Y B, (-(n + 2) ≤ a.1 ∧ a.1 ≤ n + 2) ∧ (-(n + 2) ≤ a.2 ∧ a.2 ≤ n + 2) := fun c hc => by
  obtain ⟨a, ha, d, hd, rfl⟩ := mem_gr.mp hc
  have h1 := b a ha
  have h2 := sB.row d hd
  have h3 := sB.col d hd
  simp only [addC]
  omega
theorem b_shr (sB : Shp B) (b : ∀ a ∈ Y, (-n ≤ a.1 ∧ a.1 ≤ n) ∧ (-n ≤ a.2 ∧ a.2 ≤ n)) : ∀ a ∈ wn Y B, (-(n + 2) ≤ a.1 ∧ a.1 ≤ n + 2) ∧ (-(n + 2) ≤ a.2 ∧ a.2 ≤ n + 2) := fun c hc => by
  have h := b _ ((mem_wn sB.ne).mp hc _ sB.b0)
  have h2 := sB.row _ sB.b0
  have h3 := sB.col _ sB.b0
  simp only [addC] at h
  omega
theorem i_add (hn : n ≤ 50) (sB : Shp B) (b : ∀ a ∈ Y, (-n ≤ a.1 ∧ a.1 ≤ n) ∧ (-n ≤ a.2 ∧ a.2 ≤ n)) : ∀ a ∈ Y, ∀ d ∈ B, DL.In60 (addC a d) := fun a ha d hd => by
  have h1 := b a ha
  have h2 := sB.row d hd
  have h3 := sB.col d hd
  unfold DL.In60 addC
  simp only
  omega
theorem i_sub (hn : n ≤ 50) (sB : Shp B) (b : ∀ a ∈ Y, (-n ≤ a.1 ∧ a.1 ≤ n) ∧ (-n ≤ a.2 ∧ a.2 ≤ n)) : ∀ a ∈ Y, DL.In60 (subC a (b0 B)) := fun a ha => by
  have h1 := b a ha
  have h2 := sB.row _ sB.b0
  have h3 := sB.col _ sB.b0
  unfold DL.In60 subC
  simp only
  omega
theorem i_both (hn : n ≤ 50) (sB : Shp B) (b : ∀ a ∈ Y, (-n ≤ a.1 ∧ a.1 ≤ n) ∧ (-n ≤ a.2 ∧ a.2 ≤ n)) : ∀ a ∈ Y, ∀ d ∈ B, DL.In60 (subC (addC a d) (b0 B)) := fun a ha d hd => by
  have h1 := b a ha
  have h2 := sB.row d hd
  have h3 := sB.col d hd
  have h4 := sB.row _ sB.b0
  have h5 := sB.col _ sB.b0
  unfold DL.In60 subC addC
  simp only
  omega
theorem mul_le (sB : Shp B) (l : Y.length ≤ 49) : Y.length * B.length ≤ 294 := Nat.le_trans (Nat.mul_le_mul l sB.len) (by decide)
end
/-- all that the law asks the program -/
structure Answers (A X B : List Cell) : Prop where
  g1 : K27.F_dilated [inkD A, inkD B] = some (inkD (gr A B))
  s1 : K27.F_eroded [inkD X, inkD B] = some (inkD (wn X B))
  o1 : K27.F_opened [inkD X, inkD B] = some (inkD (gr (wn X B) B))
  c1 : K27.F_closed [inkD X, inkD B] = some (inkD (wn (gr X B) B))
  o2 : K27.F_opened [inkD (gr (wn X B) B), inkD B] = some (inkD (gr (wn X B) B))
  c2 : K27.F_closed [inkD (wn (gr X B) B), inkD B] = some (inkD (wn (gr X B) B))
  o3 : K27.F_opened [inkD (mk (A ++ X)), inkD B] = some (inkD (gr (wn (mk (A ++ X)) B) B))
  s3 : K27.F_eroded [inkD (mk (A ++ X)), inkD B] = some (inkD (wn (mk (A ++ X)) B))
theorem wd {Y : List Cell} {n m : Int} (h : n ≤ m) (b : ∀ a ∈ Y, (-n ≤ a.1 ∧ a.1 ≤ n) ∧ (-n ≤ a.2 ∧ a.2 ≤ n)) : ∀ a ∈ Y, (-m ≤ a.1 ∧ a.1 ≤ m) ∧ (-m ≤ a.2 ∧ a.2 ≤ m) := fun a ha => by
  have := b a ha
  omega
theorem answers_of (d : Drawn A X B) : Answers A X B := by
  have sB := d.sB
  have gB := sB.good
  have ne := sB.ne
  have bA : ∀ a ∈ A, (-(20 : Int) ≤ a.1 ∧ a.1 ≤ 20) ∧ (-(20 : Int) ≤ a.2 ∧ a.2 ≤ 20) := fun a ha => by have := d.bA a ha; omega
  have bX : ∀ a ∈ X, (-(20 : Int) ≤ a.1 ∧ a.1 ≤ 20) ∧ (-(20 : Int) ≤ a.2 ∧ a.2 ≤ 20) := fun a ha => by have := d.bX a ha; omega
  have bW : ∀ a ∈ mk (A ++ X), (-(20 : Int) ≤ a.1 ∧ a.1 ≤ 20) ∧ (-(20 : Int) ≤ a.2 ∧ a.2 ≤ 20) := fun a ha => (List.mem_append.mp (mk_mem.mp ha)).elim (bA a) (bX a)
  have gA : Good A := good_of 49 (by omega) d.pA (wd (by omega) bA) d.lA
  have gX : Good X := good_of 49 (by omega) d.pX (wd (by omega) bX) d.lX
  have gW : Good (mk (A ++ X)) := good_of 74 (by omega) (mk_pair _) (wd (by omega) bW) d.few
  have mA := mul_le sB d.lA
  have mX := mul_le sB d.lX
  have mW : (mk (A ++ X)).length * B.length ≤ 74 * 6 := Nat.mul_le_mul d.few sB.len
  have lgA : (gr A B).length ≤ 294 := Nat.le_trans (mk_len _) (by rw [sum_len]; exact mA)
  have lgX : (gr X B).length ≤ 294 := Nat.le_trans (mk_len _) (by rw [sum_len]; exact mX)
  have bgX := b_sum sB bX
  -- low
  have lowIn := low_in (X := X) ne
  have bL : ∀ a ∈ gr (wn X B) B, (-(20 : Int) ≤ a.1 ∧ a.1 ≤ 20) ∧ (-(20 : Int) ≤ a.2 ∧ a.2 ≤ 20) := fun a ha => bX a (lowIn a ha)
  have lL : (gr (wn X B) B).length ≤ 49 := Nat.le_trans (sub_len _ _ (pair_nodup (mk_pair _)) lowIn) d.lX
  have gL : Good (gr (wn X B) B) := good_of 49 (by omega) (mk_pair _) (wd (by omega) bL) lL
  -- high
  have bH := b_shr sB bgX
  have lH : (wn (gr X B) B).length ≤ 294 := Nat.le_trans (mk_len _) (Nat.le_trans (shr_len _ _) lgX)
  have gH : Good (wn (gr X B) B) := good_of 294 (by omega) (mk_pair _) (wd (by omega) bH) lH
  have hs := high_sum (X := X) ne
  have mH : (wn (gr X B) B).length * B.length ≤ 294 * 6 := Nat.mul_le_mul lH sB.len
  refine ⟨dilated_ok gA gB ne (i_add (by omega) sB bA) (Nat.le_trans lgA (by omega)) (by omega), eroded_ok gX gB ne (i_sub (by omega) sB bX), opened_ok gX gB ne (i_sub (by omega) sB bX) (by omega),
    closed_ok gX gB ne (i_add (by omega) sB bX) (i_both (by omega) sB bX) (Nat.le_trans lgX (by omega)) (by omega), ?_, ?_, opened_ok gW gB ne (i_sub (by omega) sB bW) (by omega), eroded_ok gW gB ne (i_sub (by omega) sB bW)⟩
  · have := opened_ok gL gB ne (i_sub (by omega) sB bL) (by have := mul_le sB lL; omega)
    have e : mk (sumC (mk (shrC (gr (wn X B) B) B)) B) = gr (wn X B) B := low_low ne
    rw [e] at this
    exact this
  · have e : mk (sumC (wn (gr X B) B) B) = gr X B := hs
    have := closed_ok gH gB ne (i_add (by omega) sB bH) (i_both (by omega) sB bH) (by rw [e]; omega) (by omega)
    rw [e] at this
    exact this
abbrev lE (N row : D) (one oth sh gro les low hig who wid mor : Slt) : DL.Env := [ow N, ow row, one, oth, sh, gro, les, low, hig, who, wid, mor, none]
theorem draw_ok (r : DL.Row ns row) : ∃ (A X B : List Cell) (row' : D), Drawn A X B ∧ DL.Row ns row' ∧ Ev (sSeq P_law2 P_law3) (lE N row none none none none none none none none none none) (.nx (lE N row' (ow (inkD A)) (ow (inkD X)) (ow (inkD B)) none none none none none none none)) := by
  obtain ⟨A, d1, e1, iA, r1⟩ := ink_ok (h := 5) (w := 5) r (by omega) (by omega)
  obtain ⟨X, d2, e2, iX, r2⟩ := ink_ok (h := 7) (w := 7) r1 (by omega) (by omega)
  obtain ⟨B, d3, e3, sB, r3⟩ := law_shape_ok r2
  have e1 : C.F_law_ink row [.int 5, .int 5] = some (inkD A, d1) := e1
  have e2 : C.F_law_ink d1 [.int 7, .int 7] = some (inkD X, d2) := e2
  obtain ⟨v, d4, e4, v0, v2, r4⟩ := taken_ok (m := 2) r3 (by omega)
  have pA := pure_ink A
  have pX := pure_ink X
  have pB := pure_ink B
  have bX : ∀ a ∈ X, (-15 ≤ a.1 ∧ a.1 ≤ 20) ∧ (-15 ≤ a.2 ∧ a.2 ≤ 20) := fun a ha => by have := iX.row a ha; have := iX.col a ha; omega
  have s2 : Ev P_law2 (lE N row none none none none none none none none none none) (.nx (lE N d3 (ow (inkD A)) (ow (inkD X)) (ow (inkD B)) none none none none none none none)) := by
    refine Ev.of ?_
    unfold P_law2
    generalize inkD A = IA at *
    generalize inkD X = IX at *
    generalize inkD B = IB at *
    simp (disch := omega) [-e_put, e_put', q_law_ink, q_law_shape, e1, e2, e3, pA, pX, pB, if_size]
  by_cases hv : v = 0
  · subst hv
    have bX' : ∀ a ∈ X, (-(20 : Int) ≤ a.1 ∧ a.1 ≤ 20) ∧ (-(20 : Int) ≤ a.2 ∧ a.2 ≤ 20) := fun a ha => by have := bX a ha; omega
    have er : K27.F_eroded [inkD X, inkD B] = some (inkD (wn X B)) := eroded_ok (good_of 49 (by omega) iX.srt (wd (by omega) bX') iX.len) sB.good sB.ne (i_sub (by omega) sB bX')
    obtain ⟨l, ρ2, sl, c, d5, r5, e5⟩ := compM_filter (gx := put 12) (t := mBool (mOp oGt (mCallR takenF 1 (msCons (mP (xC (.int 3))) msNil)) (mP (xC (.int 0))))) (e := mP (xPure (xVar 12))) (vs := [12]) cellD cellD
      (fun ρ => ∃ d : D, DL.Row ns d ∧ ρ = lE N d (ow (inkD A)) (ow (inkD X)) (ow (inkD B)) none none none none none none none) (wn X B) (lE N d4 (ow (inkD A)) (ow (inkD X)) (ow (inkD B)) none none none none none none none) ⟨d4, r4, rfl⟩ fun c hc ρ q => by
      obtain ⟨d, r, rfl⟩ := q
      obtain ⟨v, d', e, a, b, r'⟩ := taken_ok (m := 3) r (by omega)
      have pc := pure_cell (c := c)
      refine ⟨pc, [ow N, ow d, ow (inkD A), ow (inkD X), ow (inkD B), none, none, none, none, none, none, none, ow (cellD c)], decide (0 < v), [ow N, ow d', ow (inkD A), ow (inkD X), ow (inkD B), none, none, none, none, none, none, none, ow (cellD c)], ?_, ?_, ?_⟩
      · generalize inkD A = IA at *
        generalize inkD X = IX at *
        generalize inkD B = IB at *
        generalize cellD c = CC at *
        simp
      · generalize inkD A = IA at *
        generalize inkD X = IX at *
        generalize inkD B = IB at *
        generalize cellD c = CC at *
        simp [q_taken, e]
      · by_cases hv : 0 < v
        · refine .inr ⟨decide_eq_true hv, [ow N, ow d', ow (inkD A), ow (inkD X), ow (inkD B), none, none, none, none, none, none, none, ow (cellD c)], ?_, pc, d', r', ?_⟩
          · generalize inkD A = IA at *
            generalize inkD X = IX at *
            generalize inkD B = IB at *
            generalize cellD c = CC at *
            simp [pc]
          · generalize inkD A = IA at *
            generalize inkD X = IX at *
            generalize inkD B = IB at *
            generalize cellD c = CC at *
            simp
        · refine .inl ⟨decide_eq_false hv, d', r', ?_⟩
          generalize inkD A = IA at *
          generalize inkD X = IX at *
          generalize inkD B = IB at *
          generalize cellD c = CC at *
          simp
    subst e5
    have ll : (wn X B).length ≤ 49 := Nat.le_trans (mk_len _) (Nat.le_trans (shr_len _ _) iX.len)
    have sll := sl.length_le
    obtain ⟨t, l', ht, hl, bx⟩ := iX.box
    have inA : ∀ a ∈ l, a ∈ wn X B := fun a ha => sl.subset ha
    have dr : Drawn l X B := ⟨(mk_pair _).sublist sl, iX.srt, sB, fun a ha => ?_, bX, by omega, iX.len, ?_⟩
    rotate_left
    · have h := bx _ ((mem_wn sB.ne).mp (inA a ha) _ sB.b0)
      have h2 := sB.row _ sB.b0
      have h3 := sB.col _ sB.b0
      simp only [addC] at h
      omega
    · have := two_few (b1 := (b0 B).1) (b2 := (b0 B).2) (t := t) (l := l') (X := X) (A := l) bx ⟨sB.row _ sB.b0, sB.col _ sB.b0⟩ fun c hc => (mem_wn sB.ne).mp (inA c hc) _ sB.b0
      omega
    refine ⟨l, X, B, d5, dr, r5, Ev.seq s2 (Ev.of ?_)⟩
    have it : itemsOf (inkD (wn X B)) = some ((wn X B).map cellD) := rfl
    have tc := tupleD_c l
    have z1 : (l.map cellD).length ≤ sizeLine := by rw [List.length_map, size_eq]; omega
    have pl := pure_ink l
    unfold P_law3 P_law3t
    generalize inkD l = IL at *
    generalize l.map cellD = LL at *
    generalize (wn X B).map cellD = WL at *
    generalize inkD (wn X B) = IW at *
    generalize inkD A = IA at *
    generalize inkD X = IX at *
    generalize inkD B = IB at *
    simp [-e_put, e_put', q_taken, e4, er, it, c, z1, tc]
  · refine ⟨A, X, B, d4, ⟨iA.srt, iX.srt, sB, fun a ha => by have := iA.row a ha; have := iA.col a ha; omega, bX, by have := iA.len; omega, iX.len, ?_⟩, r4, Ev.seq s2 (Ev.of ?_)⟩
    · refine Nat.le_trans (mk_len _) ?_
      rw [List.length_append]
      have := iA.len
      have := iX.len
      omega
    · unfold P_law3
      generalize inkD A = IA at *
      generalize inkD X = IX at *
      generalize inkD B = IB at *
      simp [-e_put, e_put', q_taken, e4, hv]
end
end K27
namespace K27
open PySem PySem.Spec L2 DL DL.C
section
variable {A X B : List Cell} {N row : D} {ns : List Int}
abbrev lR (N row a x b g s lo hi wh wi mo : D) : DL.Env := [ow N, ow row, ow a, ow x, ow b, ow g, ow s, ow lo, ow hi, ow wh, ow wi, ow mo, none]
theorem out_at (P Q : List Cell) (ρ : DL.Env) (j : Nat) (h : ∀ Y : D, DL.pure Y = true → ∃ ρ1, putB 12 Y ρ = some ρ1 ∧ xOp oNin (xVar 12) (xVar j) ρ1 = oNin Y (inkD Q) ∧ xPure (xVar 12) ρ1 = some Y) :
    compE (putB 12) (xBool (xOp oNin (xVar 12) (xVar j))) (xPure (xVar 12)) ρ (P.map cellD) = some ((P.filter fun c => !decide (c ∈ Q)).map cellD) :=
  comp_map cellD (fun c => !decide (c ∈ Q)) cellD P fun c hc => by
    obtain ⟨ρ1, h1, h2, h3⟩ := h (cellD c) pure_cell
    refine ⟨ρ1, h1, ?_, fun _ => h3⟩
    unfold xBool
    rw [h2, nin_ink]
    rfl
theorem tail_ok (d : Drawn A X B) : Ev (sSeq P_law4 (sSeq P_law5 (sSeq P_law6 (sSeq P_law7 (sSeq P_law8 (sSeq P_law9 (sSeq P_law10 (sSeq P_law11 P_law12))))))))
    (lE N row (ow (inkD A)) (ow (inkD X)) (ow (inkD B)) none none none none none none none)
    (.rt (.bl true) (lE N row (ow (inkD A)) (ow (inkD X)) (ow (inkD B)) (ow (inkD (gr A B))) (ow (inkD (wn X B))) (ow (inkD (gr (wn X B) B))) (ow (inkD (wn (gr X B) B))) (ow (inkD (mk (A ++ X)))) (ow (inkD (gr (wn (mk (A ++ X)) B) B))) (ow (inkD (wn (mk (A ++ X)) B))))) := by
  have an := answers_of d
  have ne := d.sB.ne
  obtain ⟨g1, s1, o1, c1, o2, c2, o3, s3⟩ := an
  have ad := adj (A := A) (X := X) (B := B) ne
  have e1 := eq_cells0 ((gr A B).filter fun c => !decide (c ∈ X))
  have e2 := eq_cells0 (A.filter fun c => !decide (c ∈ wn X B))
  have n1 := ne_cells0 ((gr (wn X B) B).filter fun c => !decide (c ∈ X))
  have n2 := ne_cells0 (X.filter fun c => !decide (c ∈ wn (gr X B) B))
  have e3 := eq_cells0 ((gr (wn X B) B).filter fun c => !decide (c ∈ gr (wn (mk (A ++ X)) B) B))
  have e4 := eq_cells0 ((wn X B).filter fun c => !decide (c ∈ wn (mk (A ++ X)) B))
  have XW : ∀ c ∈ X, c ∈ mk (A ++ X) := fun c hc => mk_mem.mpr (List.mem_append_right _ hc)
  have mono := wn_mono ne XW
  rw [decide_eq_true ((filt_nil _ _).mpr mono)] at e4
  rw [decide_eq_true ((filt_nil _ _).mpr (gr_mono mono))] at e3
  rw [decide_eq_true ((filt_nil _ _).mpr (low_in ne))] at n1
  rw [decide_eq_true ((filt_nil _ _).mpr (in_high ne))] at n2
  have same : decide ((gr A B).filter (fun c => !decide (c ∈ X)) = []) = decide (A.filter (fun c => !decide (c ∈ wn X B)) = []) := by
    rw [Bool.eq_iff_iff, decide_eq_true_eq, decide_eq_true_eq, filt_nil, filt_nil]
    exact ad
  rw [same] at e1
  have nb : ∀ b : Bool, oNe (.bl b) (.bl b) = some (.bl false) := fun b => by cases b <;> rfl
  have no := ne_ink (gr (wn X B) B) (gr (wn X B) B)
  rw [decide_eq_true rfl] at no
  have nc := ne_ink (wn (gr X B) B) (wn (gr X B) B)
  rw [decide_eq_true rfl] at nc
  have lA := d.lA
  have lX := d.lX
  have few := d.few
  have fl : ∀ (P : List Cell) (p : Cell → Bool) (n : Nat), P.length ≤ n → n ≤ 1000 → ((P.filter p).map cellD).length ≤ sizeLine := fun P p n h1 h2 => by
    have := List.length_filter_le p P
    rw [List.length_map, size_eq]
    omega
  have lgA : (gr A B).length ≤ 294 := Nat.le_trans (mk_len _) (by rw [sum_len]; exact mul_le d.sB lA)
  have lwX : (wn X B).length ≤ 49 := Nat.le_trans (mk_len _) (Nat.le_trans (shr_len _ _) lX)
  have lL : (gr (wn X B) B).length ≤ 49 := Nat.le_trans (sub_len _ _ (pair_nodup (mk_pair _)) (low_in ne)) lX
  have ea : oAdd (inkD A) (inkD X) = some (.tup ((A ++ X).map cellD)) := by
    show (if _ then _ else _) = _
    rw [if_pos (by rw [List.length_map, List.length_map, size_eq]; omega), if_pos (pures_cells A), if_pos (pures_cells X), List.map_append]
  have st := srtTupW_cells (C := A ++ X) (S := mk (A ++ X)) (by omega) (mk_pair _) fun c => mk_mem
  have tc := tupleD_c (mk (A ++ X))
  have pA := pure_ink A
  have pG := pure_ink (gr A B)
  have pS := pure_ink (wn X B)
  have pL := pure_ink (gr (wn X B) B)
  have pH := pure_ink (wn (gr X B) B)
  have iG : itemsOf (inkD (gr A B)) = some ((gr A B).map cellD) := rfl
  have iA : itemsOf (inkD A) = some (A.map cellD) := rfl
  have iL : itemsOf (inkD (gr (wn X B) B)) = some ((gr (wn X B) B).map cellD) := rfl
  have iX : itemsOf (inkD X) = some (X.map cellD) := rfl
  have iS : itemsOf (inkD (wn X B)) = some ((wn X B).map cellD) := rfl
  have fin12 : ∀ (a x b g s lo hi wh wi mo : Slt) (Y : D), putB 12 Y (lE N row a x b g s lo hi wh wi mo) = some [ow N, ow row, a, x, b, g, s, lo, hi, wh, wi, mo, bo Y] := fun a x b g s lo hi wh wi mo Y => by simp
  refine Ev.seq (ρ1 := lE N row (ow (inkD A)) (ow (inkD X)) (ow (inkD B)) (ow (inkD (gr A B))) (ow (inkD (wn X B))) none none none none none) (Ev.of ?_)
    (Ev.seq (ρ1 := lE N row (ow (inkD A)) (ow (inkD X)) (ow (inkD B)) (ow (inkD (gr A B))) (ow (inkD (wn X B))) none none none none none) (Ev.of ?_)
    (Ev.seq (ρ1 := lE N row (ow (inkD A)) (ow (inkD X)) (ow (inkD B)) (ow (inkD (gr A B))) (ow (inkD (wn X B))) (ow (inkD (gr (wn X B) B))) (ow (inkD (wn (gr X B) B))) none none none) (Ev.of ?_)
    (Ev.seq (ρ1 := lE N row (ow (inkD A)) (ow (inkD X)) (ow (inkD B)) (ow (inkD (gr A B))) (ow (inkD (wn X B))) (ow (inkD (gr (wn X B) B))) (ow (inkD (wn (gr X B) B))) none none none) (Ev.of ?_)
    (Ev.seq (ρ1 := lE N row (ow (inkD A)) (ow (inkD X)) (ow (inkD B)) (ow (inkD (gr A B))) (ow (inkD (wn X B))) (ow (inkD (gr (wn X B) B))) (ow (inkD (wn (gr X B) B))) none none none) (Ev.of ?_)
    (Ev.seq (ρ1 := lE N row (ow (inkD A)) (ow (inkD X)) (ow (inkD B)) (ow (inkD (gr A B))) (ow (inkD (wn X B))) (ow (inkD (gr (wn X B) B))) (ow (inkD (wn (gr X B) B))) (ow (inkD (mk (A ++ X)))) none none) (Ev.of ?_)
    (Ev.seq (ρ1 := lE N row (ow (inkD A)) (ow (inkD X)) (ow (inkD B)) (ow (inkD (gr A B))) (ow (inkD (wn X B))) (ow (inkD (gr (wn X B) B))) (ow (inkD (wn (gr X B) B))) (ow (inkD (mk (A ++ X)))) (ow (inkD (gr (wn (mk (A ++ X)) B) B))) none) (Ev.of ?_)
    (Ev.seq (ρ1 := lE N row (ow (inkD A)) (ow (inkD X)) (ow (inkD B)) (ow (inkD (gr A B))) (ow (inkD (wn X B))) (ow (inkD (gr (wn X B) B))) (ow (inkD (wn (gr X B) B))) (ow (inkD (mk (A ++ X)))) (ow (inkD (gr (wn (mk (A ++ X)) B) B))) (ow (inkD (wn (mk (A ++ X)) B)))) (Ev.of ?_) (Ev.retP ?_))))))))
  · unfold P_law4
    generalize inkD (gr A B) = G at *
    generalize inkD (wn X B) = S at *
    generalize inkD A = IA at *
    generalize inkD X = IX at *
    generalize inkD B = IB at *
    simp (disch := omega) [g1, s1, pG, pS, if_size]
  · have k1 := out_at (gr A B) X (lE N row (ow (inkD A)) (ow (inkD X)) (ow (inkD B)) (ow (inkD (gr A B))) (ow (inkD (wn X B))) none none none none none) 3 fun Y pY => ⟨_, fin12 .., by simp, by simp [pY]⟩
    have k2 := out_at A (wn X B) (lE N row (ow (inkD A)) (ow (inkD X)) (ow (inkD B)) (ow (inkD (gr A B))) (ow (inkD (wn X B))) none none none none none) 6 fun Y pY => ⟨_, fin12 .., by simp, by simp [pY]⟩
    have z1 := fl (gr A B) (fun c => !decide (c ∈ X)) 294 lgA (by omega)
    have z2 := fl A (fun c => !decide (c ∈ wn X B)) 49 lA (by omega)
    have nb' := nb (decide (A.filter (fun c => !decide (c ∈ wn X B)) = []))
    unfold P_law5
    generalize decide (A.filter (fun c => !decide (c ∈ wn X B)) = []) = DD at *
    generalize ((gr A B).filter fun c => !decide (c ∈ X)).map cellD = F1 at *
    generalize (A.filter fun c => !decide (c ∈ wn X B)).map cellD = F2 at *
    generalize (gr A B).map cellD = GM at *
    generalize A.map cellD = AM at *
    generalize inkD (gr A B) = G at *
    generalize inkD (wn X B) = S at *
    generalize inkD A = IA at *
    generalize inkD X = IX at *
    generalize inkD B = IB at *
    simp [iG, iA, k1, k2, z1, z2, e1, e2, nb']
  · unfold P_law6
    generalize inkD (gr (wn X B) B) = L at *
    generalize inkD (wn (gr X B) B) = H at *
    generalize inkD (gr A B) = G at *
    generalize inkD (wn X B) = S at *
    generalize inkD A = IA at *
    generalize inkD X = IX at *
    generalize inkD B = IB at *
    simp (disch := omega) [o1, c1, pL, pH, if_size]
  · have k1 := out_at (gr (wn X B) B) X (lE N row (ow (inkD A)) (ow (inkD X)) (ow (inkD B)) (ow (inkD (gr A B))) (ow (inkD (wn X B))) (ow (inkD (gr (wn X B) B))) (ow (inkD (wn (gr X B) B))) none none none) 3 fun Y pY => ⟨_, fin12 .., by simp, by simp [pY]⟩
    have k2 := out_at X (wn (gr X B) B) (lE N row (ow (inkD A)) (ow (inkD X)) (ow (inkD B)) (ow (inkD (gr A B))) (ow (inkD (wn X B))) (ow (inkD (gr (wn X B) B))) (ow (inkD (wn (gr X B) B))) none none none) 8 fun Y pY => ⟨_, fin12 .., by simp, by simp [pY]⟩
    have z1 := fl (gr (wn X B) B) (fun c => !decide (c ∈ X)) 49 lL (by omega)
    have z2 := fl X (fun c => !decide (c ∈ wn (gr X B) B)) 49 lX (by omega)
    unfold P_law7
    generalize ((gr (wn X B) B).filter fun c => !decide (c ∈ X)).map cellD = F1 at *
    generalize (X.filter fun c => !decide (c ∈ wn (gr X B) B)).map cellD = F2 at *
    generalize (gr (wn X B) B).map cellD = LM at *
    generalize X.map cellD = XM at *
    generalize inkD (gr (wn X B) B) = L at *
    generalize inkD (wn (gr X B) B) = H at *
    generalize inkD (gr A B) = G at *
    generalize inkD (wn X B) = S at *
    generalize inkD A = IA at *
    generalize inkD X = IX at *
    generalize inkD B = IB at *
    simp [iL, iX, k1, k2, z1, z2, n1, n2, yOr]
  · unfold P_law8
    generalize inkD (gr (wn X B) B) = L at *
    generalize inkD (wn (gr X B) B) = H at *
    generalize inkD (gr A B) = G at *
    generalize inkD (wn X B) = S at *
    generalize inkD A = IA at *
    generalize inkD X = IX at *
    generalize inkD B = IB at *
    simp [o2, c2, no, nc, yOr]
  · unfold P_law9
    generalize inkD (mk (A ++ X)) = W at *
    generalize (mk (A ++ X)).map cellD = WM at *
    generalize (A ++ X).map cellD = AXM at *
    generalize inkD (gr (wn X B) B) = L at *
    generalize inkD (wn (gr X B) B) = H at *
    generalize inkD (gr A B) = G at *
    generalize inkD (wn X B) = S at *
    generalize inkD A = IA at *
    generalize inkD X = IX at *
    generalize inkD B = IB at *
    simp [ea, st, tc]
  · unfold P_law10
    generalize inkD (gr (wn (mk (A ++ X)) B) B) = WI at *
    generalize inkD (mk (A ++ X)) = W at *
    generalize inkD (gr (wn X B) B) = L at *
    generalize inkD (wn (gr X B) B) = H at *
    generalize inkD (gr A B) = G at *
    generalize inkD (wn X B) = S at *
    generalize inkD A = IA at *
    generalize inkD X = IX at *
    generalize inkD B = IB at *
    simp [o3]
  · unfold P_law11
    generalize inkD (gr (wn (mk (A ++ X)) B) B) = WI at *
    generalize inkD (wn (mk (A ++ X)) B) = MO at *
    generalize inkD (mk (A ++ X)) = W at *
    generalize inkD (gr (wn X B) B) = L at *
    generalize inkD (wn (gr X B) B) = H at *
    generalize inkD (gr A B) = G at *
    generalize inkD (wn X B) = S at *
    generalize inkD A = IA at *
    generalize inkD X = IX at *
    generalize inkD B = IB at *
    simp [s3]
  · have k1 := out_at (gr (wn X B) B) (gr (wn (mk (A ++ X)) B) B) (lE N row (ow (inkD A)) (ow (inkD X)) (ow (inkD B)) (ow (inkD (gr A B))) (ow (inkD (wn X B))) (ow (inkD (gr (wn X B) B))) (ow (inkD (wn (gr X B) B))) (ow (inkD (mk (A ++ X)))) (ow (inkD (gr (wn (mk (A ++ X)) B) B))) (ow (inkD (wn (mk (A ++ X)) B)))) 10 fun Y pY => ⟨_, fin12 .., by simp, by simp [pY]⟩
    have k2 := out_at (wn X B) (wn (mk (A ++ X)) B) (lE N row (ow (inkD A)) (ow (inkD X)) (ow (inkD B)) (ow (inkD (gr A B))) (ow (inkD (wn X B))) (ow (inkD (gr (wn X B) B))) (ow (inkD (wn (gr X B) B))) (ow (inkD (mk (A ++ X)))) (ow (inkD (gr (wn (mk (A ++ X)) B) B))) (ow (inkD (wn (mk (A ++ X)) B)))) 11 fun Y pY => ⟨_, fin12 .., by simp, by simp [pY]⟩
    have z1 := fl (gr (wn X B) B) (fun c => !decide (c ∈ gr (wn (mk (A ++ X)) B) B)) 49 lL (by omega)
    have z2 := fl (wn X B) (fun c => !decide (c ∈ wn (mk (A ++ X)) B)) 49 lwX (by omega)
    generalize ((gr (wn X B) B).filter fun c => !decide (c ∈ gr (wn (mk (A ++ X)) B) B)).map cellD = F1 at *
    generalize ((wn X B).filter fun c => !decide (c ∈ wn (mk (A ++ X)) B)).map cellD = F2 at *
    generalize (gr (wn X B) B).map cellD = LM at *
    generalize (wn X B).map cellD = SM at *
    generalize inkD (gr (wn (mk (A ++ X)) B) B) = WI at *
    generalize inkD (wn (mk (A ++ X)) B) = MO at *
    generalize inkD (mk (A ++ X)) = W at *
    generalize inkD (gr (wn X B) B) = L at *
    generalize inkD (wn (gr X B) B) = H at *
    generalize inkD (gr A B) = G at *
    generalize inkD (wn X B) = S at *
    generalize inkD A = IA at *
    generalize inkD X = IX at *
    generalize inkD B = IB at *
    simp [iL, iS, k1, k2, z1, z2, e3, e4]
theorem answers (ns : List Int) (_ : ns.length ≤ 63) : F_law [.frz (ns.map D.int)] = some (.bl true) := by
  have p := pures_ints ns
  have he : env0 N_law [.frz (ns.map D.int)] = [ow (.frz (ns.map D.int)), none, none, none, none, none, none, none, none, none, none, none, none] := by
    unfold env0
    rw [List.map_cons, e_arg_frz p]
    rfl
  have rs := row_start ns 3727
  generalize hN : D.frz (ns.map D.int) = N at *
  have pN : DL.pure N = true := by rw [← hN]; exact p
  obtain ⟨A, X, B, row', d, r', v1⟩ := draw_ok (N := N) rs
  have v2 := tail_ok (N := N) (row := row') d
  have asc : ∀ (a b c : ES) (ρ : DL.Env), sSeq (sSeq a b) c ρ = sSeq a (sSeq b c) ρ := fun a b c ρ => by
    unfold sSeq
    cases a ρ with
    | none => rfl
    | some o => cases o <;> rfl
  obtain ⟨o', x, l⟩ := Ev.seq v1 v2
  rw [asc] at x
  refine ev_fn he ?_ (ρ1 := lE N row' (ow (inkD A)) (ow (inkD X)) (ow (inkD B)) (ow (inkD (gr A B))) (ow (inkD (wn X B))) (ow (inkD (gr (wn X B) B))) (ow (inkD (wn (gr X B) B))) (ow (inkD (mk (A ++ X)))) (ow (inkD (gr (wn (mk (A ++ X)) B) B))) (ow (inkD (wn (mk (A ++ X)) B))))
  rw [eq_law]
  unfold P_law
  refine Ev.seq (ρ1 := lE N (.lst [N, .int 0, .int 3727, .int 0]) none none none none none none none none none none) (Ev.of ?_) ⟨o', x, l⟩
  unfold P_law1
  simp (disch := omega) [pN, if_size]
end
end K27
open PySem PySem.W PyProof.Rows
set_option maxHeartbeats 0 in
theorem PySem.Challenge.cw_gridink_k27_whole_adjoint_pairs_holds : PySem.Challenge.rw_gridink_k27_whole_adjoint_pairs.Holds := by
  w_on; o_law; k_head; (case hw => w_witness2)
  k_fill
  refine L2.walk_of (l := PySem.Challenge.rw_gridink_k27_whole_adjoint_pairs) (n := 63) (k := 7) (x := "_law_script") (CX := fun _ => L2.CX0) (sp := fun w => DL.spP _ 1 K27.F_law) rfl (by decide) rfl ⟨rfl, by decide, by decide⟩ (fun w h Y => PySem.W.kIn_of Y) ?F (DL.law_hsp K27.answers) (fun _ _ _ _ _ h => h)
  intro w mg fa h KX G hmg
  refine K27.ok_law ?_ hmg
  constructor
  · refine' DL.mk_def KX G ?qa0 ?ql0 ?qc0 ?qk0 (fun _ _ _ _ _ _ us hl => match us, hl with | [_, _, _], _ => rfl)
    (case qa0 => k_is); (case ql0 => k_is); (case qc0 => k_is); (case qk0 => k_is)
  · refine' DL.mk_def KX G ?qa1 ?ql1 ?qc1 ?qk1 (fun _ _ _ _ _ _ us hl => match us, hl with | [_], _ => rfl)
    (case qa1 => k_is); (case ql1 => k_is); (case qc1 => k_is); (case qk1 => k_is)
  · refine' DL.mk_def KX G ?qa2 ?ql2 ?qc2 ?qk2 (fun _ _ _ _ _ _ us hl => match us, hl with | [_, _, _], _ => rfl)
    (case qa2 => k_is); (case ql2 => k_is); (case qc2 => k_is); (case qk2 => k_is)
  · refine' DL.mk_def KX G ?qa3 ?ql3 ?qc3 ?qk3 (fun _ _ _ _ _ _ us hl => match us, hl with | [_], _ => rfl)
    (case qa3 => k_is); (case ql3 => k_is); (case qc3 => k_is); (case qk3 => k_is)
  · refine' DL.mk_def KX G ?qa4 ?ql4 ?qc4 ?qk4 (fun _ _ _ _ _ _ us hl => match us, hl with | [_], _ => rfl)
    (case qa4 => k_is); (case ql4 => k_is); (case qc4 => k_is); (case qk4 => k_is)
  · refine' DL.mk_def KX G ?qa5 ?ql5 ?qc5 ?qk5 (fun _ _ _ _ _ _ us hl => match us, hl with | [_], _ => rfl)
    (case qa5 => k_is); (case ql5 => k_is); (case qc5 => k_is); (case qk5 => k_is)
  · refine' DL.mk_def KX G ?qa6 ?ql6 ?qc6 ?qk6 (fun _ _ _ _ _ _ us hl => match us, hl with | [_], _ => rfl)
    (case qa6 => k_is); (case ql6 => k_is); (case qc6 => k_is); (case qk6 => k_is)
  · refine' DL.mk_def KX G ?qa7 ?ql7 ?qc7 ?qk7 (fun _ _ _ _ _ _ us hl => match us, hl with | [_, _], _ => rfl)
    (case qa7 => k_is); (case ql7 => k_is); (case qc7 => k_is); (case qk7 => k_is)
  · refine' DL.mk_def KX G ?qa8 ?ql8 ?qc8 ?qk8 (fun _ _ _ _ _ _ us hl => match us, hl with | [_, _, _], _ => rfl)
    (case qa8 => k_is); (case ql8 => k_is); (case qc8 => k_is); (case qk8 => k_is)
  · refine' DL.mk_def KX G ?qa9 ?ql9 ?qc9 ?qk9 (fun _ _ _ _ _ _ us hl => match us, hl with | [_, _], _ => rfl)
    (case qa9 => k_is); (case ql9 => k_is); (case qc9 => k_is); (case qk9 => k_is)
  · refine' DL.mk_def KX G ?qa10 ?ql10 ?qc10 ?qk10 (fun _ _ _ _ _ _ us hl => match us, hl with | [_, _], _ => rfl)
    (case qa10 => k_is); (case ql10 => k_is); (case qc10 => k_is); (case qk10 => k_is)
  · refine' DL.mk_def KX G ?qa11 ?ql11 ?qc11 ?qk11 (fun _ _ _ _ _ _ us hl => match us, hl with | [_, _], _ => rfl)
    (case qa11 => k_is); (case ql11 => k_is); (case qc11 => k_is); (case qk11 => k_is)
  · refine' DL.mk_def KX G ?qa12 ?ql12 ?qc12 ?qk12 (fun _ _ _ _ _ _ us hl => match us, hl with | [_, _], _ => rfl)
    (case qa12 => k_is); (case ql12 => k_is); (case qc12 => k_is); (case qk12 => k_is)
  · refine' DL.mk_def KX G ?qa13 ?ql13 ?qc13 ?qk13 (fun _ _ _ _ _ _ us hl => match us, hl with | [_, _], _ => rfl)
    (case qa13 => k_is); (case ql13 => k_is); (case qc13 => k_is); (case qk13 => k_is)
  · refine' DL.mk_def KX G ?qa14 ?ql14 ?qc14 ?qk14 (fun _ _ _ _ _ _ us hl => match us, hl with | [_, _], _ => rfl)
    (case qa14 => k_is); (case ql14 => k_is); (case qc14 => k_is); (case qk14 => k_is)
  · refine' DL.mk_def KX G ?qa15 ?ql15 ?qc15 ?qk15 (fun _ _ _ _ _ _ us hl => match us, hl with | [_, _, _], _ => rfl)
    (case qa15 => k_is); (case ql15 => k_is); (case qc15 => k_is); (case qk15 => k_is)
  · refine' DL.mk_def KX G ?qa16 ?ql16 ?qc16 ?qk16 (fun _ _ _ _ _ _ us hl => match us, hl with | [_], _ => rfl)
    (case qa16 => k_is); (case ql16 => k_is); (case qc16 => k_is); (case qk16 => k_is)
  · refine' DL.mk_def KX G ?qa17 ?ql17 ?qc17 ?qk17 (fun _ _ _ _ _ _ us hl => match us, hl with | [_, _], _ => rfl)
    (case qa17 => k_is); (case ql17 => k_is); (case qc17 => k_is); (case qk17 => k_is)
  · refine' DL.mk_def KX G ?qa18 ?ql18 ?qc18 ?qk18 (fun _ _ _ _ _ _ us hl => match us, hl with | [_, _], _ => rfl)
    (case qa18 => k_is); (case ql18 => k_is); (case qc18 => k_is); (case qk18 => k_is)
  · refine' DL.mk_def KX G ?qa19 ?ql19 ?qc19 ?qk19 (fun _ _ _ _ _ _ us hl => match us, hl with | [_], _ => rfl)
    (case qa19 => k_is); (case ql19 => k_is); (case qc19 => k_is); (case qk19 => k_is)
  · refine DL.mk_non KX G ?qb0; k_is
  · refine DL.mk_non KX G ?qb1; k_is
  · refine DL.mk_non KX G ?qb2; k_is
  · refine DL.mk_non KX G ?qb3; k_is
  · refine DL.mk_non KX G ?qb4; k_is
  · refine DL.mk_non KX G ?qb5; k_is
  · refine DL.mk_non KX G ?qb6; k_is
  · refine DL.mk_non KX G ?qb7; k_is
  · refine DL.mk_non KX G ?qb8; k_is
  · refine DL.mk_non KX G ?qb9; k_is
  · refine DL.mk_non KX G ?qb10; k_is
  · refine' DL.mk_int KX G ?qg0; (case qg0 => k_is)
  · refine' DL.mk_int KX G ?qg1; (case qg1 => k_is)
