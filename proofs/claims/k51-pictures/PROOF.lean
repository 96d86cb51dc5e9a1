import PyProof.Rows.All
import Wide.All
import OpenK.AllK
import Wide.FinOn
import HandS.ForMost
import HandS.Walk
import HandS.DictTup
import HandS.IsInst
import HandS.TupAny
import HandS.TupLen
import KE.SortData
import KE.DataMinMax
import HandS.Style
import KE.GoesEnum
import HandS.Small
import KE.DataEq
import KE.KDictSum
import HandS.Conv
import HandS.ExcValue
import HandS.DictComp
import PyProof.Rows.TupDisplay
import HandS.Deep
import HandS.SetFor
import KE.DataFind
import HandS.Star
import KE.KTupSum
import KE.KRevSl
import HandS.TupLe
import HandS.Rev
import HandS.RevRange
import PyProof.TupleOfSeq
import PySem.Challenge.RW_gridink_k51_whole_pictures_of_sums
set_option Elab.async false
set_option linter.all false
set_option maxRecDepth 100000
set_option maxHeartbeats 4000000
set_option autoImplicit false
namespace DL
open PySem PySem.Spec PyProof.Rows L2
/-! data without the heap -/
inductive D where
  | non | bl (b : Bool) | int (i : Int) | str (x : Str)
  | tup (xs : List D) | lst (xs : List D) | frz (xs : List D) | ctp (xs : List D)
  | dK (ks : List Key) (xs : List D) | dT (ks : List (List Key)) (xs : List D)
/-- a list that nobody changes: a locked one, or the module's own -/
def Frz (K : PySem.W.Frag) (H : Hp) (a : Addr) (xs : List V) : Prop :=
  (∃ o, H a = some (.frz o (.lst xs))) ∨
    ∃ (o : Obj) (its : Array Value) (n : Nat), K.lookup a = some o ∧ o.cls = .type "list" ∧ o.dict = none ∧ o.data = .seq its n ∧ its.size ≤ sizeLine ∧ Vals xs its.toList
/-- a tuple that stands in the written part -/
def Ctp (K : PySem.W.Frag) (a : Addr) (xs : List V) : Prop := ∃ (o : Obj) (its : Array Value) (n : Nat), K.lookup a = some o ∧ o.cls = .type "tuple" ∧ o.data = .seq its n ∧ its.size ≤ sizeLine ∧ Vals xs its.toList
theorem Ctp.sq {K : PySem.W.Frag} {H : Hp} {a : Addr} {xs : List V} (h : Ctp K a xs) : SqT K H a xs := .inr h
theorem Frz.sq {K : PySem.W.Frag} {H : Hp} {a : Addr} {xs : List V} (h : Frz K H a xs) : SqL K H a xs := by
  rcases h with ⟨o, h⟩ | h
  · exact .inl (.inr ⟨o, h⟩)
  · exact .inr h
mutual
def Rep (K : PySem.W.Frag) (H : Hp) : D → V → List Addr → Prop
  | .non, v, F => v = .non ∧ F = []
  | .bl b, v, F => v = .bl b ∧ F = []
  | .int i, v, F => v = .int i ∧ F = []
  | .str x, v, F => v = .str x ∧ F = []
  | .tup xs, v, F => ∃ a vs, v = .ref a ∧ H a = some (.tup vs) ∧ Reps K H xs vs F
  | .ctp xs, v, F => ∃ a vs, v = .ref a ∧ Ctp K a vs ∧ Reps K H xs vs F
  | .frz xs, v, F => ∃ a vs, v = .ref a ∧ Frz K H a vs ∧ Reps K H xs vs F
  | .lst xs, v, F => ∃ a vs G, v = .ref a ∧ Rd H a (.lst vs) ∧ F = a :: G ∧ Reps K H xs vs G
  | .dK ks xs, v, F => ∃ a vs G, v = .ref a ∧ Rd H a (.dK (ks.zip vs)) ∧ ks.length = xs.length ∧ F = a :: G ∧ Reps K H xs vs G
  | .dT ks xs, v, F => ∃ a vs G, v = .ref a ∧ Rd H a (.dT (ks.zip vs)) ∧ ks.length = xs.length ∧ F = a :: G ∧ Reps K H xs vs G
def Reps (K : PySem.W.Frag) (H : Hp) : List D → List V → List Addr → Prop
  | [], vs, F => vs = [] ∧ F = []
  | d :: ds, vs, F => ∃ v vr F1 F2, vs = v :: vr ∧ F = F1 ++ F2 ∧ Rep K H d v F1 ∧ Reps K H ds vr F2
end
/-- from H0 to H all stands that is not in O; O can be changed -/
structure Frm (H0 : Hp) (O : Addr → Prop) (H : Hp) : Prop where
  mu : ∀ a, O a → Mut (H0 a)
  keep : ∀ a o, H0 a = some o → ¬ O a → H a = some o
abbrev No : Addr → Prop := fun _ => False
theorem Frm.of_same {H H' : Hp} (s : Same H H') : Frm H No H' := ⟨fun _ h => h.elim, fun a o e _ => s a o e⟩
theorem Frm.same {H H' : Hp} (s : Frm H No H') : Same H H' := fun a o e => s.keep a o e fun h => h
theorem Frm.rd {H0 H : Hp} {O : Addr → Prop} {a : Addr} {o : HO} (s : Frm H0 O H) (h : Rd H0 a o) (n : ¬ O a) : Rd H a o := by
  rcases h with h | ⟨u, h⟩
  · exact .inl (s.keep _ _ h n)
  · exact .inr ⟨u, s.keep _ _ h n⟩
theorem Frm.sqT {K : PySem.W.Frag} {H0 H : Hp} {O : Addr → Prop} {a : Addr} {xs : List V} (s : Frm H0 O H) (h : SqT K H0 a xs) : SqT K H a xs := by
  rcases h with h | h
  · refine .inl (s.rd h fun n => ?_)
    have m := s.mu a n
    rcases h with h | ⟨u, h⟩ <;> (rw [h] at m; exact m)
  · exact .inr h
theorem Frm.tup {H0 H : Hp} {O : Addr → Prop} {a : Addr} {xs : List V} (s : Frm H0 O H) (h : H0 a = some (.tup xs)) : H a = some (.tup xs) := s.keep _ _ h fun n => by
  have m := s.mu a n
  rw [h] at m; exact m
theorem Frm.frz {K : PySem.W.Frag} {H0 H : Hp} {O : Addr → Prop} {a : Addr} {xs : List V} (s : Frm H0 O H) (h : Frz K H0 a xs) : Frz K H a xs := by
  rcases h with ⟨u, h⟩ | h
  · refine .inl ⟨u, s.keep _ _ h fun n => ?_⟩
    have m := s.mu a n
    rw [h] at m; exact m
  · exact .inr h
mutual
theorem Rep.frm {K : PySem.W.Frag} {H0 H : Hp} {O : Addr → Prop} (s : Frm H0 O H) : ∀ {d : D} {v : V} {F : List Addr}, Rep K H0 d v F → (∀ a ∈ F, ¬ O a) → Rep K H d v F
  | .non, _, _, h, _ => h
  | .bl _, _, _, h, _ => h
  | .int _, _, _, h, _ => h
  | .str _, _, _, h, _ => h
  | .tup xs, v, F, h, n => by
    obtain ⟨a, vs, e, q, r⟩ := h
    exact ⟨a, vs, e, s.tup q, Reps.frm s r n⟩
  | .ctp xs, v, F, h, n => by
    obtain ⟨a, vs, e, q, r⟩ := h
    exact ⟨a, vs, e, q, Reps.frm s r n⟩
  | .frz xs, v, F, h, n => by
    obtain ⟨a, vs, e, q, r⟩ := h
    exact ⟨a, vs, e, s.frz q, Reps.frm s r n⟩
  | .lst xs, v, F, h, n => by
    obtain ⟨a, vs, G, e, q, rfl, r⟩ := h
    exact ⟨a, vs, G, e, s.rd q (n a (List.mem_cons_self ..)), rfl, Reps.frm s r fun b hb => n b (List.mem_cons_of_mem _ hb)⟩
  | .dK ks xs, v, F, h, n => by
    obtain ⟨a, vs, G, e, q, l, rfl, r⟩ := h
    exact ⟨a, vs, G, e, s.rd q (n a (List.mem_cons_self ..)), l, rfl, Reps.frm s r fun b hb => n b (List.mem_cons_of_mem _ hb)⟩
  | .dT ks xs, v, F, h, n => by
    obtain ⟨a, vs, G, e, q, l, rfl, r⟩ := h
    exact ⟨a, vs, G, e, s.rd q (n a (List.mem_cons_self ..)), l, rfl, Reps.frm s r fun b hb => n b (List.mem_cons_of_mem _ hb)⟩
theorem Reps.frm {K : PySem.W.Frag} {H0 H : Hp} {O : Addr → Prop} (s : Frm H0 O H) : ∀ {ds : List D} {vs : List V} {F : List Addr}, Reps K H0 ds vs F → (∀ a ∈ F, ¬ O a) → Reps K H ds vs F
  | [], _, _, h, _ => h
  | d :: ds, vs, F, h, n => by
    obtain ⟨v, vr, F1, F2, e, rfl, r1, r2⟩ := h
    exact ⟨v, vr, F1, F2, e, rfl, Rep.frm s r1 fun a ha => n a (List.mem_append_left _ ha), Reps.frm s r2 fun a ha => n a (List.mem_append_right _ ha)⟩
end
theorem Rep.same {K : PySem.W.Frag} {H H' : Hp} {d : D} {v : V} {F : List Addr} (h : Rep K H d v F) (s : Same H H') : Rep K H' d v F := h.frm (.of_same s) fun _ _ n => n
theorem Reps.same {K : PySem.W.Frag} {H H' : Hp} {d : List D} {v : List V} {F : List Addr} (h : Reps K H d v F) (s : Same H H') : Reps K H' d v F := h.frm (.of_same s) fun _ _ n => n
/-- what is tracked -/
theorem Rd.some' {H : Hp} {a : Addr} {o : HO} (h : Rd H a o) : H a ≠ none := by
  rcases h with h | ⟨_, h⟩ <;> (rw [h]; exact fun z => by cases z)
mutual
theorem Rep.there {K : PySem.W.Frag} {H : Hp} : ∀ {d : D} {v : V} {F : List Addr}, Rep K H d v F → ∀ a ∈ F, H a ≠ none
  | .non, _, _, h, a, ha => by rw [h.2] at ha; cases ha
  | .bl _, _, _, h, a, ha => by rw [h.2] at ha; cases ha
  | .int _, _, _, h, a, ha => by rw [h.2] at ha; cases ha
  | .str _, _, _, h, a, ha => by rw [h.2] at ha; cases ha
  | .tup xs, v, F, h, a, ha => by
    obtain ⟨_, vs, e, q, r⟩ := h
    exact Reps.there r a ha
  | .frz xs, v, F, h, a, ha => by
    obtain ⟨_, vs, e, q, r⟩ := h
    exact Reps.there r a ha
  | .ctp xs, v, F, h, a, ha => by
    obtain ⟨_, vs, e, q, r⟩ := h
    exact Reps.there r a ha
  | .lst xs, v, F, h, a, ha => by
    obtain ⟨b, vs, G, e, q, rfl, r⟩ := h
    rcases List.mem_cons.mp ha with rfl | ha
    · exact Rd.some' q
    · exact Reps.there r a ha
  | .dK ks xs, v, F, h, a, ha => by
    obtain ⟨b, vs, G, e, q, l, rfl, r⟩ := h
    rcases List.mem_cons.mp ha with rfl | ha
    · exact Rd.some' q
    · exact Reps.there r a ha
  | .dT ks xs, v, F, h, a, ha => by
    obtain ⟨b, vs, G, e, q, l, rfl, r⟩ := h
    rcases List.mem_cons.mp ha with rfl | ha
    · exact Rd.some' q
    · exact Reps.there r a ha
theorem Reps.there {K : PySem.W.Frag} {H : Hp} : ∀ {ds : List D} {vs : List V} {F : List Addr}, Reps K H ds vs F → ∀ a ∈ F, H a ≠ none
  | [], _, _, h, a, ha => by rw [h.2] at ha; cases ha
  | d :: ds, vs, F, h, a, ha => by
    obtain ⟨v, vr, F1, F2, e, rfl, r1, r2⟩ := h
    rcases List.mem_append.mp ha with ha | ha
    · exact Rep.there r1 a ha
    · exact Reps.there r2 a ha
end
/-! no part of it can be changed -/
mutual
def pure : D → Bool
  | .non => true | .bl _ => true | .int _ => true | .str _ => true
  | .tup xs => pures xs
  | .frz xs => pures xs
  | .ctp xs => pures xs
  | .lst _ => false | .dK _ _ => false | .dT _ _ => false
def pures : List D → Bool
  | [] => true
  | d :: ds => pure d && pures ds
end
mutual
theorem Rep.nil {K : PySem.W.Frag} {H : Hp} : ∀ {d : D} {v : V} {F : List Addr}, Rep K H d v F → pure d = true → F = []
  | .non, _, _, h, _ => h.2
  | .bl _, _, _, h, _ => h.2
  | .int _, _, _, h, _ => h.2
  | .str _, _, _, h, _ => h.2
  | .tup xs, v, F, h, p => by
    obtain ⟨_, vs, e, q, r⟩ := h
    exact Reps.nil r p
  | .frz xs, v, F, h, p => by
    obtain ⟨_, vs, e, q, r⟩ := h
    exact Reps.nil r p
  | .ctp xs, v, F, h, p => by
    obtain ⟨_, vs, e, q, r⟩ := h
    exact Reps.nil r p
  | .lst xs, v, F, h, p => by cases p
  | .dK ks xs, v, F, h, p => by cases p
  | .dT ks xs, v, F, h, p => by cases p
theorem Reps.nil {K : PySem.W.Frag} {H : Hp} : ∀ {ds : List D} {vs : List V} {F : List Addr}, Reps K H ds vs F → pures ds = true → F = []
  | [], _, _, h, _ => h.2
  | d :: ds, vs, F, h, p => by
    obtain ⟨v, vr, F1, F2, e, rfl, r1, r2⟩ := h
    have p' : (pure d && pures ds) = true := p
    rw [Bool.and_eq_true] at p'
    rw [Rep.nil r1 p'.1, Reps.nil r2 p'.2]
    rfl
end
theorem Reps.length {K : PySem.W.Frag} {H : Hp} : ∀ {ds : List D} {vs : List V} {F : List Addr}, Reps K H ds vs F → vs.length = ds.length
  | [], _, _, h => by rw [h.1]; rfl
  | d :: ds, vs, F, h => by
    obtain ⟨v, vr, F1, F2, rfl, rfl, r1, r2⟩ := h
    rw [List.length_cons, List.length_cons, Reps.length r2]
theorem Reps.get {K : PySem.W.Frag} {H : Hp} : ∀ {ds : List D} {vs : List V} {F : List Addr} {i : Nat} {d : D}, Reps K H ds vs F → ds[i]? = some d → ∃ v G, vs[i]? = some v ∧ Rep K H d v G ∧ ∀ a ∈ G, a ∈ F
  | [], _, _, i, _, _, e => by simp at e
  | d :: ds, vs, F, 0, x, h, e => by
    obtain ⟨v, vr, F1, F2, rfl, rfl, r1, r2⟩ := h
    have e' : d = x := Option.some.inj e
    subst e'
    exact ⟨v, F1, rfl, r1, fun a ha => List.mem_append_left _ ha⟩
  | d :: ds, vs, F, i + 1, x, h, e => by
    obtain ⟨v, vr, F1, F2, rfl, rfl, r1, r2⟩ := h
    obtain ⟨w, G, g1, g2, g3⟩ := Reps.get r2 (show ds[i]? = some x from e)
    exact ⟨w, G, g1, g2, fun a ha => List.mem_append_right _ (g3 a ha)⟩
theorem Reps.append {K : PySem.W.Frag} {H : Hp} : ∀ {ds es : List D} {vs ws : List V} {F G : List Addr}, Reps K H ds vs F → Reps K H es ws G → Reps K H (ds ++ es) (vs ++ ws) (F ++ G)
  | [], es, vs, ws, F, G, h, h' => by
    obtain ⟨rfl, rfl⟩ := h
    exact h'
  | d :: ds, es, vs, ws, F, G, h, h' => by
    obtain ⟨v, vr, F1, F2, rfl, rfl, r1, r2⟩ := h
    exact ⟨v, vr ++ ws, F1, F2 ++ G, rfl, List.append_assoc .., r1, Reps.append r2 h'⟩
theorem Reps.one {K : PySem.W.Frag} {H : Hp} {d : D} {v : V} {F : List Addr} (h : Rep K H d v F) : Reps K H [d] [v] F := ⟨v, [], F, [], rfl, by simp, h, rfl, rfl⟩
/-- new objects -/
structure New (H H' : Hp) (F : List Addr) : Prop where
  nd : F.Nodup
  new : ∀ a ∈ F, H a = none
  mu : ∀ a ∈ F, Mut (H' a)
theorem New.nil {H H' : Hp} : New H H' [] := ⟨List.nodup_nil, fun _ h => (by cases h), fun _ h => by cases h⟩
theorem New.of {H H1 H' : Hp} {F : List Addr} (n : New H1 H' F) (s : Same H H1) : New H H' F := ⟨n.nd, fun a ha => s.free (n.new a ha), n.mu⟩
theorem Mut.keep {H H' : Hp} {a : Addr} (m : Mut (H a)) (s : Same H H') : Mut (H' a) := by
  cases e : H a with
  | none => rw [e] at m; exact m.elim
  | some o => rw [s _ _ e]; rw [e] at m; exact m
theorem New.to {H H1 H' : Hp} {F : List Addr} (n : New H H1 F) (s : Same H1 H') : New H H' F := ⟨n.nd, n.new, fun a ha => Mut.keep (n.mu a ha) s⟩
theorem New.append {K : PySem.W.Frag} {H H1 H2 : Hp} {F G : List Addr} (n : New H H1 F) (m : New H1 H2 G) (s : Same H H1) (s2 : Same H1 H2) (t : ∀ a ∈ F, H1 a ≠ none) : New H H2 (F ++ G) :=
  ⟨List.nodup_append.mpr ⟨n.nd, m.nd, fun a ha b hb e => t a ha (by rw [e]; exact m.new b hb)⟩, fun a ha => (List.mem_append.mp ha).elim (n.new a) fun h => s.free (m.new a h),
    fun a ha => (List.mem_append.mp ha).elim (fun h => Mut.keep (n.mu a h) s2) (m.mu a)⟩
theorem same_upd {H : Hp} {p : Addr} {o : HO} (h : H p = none) : Same H (upd H p o) := fun b x e => by
  rw [upd_ne (ne_of_none e h)]
  exact e
end DL
namespace DL
open PySem PySem.Spec PyProof.Rows L2
/-! a name's value: own, lent, or an argument that is changed for the caller -/
inductive Fl | own | bor | pin
  deriving DecidableEq
abbrev Slt := Option (Fl × D)
abbrev Env := List Slt
abbrev EX := Env → Option D
abbrev EXs := Env → Option (List D)
abbrev EM := Env → Option (D × Env)
abbrev EMs := Env → Option (List D × Env)
abbrev ET := Env → Option (Bool × Env)
inductive Out where
  | nx (ρ : Env) | rt (d : D) (ρ : Env) | bk (ρ : Env) | ct (ρ : Env)
abbrev ES := Env → Option Out
structure Ct where
  H0 : Hp
  O0 : Addr → Prop
  pv : Nat → Option V
  B : Addr → Prop
structure Ok (K : PySem.W.Frag) (c : Ct) (σ : L2.St) (H : Hp) (ρ : Env) (fp : Nat → List Addr) : Prop where
  len : ρ.length = σ.length
  rep : ∀ i m d, ρ[i]? = some (some (m, d)) → ∃ v, σ[i]? = some (some v) ∧ Rep K H d v (fp i) ∧ (m ≠ Fl.own → c.pv i = some v)
  nd : ∀ i m d, ρ[i]? = some (some (m, d)) → m ≠ Fl.bor → (fp i).Nodup ∧ ∀ a ∈ fp i, (c.O0 a ∨ c.H0 a = none) ∧ Mut (H a) ∧ ¬ c.B a
  bo : ∀ i d, ρ[i]? = some (some (Fl.bor, d)) → ∀ a ∈ fp i, c.B a
  dj : ∀ i j m d n e, i ≠ j → ρ[i]? = some (some (m, d)) → m ≠ Fl.bor → ρ[j]? = some (some (n, e)) → n ≠ Fl.bor → ∀ a ∈ fp i, a ∉ fp j
  frm : Frm c.H0 c.O0 H
  bt : ∀ a, c.B a → c.H0 a ≠ none ∧ ¬ c.O0 a
/-- values on their way, nobody else's -/
structure Vals' (K : PySem.W.Frag) (c : Ct) (H : Hp) (ρ : Env) (fp : Nat → List Addr) (ds : List D) (vs : List V) (F : List Addr) : Prop where
  rep : Reps K H ds vs F
  nd : F.Nodup
  ow : ∀ a ∈ F, (c.O0 a ∨ c.H0 a = none) ∧ Mut (H a) ∧ ¬ c.B a
  dj : ∀ i m e, ρ[i]? = some (some (m, e)) → m ≠ Fl.bor → ∀ a ∈ F, a ∉ fp i
structure Val (K : PySem.W.Frag) (c : Ct) (H : Hp) (ρ : Env) (fp : Nat → List Addr) (d : D) (v : V) (F : List Addr) : Prop where
  rep : Rep K H d v F
  nd : F.Nodup
  ow : ∀ a ∈ F, (c.O0 a ∨ c.H0 a = none) ∧ Mut (H a) ∧ ¬ c.B a
  dj : ∀ i m e, ρ[i]? = some (some (m, e)) → m ≠ Fl.bor → ∀ a ∈ F, a ∉ fp i
/-- what the state owns -/
def Ow (ρ : Env) (fp : Nat → List Addr) (a : Addr) : Prop := ∃ i m d, ρ[i]? = some (some (m, d)) ∧ m ≠ Fl.bor ∧ a ∈ fp i
section
variable {K : PySem.W.Frag} {c : Ct} {σ σ' : L2.St} {H H' : Hp} {ρ ρ' : Env} {fp fp' : Nat → List Addr}
theorem Val.one {d : D} {v : V} {F : List Addr} (x : Val K c H ρ fp d v F) : Vals' K c H ρ fp [d] [v] F := ⟨Reps.one x.rep, x.nd, x.ow, x.dj⟩
theorem Vals'.head {d : D} {ds : List D} {vs : List V} {F : List Addr} (x : Vals' K c H ρ fp (d :: ds) vs F) : ∃ v vr F1 F2, vs = v :: vr ∧ F = F1 ++ F2 ∧ Val K c H ρ fp d v F1 ∧ Vals' K c H ρ fp ds vr F2 ∧ ∀ a ∈ F1, a ∉ F2 := by
  obtain ⟨v, vr, F1, F2, rfl, rfl, r1, r2⟩ := x.rep
  obtain ⟨n1, n2, n3⟩ := List.nodup_append.mp x.nd
  exact ⟨v, vr, F1, F2, rfl, rfl, ⟨r1, n1, fun a ha => x.ow a (List.mem_append_left _ ha), fun i m e q hm a ha => x.dj i m e q hm a (List.mem_append_left _ ha)⟩,
    ⟨r2, n2, fun a ha => x.ow a (List.mem_append_right _ ha), fun i m e q hm a ha => x.dj i m e q hm a (List.mem_append_right _ ha)⟩, fun a h1 h2 => n3 a h1 a h2 rfl⟩
theorem Vals'.cons {d : D} {ds : List D} {v : V} {vs : List V} {F G : List Addr} (x : Val K c H ρ fp d v F) (y : Vals' K c H ρ fp ds vs G) (n : ∀ a ∈ F, a ∉ G) : Vals' K c H ρ fp (d :: ds) (v :: vs) (F ++ G) :=
  ⟨⟨v, vs, F, G, rfl, rfl, x.rep, y.rep⟩, List.nodup_append.mpr ⟨x.nd, y.nd, fun a ha b hb e => n a ha (e ▸ hb)⟩, fun a ha => (List.mem_append.mp ha).elim (x.ow a) (y.ow a),
    fun i m e q hm a ha => (List.mem_append.mp ha).elim (x.dj i m e q hm a) (y.dj i m e q hm a)⟩
theorem Ok.there (h : Ok K c σ H ρ fp) {a : Addr} (x : c.B a) : H a ≠ none := by
  obtain ⟨h1, h2⟩ := h.bt a x
  cases q : c.H0 a with
  | none => exact absurd q h1
  | some o => rw [h.frm.keep a o q h2]; exact fun z => by cases z
theorem Ok.same (h : Ok K c σ H ρ fp) (s : Same H H') : Ok K c σ H' ρ fp where
  len := h.len
  rep := fun i m d e => let ⟨v, a, b, p⟩ := h.rep i m d e; ⟨v, a, b.same s, p⟩
  nd := fun i m d e n => ⟨(h.nd i m d e n).1, fun a ha => let ⟨x, y, z⟩ := (h.nd i m d e n).2 a ha; ⟨x, Mut.keep y s, z⟩⟩
  bo := h.bo
  dj := h.dj
  frm := ⟨h.frm.mu, fun a o e n => s _ _ (h.frm.keep a o e n)⟩
  bt := h.bt
abbrev sub (c : Ct) (H : Hp) (ρ : Env) (fp : Nat → List Addr) : Ct := ⟨H, Ow ρ fp, c.pv, c.B⟩
theorem Ok.self (h : Ok K c σ H ρ fp) : Ok K (sub c H ρ fp) σ H ρ fp where
  len := h.len
  rep := h.rep
  nd := fun i m d e n => ⟨(h.nd i m d e n).1, fun a ha => ⟨.inl ⟨i, m, d, e, n, ha⟩, ((h.nd i m d e n).2 a ha).2⟩⟩
  bo := h.bo
  dj := h.dj
  frm := ⟨fun a ⟨i, m, d, e, n, ha⟩ => ((h.nd i m d e n).2 a ha).2.1, fun a o e _ => e⟩
  bt := fun a x => ⟨h.there x, fun ⟨i, m, d, e, n, ha⟩ => ((h.nd i m d e n).2 a ha).2.2 x⟩
theorem sub_ow (h : Ok K c σ H ρ fp) {a : Addr} (x : Ow ρ fp a ∨ H a = none) : c.O0 a ∨ c.H0 a = none := by
  rcases x with ⟨i, m, d, e, n, ha⟩ | x
  · exact ((h.nd i m d e n).2 a ha).1
  · cases q : c.H0 a with
    | none => exact .inr rfl
    | some o =>
      by_cases z : c.O0 a
      · exact .inl z
      · have := h.frm.keep a o q z
        rw [x] at this; cases this
theorem Ok.trans (h : Ok K c σ H ρ fp) (h' : Ok K (sub c H ρ fp) σ' H' ρ' fp') : Ok K c σ' H' ρ' fp' where
  len := h'.len
  rep := h'.rep
  nd := fun i m d e n => ⟨(h'.nd i m d e n).1, fun a ha => ⟨sub_ow h ((h'.nd i m d e n).2 a ha).1, ((h'.nd i m d e n).2 a ha).2⟩⟩
  bo := h'.bo
  dj := h'.dj
  frm := ⟨h.frm.mu, fun a o e n => h'.frm.keep a o (h.frm.keep a o e n) fun z => by
    obtain ⟨i, m, d, e1, n1, ha⟩ := z
    rcases ((h.nd i m d e1 n1).2 a ha).1 with q | q
    · exact n q
    · rw [q] at e; cases e⟩
  bt := h.bt
theorem Val.trans {d : D} {v : V} {F : List Addr} (h : Ok K c σ H ρ fp) (x : Val K (sub c H ρ fp) H' ρ' fp' d v F) : Val K c H' ρ' fp' d v F :=
  ⟨x.rep, x.nd, fun a ha => ⟨sub_ow h (x.ow a ha).1, (x.ow a ha).2⟩, x.dj⟩
theorem Vals'.trans {d : List D} {v : List V} {F : List Addr} (h : Ok K c σ H ρ fp) (x : Vals' K (sub c H ρ fp) H' ρ' fp' d v F) : Vals' K c H' ρ' fp' d v F :=
  ⟨x.rep, x.nd, fun a ha => ⟨sub_ow h (x.ow a ha).1, (x.ow a ha).2⟩, x.dj⟩
/-- earlier values beside a later state -/
theorem Val.later {d : D} {v : V} {F : List Addr} (h : Ok K c σ H ρ fp) (x : Val K c H ρ fp d v F) (h' : Ok K (sub c H ρ fp) σ' H' ρ' fp') : Val K c H' ρ' fp' d v F := by
  have nO : ∀ a ∈ F, ¬ Ow ρ fp a := fun a ha ⟨i, m, e, e1, n1, hi⟩ => x.dj i m e e1 n1 a ha hi
  refine ⟨x.rep.frm h'.frm nO, x.nd, fun a ha => ⟨(x.ow a ha).1, ?_, (x.ow a ha).2.2⟩, fun i m e e1 hm a ha hi => ?_⟩
  · have m := (x.ow a ha).2.1
    cases q : H a with
    | none => rw [q] at m; exact m.elim
    | some o => rw [h'.frm.keep a o q (nO a ha)]; rw [q] at m; exact m
  · rcases ((h'.nd i m e e1 hm).2 a hi).1 with z | z
    · exact nO a ha z
    · exact x.rep.there a ha z
/-- later values are others -/
theorem Val.apart {d : D} {v : V} {F : List Addr} {G : List Addr} (x : Val K c H ρ fp d v F) (ow : ∀ a ∈ G, (Ow ρ fp a ∨ H a = none)) : ∀ a ∈ F, a ∉ G := fun a ha hg => by
  rcases ow a hg with ⟨i, m, e, e1, n1, hi⟩ | z
  · exact x.dj i m e e1 n1 a ha hi
  · exact x.rep.there a ha z
/-- a value is given to a name -/
theorem Ok.put {d : D} {v : V} {F : List Addr} {i : Nat} (h : Ok K c σ H ρ fp) (x : Val K c H (ρ.set i none) fp d v F) (hi : i < ρ.length) :
    Ok K c (σ.set i (some v)) H (ρ.set i (some (Fl.own, d))) (fun j => if j = i then F else fp j) := by
  have hiσ : i < σ.length := by rw [← h.len]; exact hi
  have low : ∀ j m e, j ≠ i → (ρ.set i (some (Fl.own, d)))[j]? = some (some (m, e)) → ρ[j]? = some (some (m, e)) := fun j m e n q => by
    rw [List.getElem?_set_ne (Ne.symm n)] at q; exact q
  have low' : ∀ j m e, j ≠ i → ρ[j]? = some (some (m, e)) → (ρ.set i none)[j]? = some (some (m, e)) := fun j m e n q => by
    rw [List.getElem?_set_ne (Ne.symm n)]; exact q
  have at' : ∀ m e, (ρ.set i (some (Fl.own, d)))[i]? = some (some (m, e)) → m = Fl.own ∧ e = d := fun m e q => by
    rw [List.getElem?_set_self hi] at q; cases q; exact ⟨rfl, rfl⟩
  refine ⟨by rw [List.length_set, List.length_set]; exact h.len, fun j m e q => ?_, fun j m e q n => ?_, fun j e q => ?_, fun j l m e n g ne q hm q2 hn a ha hl => ?_, h.frm, h.bt⟩
  · by_cases hj : j = i
    · subst hj
      obtain ⟨rfl, rfl⟩ := at' m e q
      exact ⟨v, List.getElem?_set_self hiσ, by rw [if_pos rfl]; exact x.rep, fun z => absurd rfl z⟩
    · obtain ⟨w, a, b, p⟩ := h.rep j m e (low j m e hj q)
      exact ⟨w, by rw [List.getElem?_set_ne (Ne.symm hj)]; exact a, by rw [if_neg hj]; exact b, p⟩
  · by_cases hj : j = i
    · subst hj
      rw [if_pos rfl]; exact ⟨x.nd, x.ow⟩
    · rw [if_neg hj]; exact h.nd j m e (low j m e hj q) n
  · by_cases hj : j = i
    · subst hj
      cases (at' _ e q).1
    · rw [if_neg hj]; exact h.bo j e (low j _ e hj q)
  · by_cases hj : j = i
    · subst hj
      rw [if_pos rfl] at ha
      rw [if_neg (Ne.symm ne)] at hl
      exact x.dj l n g (low' l n g (Ne.symm ne) (low l n g (Ne.symm ne) q2)) hn a ha hl
    · rw [if_neg hj] at ha
      by_cases hl' : l = i
      · subst hl'
        rw [if_pos rfl] at hl
        exact x.dj j m e (low' j m e hj (low j m e hj q)) hm a hl ha
      · rw [if_neg hl'] at hl
        exact h.dj j l m e n g ne (low j m e hj q) hm (low l n g hl' q2) hn a ha hl
theorem drop_low {i j : Nat} {m : Fl} {e : D} (q : (ρ.set i none)[j]? = some (some (m, e))) : ρ[j]? = some (some (m, e)) ∧ j ≠ i := by
  by_cases hj : i = j
  · subst hj
    rw [List.getElem?_set] at q
    split at q
    · split at q <;> cases q
    · exact ⟨q, by assumption⟩
  · rw [List.getElem?_set_ne hj] at q; exact ⟨q, Ne.symm hj⟩
/-- a name is forgotten -/
theorem Ok.drop {i : Nat} (h : Ok K c σ H ρ fp) : Ok K c σ H (ρ.set i none) fp :=
  ⟨by rw [List.length_set]; exact h.len, fun j m e q => h.rep j m e (drop_low q).1, fun j m e q => h.nd j m e (drop_low q).1, fun j e q => h.bo j e (drop_low q).1, fun j l m e n g ne q hm q2 => h.dj j l m e n g ne (drop_low q).1 hm (drop_low q2).1, h.frm, h.bt⟩
theorem Val.drop {d : D} {v : V} {F : List Addr} {i : Nat} (x : Val K c H ρ fp d v F) : Val K c H (ρ.set i none) fp d v F :=
  ⟨x.rep, x.nd, x.ow, fun j m e q => x.dj j m e (drop_low q).1⟩
theorem Vals'.drop {d : List D} {v : List V} {F : List Addr} {i : Nat} (x : Vals' K c H ρ fp d v F) : Vals' K c H (ρ.set i none) fp d v F :=
  ⟨x.rep, x.nd, x.ow, fun j m e q => x.dj j m e (drop_low q).1⟩
/-- an own name's value goes -/
theorem Ok.take {i : Nat} {m : Fl} {d : D} (h : Ok K c σ H ρ fp) (e : ρ[i]? = some (some (m, d))) (hm : m ≠ Fl.bor) : ∃ v, σ[i]? = some (some v) ∧ Val K c H (ρ.set i none) fp d v (fp i) := by
  obtain ⟨v, a, b, _⟩ := h.rep i m d e
  exact ⟨v, a, b, (h.nd i m d e hm).1, (h.nd i m d e hm).2, fun j n g q hn x hx => h.dj i j m d n g (Ne.symm (drop_low q).2) e hm (drop_low q).1 hn x hx⟩
/-- a fresh value -/
theorem Ok.val {d : D} {v : V} {F : List Addr} (h : Ok K c σ H ρ fp) (r : Rep K H' d v F) (n : New H H' F) : Val K c H' ρ fp d v F := by
  refine ⟨r, n.nd, fun a ha => ⟨sub_ow h (.inr (n.new a ha)), n.mu a ha, fun z => h.there z (n.new a ha)⟩, fun i m e q hm a ha hi => ?_⟩
  obtain ⟨w, _, b, _⟩ := h.rep i m e q
  exact b.there a hi (n.new a ha)
theorem Ok.len_lt {i : Nat} {x : Slt} (e : ρ[i]? = some x) : i < ρ.length := (List.getElem?_eq_some_iff.mp e).1
end
def Sees (K : PySem.W.Frag) (σ : L2.St) (H : Hp) (ρ : Env) : Prop := ρ.length = σ.length ∧ ∀ (i : Nat) m d, ρ[i]? = some (some (m, d)) → ∃ v F, σ[i]? = some (some v) ∧ Rep K H d v F
theorem Ok.sees {K : PySem.W.Frag} {c : Ct} {σ : L2.St} {H : Hp} {ρ : Env} {fp : Nat → List Addr} (h : Ok K c σ H ρ fp) : Sees K σ H ρ := ⟨h.len, fun i m d e => let ⟨v, a, b, _⟩ := h.rep i m d e; ⟨v, _, a, b⟩⟩
theorem Sees.same {K : PySem.W.Frag} {σ : L2.St} {H H' : Hp} {ρ : Env} (h : Sees K σ H ρ) (s : Same H H') : Sees K σ H' ρ := ⟨h.1, fun i m d e => let ⟨v, F, a, b⟩ := h.2 i m d e; ⟨v, F, a, b.same s⟩⟩
/-! ### the readings -/
def tP (K : PySem.W.Frag) (own : Bool) (f : EX) : TE := fun σ H Q => ∃ ρ d, Sees K σ H ρ ∧ f ρ = some d ∧ ∀ v H' F, Same H H' → Rep K H' d v F → (own = true → New H H' F) → Q v H'
def tPs (K : PySem.W.Frag) (own : Bool) (f : EXs) : TA := fun σ H Q => ∃ ρ ds, Sees K σ H ρ ∧ f ρ = some ds ∧ ∀ vs H' F, Same H H' → Reps K H' ds vs F → (own = true → New H H' F) → Q vs H'
/-- a pure test -/
def tPT (K : PySem.W.Frag) (f : Env → Option Bool) : TT := fun σ H Q => ∃ ρ b, Sees K σ H ρ ∧ f ρ = some b ∧ ∀ H', Same H H' → Q b H'
def tM (K : PySem.W.Frag) (f : EM) : TE := fun σ H Q => ∃ c ρ fp d ρ', Ok K c σ H ρ fp ∧ f ρ = some (d, ρ') ∧ ∀ v H' fp' F, Ok K c σ H' ρ' fp' → Val K c H' ρ' fp' d v F → Q v H'
def tT (K : PySem.W.Frag) (f : ET) : TT := fun σ H Q => ∃ c ρ fp b ρ', Ok K c σ H ρ fp ∧ f ρ = some (b, ρ') ∧ ∀ H' fp', Ok K c σ H' ρ' fp' → Q b H'
def OutOk (K : PySem.W.Frag) (c : Ct) (E : Ends) : Out → Prop
  | .nx ρ' => ∀ σ' H' fp', Ok K c σ' H' ρ' fp' → E.nx σ' H'
  | .bk ρ' => ∀ σ' H' fp', Ok K c σ' H' ρ' fp' → E.bk σ' H'
  | .ct ρ' => ∀ σ' H' fp', Ok K c σ' H' ρ' fp' → E.ct σ' H'
  | .rt d ρ' => ∀ v σ' H' fp' F, Ok K c σ' H' ρ' fp' → Val K c H' ρ' fp' d v F → E.rt v H'
def tS (K : PySem.W.Frag) (g : ES) : TS := fun E σ H => ∃ c ρ fp out, Ok K c σ H ρ fp ∧ g ρ = some out ∧ OutOk K c E out
abbrev DP (X : Cx) (e : Expr) (f : EX) : Prop := PE X e (tP X.K true f)
abbrev DB (X : Cx) (e : Expr) (f : EX) : Prop := PE X e (tP X.K false f)
abbrev DM (X : Cx) (e : Expr) (f : EM) : Prop := PE X e (tM X.K f)
abbrev DT (X : Cx) (e : Expr) (f : ET) : Prop := PT X e (tT X.K f)
abbrev DPT (X : Cx) (e : Expr) (f : Env → Option Bool) : Prop := PT X e (tPT X.K f)
abbrev DS (X : Cx) (s : Stmt) (g : ES) : Prop := PS X s (tS X.K g)
abbrev DSs (X : Cx) (s : List Stmt) (g : ES) : Prop := PSs X s (tS X.K g)
theorem _root_.L2.PE.imp {X : Cx} {e : Expr} {t t' : TE} (h : PE X e t) (k : ∀ σ H Q, t' σ H Q → t σ H Q) : PE X e t' := ⟨fun pins s σ H Q I q => h.run pins s σ H Q I (k σ H Q q)⟩
theorem _root_.L2.PT.imp {X : Cx} {e : Expr} {t t' : TT} (h : PT X e t) (k : ∀ σ H Q, t' σ H Q → t σ H Q) : PT X e t' := ⟨fun pins s σ H Q I q => h.run pins s σ H Q I (k σ H Q q)⟩
theorem _root_.L2.PW.imp {X : Cx} {e : Expr} {t t' : TT} (h : PW X e t) (k : ∀ σ H Q, t' σ H Q → t σ H Q) : PW X e t' := ⟨fun wh pins s σ H Q I q => h.run wh pins s σ H Q I (k σ H Q q)⟩
theorem _root_.L2.PA.imp {X : Cx} {e : List Expr} {t t' : TA} (h : PA X e t) (k : ∀ σ H Q, t' σ H Q → t σ H Q) : PA X e t' := ⟨fun pos pins s σ H Q I q => h.run pos pins s σ H Q I (k σ H Q q)⟩
theorem _root_.L2.PS.imp {X : Cx} {e : Stmt} {t t' : TS} (h : PS X e t) (k : ∀ E σ H, t' E σ H → t E σ H) : PS X e t' := ⟨fun pins s σ H E I q => h.run pins s σ H E I (k E σ H q)⟩
theorem _root_.L2.PSs.imp {X : Cx} {e : List Stmt} {t t' : TS} (h : PSs X e t) (k : ∀ E σ H, t' E σ H → t E σ H) : PSs X e t' := ⟨fun pins s σ H E I q => h.run pins s σ H E I (k E σ H q)⟩
/-! ### pure expressions -/
section
variable {X : Cx} {a b c : Expr} {f g h : EX} {pos : Pos}
theorem p_b (ha : DP X a f) : DB X a f := ha.imp fun σ H Q ⟨ρ, d, s, e, k⟩ => ⟨ρ, d, s, e, fun v H' F sm r n => k v H' F sm r fun z => by cases z⟩
/-- a plain value that needs no heap -/
def xVar (i : Nat) : EX := fun ρ => match ρ[i]? with
  | some (some (_, d)) => some d
  | _ => none
/-- .. that nobody can change -/
def xPure (f : EX) : EX := fun ρ => (f ρ).bind fun d => if pure d = true then some d else none
theorem xVar_some {ρ : Env} {i : Nat} {d : D} (e : xVar i ρ = some d) : ∃ m, ρ[i]? = some (some (m, d)) := by
  unfold xVar at e
  split at e
  · rename_i m d' q
    cases e
    exact ⟨m, q⟩
  · cases e
theorem xPure_some {ρ : Env} {d : D} (e : xPure f ρ = some d) : f ρ = some d ∧ pure d = true := by
  unfold xPure at e
  cases q : f ρ with
  | none => rw [q] at e; cases e
  | some x =>
    rw [q] at e
    simp only [Option.bind_some] at e
    split at e
    · cases e
      exact ⟨rfl, by assumption⟩
    · cases e
theorem b_var {i : Nat} (ha : PE X a (tVar i)) : DB X a (xVar i) := ha.imp fun σ H Q ⟨ρ, d, s, e, k⟩ => by
  obtain ⟨m, q⟩ := xVar_some e
  obtain ⟨v, F, h1, h2⟩ := s.2 i m d q
  exact ⟨v, h1, k v H F (Same.refl H) h2 fun z => by cases z⟩
theorem p_pure (ha : DB X a f) : DP X a (xPure f) := ha.imp fun σ H Q ⟨ρ, d, s, e, k⟩ => by
  obtain ⟨e1, e2⟩ := xPure_some e
  refine ⟨ρ, d, s, e1, fun v H' F sm r _ => k v H' F sm r fun _ => ?_⟩
  have z := r.nil e2
  subst z
  exact New.nil
theorem p_var {i : Nat} (ha : PE X a (tVar i)) : DP X a (xPure (xVar i)) := p_pure (b_var ha)
def xC (d : D) : EX := fun _ => some d
/-- a constant -/
theorem p_const {v : V} {d : D} (ha : PE X a (tC v)) (hr : ∀ H, Rep X.K H d v []) : DP X a (xC d) := ha.imp fun σ H Q ⟨ρ, d', s, e, k⟩ => by
  cases e
  exact k v H [] (Same.refl H) (hr H) fun _ => New.nil
theorem p_int {i j} : DP X (.Constant (.int i) j pos) (xC (.int i)) := p_const pe_int fun _ => ⟨rfl, rfl⟩
theorem p_bl {b j} : DP X (.Constant (.bool b) j pos) (xC (.bl b)) := p_const pe_bl fun _ => ⟨rfl, rfl⟩
theorem p_non {j} : DP X (.Constant .none j pos) (xC .non) := p_const pe_non fun _ => ⟨rfl, rfl⟩
/-! two-place operations -/
def OpD (K : PySem.W.Frag) (r : R2) (g : D → D → Option D) : Prop := ∀ H d1 d2 v1 v2 F1 F2 d Q, Rep K H d1 v1 F1 → Rep K H d2 v2 F2 → g d1 d2 = some d →
  (∀ v H' F, Same H H' → Rep K H' d v F → New H H' F → Q v H') → r v1 v2 H Q
def xOp (o : D → D → Option D) (f g : EX) : EX := fun ρ => (f ρ).bind fun x => (g ρ).bind fun y => o x y
theorem xOp_some {o : D → D → Option D} {ρ : Env} {d : D} (e : xOp o f g ρ = some d) : ∃ x y, f ρ = some x ∧ g ρ = some y ∧ o x y = some d := by
  unfold xOp at e
  obtain ⟨x, h1, e⟩ := Option.bind_eq_some_iff.mp e
  obtain ⟨y, h2, e⟩ := Option.bind_eq_some_iff.mp e
  exact ⟨x, y, h1, h2, e⟩
theorem tOp_of {r : R2} {o : D → D → Option D} (ho : OpD X.K r o) (σ : L2.St) (H : Hp) (Q : VK) (h : tP X.K true (xOp o f g) σ H Q) : tOp r (tP X.K false f) (tP X.K false g) σ H Q := by
  obtain ⟨ρ, d, s, e, k⟩ := h
  obtain ⟨x, y, e1, e2, e3⟩ := xOp_some e
  exact ⟨ρ, x, s, e1, fun v H1 F1 s1 r1 _ => ⟨ρ, y, s.same s1, e2, fun w H2 F2 s2 r2 _ => ho H2 x y v w F1 F2 d Q (r1.same s2) r2 e3 fun u H3 F3 s3 r3 n3 => k u H3 F3 (s1.trans (s2.trans s3)) r3 fun _ => n3.of (s1.trans s2)⟩⟩
theorem p_op {op : Operator} {r : R2} {o : D → D → Option D} (hr : OpR X (binaryOp op) r) (ho : OpD X.K r o) (ha : DB X a f) (hb : DB X b g) : DP X (.BinOp a op b pos) (xOp o f g) := (pe_op hr ha hb).imp (tOp_of ho)
theorem p_cmp {op : CmpOp} {r : R2} {o : D → D → Option D} (hr : OpR X (compareOp op) r) (ho : OpD X.K r o) (ha : DB X a f) (hb : DB X b g) (hm : behindInMarks op b = false) : DP X (.Compare a [op] [b] pos) (xOp o f g) := (pe_cmpR hr ha hb hm).imp (tOp_of ho)
/-- a pure bool as a test -/
def xBool (f : EX) : Env → Option Bool := fun ρ => (f ρ).bind fun d => match d with
  | .bl k => some k
  | _ => none
theorem xBool_some {ρ : Env} {k : Bool} (e : xBool f ρ = some k) : f ρ = some (.bl k) := by
  unfold xBool at e
  obtain ⟨d, h1, e⟩ := Option.bind_eq_some_iff.mp e
  cases d <;> cases e
  exact h1
theorem q_cmp {op : CmpOp} {r : R2} {o : D → D → Option D} (hr : OpR X (compareOp op) r) (ho : OpD X.K r o) (ha : DB X a f) (hb : DB X b g) (hm : behindInMarks op b = false) : DPT X (.Compare a [op] [b] pos) (xBool (xOp o f g)) :=
  (pt_cmpR hr ha hb hm).imp fun σ H Q ⟨ρ, k, s, e, q⟩ => tOp_of ho σ H _ ⟨ρ, _, s, xBool_some e, fun v H' F sm r n => ⟨k, r.1, q H' sm⟩⟩
theorem q_val (ha : DB X a f) (he : ∀ whole, isTrue a X.env whole = (do let v ← whole; standAt a.pos; holding [v] (truthy v)) := by intro _; rfl) : DPT X a (xBool f) :=
  (pt_val ha he).imp fun σ H Q ⟨ρ, k, s, e, q⟩ => ⟨ρ, _, s, xBool_some e, fun v H' F sm r n => ⟨k, r.1, q H' sm⟩⟩
/-! chains: a op b op' c -/
def xChain (o o' : D → D → Option D) (f g h : EX) : EX := fun ρ => (f ρ).bind fun x => (g ρ).bind fun y => (o x y).bind fun z => match z with
  | .bl true => (h ρ).bind fun w => o' y w
  | .bl false => some (.bl false)
  | _ => none
theorem tChain_of {r r' : R2} {o o' : D → D → Option D} (ho : OpD X.K r o) (ho' : OpD X.K r' o') (σ : L2.St) (H : Hp) (Q : VK) (hh : tP X.K true (xChain o o' f g h) σ H Q) : tChain r r' (tP X.K false f) (tP X.K false g) (tP X.K false h) σ H Q := by
  obtain ⟨ρ, d, s, e, k⟩ := hh
  unfold xChain at e
  obtain ⟨x, e1, e⟩ := Option.bind_eq_some_iff.mp e
  obtain ⟨y, e2, e⟩ := Option.bind_eq_some_iff.mp e
  obtain ⟨z, e3, e⟩ := Option.bind_eq_some_iff.mp e
  refine ⟨ρ, x, s, e1, fun v H1 F1 s1 r1 _ => ⟨ρ, y, s.same s1, e2, fun w H2 F2 s2 r2 _ => ho H2 x y v w F1 F2 z _ (r1.same s2) r2 e3 fun u H3 F3 s3 r3 n3 => ?_⟩⟩
  cases z with
  | bl b' =>
    refine ⟨b', r3.1, ?_⟩
    cases b' with
    | true =>
      obtain ⟨t, e4, e⟩ := Option.bind_eq_some_iff.mp e
      refine iteT ⟨ρ, t, s.same (s1.trans (s2.trans s3)), e4, fun p H4 F4 s4 r4 _ => ho' H4 y t w p F2 F4 d Q (r2.same (s3.trans s4)) r4 e fun u' H5 F5 s5 r5 n5 => k u' H5 F5 (s1.trans (s2.trans (s3.trans (s4.trans s5)))) r5 fun _ => n5.of (s1.trans (s2.trans (s3.trans s4)))⟩
    | false =>
      cases e
      exact iteF (k _ H3 [] (s1.trans (s2.trans s3)) ⟨rfl, rfl⟩ fun _ => New.nil)
  | _ => cases e
theorem p_chain {op op' : CmpOp} {r r' : R2} {o o' : D → D → Option D} (hr : OpR X (compareOp op) r) (ho : OpD X.K r o) (hr' : OpR X (compareOp op') r') (ho' : OpD X.K r' o') (ha : DB X a f) (hb : DB X b g) (hc : DB X c h)
    (hm : lastMarks [op, op'] [b, c] = false := by with_unfolding_all rfl) : DP X (.Compare a [op, op'] [b, c] pos) (xChain o o' f g h) := (pe_chain hr hr' ha hb hc hm).imp (tChain_of ho ho')
theorem q_chain {op op' : CmpOp} {r r' : R2} {o o' : D → D → Option D} (hr : OpR X (compareOp op) r) (ho : OpD X.K r o) (hr' : OpR X (compareOp op') r') (ho' : OpD X.K r' o') (ha : DB X a f) (hb : DB X b g) (hc : DB X c h)
    (hm : lastMarks [op, op'] [b, c] = false := by with_unfolding_all rfl) : DPT X (.Compare a [op, op'] [b, c] pos) (xBool (xChain o o' f g h)) :=
  (pt_chain hr hr' ha hb hc hm).imp fun σ H Q ⟨ρ, k, s, e, q⟩ => tChain_of ho ho' σ H _ ⟨ρ, _, s, xBool_some e, fun v H' F sm r n => ⟨k, r.1, q H' sm⟩⟩
/-! and, or, not -/
def xAnd (f g : EX) : EX := fun ρ => (f ρ).bind fun x => match x with
  | .bl true => g ρ
  | .bl false => some (.bl false)
  | _ => none
def xOr (f g : EX) : EX := fun ρ => (f ρ).bind fun x => match x with
  | .bl false => g ρ
  | .bl true => some (.bl true)
  | _ => none
def xNot (f : EX) : EX := fun ρ => (f ρ).bind fun x => match x with
  | .bl k => some (.bl (!k))
  | _ => none
variable {rest : List Expr}
theorem p_and (ha : DB X a f) (hb : DP X (.BoolOp .And (b :: rest) pos) g) : DP X (.BoolOp .And (a :: b :: rest) pos) (xAnd f g) := (pe_and ha hb).imp fun σ H Q ⟨ρ, d, s, e, k⟩ => by
  obtain ⟨x, e1, e⟩ := Option.bind_eq_some_iff.mp e
  refine ⟨ρ, x, s, e1, fun v H1 F1 s1 r1 _ => ?_⟩
  cases x with
  | bl k1 =>
    refine ⟨k1, r1.1, ?_⟩
    cases k1 with
    | true => exact iteT ⟨ρ, d, s.same s1, e, fun v2 H2 F2 s2 r2 n2 => k v2 H2 F2 (s1.trans s2) r2 fun _ => (n2 rfl).of s1⟩
    | false => cases e; exact iteF (k _ H1 [] s1 ⟨rfl, rfl⟩ fun _ => New.nil)
  | _ => cases e
theorem p_one {op} (ha : DP X a f) : DP X (.BoolOp op [a] pos) f := pe_one ha
theorem p_not (ha : DB X a f) : DP X (.UnaryOp .Not a pos) (xNot f) := (pe_not ha).imp fun σ H Q ⟨ρ, d, s, e, k⟩ => by
  obtain ⟨x, e1, e⟩ := Option.bind_eq_some_iff.mp e
  refine ⟨ρ, x, s, e1, fun v H1 F1 s1 r1 _ => ?_⟩
  cases x with
  | bl k1 => cases e; exact ⟨k1, r1.1, k _ H1 [] s1 ⟨rfl, rfl⟩ fun _ => New.nil⟩
  | _ => cases e
/-! tests -/
abbrev QX := Env → Option Bool
variable {p q : QX}
def yAnd (p q : QX) : QX := fun ρ => (p ρ).bind fun k => if k = true then q ρ else some false
def yOr (p q : QX) : QX := fun ρ => (p ρ).bind fun k => if k = true then some true else q ρ
def yNot (p : QX) : QX := fun ρ => (p ρ).map not
theorem w_and1 (ha : DPT X a p) : PW X (.BoolOp .And [a] pos) (tPT X.K p) := pw_and1 ha
theorem w_or1 (ha : DPT X a p) : PW X (.BoolOp .Or [a] pos) (tPT X.K p) := pw_or1 ha
theorem w_and (ha : DPT X a p) (hb : PW X (.BoolOp .And (b :: rest) pos) (tPT X.K q)) : PW X (.BoolOp .And (a :: b :: rest) pos) (tPT X.K (yAnd p q)) := (pw_and ha hb).imp fun σ H Q ⟨ρ, d, s, e, k⟩ => by
  obtain ⟨x, e1, e⟩ := Option.bind_eq_some_iff.mp e
  refine ⟨ρ, x, s, e1, fun H1 s1 => ?_⟩
  cases x with
  | true => exact iteT ⟨ρ, d, s.same s1, e, fun H2 s2 => k H2 (s1.trans s2)⟩
  | false => cases e; exact iteF (k H1 s1)
theorem w_or (ha : DPT X a p) (hb : PW X (.BoolOp .Or (b :: rest) pos) (tPT X.K q)) : PW X (.BoolOp .Or (a :: b :: rest) pos) (tPT X.K (yOr p q)) := (pw_or ha hb).imp fun σ H Q ⟨ρ, d, s, e, k⟩ => by
  obtain ⟨x, e1, e⟩ := Option.bind_eq_some_iff.mp e
  refine ⟨ρ, x, s, e1, fun H1 s1 => ?_⟩
  cases x with
  | false => exact iteF ⟨ρ, d, s.same s1, e, fun H2 s2 => k H2 (s1.trans s2)⟩
  | true => cases e; exact iteT (k H1 s1)
theorem q_not (ha : DPT X a p) : DPT X (.UnaryOp .Not a pos) (yNot p) := (pt_not ha).imp fun σ H Q ⟨ρ, d, s, e, k⟩ => by
  obtain ⟨x, e1, rfl⟩ := Option.map_eq_some_iff.mp e
  exact ⟨ρ, x, s, e1, fun H1 s1 => k H1 s1⟩
def xIf (p : QX) (f g : EX) : EX := fun ρ => (p ρ).bind fun k => if k = true then f ρ else g ρ
theorem p_if {own : Bool} {t : Expr} (ht : DPT X t p) (ha : PE X a (tP X.K own f)) (hb : PE X b (tP X.K own g)) : PE X (.IfExp t a b pos) (tP X.K own (xIf p f g)) := (pe_ifExp ht ha hb).imp fun σ H Q ⟨ρ, d, s, e, k⟩ => by
  obtain ⟨x, e1, e⟩ := Option.bind_eq_some_iff.mp e
  refine ⟨ρ, x, s, e1, fun H1 s1 => ?_⟩
  cases x with
  | true => exact iteT ⟨ρ, d, s.same s1, e, fun v2 H2 F2 s2 r2 n2 => k v2 H2 F2 (s1.trans s2) r2 fun z => (n2 z).of s1⟩
  | false => exact iteF ⟨ρ, d, s.same s1, e, fun v2 H2 F2 s2 r2 n2 => k v2 H2 F2 (s1.trans s2) r2 fun z => (n2 z).of s1⟩
/-! argument lists, displays -/
variable {es : List Expr} {fs : EXs}
def xsNil : EXs := fun _ => some []
def xsCons (f : EX) (fs : EXs) : EXs := fun ρ => (f ρ).bind fun x => (fs ρ).bind fun xs => some (x :: xs)
theorem a_nil {own : Bool} : PA X [] (tPs X.K own xsNil) := pa_nil.imp fun σ H Q ⟨ρ, d, s, e, k⟩ => by
  cases e
  exact k [] H [] (Same.refl H) ⟨rfl, rfl⟩ fun _ => New.nil
theorem a_cons {own : Bool} (ha : PE X a (tP X.K own f)) (hr : PA X es (tPs X.K own fs)) (hs : starEach (a :: es) X.env = (false, eval a X.env) :: starEach es X.env := by rfl) : PA X (a :: es) (tPs X.K own (xsCons f fs)) :=
  (pa_cons ha hr hs).imp fun σ H Q ⟨ρ, d, s, e, k⟩ => by
    obtain ⟨x, e1, e⟩ := Option.bind_eq_some_iff.mp e
    obtain ⟨xs, e2, e⟩ := Option.bind_eq_some_iff.mp e
    cases e
    exact ⟨ρ, x, s, e1, fun v H1 F1 s1 r1 n1 => ⟨ρ, xs, s.same s1, e2, fun vs H2 F2 s2 r2 n2 => k (v :: vs) H2 (F1 ++ F2) (s1.trans s2) ⟨v, vs, F1, F2, rfl, rfl, r1.same s2, r2⟩ fun z => New.append (K := X.K) (n1 z) (n2 z) s1 s2 r1.there⟩⟩
def small (n : Nat) : Bool := decide (n < sizeLine)
def xTup (fs : EXs) : EX := fun ρ => (fs ρ).bind fun xs => if xs.length ≤ sizeLine then some (.tup xs) else none
def xLst (fs : EXs) : EX := fun ρ => (fs ρ).bind fun xs => if xs.length ≤ sizeLine then some (.lst xs) else none
theorem p_tup {x1} (h : PA X es (tPs X.K true fs)) : DP X (.Tuple es x1 pos) (xTup fs) := (pe_tup h).imp fun σ H Q ⟨ρ, d, s, e, k⟩ => by
  obtain ⟨xs, e1, e⟩ := Option.bind_eq_some_iff.mp e
  refine ⟨ρ, xs, s, e1, fun vs H1 F1 s1 r1 n1 => ?_⟩
  split at e
  · cases e
    rename_i hl
    refine ⟨by rw [r1.length]; exact hl, fun p hp => ?_⟩
    have sp : Same H1 (upd H1 p (.tup vs)) := same_upd hp
    exact k _ _ F1 (s1.trans sp) ⟨p, vs, rfl, upd_same, r1.same sp⟩ fun z => (n1 z).to sp
  · cases e
theorem p_lst (h : PA X es (tPs X.K true fs)) : DP X (.List es pos) (xLst fs) := (pe_lst h).imp fun σ H Q ⟨ρ, d, s, e, k⟩ => by
  obtain ⟨xs, e1, e⟩ := Option.bind_eq_some_iff.mp e
  refine ⟨ρ, xs, s, e1, fun vs H1 F1 s1 r1 n1 => ?_⟩
  split at e
  · cases e
    rename_i hl
    refine ⟨by rw [r1.length]; exact hl, fun p hp => ?_⟩
    have sp : Same H1 (upd H1 p (.lst vs)) := same_upd hp
    refine k _ _ (p :: F1) (s1.trans sp) ⟨p, vs, F1, rfl, .inl upd_same, rfl, r1.same sp⟩ fun z => ⟨List.nodup_cons.mpr ⟨fun hm => r1.there p hm hp, (n1 z).nd⟩, fun a ha => ?_, fun a ha => ?_⟩
    · rcases List.mem_cons.mp ha with rfl | ha
      · exact s1.free hp
      · exact (n1 z).new a ha
    · rcases List.mem_cons.mp ha with rfl | ha
      · rw [upd_same]; trivial
      · exact Mut.keep ((n1 z).mu a ha) sp
  · cases e
/-! built-in functions by values -/
def CallD (K : PySem.W.Frag) (r : List V → Hp → VK → Prop) (o : List D → Option D) : Prop := ∀ H ds vs F d Q, Reps K H ds vs F → o ds = some d →
  (∀ v H' F, Same H H' → Rep K H' d v F → New H H' F → Q v H') → r vs H Q
def xCall (o : List D → Option D) (fs : EXs) : EX := fun ρ => (fs ρ).bind o
theorem tCB_of {r : List V → Hp → VK → Prop} {o : List D → Option D} (ho : CallD X.K r o) (σ : L2.St) (H : Hp) (Q : VK) (h : tP X.K true (xCall o fs) σ H Q) : tCB r (tPs X.K false fs) σ H Q := by
  obtain ⟨ρ, d, s, e, k⟩ := h
  obtain ⟨xs, e1, e⟩ := Option.bind_eq_some_iff.mp e
  exact ⟨ρ, xs, s, e1, fun vs H1 F1 s1 r1 n1 => ho H1 xs vs F1 d Q r1 e fun u H3 F3 s3 r3 n3 => k u H3 F3 (s1.trans s3) r3 fun _ => n3.of s1⟩
variable {x : Str} {po : Pos} {e : Expr} {id T : String}
theorem p_callB {r : List V → Hp → VK → Prop} {o : List D → Option D} (hc : CallR X (.builtin id) r) (ho : CallD X.K r o) (hg : Gl X x) (hm : X.mg x = none) (hv : bootBuiltins x = some (.builtin id)) (ha : PA X (e :: es) (tPs X.K false fs)) (hn : x ≠ "__name__" := by decide) (hdb : (x == ("__debug__" : Str)) = false := by decide)
    (he : starEach (e :: es) X.env = (false, eval e X.env) :: starEach es X.env := by rfl) (hpl : (backTo pos (starEach es X.env)).any (·.1) = false := by rfl) : DP X (.Call (.Name x po) (e :: es) [] pos) (xCall o fs) :=
  (pe_callB hc hg hm hv ha hn hdb he hpl).imp (tCB_of ho)
theorem p_callTy {r : List V → Hp → VK → Prop} {o : List D → Option D} (hc : CallR X (.type T) r) (ho : CallD X.K r o) (hg : Gl X x) (hm : X.mg x = none) (hv : bootBuiltins x = some (.type T)) (ha : PA X (e :: es) (tPs X.K false fs)) (hn : x ≠ "__name__" := by decide) (hdb : (x == ("__debug__" : Str)) = false := by decide)
    (he : starEach (e :: es) X.env = (false, eval e X.env) :: starEach es X.env := by rfl) (hpl : (backTo pos (starEach es X.env)).any (·.1) = false := by rfl) : DP X (.Call (.Name x po) (e :: es) [] pos) (xCall o fs) :=
  (pe_callTy hc hg hm hv ha hn hdb he hpl).imp (tCB_of ho)
/-! own defs that change nothing -/
def spP (K : PySem.W.Frag) (n : Nat) (F : List D → Option D) : Sp := fun vs H Q _ => ∃ ds G d, ds.length = n ∧ Reps K H ds vs G ∧ F ds = some d ∧ ∀ v H' F', Same H H' → Rep K H' d v F' → New H H' F' → Q v H'
theorem p_call {n k : Nat} {F : List D → Option D} {fa : Addr} {fd : FuncData} {ps : List Str} (G : FnOk X.prog X.w X.K X.mg X.base CX0 k fa fd ps (spP X.K n F)) (hr : Room k X.A) (hg : Gl X x) (hm : X.mg x = some (.ref fa)) (hk : PySem.W.keepIn X.K (.ref fa) = true) (hb : Binds X.K fd ps []) (ha : PA X (e :: es) (tPs X.K false fs))
    (hn : ∀ ρ ds, fs ρ = some ds → ds.length = n) (hdb : (x == ("__debug__" : Str)) = false := by decide) (he : starEach (e :: es) X.env = (false, eval e X.env) :: starEach es X.env := by rfl) (hpl : (backTo pos (starEach es X.env)).any (·.1) = false := by rfl) : DP X (.Call (.Name x po) (e :: es) [] pos) (xCall F fs) :=
  (pe_call G hr hg hm hk hb .nil pass0 ha hdb he hpl).imp fun σ H Q ⟨ρ, d, s, q, k⟩ => by
    obtain ⟨xs, e1, q⟩ := Option.bind_eq_some_iff.mp q
    refine ⟨ρ, xs, s, e1, fun vs H1 F1 s1 r1 n1 => ⟨xs, F1, d, hn ρ xs e1, ?_, q, fun u H3 F3 s3 r3 n3 => k u H3 F3 (s1.trans s3) r3 fun _ => n3.of s1⟩⟩
    rw [List.append_nil]
    exact r1
theorem len_nil : ∀ ρ ds, xsNil ρ = some ds → ds.length = 0 := fun ρ ds e => by cases e; rfl
theorem len_cons {n : Nat} (h : ∀ ρ ds, fs ρ = some ds → ds.length = n) : ∀ ρ ds, xsCons f fs ρ = some ds → ds.length = n + 1 := fun ρ ds e => by
  obtain ⟨x, e1, e⟩ := Option.bind_eq_some_iff.mp e
  obtain ⟨xs, e2, e⟩ := Option.bind_eq_some_iff.mp e
  cases e
  rw [List.length_cons, h ρ xs e2]
end
end DL
namespace DL
open PySem PySem.Spec PyProof.Rows L2
section
variable {X : Cx} {a b : Expr} {f : EX} {m m1 m2 : EM} {pos : Pos} {es : List Expr}
/-! ### expressions that may change what the state owns -/
def tMs (K : PySem.W.Frag) (f : EMs) : TA := fun σ H Q => ∃ c ρ fp ds ρ', Ok K c σ H ρ fp ∧ f ρ = some (ds, ρ') ∧ ∀ vs H' fp' F, Ok K c σ H' ρ' fp' → Vals' K c H' ρ' fp' ds vs F → Q vs H'
def mP (f : EX) : EM := fun ρ => (f ρ).bind fun d => some (d, ρ)
theorem m_p (ha : DP X a f) : DM X a (mP f) := ha.imp fun σ H Q ⟨c, ρ, fp, d, ρ', h, e, k⟩ => by
  obtain ⟨x, e1, e⟩ := Option.bind_eq_some_iff.mp e
  cases e
  exact ⟨_, _, h.sees, e1, fun v H' F s r n => k v H' fp F (h.same s) (h.val r (n rfl))⟩
/-- an own name's value, taken from it -/
def mMove (i : Nat) : EM := fun ρ => match ρ[i]? with
  | some (some (.own, d)) => some (d, ρ.set i none)
  | _ => none
theorem m_move {i : Nat} (ha : PE X a (tVar i)) : DM X a (mMove i) := ha.imp fun σ H Q ⟨c, ρ, fp, d, ρ', h, e, k⟩ => by
  unfold mMove at e
  split at e
  · rename_i d' q
    cases e
    obtain ⟨v, h1, h2⟩ := h.take q (by decide)
    exact ⟨v, h1, k v H fp _ h.drop h2⟩
  · cases e
def msNil : EMs := fun ρ => some ([], ρ)
def msCons (m : EM) (ms : EMs) : EMs := fun ρ => (m ρ).bind fun x => (ms x.2).bind fun xs => some (x.1 :: xs.1, xs.2)
theorem ms_nil : PA X [] (tMs X.K msNil) := pa_nil.imp fun σ H Q ⟨c, ρ, fp, d, ρ', h, e, k⟩ => by
  cases e
  exact k [] H fp [] h ⟨⟨rfl, rfl⟩, List.nodup_nil, fun _ z => (by cases z), fun _ _ _ _ _ _ z => by cases z⟩
theorem ms_cons {ms : EMs} (ha : DM X a m) (hr : PA X es (tMs X.K ms)) (hs : starEach (a :: es) X.env = (false, eval a X.env) :: starEach es X.env := by rfl) : PA X (a :: es) (tMs X.K (msCons m ms)) :=
  (pa_cons ha hr hs).imp fun σ H Q ⟨c, ρ, fp, d, ρ', h, e, k⟩ => by
    obtain ⟨⟨x, ρ1⟩, e1, e⟩ := Option.bind_eq_some_iff.mp e
    obtain ⟨⟨xs, ρ2⟩, e2, e⟩ := Option.bind_eq_some_iff.mp e
    cases e
    refine ⟨c, ρ, fp, x, ρ1, h, e1, fun v H1 fp1 F1 h1 x1 => ⟨sub c H1 ρ1 fp1, ρ1, fp1, xs, ρ2, h1.self, e2, fun vs H2 fp2 F2 h2 x2 => ?_⟩⟩
    exact k (v :: vs) H2 fp2 (F1 ++ F2) (h1.trans h2) (Vals'.cons (x1.later h1 h2) (x2.trans h1) (x1.apart fun a ha => (x2.ow a ha).1))
def mTup (ms : EMs) : EM := fun ρ => (ms ρ).bind fun xs => if xs.1.length ≤ sizeLine then some (.tup xs.1, xs.2) else none
def mLst (ms : EMs) : EM := fun ρ => (ms ρ).bind fun xs => if xs.1.length ≤ sizeLine then some (.lst xs.1, xs.2) else none
theorem Vals'.same {K : PySem.W.Frag} {c : Ct} {H H' : Hp} {ρ : Env} {fp : Nat → List Addr} {d : List D} {v : List V} {F : List Addr} (x : Vals' K c H ρ fp d v F) (s : Same H H') : Vals' K c H' ρ fp d v F :=
  ⟨x.rep.same s, x.nd, fun a ha => ⟨(x.ow a ha).1, Mut.keep (x.ow a ha).2.1 s, (x.ow a ha).2.2⟩, x.dj⟩
theorem Val.same {K : PySem.W.Frag} {c : Ct} {H H' : Hp} {ρ : Env} {fp : Nat → List Addr} {d : D} {v : V} {F : List Addr} (x : Val K c H ρ fp d v F) (s : Same H H') : Val K c H' ρ fp d v F :=
  ⟨x.rep.same s, x.nd, fun a ha => ⟨(x.ow a ha).1, Mut.keep (x.ow a ha).2.1 s, (x.ow a ha).2.2⟩, x.dj⟩
theorem m_tup {x1} {ms : EMs} (h : PA X es (tMs X.K ms)) : DM X (.Tuple es x1 pos) (mTup ms) := (pe_tup h).imp fun σ H Q ⟨c, ρ, fp, d, ρ', h, e, k⟩ => by
  obtain ⟨⟨xs, ρ1⟩, e1, e⟩ := Option.bind_eq_some_iff.mp e
  refine ⟨c, ρ, fp, xs, ρ1, h, e1, fun vs H1 fp1 F1 h1 x1 => ?_⟩
  split at e
  · cases e
    rename_i hl
    refine ⟨by rw [x1.rep.length]; exact hl, fun p hp => ?_⟩
    have sp : Same H1 (upd H1 p (.tup vs)) := same_upd hp
    have x2 := x1.same sp
    exact k _ _ fp1 F1 (h1.same sp) ⟨⟨p, vs, rfl, upd_same, x2.rep⟩, x2.nd, x2.ow, x2.dj⟩
  · cases e
/-! operations: the first value is plain -/
def mOp (o : D → D → Option D) (m1 m2 : EM) : EM := fun ρ => (m1 ρ).bind fun x => if pure x.1 = true then (m2 x.2).bind fun y => (o x.1 y.1).bind fun z => some (z, y.2) else none
theorem tOpM_of {r : R2} {o : D → D → Option D} (ho : OpD X.K r o) (σ : L2.St) (H : Hp) (Q : VK) (h : tM X.K (mOp o m1 m2) σ H Q) : tOp r (tM X.K m1) (tM X.K m2) σ H Q := by
  obtain ⟨c, ρ, fp, d, ρ', h, e, k⟩ := h
  obtain ⟨⟨x, ρ1⟩, e1, e⟩ := Option.bind_eq_some_iff.mp e
  simp only at e
  split at e
  · rename_i px
    obtain ⟨⟨y, ρ2⟩, e2, e⟩ := Option.bind_eq_some_iff.mp e
    obtain ⟨z, e3, e⟩ := Option.bind_eq_some_iff.mp e
    cases e
    refine ⟨c, ρ, fp, x, ρ1, h, e1, fun v H1 fp1 F1 h1 x1 => ⟨sub c H1 ρ1 fp1, ρ1, fp1, y, ρ2, h1.self, e2, fun w H2 fp2 F2 h2 x2 => ?_⟩⟩
    have r1 := (x1.later h1 h2).rep
    exact ho H2 x y v w F1 F2 d Q r1 x2.rep e3 fun u H3 F3 s3 r3 n3 => k u H3 fp2 F3 ((h1.trans h2).same s3) ((h1.trans h2).val r3 n3)
  · cases e
theorem m_op {op : Operator} {r : R2} {o : D → D → Option D} (hr : OpR X (binaryOp op) r) (ho : OpD X.K r o) (ha : DM X a m1) (hb : DM X b m2) : DM X (.BinOp a op b pos) (mOp o m1 m2) := (pe_op hr ha hb).imp (tOpM_of ho)
/-! tests -/
def tP' (p : Env → Option Bool) : ET := fun ρ => (p ρ).bind fun k => some (k, ρ)
theorem t_p {p : Env → Option Bool} (h : DPT X a p) : DT X a (tP' p) := h.imp fun σ H Q ⟨c, ρ, fp, d, ρ', h, e, k⟩ => by
  obtain ⟨x, e1, e⟩ := Option.bind_eq_some_iff.mp e
  cases e
  exact ⟨_, _, h.sees, e1, fun H' s => k H' fp (h.same s)⟩
def mBool (m : EM) : ET := fun ρ => (m ρ).bind fun x => match x.1 with
  | .bl k => some (k, x.2)
  | _ => none
theorem mBool_some {ρ ρ' : Env} {k : Bool} (e : mBool m ρ = some (k, ρ')) : m ρ = some (.bl k, ρ') := by
  obtain ⟨⟨x, ρ1⟩, e1, e⟩ := Option.bind_eq_some_iff.mp e
  cases x <;> cases e
  exact e1
theorem t_cmp {op : CmpOp} {r : R2} {o : D → D → Option D} (hr : OpR X (compareOp op) r) (ho : OpD X.K r o) (ha : DM X a m1) (hb : DM X b m2) (hm : behindInMarks op b = false) : DT X (.Compare a [op] [b] pos) (mBool (mOp o m1 m2)) :=
  (pt_cmpR hr ha hb hm).imp fun σ H Q ⟨c, ρ, fp, k, ρ', h, e, q⟩ => tOpM_of ho σ H _ ⟨c, ρ, fp, _, ρ', h, mBool_some e, fun v H' fp' F h' x => ⟨k, x.rep.1, q H' fp' h'⟩⟩
def mNotT (t : ET) : ET := fun ρ => (t ρ).bind fun k => some (!k.1, k.2)
def mIf (t : ET) (m1 m2 : EM) : EM := fun ρ => (t ρ).bind fun k => if k.1 = true then m1 k.2 else m2 k.2
/-! ### statements -/
variable {st : Stmt} {rest : List Stmt} {g g1 g2 : ES}
def sNext : ES := fun ρ => some (.nx ρ)
def sSeq (g1 g2 : ES) : ES := fun ρ => (g1 ρ).bind fun o => match o with
  | .nx ρ' => g2 ρ'
  | o => some o
theorem s_nil : DSs X [] sNext := pss_nil.imp fun E σ H ⟨c, ρ, fp, out, h, e, k⟩ => by
  cases e
  exact k σ H fp h
theorem s_cons (h1 : DS X st g1) (h2 : DSs X rest g2) : DSs X (st :: rest) (sSeq g1 g2) := (pss_cons h1 h2).imp fun E σ H ⟨c, ρ, fp, out, h, e, k⟩ => by
  obtain ⟨o, e1, e⟩ := Option.bind_eq_some_iff.mp e
  refine ⟨c, ρ, fp, o, h, e1, ?_⟩
  cases o with
  | nx ρ' => exact fun σ' H' fp' h' => ⟨c, ρ', fp', out, h', e, k⟩
  | rt d ρ' => cases e; exact k
  | bk ρ' => cases e; exact k
  | ct ρ' => cases e; exact k
theorem s_one (h1 : DS X st g1) : DSs X [st] g1 := pss_one h1
def sBreak : ES := fun ρ => some (.bk ρ)
def sCont : ES := fun ρ => some (.ct ρ)
/-- what the proof never comes to (a raise) -/
def sNever : ES := fun _ => none
theorem s_never : DS X st sNever := ps_never.imp fun E σ H ⟨c, ρ, fp, out, h, e, k⟩ => by cases e
def sIf (t : ET) (g1 g2 : ES) : ES := fun ρ => (t ρ).bind fun k => if k.1 = true then g1 k.2 else g2 k.2
theorem s_if {q : Expr} {t : ET} {l1 l2 : List Stmt} (ht : DT X q t) (h1 : DSs X l1 g1) (h2 : DSs X l2 g2) : DS X (.If q l1 l2 pos) (sIf t g1 g2) := (ps_if ht h1 h2).imp fun E σ H ⟨c, ρ, fp, out, h, e, k⟩ => by
  obtain ⟨⟨x, ρ1⟩, e1, e⟩ := Option.bind_eq_some_iff.mp e
  refine ⟨c, ρ, fp, x, ρ1, h, e1, fun H1 fp1 h1 => ?_⟩
  cases x with
  | true => exact iteT ⟨c, ρ1, fp1, out, h1, e, k⟩
  | false => exact iteF ⟨c, ρ1, fp1, out, h1, e, k⟩
def sRet (m : EM) : ES := fun ρ => (m ρ).bind fun x => some (.rt x.1 x.2)
theorem s_ret (ha : DM X a m) : DS X (.Return (some a) pos) (sRet m) := (ps_ret ha).imp fun E σ H ⟨c, ρ, fp, out, h, e, k⟩ => by
  obtain ⟨⟨x, ρ1⟩, e1, e⟩ := Option.bind_eq_some_iff.mp e
  cases e
  exact ⟨c, ρ, fp, x, ρ1, h, e1, fun v H' fp' F h' x' => k v σ H' fp' F h' x'⟩
def sRetN : ES := fun ρ => some (.rt .non ρ)
def sDrop (m : EM) : ES := fun ρ => (m ρ).bind fun x => some (.nx x.2)
theorem s_expr (ha : DM X a m) (hs : swapsWith a none pos.line X.env = Pure.pure false := by rfl) : DS X (.Expr a pos) (sDrop m) := (ps_expr ha hs).imp fun E σ H ⟨c, ρ, fp, out, h, e, k⟩ => by
  obtain ⟨⟨x, ρ1⟩, e1, e⟩ := Option.bind_eq_some_iff.mp e
  cases e
  exact ⟨c, ρ, fp, x, ρ1, h, e1, fun v H' fp' F h' x' => k σ H' fp' h'⟩
/-! targets -/
abbrev GX := D → Env → Option Env
abbrev GXs := List D → Env → Option Env
def put (i : Nat) : GX := fun d ρ => match ρ[i]? with
  | some (some (.pin, _)) => none
  | some _ => some (ρ.set i (some (.own, d)))
  | none => none
def tG (K : PySem.W.Frag) (g : GX) : TG := fun v σ H Q => ∃ c ρ fp d F ρ', Ok K c σ H ρ fp ∧ Val K c H ρ fp d v F ∧ g d ρ = some ρ' ∧ ∀ σ' H' fp', Ok K c σ' H' ρ' fp' → Q σ' H'
def tGs (K : PySem.W.Frag) (g : GXs) : TGs := fun vs σ H Q => ∃ c ρ fp ds F ρ', Ok K c σ H ρ fp ∧ Vals' K c H ρ fp ds vs F ∧ g ds ρ = some ρ' ∧ ∀ σ' H' fp', Ok K c σ' H' ρ' fp' → Q σ' H'
theorem _root_.L2.PG.imp {X : Cx} {e : Expr} {t t' : TG} (h : PG X e t) (k : ∀ v σ H Q, t' v σ H Q → t v σ H Q) : PG X e t' := ⟨fun pins s σ H v u Q I r q => h.run pins s σ H v u Q I r (k v σ H Q q)⟩
theorem _root_.L2.PGs.imp {X : Cx} {e : List Expr} {t t' : TGs} (h : PGs X e t) (k : ∀ v σ H Q, t' v σ H Q → t v σ H Q) : PGs X e t' := ⟨fun pins s σ H v u Q I r q => h.run pins s σ H v u Q I r (k v σ H Q q)⟩
theorem put_some {i : Nat} {d : D} {ρ ρ' : Env} (e : put i d ρ = some ρ') : i < ρ.length ∧ ρ' = ρ.set i (some (.own, d)) := by
  unfold put at e
  split at e
  · cases e
  · rename_i q
    cases e
    exact ⟨(List.getElem?_eq_some_iff.mp q).1, rfl⟩
  · cases e
theorem g_name {i : Nat} (h : PG X a (gName i)) : PG X a (tG X.K (put i)) := h.imp fun v σ H Q ⟨c, ρ, fp, d, F, ρ', ok, x, e, k⟩ => by
  obtain ⟨hi, rfl⟩ := put_some e
  exact k _ _ _ (ok.put x.drop hi)
def gsNil : GXs := fun ds ρ => match ds with
  | [] => some ρ
  | _ => none
def gsCons (g : GX) (gs : GXs) : GXs := fun ds ρ => match ds with
  | [] => none
  | d :: ds => (g d ρ).bind (gs ds)
/-- a target that keeps what it was not given -/
structure GOk (K : PySem.W.Frag) (g : GX) : Prop where
  app : ∀ {c σ H ρ fp d v F ρ'} , Ok K c σ H ρ fp → Val K c H ρ fp d v F → g d ρ = some ρ' → True
theorem gs_nil : PGs X [] (tGs X.K gsNil) := pgs_nil.imp fun v σ H Q ⟨c, ρ, fp, d, F, ρ', ok, x, e, k⟩ => by
  unfold gsNil at e
  split at e
  · cases e
    exact ⟨x.rep.1, k σ H fp ok⟩
  · cases e
theorem gs_cons {gs : GXs} {gx : GX} (h1 : PG X a (tG X.K gx)) (h2 : PGs X es (tGs X.K gs)) (hs : (assignEach (a :: es) X.env).map (·.2) = assign a X.env :: (assignEach es X.env).map (·.2) := by rfl) : PGs X (a :: es) (tGs X.K (gsCons gx gs)) :=
  (pgs_cons h1 h2 hs).imp fun v σ H Q ⟨c, ρ, fp, ds, F, ρ', ok, x, e, k⟩ => by
    cases ds with
    | nil => cases e
    | cons d ds =>
      obtain ⟨ρ1, e1, e⟩ := Option.bind_eq_some_iff.mp e
      obtain ⟨w, vr, F1, F2, rfl, rfl, x1, x2, ap⟩ := x.head
      -- the rest of the values stands beside: as borrowed from outside
      have mem : ∀ a ∈ F2, H a ≠ none := fun a ha => x2.rep.there a ha
      refine ⟨w, vr, rfl, ⟨⟨H, fun a => Ow ρ fp a ∨ a ∈ F1, c.pv, c.B⟩, ρ, fp, d, F1, ρ1, ?_, ?_, e1, fun σ' H' fp' ok' => ?_⟩⟩
      · exact ⟨ok.len, ok.rep, fun i m e q n => ⟨(ok.nd i m e q n).1, fun a ha => ⟨.inl (.inl ⟨i, m, e, q, n, ha⟩), ((ok.nd i m e q n).2 a ha).2⟩⟩, ok.bo, ok.dj,
          ⟨fun a z => z.elim (fun ⟨i, m, d, e, n, ha⟩ => ((ok.nd i m d e n).2 a ha).2.1) fun z => (x1.ow a z).2.1, fun a o e _ => e⟩,
          fun a z => ⟨ok.there z, fun q => q.elim (fun ⟨i, m, d, e, n, ha⟩ => ((ok.nd i m d e n).2 a ha).2.2 z) fun q => (x1.ow a q).2.2 z⟩⟩
      · exact ⟨x1.rep, x1.nd, fun a ha => ⟨.inl (.inr ha), (x1.ow a ha).2⟩, x1.dj⟩
      · have back : ∀ a, ((Ow ρ fp a ∨ a ∈ F1) ∨ H a = none) → c.O0 a ∨ c.H0 a = none := fun a z => by
          rcases z with (z | z) | z
          · exact sub_ow ok (.inl z)
          · exact (x1.ow a z).1
          · exact sub_ow ok (.inr z)
        have ok2 : Ok X.K c σ' H' ρ1 fp' := ⟨ok'.len, ok'.rep, fun i m e q n => ⟨(ok'.nd i m e q n).1, fun a ha => ⟨back a ((ok'.nd i m e q n).2 a ha).1, ((ok'.nd i m e q n).2 a ha).2⟩⟩, ok'.bo, ok'.dj,
          ⟨ok.frm.mu, fun a o e n => ok'.frm.keep a o (ok.frm.keep a o e n) fun z => by
            rcases back a (.inl z) with q | q
            · exact n q
            · rw [q] at e; cases e⟩, ok.bt⟩
        have nO : ∀ a ∈ F2, ¬ (Ow ρ fp a ∨ a ∈ F1) := fun a ha z => by
          rcases z with ⟨i, m, e, q, n, hi⟩ | z
          · exact x2.dj i m e q n a ha hi
          · exact ap a z ha
        refine ⟨c, ρ1, fp', ds, F2, ρ', ok2, ⟨x2.rep.frm ok'.frm nO, x2.nd, fun a ha => ⟨(x2.ow a ha).1, ?_, (x2.ow a ha).2.2⟩, fun i m e q hm a ha hi => ?_⟩, e, k⟩
        · have m := (x2.ow a ha).2.1
          cases q : H a with
          | none => rw [q] at m; exact m.elim
          | some o => rw [ok'.frm.keep a o q (nO a ha)]; rw [q] at m; exact m
        · rcases ((ok'.nd i m e q hm).2 a hi).1 with z | z
          · exact nO a ha z
          · exact mem a ha z
def gTupD (n : Nat) (gs : GXs) : GX := fun d ρ => match d with
  | .tup ds => if ds.length = n then gs ds ρ else none
  | .ctp ds => if ds.length = n then gs ds ρ else none
  | _ => none
theorem g_tup {k n : Nat} {gs : GXs} (hc : X.calm = true) (h : PGs X es (tGs X.K gs)) (hn : (assignEach es X.env).length = n := by rfl) (hst : (assignEach es X.env).findIdx? (·.1) = none := by rfl) : PG X (.Tuple es k pos) (tG X.K (gTupD n gs)) :=
  (pg_tup hc h hn hst).imp fun v σ H Q ⟨c, ρ, fp, d, F, ρ', ok, x, e, k⟩ => by
    unfold gTupD at e
    split at e
    · rename_i ds
      split at e
      · rename_i hl
        obtain ⟨p, vs, rfl, q, r⟩ := x.rep
        exact ⟨p, vs, rfl, .of q, by rw [r.length]; exact hl, c, ρ, fp, ds, F, ρ', ok, ⟨r, x.nd, x.ow, x.dj⟩, e, k⟩
      · cases e
    · rename_i ds
      split at e
      · rename_i hl
        obtain ⟨p, vs, rfl, q, r⟩ := x.rep
        exact ⟨p, vs, rfl, q.sq, by rw [r.length]; exact hl, c, ρ, fp, ds, F, ρ', ok, ⟨r, x.nd, x.ow, x.dj⟩, e, k⟩
      · cases e
    · cases e
def sAsg (m : EM) (gx : GX) : ES := fun ρ => (m ρ).bind fun x => (gx x.1 x.2).bind fun ρ' => some (.nx ρ')
theorem tAsg_of {gx : GX} (E : Ends) (σ : L2.St) (H : Hp) (h : tS X.K (sAsg m gx) E σ H) : tAsg (tM X.K m) (tG X.K gx) E σ H := by
  obtain ⟨c, ρ, fp, out, h, e, k⟩ := h
  obtain ⟨⟨x, ρ1⟩, e1, e⟩ := Option.bind_eq_some_iff.mp e
  obtain ⟨ρ2, e2, e⟩ := Option.bind_eq_some_iff.mp e
  cases e
  exact ⟨c, ρ, fp, x, ρ1, h, e1, fun v H1 fp1 F1 h1 x1 => ⟨c, ρ1, fp1, x, F1, ρ2, h1, x1, e2, fun σ' H' fp' h' => k σ' H' fp' h'⟩⟩
theorem s_asg {tg e : Expr} {gx : GX} (he : DM X e m) (hg : PG X tg (tG X.K gx)) (hs : swapsWithSole [tg] e pos.line X.env = Pure.pure false := by rfl) (hw : swappedStores [tg] e X.env = Pure.pure none := by rfl)
    (h1 : (assignEach [tg] X.env).map (·.2) = [assign tg X.env] := by rfl) : DS X (.Assign [tg] e pos) (sAsg m gx) := (ps_asg he hg hs hw h1).imp tAsg_of
theorem s_set {i : Nat} {x : Str} {e : Expr} {pos' : Pos} (hN : X.N.Nodup) (hi : X.N[i]? = some x) (hx : Loc X.env.scope x) (he : DM X e m) (hs : swapsWith e (some (.Name x pos')) pos.line X.env = Pure.pure false := by rfl) (hf : X.fn x = true ∨ X.env.scope.names.lookup x = some .local := by first | exact .inl rfl | exact .inr rfl | assumption) :
    DS X (.Assign [.Name x pos'] e pos) (sAsg m (put i)) := (ps_set hN hi hx he hs hf).imp fun E σ H ⟨c, ρ, fp, out, h, e, k⟩ => by
  obtain ⟨⟨x, ρ1⟩, e1, e⟩ := Option.bind_eq_some_iff.mp e
  obtain ⟨ρ2, e2, e⟩ := Option.bind_eq_some_iff.mp e
  cases e
  obtain ⟨hi, rfl⟩ := put_some e2
  exact ⟨c, ρ, fp, x, ρ1, h, e1, fun v H1 fp1 F1 h1 x1 => k _ _ _ (h1.put x1.drop hi)⟩
/-- a, b = x, y -/
def sPar (i j : Nat) (ms : EMs) : ES := fun ρ => (ms ρ).bind fun x => match x.1 with
  | [d, e] => (put i d x.2).bind fun ρ1 => (put j e ρ1).bind fun ρ2 => some (.nx ρ2)
  | _ => none
/-- two given values -/
theorem Ok.put2 {K : PySem.W.Frag} {c : Ct} {σ : L2.St} {H : Hp} {ρ : Env} {fp : Nat → List Addr} {d e : D} {v w : V} {F G : List Addr} {i j : Nat} (h : Ok K c σ H ρ fp) (x : Val K c H ρ fp d v F) (y : Val K c H ρ fp e w G) (n : ∀ a ∈ F, a ∉ G) (hi : i < ρ.length) (hj : j < ρ.length) (hij : i ≠ j) :
    ∃ fp', Ok K c ((σ.set i (some v)).set j (some w)) H ((ρ.set i (some (Fl.own, d))).set j (some (Fl.own, e))) fp' := by
  have h1 := h.put x.drop hi
  refine ⟨_, h1.put (F := G) ⟨y.rep, y.nd, y.ow, fun l m g q hm a ha hl => ?_⟩ (by rw [List.length_set]; exact hj)⟩
  obtain ⟨q, hlj⟩ := drop_low q
  by_cases hli : l = i
  · subst hli
    rw [if_pos rfl] at hl
    exact n a hl ha
  · rw [if_neg hli] at hl
    rw [List.getElem?_set_ne (Ne.symm hli)] at q
    exact y.dj l m g q hm a ha hl
theorem s_par {i j : Nat} {x y : Str} {ms : EMs} {px py pt : Pos} {kt k2 pt2} (hc : X.calm = true) (hN : X.N.Nodup) (hi : X.N[i]? = some x) (hj : X.N[j]? = some y) (hij : i ≠ j)
    (hx : X.env.scope.names.lookup x = some .local) (hy : X.env.scope.names.lookup y = some .local) (ha : PA X [a, b] (tMs X.K ms))
    (hw : swappedStores [.Tuple [.Name x px, .Name y py] kt pt] (.Tuple [a, b] k2 pt2) X.env = Pure.pure (some [x, y]))
    (hs : swapsWithSole [.Tuple [.Name x px, .Name y py] kt pt] (.Tuple [a, b] k2 pt2) pos.line X.env = Pure.pure false := by rfl) :
    DS X (.Assign [.Tuple [.Name x px, .Name y py] kt pt] (.Tuple [a, b] k2 pt2) pos) (sPar i j ms) := (ps_par hc hN hi hj hij hx hy ha hw hs).imp fun E σ H ⟨c, ρ, fp, out, h, e, k⟩ => by
  obtain ⟨⟨xs, ρ1⟩, e1, e⟩ := Option.bind_eq_some_iff.mp e
  refine ⟨c, ρ, fp, xs, ρ1, h, e1, fun vs H1 fp1 F1 h1 x1 => ?_⟩
  simp only at e
  split at e
  · rename_i d1 d2
    obtain ⟨ρ2, e2, e⟩ := Option.bind_eq_some_iff.mp e
    obtain ⟨ρ3, e3, e⟩ := Option.bind_eq_some_iff.mp e
    cases e
    obtain ⟨hi', rfl⟩ := put_some e2
    obtain ⟨hj', rfl⟩ := put_some e3
    obtain ⟨v, vr, F2, F3, rfl, rfl, y1, y2, ap⟩ := x1.head
    obtain ⟨w, vr2, F4, F5, rfl, rfl, y3, y4, ap2⟩ := y2.head
    obtain ⟨z1, z2⟩ := y4.rep
    subst z1 z2
    obtain ⟨fp', ok'⟩ := h1.put2 y1 y3 (fun a ha hb => ap a ha (List.mem_append_left _ hb)) hi' (by rw [List.length_set] at hj'; exact hj') hij
    exact ⟨v, w, rfl, k _ _ _ ok'⟩
  · cases e
/-- x op= e -/
def IpD (K : PySem.W.Frag) (r : TIp) (o : D → D → Option D) : Prop := ∀ H d1 d2 v1 v2 F1 F2 d Q, Rep K H d1 v1 F1 → Rep K H d2 v2 F2 → o d1 d2 = some d →
  (∀ v H' F, Same H H' → Rep K H' d v F → New H H' F → Q v H') → r v1 v2 H Q
def sAug (i : Nat) (o : D → D → Option D) (m : EM) : ES := fun ρ => (xPure (xVar i) ρ).bind fun x => (m ρ).bind fun y => (o x y.1).bind fun z => (put i z y.2).bind fun ρ' => some (.nx ρ')
end
end DL
namespace DL
open PySem PySem.Spec PyProof.Rows L2
/-! ### loops -/
def Kp (H1 : Hp) (Fs : List Addr) (H : Hp) : Prop := ∃ O, Frm H1 O H ∧ ∀ a ∈ Fs, ¬ O a
/-- J walks the data its, as they stand at H1 -/
structure Wk (J : It) (K : PySem.W.Frag) (its : List D) (H1 : Hp) (Fs : List Addr) : Prop where
  go : ∀ i H, i < its.length → Kp H1 Fs H → J.go i H
  stop : ∀ H, Kp H1 Fs H → J.stop its.length H
  yld : ∀ (i : Nat) H x H' d, its[i]? = some d → Kp H1 Fs H → J.yld i H x H' → Same H H' ∧ ∃ F, Rep K H' d x F ∧ ∀ a ∈ F, a ∈ Fs
abbrev IX := Env → Option (List D)
abbrev IM := Env → Option (List D × Env)
def tI (K : PySem.W.Frag) (own : Bool) (src : IX) : TI := fun σ H R => ∃ ρ its, Sees K σ H ρ ∧ src ρ = some its ∧ ∀ J H1 Fs, Same H H1 → Wk J K its H1 Fs → (own = true → ∀ a ∈ Fs, H a = none) → R J H1
def tIM (K : PySem.W.Frag) (src : IM) : TI := fun σ H R => ∃ c ρ fp its ρ', Ok K c σ H ρ fp ∧ src ρ = some (its, ρ') ∧ ∀ J H1 fp1 Fs, Ok K c σ H1 ρ' fp1 → Wk J K its H1 Fs → (∀ a ∈ Fs, ¬ Ow ρ' fp1 a) → R J H1
theorem _root_.L2.PI.imp {X : Cx} {tg e : Expr} {t t' : TI} (h : PI X tg e t) (k : ∀ σ H R, t' σ H R → t σ H R) : PI X tg e t' := ⟨fun pins s σ H R I q => h.run pins s σ H R I (k σ H R q)⟩
section
variable {X : Cx} {tg iter a b : Expr} {m : EM} {f : EX} {pos : Pos} {es : List Expr}
def iP (src : IX) : IM := fun ρ => (src ρ).bind fun its => some (its, ρ)
theorem i_p {src : IX} (h : PI X tg iter (tI X.K true src)) : PI X tg iter (tIM X.K (iP src)) := h.imp fun σ H R ⟨c, ρ, fp, its, ρ', h, e, k⟩ => by
  obtain ⟨x, e1, e⟩ := Option.bind_eq_some_iff.mp e
  cases e
  refine ⟨_, _, h.sees, e1, fun J H1 Fs s w n => k J H1 fp Fs (h.same s) w fun a ha ⟨i, m, d, q, _, hi⟩ => ?_⟩
  obtain ⟨v, _, r, _⟩ := h.rep i m d q
  exact r.there a hi (n rfl a ha)
def forE (gx : GX) (g : ES) : List D → Env → Option Out
  | [], ρ => some (.nx ρ)
  | d :: ds, ρ => if pure d = true then (gx d ρ).bind fun ρ1 => (g ρ1).bind fun o => match o with
    | .nx ρ2 => forE gx g ds ρ2
    | .ct ρ2 => forE gx g ds ρ2
    | .bk ρ2 => some (.nx ρ2)
    | .rt d ρ2 => some (.rt d ρ2) else none
def sFor (src : IM) (gx : GX) (g : ES) : ES := fun ρ => (src ρ).bind fun x => forE gx g x.1 x.2
theorem OutOk.trans {K : PySem.W.Frag} {c : Ct} {σ : L2.St} {H : Hp} {ρ : Env} {fp : Nat → List Addr} {E : Ends} {o : Out} (h : Ok K c σ H ρ fp) (k : OutOk K c E o) : OutOk K (sub c H ρ fp) E o := by
  cases o with
  | nx ρ' => exact fun σ' H' fp' h' => k σ' H' fp' (h.trans h')
  | rt d ρ' => exact fun v σ' H' fp' F h' x => k v σ' H' fp' F (h.trans h') (x.trans h)
  | bk ρ' => exact fun σ' H' fp' h' => k σ' H' fp' (h.trans h')
  | ct ρ' => exact fun σ' H' fp' h' => k σ' H' fp' (h.trans h')
theorem tFor_of {src : IM} {gx : GX} {g : ES} (E : Ends) (σ : L2.St) (H : Hp) (h : tS X.K (sFor src gx g) E σ H) : tFor (tIM X.K src) (tG X.K gx) (tS X.K g) E σ H := by
  obtain ⟨c, ρ, fp, out, h, e, k⟩ := h
  obtain ⟨⟨its, ρ1⟩, e1, e⟩ := Option.bind_eq_some_iff.mp e
  refine ⟨c, ρ, fp, its, ρ1, h, e1, fun J H1 fp1 Fs h1 w ap => ?_⟩
  have k1 := OutOk.trans h1 k
  refine ⟨fun i m σ H => ∃ ρi fpi, i + m = its.length ∧ Ok X.K (sub c H1 ρ1 fp1) σ H ρi fpi ∧ forE gx g (its.drop i) ρi = some out, ⟨its.length, ρ1, fp1, by simp, h1.self, by simpa using e⟩, ?_⟩
  rintro i m σi Hi ⟨ρi, fpi, hm, hi, ei⟩
  have kp : Kp H1 Fs Hi := ⟨_, hi.frm, ap⟩
  by_cases hl : i < its.length
  · have hd : its.drop i = its[i] :: its.drop (i + 1) := List.drop_eq_getElem_cons hl
    rw [hd] at ei
    unfold forE at ei
    split at ei
    · rename_i pd
      obtain ⟨ρa, ea, ei⟩ := Option.bind_eq_some_iff.mp ei
      obtain ⟨o, eo, ei⟩ := Option.bind_eq_some_iff.mp ei
      refine .inr ⟨w.go i Hi hl kp, fun σ' H' => ∃ ρi fpi, i + 1 + (m - 1) = its.length ∧ Ok X.K (sub c H1 ρ1 fp1) σ' H' ρi fpi ∧ forE gx g (its.drop (i + 1)) ρi = some out, fun σ' H' q => ⟨m - 1, by omega, q⟩, fun x H' y => ?_⟩
      obtain ⟨s, F, r, _⟩ := w.yld i Hi x H' its[i] (List.getElem?_eq_getElem hl) kp y
      have nf := r.nil pd
      subst nf
      refine ⟨sub c H1 ρ1 fp1, ρi, fpi, its[i], [], ρa, hi.same s, ⟨r, List.nodup_nil, fun _ z => (by cases z), fun _ _ _ _ _ _ z => by cases z⟩, ea, fun σ2 H2 fp2 h2 => ⟨sub c H1 ρ1 fp1, ρa, fp2, o, h2, eo, ?_⟩⟩
      cases o with
      | nx ρ2 => exact fun σ' H' fp' h' => ⟨ρ2, fp', by omega, h', ei⟩
      | ct ρ2 => exact fun σ' H' fp' h' => ⟨ρ2, fp', by omega, h', ei⟩
      | bk ρ2 => cases ei; exact fun σ' H' fp' h' => k1 σ' H' fp' h'
      | rt d ρ2 => cases ei; exact fun v σ' H' fp' F h' x => k1 v σ' H' fp' F h' x
    · cases ei
  · have hd : its.drop i = [] := List.drop_of_length_le (by omega)
    have hie : i = its.length := by omega
    rw [hd] at ei
    cases ei
    exact .inl ⟨by rw [hie]; exact w.stop Hi kp, k1 σi Hi fpi hi⟩
theorem s_for {src : IM} {gx : GX} {g : ES} {body : List Stmt} (hp : PassesOwn (model X.prog X.w) X.A X.env X.xe) (hc : X.calm = true) (hi : PI X tg iter (tIM X.K src)) (hg : PG X tg (tG X.K gx)) (hb : DSs X body g)
    (hs : ∀ x, foldedSetIterable iter X.env x = Pure.pure x := by intro _; rfl) : DS X (.For tg iter body [] pos) (sFor src gx g) := (ps_for hp hc hi hg hb hs).imp tFor_of
def whileE (t : ET) (g : ES) : Nat → Env → Option Out
  | 0, _ => none
  | n + 1, ρ => (t ρ).bind fun b => if b.1 = true then (g b.2).bind fun o => match o with
    | .nx ρ2 => whileE t g n ρ2
    | .ct ρ2 => whileE t g n ρ2
    | .bk ρ2 => some (.nx ρ2)
    | .rt d ρ2 => some (.rt d ρ2) else some (.nx b.2)
/-- turns enough -/
def fuel : Nat := 2 ^ 60
def sWhile (t : ET) (g : ES) : ES := fun ρ => whileE t g fuel ρ
/-! what is walked -/
theorem Kp.sqT {K : PySem.W.Frag} {H1 H : Hp} {Fs : List Addr} {p : Addr} {xs : List V} (k : Kp H1 Fs H) (h : SqT K H1 p xs) : SqT K H p xs := let ⟨_, f, _⟩ := k; f.sqT h
theorem Kp.rep {K : PySem.W.Frag} {H1 H : Hp} {Fs F : List Addr} {d : D} {v : V} (k : Kp H1 Fs H) (h : Rep K H1 d v F) (s : ∀ a ∈ F, a ∈ Fs) : Rep K H d v F := let ⟨_, f, n⟩ := k; h.frm f fun a ha => n a (s a ha)
theorem Kp.lst {K : PySem.W.Frag} {H1 H : Hp} {Fs : List Addr} {p : Addr} {xs : List V} (k : Kp H1 Fs H) (h : Rd H1 p (.lst xs)) (s : p ∈ Fs) : SqL K H p xs := let ⟨_, f, n⟩ := k; .inl (f.rd h (n p s))
theorem Kp.frz {K : PySem.W.Frag} {H1 H : Hp} {Fs : List Addr} {p : Addr} {xs : List V} (k : Kp H1 Fs H) (h : Frz K H1 p xs) : SqL K H p xs := let ⟨_, f, n⟩ := k; (f.frz h).sq
theorem wk_lst {K : PySem.W.Frag} {H1 : Hp} {p : Addr} {vs : List V} {its : List D} {Fs : List Addr} (q : ∀ H, Kp H1 Fs H → SqL K H p vs) {Gs : List Addr} (r : Reps K H1 its vs Gs) (sb : ∀ a ∈ Gs, a ∈ Fs) : Wk (Itl K p) K its H1 Fs where
  go := fun i H hi k => by
    have hl : i < vs.length := by rw [r.length]; exact hi
    exact ⟨vs, vs[i], q H k, List.getElem?_eq_getElem hl⟩
  stop := fun H k => ⟨vs, q H k, by rw [r.length]; exact Nat.le_refl _⟩
  yld := fun i H x H' d e k y => by
    obtain ⟨v, G, g1, g2, g3⟩ := r.get e
    obtain ⟨rfl, f⟩ := y
    have := f vs (q _ k)
    rw [g1] at this
    cases this
    exact ⟨Same.refl _, G, k.rep g2 fun a ha => sb a (g3 a ha), fun a ha => sb a (g3 a ha)⟩
/-- the items of a tuple; of a list -/
def xItT (f : EX) : IX := fun ρ => (f ρ).bind fun d => match d with
  | .tup xs => some xs
  | .ctp xs => some xs
  | _ => none
def xItL (f : EX) : IX := fun ρ => (f ρ).bind fun d => match d with
  | .lst xs => some xs
  | .frz xs => some xs
  | _ => none
def rng (lo hi : Int) : List D := (List.range (hi - lo).toNat).map fun i => .int (lo + (i : Nat))
def rOk (i : Int) : Bool := decide (i.natAbs < 2 ^ 62)
theorem rOk_iff {i : Int} (h : rOk i = true) : -(2 ^ 62) ≤ i ∧ i < 2 ^ 62 := by
  unfold rOk at h
  rw [decide_eq_true_eq] at h
  omega
theorem wk_range {K : PySem.W.Frag} {H1 : Hp} {lo hi : Int} : Wk (Itr lo (hi - lo).toNat) K (rng lo hi) H1 [] where
  go := fun i H h k => by
    unfold rng at h
    rw [List.length_map, List.length_range] at h
    exact h
  stop := fun H k => by
    unfold rng
    rw [List.length_map, List.length_range]
    exact Nat.le_refl _
  yld := fun i H x H' d e k y => by
    obtain ⟨rfl, rfl⟩ := y
    unfold rng at e
    rw [List.getElem?_map] at e
    obtain ⟨j, hj, e⟩ := Option.map_eq_some_iff.mp e
    rw [List.getElem?_eq_some_iff] at hj
    obtain ⟨h1, h2⟩ := hj
    rw [List.getElem_range] at h2
    subst h2
    cases e
    exact ⟨Same.refl _, [], ⟨rfl, rfl⟩, fun _ z => by cases z⟩
def xRng1 (fs : EXs) : IX := fun ρ => (fs ρ).bind fun ds => match ds with
  | [.int j] => if rOk j = true then some (rng 0 j) else none
  | _ => none
def xRng2 (fs : EXs) : IX := fun ρ => (fs ρ).bind fun ds => match ds with
  | [.int i, .int j] => if rOk i = true then if rOk j = true then some (rng i j) else none else none
  | _ => none
theorem reps1 {K : PySem.W.Frag} {H : Hp} {i : Int} {vs : List V} {F : List Addr} (r : Reps K H [.int i] vs F) : vs = [.int i] := by
  obtain ⟨v, vr, F1, F2, rfl, rfl, r1, r2⟩ := r
  rw [r1.1, r2.1]
theorem reps2 {K : PySem.W.Frag} {H : Hp} {i j : Int} {vs : List V} {F : List Addr} (r : Reps K H [.int i, .int j] vs F) : vs = [.int i, .int j] := by
  obtain ⟨v, vr, F1, F2, rfl, rfl, r1, r2⟩ := r
  rw [r1.1, reps1 r2]
theorem i_rng1 {fs : EXs} {p : Pos} (hg : Gl X "range") (hm : X.mg "range" = none) (ha : PA X [a] (tPs X.K false fs)) (hs : starEach [a] X.env = [(false, eval a X.env)] := by rfl) : PI X tg (.Call (.Name "range" p) [a] [] pos) (tI X.K true (xRng1 fs)) :=
  (pi_range1 hg hm ha hs).imp fun σ H R ⟨ρ, its, s, e, k⟩ => by
    obtain ⟨ds, e1, e⟩ := Option.bind_eq_some_iff.mp e
    refine ⟨ρ, ds, s, e1, fun vs H1 F sm r n => ?_⟩
    split at e
    · split at e
      · rename_i j hj
        cases e
        obtain ⟨h1, h2⟩ := rOk_iff hj
        have w := wk_range (K := X.K) (H1 := H1) (lo := 0) (hi := j)
        rw [Int.sub_zero] at w
        exact ⟨j, reps1 r, h1, h2, k _ H1 [] sm w fun _ _ z => by cases z⟩
      · cases e
    · cases e
theorem i_rng2 {fs : EXs} {p : Pos} (hg : Gl X "range") (hm : X.mg "range" = none) (ha : PA X [a, b] (tPs X.K false fs)) (hs : starEach [a, b] X.env = [(false, eval a X.env), (false, eval b X.env)] := by rfl) (hs2 : starEach [b] X.env = [(false, eval b X.env)] := by rfl) : PI X tg (.Call (.Name "range" p) [a, b] [] pos) (tI X.K true (xRng2 fs)) :=
  (pi_range2 hg hm ha hs hs2).imp fun σ H R ⟨ρ, its, s, e, k⟩ => by
    obtain ⟨ds, e1, e⟩ := Option.bind_eq_some_iff.mp e
    refine ⟨ρ, ds, s, e1, fun vs H1 F sm r n => ?_⟩
    split at e
    · split at e
      · split at e
        · rename_i i j hi hj
          cases e
          obtain ⟨h1, h2⟩ := rOk_iff hi
          obtain ⟨h3, h4⟩ := rOk_iff hj
          exact ⟨i, j, reps2 r, ⟨h1, h2, h3, h4⟩, k _ H1 [] sm wk_range fun _ _ z => by cases z⟩
        · cases e
      · cases e
    · cases e
def mRng1 (ms : EMs) : IM := fun ρ => (ms ρ).bind fun x => match x.1 with
  | [.int j] => if rOk j = true then some (rng 0 j, x.2) else none
  | _ => none
/-- over a list that a name holds: lent while the loop runs -/
def back (j : Nat) (m : Fl) (ρ : Env) : Env := match ρ[j]? with
  | some (some (.bor, d)) => ρ.set j (some (m, d))
  | _ => ρ
end
/-! ### defs -/
section
variable {P : Program} {w : World} {K : PySem.W.Frag} {mg : Str → Option Value} {base : Heap}
def argSlot (d : D) : Slt := some (if pure d = true then .own else .bor, d)
def env0 (N : List Str) (ds : List D) : Env := ds.map argSlot ++ List.replicate (N.length - ds.length) none
def envR (N : List Str) (d0 : D) (ds : List D) : Env := some (.pin, d0) :: (ds.map argSlot ++ List.replicate (N.length - (ds.length + 1)) none)
def fpOf : List (List Addr) → Nat → List Addr := fun l i => (l[i]?).getD []
theorem Reps.split {K : PySem.W.Frag} {H : Hp} : ∀ {ds : List D} {vs : List V} {F : List Addr}, Reps K H ds vs F → ∃ l : List (List Addr), l.length = ds.length ∧ (∀ (i : Nat) d, ds[i]? = some d → ∃ v, vs[i]? = some v ∧ Rep K H d v (fpOf l i)) ∧ ∀ i, ∀ a ∈ fpOf l i, a ∈ F
  | [], _, _, h => ⟨[], rfl, fun i d e => by simp at e, fun i a ha => by simp [fpOf] at ha⟩
  | d :: ds, vs, F, h => by
    obtain ⟨v, vr, F1, F2, rfl, rfl, r1, r2⟩ := h
    obtain ⟨l, hl, h1, h2⟩ := Reps.split r2
    refine ⟨F1 :: l, by simp [hl], fun i x e => ?_, fun i a ha => ?_⟩
    · cases i with
      | zero => cases (Option.some.inj e : d = x); exact ⟨v, rfl, r1⟩
      | succ i =>
        obtain ⟨v', e1, e2⟩ := h1 i x e
        exact ⟨v', e1, e2⟩
    · cases i with
      | zero => exact List.mem_append_left _ ha
      | succ i => exact List.mem_append_right _ (h2 i a ha)
theorem argSlot_some {ds : List D} {n i : Nat} {m : Fl} {d : D} (q : (ds.map argSlot ++ List.replicate n none)[i]? = some (some (m, d))) : ds[i]? = some d ∧ m = if pure d = true then .own else .bor := by
  by_cases hi : i < ds.length
  · rw [List.getElem?_append_left (by simpa using hi), List.getElem?_map] at q
    obtain ⟨x, e1, e2⟩ := Option.map_eq_some_iff.mp q
    unfold argSlot at e2
    cases e2
    exact ⟨e1, rfl⟩
  · rw [List.getElem?_append_right (by simpa using hi), List.getElem?_replicate] at q
    split at q <;> cases q
theorem ok_env0 {N ps : List Str} {H : Hp} {ds : List D} {vs : List V} {G : List Addr} (r : Reps K H ds vs G) (hl : ds.length ≤ N.length) : ∃ fp, Ok K ⟨H, No, fun i => vs[i]?, fun a => a ∈ G⟩ (L2.start N vs) H (env0 N ds) fp := by
  obtain ⟨l, hll, h1, h2⟩ := r.split
  have hv := r.length
  refine ⟨fpOf l, ⟨?_, fun i m d q => ?_, fun i m d q hm => ?_, fun i d q => h2 i, fun i j m d n e ne q hm q2 hn a ha => ?_, ⟨fun _ z => z.elim, fun a o e _ => e⟩, fun a ha => ⟨r.there a ha, fun z => z⟩⟩⟩
  · unfold env0 L2.start
    simp [hv]
  · obtain ⟨e1, e2⟩ := argSlot_some q
    obtain ⟨v, e3, e4⟩ := h1 i d e1
    refine ⟨v, ?_, e4, fun _ => e3⟩
    · unfold L2.start
      have hi : i < vs.length := (List.getElem?_eq_some_iff.mp e3).1
      rw [List.getElem?_append_left (by simpa using hi), List.getElem?_map, e3]
      rfl
  · obtain ⟨e1, e2⟩ := argSlot_some q
    obtain ⟨v, e3, e4⟩ := h1 i d e1
    split at e2
    · rename_i pd
      rw [e4.nil pd]
      exact ⟨List.nodup_nil, fun _ z => by cases z⟩
    · exact absurd e2 hm
  · obtain ⟨e1, e2⟩ := argSlot_some q
    obtain ⟨v, e3, e4⟩ := h1 i d e1
    split at e2
    · rename_i pd
      rw [e4.nil pd] at ha
      cases ha
    · exact absurd e2 hm
/-- what a body hands back -/
def outP (o : Option Out) : Option D := o.bind fun o => match o with
  | .rt d _ => some d
  | .nx _ => some .non
  | _ => none
def fnP (N : List Str) (g : ES) (ds : List D) : Option D := outP (g (env0 N ds))
theorem tS_fnP {N ps : List Str} {g : ES} {H : Hp} {vs : List V} {Q : VK} {E : XK} (hn : ps.length ≤ N.length) (h : spP K ps.length (fnP N g) vs H Q E) : tS K g { nx := fun _ H' => Q .non H', rt := Q } (L2.start N vs) H := by
  obtain ⟨ds, G, d, hl, r, e, k⟩ := h
  obtain ⟨fp, ok⟩ := ok_env0 (N := N) (ps := ps) r (by omega)
  obtain ⟨o, e1, e⟩ := Option.bind_eq_some_iff.mp e
  refine ⟨_, _, fp, o, ok, e1, ?_⟩
  cases o with
  | nx ρ' =>
    cases e
    exact fun σ' H' fp' h' => k _ H' [] h'.frm.same ⟨rfl, rfl⟩ New.nil
  | rt x ρ' =>
    cases e
    exact fun v σ' H' fp' F h' y => k v H' F h'.frm.same y.rep ⟨y.nd, fun a ha => (y.ow a ha).1.elim (fun z => z.elim) fun z => z, fun a ha => (y.ow a ha).2.1⟩
  | bk ρ' => cases e
  | ct ρ' => cases e
theorem spP_len {n : Nat} {F : List D → Option D} {vs : List V} {H : Hp} {Q : VK} {E : XK} (h : spP K n F vs H Q E) : vs.length = n := by
  obtain ⟨ds, G, d, hl, r, e, k⟩ := h
  rw [r.length, hl]
/-- THE RULE for a def that changes nothing of its caller's -/
theorem f_p {x qual : Str} {st : Stmt} {f : Addr} {fd : FuncData} {N ps : List Str} {k : Nat} {g : ES} (F : L2.Fun K x qual st f fd) (S : FnScope N ps (defScope st))
    (hb : ∀ (cdv : Value) (A : Around) (outer : List PySem.Env) (s : Shared) (H : Hp) (E : XK), Room k (A.deeper (envOfC qual (defScope st) s.heap.objs.size f cdv)) → DSs (cxOf CX0 P w K mg base N qual (defScope st) f cdv A outer s H E).nox (defBody st) g) :
    FnOk P w K mg base CX0 (k + 1) f fd ps (spP K ps.length (fnP N g)) := by
  have hn : ps.length ≤ N.length := by have := congrArg List.length S.pre; rw [List.length_take] at this; omega
  exact F.ok S (fun vs H Q E h => spP_len h) fun cdv A outer s H vs Q E hr h => ⟨_, hb cdv A outer s H E hr, tS_fnP hn h⟩
/-! a def that changes its first argument -/
def spR (K : PySem.W.Frag) (n : Nat) (F : D → List D → Option (D × D)) : Sp := fun vs H Q _ => ∃ d0 ds v0 vr F0 G d d', vs = v0 :: vr ∧ ds.length = n ∧ Rep K H d0 v0 F0 ∧ F0.Nodup ∧ (∀ a ∈ F0, Mut (H a)) ∧ Reps K H ds vr G ∧ (∀ a ∈ F0, a ∉ G) ∧ F d0 ds = some (d, d') ∧
  ∀ v H' F1 Fv, Frm H (fun a => a ∈ F0) H' → Rep K H' d' v0 F1 → Rep K H' d v Fv → F1.Nodup → Fv.Nodup → (∀ a ∈ F1, a ∉ Fv) → (∀ a, a ∈ F1 ∨ a ∈ Fv → (a ∈ F0 ∨ H a = none) ∧ Mut (H' a)) → Q v H'
def outR (o : Option Out) : Option (D × D) := o.bind fun o => match o with
  | .rt d ρ => (match ρ[0]? with
    | some (some (Fl.pin, d')) => some (d, d')
    | _ => none)
  | .nx ρ => (match ρ[0]? with
    | some (some (Fl.pin, d')) => some (.non, d')
    | _ => none)
  | _ => none
def fnR (N : List Str) (g : ES) (d0 : D) (ds : List D) : Option (D × D) := outR (g (envR N d0 ds))
theorem spR_len {n : Nat} {F : D → List D → Option (D × D)} {vs : List V} {H : Hp} {Q : VK} {E : XK} (h : spR K n F vs H Q E) : vs.length = n + 1 := by
  obtain ⟨d0, ds, v0, vr, F0, G, d, d', rfl, hl, _, _, _, r, _⟩ := h
  rw [List.length_cons, r.length, hl]
theorem ok_envR {N ps : List Str} {H : Hp} {d0 : D} {v0 : V} {F0 : List Addr} {ds : List D} {vs : List V} {G : List Addr} (r0 : Rep K H d0 v0 F0) (nd : F0.Nodup) (mu : ∀ a ∈ F0, Mut (H a)) (r : Reps K H ds vs G) (ap : ∀ a ∈ F0, a ∉ G) (hl : ds.length + 1 ≤ N.length) :
    ∃ fp, Ok K ⟨H, fun a => a ∈ F0, fun i => (v0 :: vs)[i]?, fun a => a ∈ G⟩ (L2.start N (v0 :: vs)) H (envR N d0 ds) fp := by
  obtain ⟨l, hll, h1, h2⟩ := r.split
  have hv := r.length
  have s0 : ∀ (i : Nat) m d, (envR N d0 ds)[i + 1]? = some (some (m, d)) → ds[i]? = some d ∧ m = if pure d = true then .own else .bor := fun i m d q => argSlot_some (n := N.length - (ds.length + 1)) q
  have z0 : ∀ m d, (envR N d0 ds)[0]? = some (some (m, d)) → m = .pin ∧ d = d0 := fun m d q => by
    have q' : some (some (Fl.pin, d0)) = some (some (m, d)) := q
    cases q'
    exact ⟨rfl, rfl⟩
  have emp : ∀ (i : Nat) m d, (envR N d0 ds)[i + 1]? = some (some (m, d)) → m ≠ Fl.bor → fpOf l i = [] := fun i m d q hm => by
    obtain ⟨e1, e2⟩ := s0 i m d q
    obtain ⟨v, e3, e4⟩ := h1 i d e1
    split at e2
    · rename_i pd
      exact e4.nil pd
    · exact absurd e2 hm
  refine ⟨fun i => match i with | 0 => F0 | i + 1 => fpOf l i, ⟨?_, fun i m d q => ?_, fun i m d q hm => ?_, fun i d q => ?_, fun i j m d n e ne q hm q2 hn a ha => ?_, ⟨mu, fun a o e _ => e⟩, fun a ha => ⟨r.there a ha, fun z => ap a z ha⟩⟩⟩
  · unfold envR L2.start
    simp [hv]
  · cases i with
    | zero =>
      obtain ⟨rfl, rfl⟩ := z0 m d q
      exact ⟨v0, rfl, r0, fun _ => rfl⟩
    | succ i =>
      obtain ⟨e1, e2⟩ := s0 i m d q
      obtain ⟨v, e3, e4⟩ := h1 i d e1
      refine ⟨v, ?_, e4, fun _ => e3⟩
      · unfold L2.start
        have hi : i < vs.length := (List.getElem?_eq_some_iff.mp e3).1
        rw [List.map_cons, List.cons_append, List.getElem?_cons_succ, List.getElem?_append_left (by simpa using hi), List.getElem?_map, e3]
        rfl
  · cases i with
    | zero => exact ⟨nd, fun a ha => ⟨.inl ha, mu a ha, fun z => ap a ha z⟩⟩
    | succ i =>
      show (fpOf l i).Nodup ∧ ∀ a ∈ fpOf l i, _
      rw [emp i m d q hm]
      exact ⟨List.nodup_nil, fun _ z => by cases z⟩
  · cases i with
    | zero => obtain ⟨z, _⟩ := z0 _ d q; cases z
    | succ i => exact h2 i
  · cases i with
    | zero =>
      cases j with
      | zero => exact absurd rfl ne
      | succ j =>
        show a ∉ fpOf l j
        rw [emp j n e q2 hn]
        exact fun z => by cases z
    | succ i =>
      have ha' : a ∈ fpOf l i := ha
      rw [emp i m d q hm] at ha'
      cases ha'
theorem tS_fnR {N ps : List Str} {n : Nat} {g : ES} {H : Hp} {vs : List V} {Q : VK} {E : XK} (hn : n + 1 ≤ N.length) (h : spR K n (fnR N g) vs H Q E) : tS K g { nx := fun _ H' => Q .non H', rt := Q } (L2.start N vs) H := by
  obtain ⟨d0, ds, v0, vr, F0, G, d, d', rfl, hl, r0, nd, mu, r, ap, e, k⟩ := h
  obtain ⟨fp, ok⟩ := ok_envR (N := N) (ps := ps) r0 nd mu r ap (by omega)
  obtain ⟨o, e1, e⟩ := Option.bind_eq_some_iff.mp e
  refine ⟨_, _, fp, o, ok, e1, ?_⟩
  have fin : ∀ {ρ' : Env} {v : V} {σ' : L2.St} {H' : Hp} {fp' : Nat → List Addr} {F : List Addr}, ρ'[0]? = some (some (.pin, d')) → Ok K ⟨H, fun a => a ∈ F0, fun i => (v0 :: vr)[i]?, fun a => a ∈ G⟩ σ' H' ρ' fp' → Val K ⟨H, fun a => a ∈ F0, fun i => (v0 :: vr)[i]?, fun a => a ∈ G⟩ H' ρ' fp' d v F → Q v H' := fun {ρ' v σ' H' fp' F} q h' y => by
    obtain ⟨u, h1, h2, h3⟩ := h'.rep 0 _ _ q
    have e0 : some v0 = some u := h3 (by decide)
    cases e0
    obtain ⟨n1, n2⟩ := h'.nd 0 _ _ q (by decide)
    refine k v H' (fp' 0) F h'.frm h2 y.rep n1 y.nd (fun a ha hf => y.dj 0 _ _ q (by decide) a hf ha) fun a z => ?_
    rcases z with z | z
    · exact ⟨(n2 a z).1, (n2 a z).2.1⟩
    · exact ⟨(y.ow a z).1, (y.ow a z).2.1⟩
  cases o with
  | nx ρ' =>
    simp only at e
    split at e
    · rename_i q
      cases e
      exact fun σ' H' fp' h' => fin q h' ⟨⟨rfl, rfl⟩, List.nodup_nil, fun _ z => (by cases z), fun _ _ _ _ _ _ z => by cases z⟩
    · cases e
  | rt x ρ' =>
    simp only at e
    split at e
    · rename_i q
      cases e
      exact fun v σ' H' fp' F h' y => fin q h' y
    · cases e
  | bk ρ' => cases e
  | ct ρ' => cases e
theorem f_r {x qual : Str} {st : Stmt} {f : Addr} {fd : FuncData} {N ps : List Str} {k n : Nat} {g : ES} (F : L2.Fun K x qual st f fd) (S : FnScope N ps (defScope st)) (hps : ps.length = n + 1)
    (hb : ∀ (cdv : Value) (A : Around) (outer : List PySem.Env) (s : Shared) (H : Hp) (E : XK), Room k (A.deeper (envOfC qual (defScope st) s.heap.objs.size f cdv)) → DSs (cxOf CX0 P w K mg base N qual (defScope st) f cdv A outer s H E).nox (defBody st) g) :
    FnOk P w K mg base CX0 (k + 1) f fd ps (spR K n (fnR N g)) := by
  have hn : ps.length ≤ N.length := by have := congrArg List.length S.pre; rw [List.length_take] at this; omega
  exact F.ok S (fun vs H Q E h => by rw [hps]; exact spR_len h) fun cdv A outer s H vs Q E hr h => ⟨_, hb cdv A outer s H E hr, tS_fnR (ps := ps) (by omega) h⟩
end
section
variable {X : Cx} {x : Str} {po pos : Pos} {e : Expr} {es : List Expr}
/-- a call that changes the name at i, its first argument -/
def mCallR (F : D → List D → Option (D × D)) (i : Nat) (ms : EMs) : EM := fun ρ => (xVar i ρ).bind fun _ => (ms ρ).bind fun x => match x.2[i]? with
  | some (some (m, d0)) => if m = .bor then none else (F d0 x.1).bind fun y => some (y.1, x.2.set i (some (m, y.2)))
  | _ => none
/-- a name's value is turned -/
theorem Ok.turn {K : PySem.W.Frag} {c : Ct} {σ : L2.St} {H H' : Hp} {ρ : Env} {fp : Nat → List Addr} {i : Nat} {m : Fl} {d d' : D} {v : V} {F1 : List Addr} (h : Ok K c σ H ρ fp) (q : ρ[i]? = some (some (m, d))) (hm : m ≠ .bor) (hv : σ[i]? = some (some v))
    (fr : Frm H (fun a => a ∈ fp i) H') (r : Rep K H' d' v F1) (nd : F1.Nodup) (ow : ∀ a ∈ F1, (a ∈ fp i ∨ H a = none) ∧ Mut (H' a)) : Ok K c σ H' (ρ.set i (some (m, d'))) (fun j => if j = i then F1 else fp j) := by
  have hi : i < ρ.length := (List.getElem?_eq_some_iff.mp q).1
  have low : ∀ j n e, j ≠ i → (ρ.set i (some (m, d')))[j]? = some (some (n, e)) → ρ[j]? = some (some (n, e)) := fun j n e ne z => by
    rw [List.getElem?_set_ne (Ne.symm ne)] at z; exact z
  have at' : ∀ n e, (ρ.set i (some (m, d')))[i]? = some (some (n, e)) → n = m ∧ e = d' := fun n e z => by
    rw [List.getElem?_set_self hi] at z; cases z; exact ⟨rfl, rfl⟩
  have nin : ∀ j n e, j ≠ i → ρ[j]? = some (some (n, e)) → ∀ a ∈ fp j, a ∉ fp i := fun j n e ne z a ha hb => by
    by_cases hn : n = .bor
    · subst hn
      exact ((h.nd i m d q hm).2 a hb).2.2 (h.bo j e z a ha)
    · exact h.dj i j m d n e (Ne.symm ne) q hm z hn a hb ha
  have mk : ∀ a, a ∉ fp i → Mut (H a) → Mut (H' a) := fun a n mu => by
    cases z : H a with
    | none => rw [z] at mu; exact mu.elim
    | some o => rw [fr.keep a o z n]; rw [z] at mu; exact mu
  have own1 : ∀ a ∈ F1, (c.O0 a ∨ c.H0 a = none) ∧ Mut (H' a) ∧ ¬ c.B a := fun a ha => by
    obtain ⟨z, mu⟩ := ow a ha
    rcases z with z | z
    · exact ⟨((h.nd i m d q hm).2 a z).1, mu, ((h.nd i m d q hm).2 a z).2.2⟩
    · exact ⟨sub_ow h (.inr z), mu, fun b => h.there b z⟩
  refine ⟨by rw [List.length_set]; exact h.len, fun j n e z => ?_, fun j n e z hn => ?_, fun j e z => ?_, fun j l n e n2 e2 ne z hn z2 hn2 a ha hl => ?_, ⟨h.frm.mu, fun a o e n => ?_⟩, h.bt⟩
  · by_cases hj : j = i
    · subst hj
      obtain ⟨rfl, rfl⟩ := at' n e z
      obtain ⟨u, h1, _, h3⟩ := h.rep j n d q
      rw [hv] at h1
      cases h1
      exact ⟨v, hv, by rw [if_pos rfl]; exact r, h3⟩
    · obtain ⟨u, h1, h2, h3⟩ := h.rep j n e (low j n e hj z)
      exact ⟨u, h1, by rw [if_neg hj]; exact h2.frm fr (nin j n e hj (low j n e hj z)), h3⟩
  · by_cases hj : j = i
    · subst hj
      rw [if_pos rfl]
      exact ⟨nd, own1⟩
    · rw [if_neg hj]
      obtain ⟨n1, n2⟩ := h.nd j n e (low j n e hj z) hn
      exact ⟨n1, fun a ha => ⟨(n2 a ha).1, mk a (nin j n e hj (low j n e hj z) a ha) (n2 a ha).2.1, (n2 a ha).2.2⟩⟩
  · by_cases hj : j = i
    · subst hj
      exact absurd (at' _ e z).1.symm hm
    · rw [if_neg hj]
      exact h.bo j e (low j _ e hj z)
  · have cross : ∀ j n e, j ≠ i → ρ[j]? = some (some (n, e)) → ∀ a ∈ F1, a ∉ fp j := fun j n e ne z a ha hb => by
      rcases (ow a ha).1 with y | y
      · exact nin j n e ne z a hb y
      · obtain ⟨u, _, h2, _⟩ := h.rep j n e z
        exact h2.there a hb y
    by_cases hj : j = i
    · subst hj
      rw [if_pos rfl] at ha
      rw [if_neg (Ne.symm ne)] at hl
      exact cross l n2 e2 (Ne.symm ne) (low l n2 e2 (Ne.symm ne) z2) a ha hl
    · rw [if_neg hj] at ha
      by_cases hl' : l = i
      · subst hl'
        rw [if_pos rfl] at hl
        exact cross j n e hj (low j n e hj z) a hl ha
      · rw [if_neg hl'] at hl
        exact h.dj j l n e n2 e2 ne (low j n e hj z) hn (low l n2 e2 hl' z2) hn2 a ha hl
  · refine fr.keep a o (h.frm.keep a o e n) fun z => ?_
    rcases ((h.nd i m d q hm).2 a z).1 with y | y
    · exact n y
    · rw [y] at e; cases e
theorem m_callR {n k i : Nat} {F : D → List D → Option (D × D)} {fa : Addr} {fd : FuncData} {ps : List Str} {ms : EMs} (G : FnOk X.prog X.w X.K X.mg X.base CX0 k fa fd ps (spR X.K n F)) (hr : Room k X.A) (hg : Gl X x) (hm : X.mg x = some (.ref fa)) (hk : PySem.W.keepIn X.K (.ref fa) = true) (hb : Binds X.K fd ps [])
    (hv : PE X e (tVar i)) (ha : PA X es (tMs X.K ms)) (hn : ∀ ρ ds ρ', ms ρ = some (ds, ρ') → ds.length = n) (hs : starEach (e :: es) X.env = (false, eval e X.env) :: starEach es X.env := by rfl) (hdb : (x == ("__debug__" : Str)) = false := by decide) (hpl : (backTo pos (starEach es X.env)).any (·.1) = false := by rfl) :
    DM X (.Call (.Name x po) (e :: es) [] pos) (mCallR F i ms) :=
  (pe_call G hr hg hm hk hb .nil pass0 (pa_cons hv ha hs) hdb hs hpl).imp fun σ H Q ⟨c, ρ, fp, d, ρ', h, q, kk⟩ => by
    obtain ⟨dd, e0, q⟩ := Option.bind_eq_some_iff.mp q
    obtain ⟨fl, q0⟩ := xVar_some e0
    obtain ⟨v0, hv0, _, _⟩ := h.rep i fl dd q0
    obtain ⟨⟨xs, ρ1⟩, e1, q⟩ := Option.bind_eq_some_iff.mp q
    simp only at q
    split at q
    · rename_i m d0 qi
      split at q
      · cases q
      · rename_i hm
        obtain ⟨⟨y, y'⟩, e2, q⟩ := Option.bind_eq_some_iff.mp q
        cases q
        refine ⟨v0, hv0, c, ρ, fp, xs, ρ1, h, e1, fun vr H1 fp1 G1 h1 x1 => ?_⟩
        obtain ⟨u, q1, q2, q3⟩ := h1.rep i m d0 qi
        rw [hv0] at q1
        cases q1
        obtain ⟨n1, n2⟩ := h1.nd i m d0 qi hm
        refine ⟨d0, xs, v0, vr, fp1 i, G1, _, y', List.append_nil _, hn _ _ _ e1, q2, n1, fun a ha => (n2 a ha).2.1, x1.rep, fun a ha hb => x1.dj i m d0 qi hm a hb ha, e2, fun v H' F1 Fv fr r1 r2 nd1 nd2 ap ow => ?_⟩
        have ok' := h1.turn qi hm hv0 fr r1 nd1 fun a ha => ow a (.inl ha)
        refine kk v H' _ Fv ok' ⟨r2, nd2, fun a ha => ?_, fun j n e z hn a ha hj => ?_⟩
        · obtain ⟨z, mu⟩ := ow a (.inr ha)
          rcases z with z | z
          · exact ⟨(n2 a z).1, mu, (n2 a z).2.2⟩
          · exact ⟨sub_ow h1 (.inr z), mu, fun b => h1.there b z⟩
        · by_cases hji : j = i
          · subst hji
            have hj' : a ∈ F1 := by simpa using hj
            exact ap a hj' ha
          · have hj' : a ∈ fp1 j := by simpa [hji] using hj
            rw [List.getElem?_set_ne (Ne.symm hji)] at z
            rcases (ow a (.inr ha)).1 with y | y
            · exact h1.dj i j m d0 n e (Ne.symm hji) qi hm z hn a y hj'
            · obtain ⟨u, _, h2, _⟩ := h1.rep j n e z
              exact h2.there a hj' y
    · cases q
theorem msn_nil : ∀ ρ ds ρ', msNil ρ = some (ds, ρ') → ds.length = 0 := fun ρ ds ρ' e => by cases e; rfl
theorem msn_cons {m : EM} {ms : EMs} {n : Nat} (h : ∀ ρ ds ρ', ms ρ = some (ds, ρ') → ds.length = n) : ∀ ρ ds ρ', msCons m ms ρ = some (ds, ρ') → ds.length = n + 1 := fun ρ ds ρ' e => by
  obtain ⟨x, e1, e⟩ := Option.bind_eq_some_iff.mp e
  obtain ⟨xs, e2, e⟩ := Option.bind_eq_some_iff.mp e
  cases e
  rw [List.length_cons, h _ xs.1 _ e2]
end
end DL
namespace DL
open PySem PySem.Spec PyProof.Rows L2
/-! ### data as the library's data -/
mutual
def py : D → PyData
  | .non => .none | .bl b => .bool b | .int i => .int i | .str x => .str x
  | .tup xs => .tuple (pys xs)
  | .lst xs => .list (pys xs)
  | .frz xs => .list (pys xs)
  | .ctp xs => .tuple (pys xs)
  | .dK _ _ => .dict [] | .dT _ _ => .dict []
def pys : List D → List PyData
  | [] => []
  | d :: ds => py d :: pys ds
end
theorem pys_map : ∀ ds : List D, pys ds = ds.map py
  | [] => rfl
  | d :: ds => by rw [pys, pys_map ds]; rfl
mutual
/-- numbers, texts, truths, None, and tuples of such -/
def plain : D → Bool
  | .non => true | .bl _ => true | .int _ => true | .str _ => true
  | .tup xs => plains xs
  | _ => false
def plains : List D → Bool
  | [] => true
  | d :: ds => plain d && plains ds
end
theorem plains_all : ∀ ds : List D, plains ds = ds.all plain
  | [] => rfl
  | d :: ds => by rw [plains, plains_all ds]; rfl
mutual
theorem pure_of_plain : ∀ d : D, plain d = true → pure d = true
  | .non, _ => rfl | .bl _, _ => rfl | .int _, _ => rfl | .str _, _ => rfl
  | .tup xs, h => pures_of_plains xs h
  | .lst _, h => by cases h
  | .frz _, h => by cases h
  | .ctp _, h => by cases h
  | .dK _ _, h => by cases h
  | .dT _ _, h => by cases h
theorem pures_of_plains : ∀ ds : List D, plains ds = true → pures ds = true
  | [], _ => rfl
  | d :: ds, h => by
    have h' : (plain d && plains ds) = true := h
    rw [Bool.and_eq_true] at h'
    show (pure d && pures ds) = true
    rw [pure_of_plain d h'.1, pures_of_plains ds h'.2]
    rfl
end
mutual
theorem py_inj : ∀ (d e : D), plain d = true → plain e = true → py d = py e → d = e
  | .non, .non, _, _, _ => rfl
  | .bl _, .bl _, _, _, h => by cases h; rfl
  | .int _, .int _, _, _, h => by cases h; rfl
  | .str _, .str _, _, _, h => by cases h; rfl
  | .tup xs, .tup ys, p, q, h => by
    have h' : pys xs = pys ys := by unfold py at h; injection h
    rw [pys_inj xs ys p q h']
  | .non, .bl _, _, _, h => by cases h
  | .non, .int _, _, _, h => by cases h
  | .non, .str _, _, _, h => by cases h
  | .non, .tup _, _, _, h => by cases h
  | .bl _, .non, _, _, h => by cases h
  | .bl _, .int _, _, _, h => by cases h
  | .bl _, .str _, _, _, h => by cases h
  | .bl _, .tup _, _, _, h => by cases h
  | .int _, .non, _, _, h => by cases h
  | .int _, .bl _, _, _, h => by cases h
  | .int _, .str _, _, _, h => by cases h
  | .int _, .tup _, _, _, h => by cases h
  | .str _, .non, _, _, h => by cases h
  | .str _, .bl _, _, _, h => by cases h
  | .str _, .int _, _, _, h => by cases h
  | .str _, .tup _, _, _, h => by cases h
  | .tup _, .non, _, _, h => by cases h
  | .tup _, .bl _, _, _, h => by cases h
  | .tup _, .int _, _, _, h => by cases h
  | .tup _, .str _, _, _, h => by cases h
  | .lst _, _, p, _, _ => by cases p
  | .frz _, _, p, _, _ => by cases p
  | .ctp _, _, p, _, _ => by cases p
  | .dK _ _, _, p, _, _ => by cases p
  | .dT _ _, _, p, _, _ => by cases p
  | .non, .lst _, _, p, _ => by cases p
  | .non, .frz _, _, p, _ => by cases p
  | .non, .ctp _, _, p, _ => by cases p
  | .non, .dK _ _, _, p, _ => by cases p
  | .non, .dT _ _, _, p, _ => by cases p
  | .bl _, .lst _, _, p, _ => by cases p
  | .bl _, .frz _, _, p, _ => by cases p
  | .bl _, .ctp _, _, p, _ => by cases p
  | .bl _, .dK _ _, _, p, _ => by cases p
  | .bl _, .dT _ _, _, p, _ => by cases p
  | .int _, .lst _, _, p, _ => by cases p
  | .int _, .frz _, _, p, _ => by cases p
  | .int _, .ctp _, _, p, _ => by cases p
  | .int _, .dK _ _, _, p, _ => by cases p
  | .int _, .dT _ _, _, p, _ => by cases p
  | .str _, .lst _, _, p, _ => by cases p
  | .str _, .frz _, _, p, _ => by cases p
  | .str _, .ctp _, _, p, _ => by cases p
  | .str _, .dK _ _, _, p, _ => by cases p
  | .str _, .dT _ _, _, p, _ => by cases p
  | .tup _, .lst _, _, p, _ => by cases p
  | .tup _, .frz _, _, p, _ => by cases p
  | .tup _, .ctp _, _, p, _ => by cases p
  | .tup _, .dK _ _, _, p, _ => by cases p
  | .tup _, .dT _ _, _, p, _ => by cases p
theorem pys_inj : ∀ (ds es : List D), plains ds = true → plains es = true → pys ds = pys es → ds = es
  | [], [], _, _, _ => rfl
  | [], _ :: _, _, _, h => by cases h
  | _ :: _, [], _, _, h => by cases h
  | d :: ds, e :: es, p, q, h => by
    have p' : (plain d && plains ds) = true := p
    have q' : (plain e && plains es) = true := q
    rw [Bool.and_eq_true] at p' q'
    unfold pys at h
    injection h with h1 h2
    rw [py_inj d e p'.1 q'.1 h1, pys_inj ds es p'.2 q'.2 h2]
end
mutual
theorem Rep.dp {K : PySem.W.Frag} {H : Hp} : ∀ {d : D} {v : V} {F : List Addr}, (py d).canLay0 = true → Rep K H d v F → Dp K H v (py d)
  | .non, v, F, _, h => by rw [h.1]; exact .non
  | .bl b, v, F, _, h => by rw [h.1]; exact .bl b
  | .int b, v, F, _, h => by rw [h.1]; exact .int b
  | .str b, v, F, _, h => by rw [h.1]; exact .str b
  | .tup xs, v, F, c, h => by
    obtain ⟨a, vs, rfl, q, r⟩ := h
    exact .tup (.of q) (Reps.dp (by simpa [py, PyData.canLay0] using c) r)
  | .ctp xs, v, F, c, h => by
    obtain ⟨a, vs, rfl, q, r⟩ := h
    exact .tup q.sq (Reps.dp (by simpa [py, PyData.canLay0] using c) r)
  | .frz xs, v, F, c, h => by
    obtain ⟨a, vs, rfl, q, r⟩ := h
    exact .lst q.sq (Reps.dp (by simpa [py, PyData.canLay0] using c) r)
  | .lst xs, v, F, c, h => by
    obtain ⟨a, vs, G, rfl, q, _, r⟩ := h
    exact .lst (.inl q) (Reps.dp (by simpa [py, PyData.canLay0] using c) r)
  | .dK _ _, v, F, c, h => by simp [py, PyData.canLay0] at c
  | .dT _ _, v, F, c, h => by simp [py, PyData.canLay0] at c
theorem Reps.dp {K : PySem.W.Frag} {H : Hp} : ∀ {ds : List D} {vs : List V} {F : List Addr}, PyData.canLayAll0 (pys ds) = true → Reps K H ds vs F → DpAll K H vs (pys ds)
  | [], vs, F, _, h => by rw [h.1]; exact .nil
  | d :: ds, vs, F, c, h => by
    obtain ⟨v, vr, F1, F2, rfl, rfl, r1, r2⟩ := h
    have c' : (py d).canLay0 = true ∧ PyData.canLayAll0 (pys ds) = true := by simpa [pys, PyData.canLayAll0] using c
    exact .cons (Rep.dp c'.1 r1) (Reps.dp c'.2 r2)
end
def okD (d : D) : Bool := SeqAt.shaped (py d)
theorem okD.lay {d : D} (h : okD d = true) : (py d).canLay0 = true := SeqAt.canLay_of_shaped h
def eqv (x y : D) : Bool := PyData.eqv (py x) (py y)
def ltv (x y : D) : Bool := PySem.W.dataLt (py x) (py y)
def oEq : D → D → Option D := fun x y => if okD x = true then if okD y = true then some (.bl (eqv x y)) else none else none
def oNe : D → D → Option D := fun x y => if okD x = true then if okD y = true then some (.bl (!eqv x y)) else none else none
theorem d_eq {K : PySem.W.Frag} : OpD K (rEqD K) oEq := fun H d1 d2 v1 v2 F1 F2 d Q r1 r2 e k => by
  unfold oEq at e
  split at e
  · rename_i h1
    split at e
    · rename_i h2
      cases e
      exact ⟨py d1, py d2, r1.dp (okD.lay h1), r2.dp (okD.lay h2), h1, h2, k _ H [] (Same.refl H) ⟨rfl, rfl⟩ New.nil⟩
    · cases e
  · cases e
theorem d_ne {K : PySem.W.Frag} : OpD K (rNeD K) oNe := fun H d1 d2 v1 v2 F1 F2 d Q r1 r2 e k => by
  unfold oNe at e
  split at e
  · rename_i h1
    split at e
    · rename_i h2
      cases e
      exact ⟨py d1, py d2, r1.dp (okD.lay h1), r2.dp (okD.lay h2), h1, h2, k _ H [] (Same.refl H) ⟨rfl, rfl⟩ New.nil⟩
    · cases e
  · cases e
/-- order of two alike data -/
def cmpOk (d e : PyData) : Bool := PySem.W.alike d e && (match d with | .none => false | _ => true) && decide (d.depth ≤ 64) && d.canLay0 && e.canLay0
theorem cmpOk_iff {d e : PyData} (h : cmpOk d e = true) : PySem.W.alike d e = true ∧ d ≠ .none ∧ d.depth ≤ 64 ∧ d.canLay0 = true ∧ e.canLay0 = true := by
  unfold cmpOk at h
  simp only [Bool.and_eq_true, decide_eq_true_eq] at h
  obtain ⟨⟨⟨⟨h1, h2⟩, h3⟩, h4⟩, h5⟩ := h
  refine ⟨h1, fun z => ?_, h3, h4, h5⟩
  subst z
  cases h2
def rOrd (K : PySem.W.Frag) (b : PyData → PyData → Bool) : R2 := fun x y H Q => ∃ d e, Dp K H x d ∧ Dp K H y e ∧ cmpOk d e = true ∧ Q (.bl (b d e)) H
section
variable {X : Cx}
theorem op_ord {op : CmpOp} {b : PyData → PyData → Bool} (hu : X.A.units + 64 < cLine)
    (rule : ∀ {s : Shared} {x y : Value} {d e : PyData} {as bs : List Addr} {Q E : Value → Shared → Prop}, Reads s.heap x d as → Reads s.heap y e bs → PySem.W.alike d e = true → d ≠ .none → X.A.units + min d.depth e.depth < cLine → Q (.bool (b d e)) s → wpAny (model X.prog X.w) X.A (compareOp op x y) Q E s) :
    OpR X (compareOp op) (rOrd X.K b) := by
  intro pins s σ H x y v u Q I rx ry h
  obtain ⟨d, e, hd, he, c, q⟩ := h
  obtain ⟨as, r1⟩ := Dp.reads I d x v hd rx
  obtain ⟨bs, r2⟩ := Dp.reads I e y u he ry
  obtain ⟨h1, h2, h3, _, _⟩ := cmpOk_iff c
  have hm : min d.depth e.depth ≤ d.depth := Nat.min_le_left _ _
  exact rule r1 r2 h1 h2 (by omega) ⟨.bl _, H, I, rfl, q⟩
theorem op_ltD (hu : X.A.units + 64 < cLine) : OpR X (compareOp .Lt) (rOrd X.K fun d e => PySem.W.dataLt d e) := op_ord hu fun r1 r2 h1 h2 h3 q => PySem.W.lt_data r1 r2 h1 h2 h3 q
theorem op_gtD (hu : X.A.units + 64 < cLine) : OpR X (compareOp .Gt) (rOrd X.K fun d e => PySem.W.dataLt e d) := op_ord hu fun r1 r2 h1 h2 h3 q => PySem.W.gt_data r1 r2 h1 h2 h3 q
theorem op_leD (hu : X.A.units + 64 < cLine) : OpR X (compareOp .LtE) (rOrd X.K fun d e => !PySem.W.dataLt e d) := op_ord hu fun r1 r2 h1 h2 h3 q => PySem.W.le_data r1 r2 h1 h2 h3 q
theorem op_geD (hu : X.A.units + 64 < cLine) : OpR X (compareOp .GtE) (rOrd X.K fun d e => !PySem.W.dataLt d e) := op_ord hu fun r1 r2 h1 h2 h3 q => PySem.W.ge_data r1 r2 h1 h2 h3 q
end
def ordD (b : PyData → PyData → Bool) (bi : Int → Int → Bool) : D → D → Option D := fun x y => match x, y with
  | .int i, .int j => some (.bl (bi i j))
  | x, y => if cmpOk (py x) (py y) = true then some (.bl (b (py x) (py y))) else none
def oLt : D → D → Option D := ordD (fun d e => PySem.W.dataLt d e) fun i j => decide (i < j)
def oGt : D → D → Option D := ordD (fun d e => PySem.W.dataLt e d) fun i j => decide (j < i)
def oLe : D → D → Option D := ordD (fun d e => !PySem.W.dataLt e d) fun i j => decide (i ≤ j)
def oGe : D → D → Option D := ordD (fun d e => !PySem.W.dataLt d e) fun i j => decide (j ≤ i)
theorem d_ord {K : PySem.W.Frag} {b : PyData → PyData → Bool} {bi : Int → Int → Bool} : OpD K (fun x y H Q => rI0 (fun i j => .bl (bi i j)) x y H Q ∨ rOrd K b x y H Q) (ordD b bi) := fun H d1 d2 v1 v2 F1 F2 d Q r1 r2 e k => by
  unfold ordD at e
  split at e
  · cases e
    exact .inl ⟨_, _, r1.1, r2.1, k _ H [] (Same.refl H) ⟨rfl, rfl⟩ New.nil⟩
  · split at e
    · rename_i c
      cases e
      obtain ⟨_, _, _, h4, h5⟩ := cmpOk_iff c
      exact .inr ⟨_, _, r1.dp h4, r2.dp h5, c, k _ H [] (Same.refl H) ⟨rfl, rfl⟩ New.nil⟩
    · cases e
section
variable {X : Cx} {k : Nat}
theorem r_lt (hr : Room k X.A) : OpR X (compareOp .Lt) (fun x y H Q => rI0 (fun i j => .bl (decide (i < j))) x y H Q ∨ rOrd X.K (fun d e => PySem.W.dataLt d e) x y H Q) := op_lt.or (op_ltD hr.units)
theorem r_gt (hr : Room k X.A) : OpR X (compareOp .Gt) (fun x y H Q => rI0 (fun i j => .bl (decide (j < i))) x y H Q ∨ rOrd X.K (fun d e => PySem.W.dataLt e d) x y H Q) := op_gt.or (op_gtD hr.units)
theorem r_le (hr : Room k X.A) : OpR X (compareOp .LtE) (fun x y H Q => rI0 (fun i j => .bl (decide (i ≤ j))) x y H Q ∨ rOrd X.K (fun d e => !PySem.W.dataLt e d) x y H Q) := op_le.or (op_leD hr.units)
theorem r_ge (hr : Room k X.A) : OpR X (compareOp .GtE) (fun x y H Q => rI0 (fun i j => .bl (decide (j ≤ i))) x y H Q ∨ rOrd X.K (fun d e => !PySem.W.dataLt d e) x y H Q) := op_ge.or (op_geD hr.units)
theorem r_eq (hr : Room k X.A) : OpR X (compareOp .Eq) (rEqD X.K) := op_eqD hr.units
theorem r_ne (hr : Room k X.A) : OpR X (compareOp .NotEq) (rNeD X.K) := op_neD hr.units
end
/-! is None -/
def isNon : D → Bool
  | .non => true
  | _ => false
def oIsN : D → D → Option D := fun x y => if isNon y = true then some (.bl (isNon x)) else none
def oNotN : D → D → Option D := fun x y => if isNon y = true then some (.bl (!isNon x)) else none
theorem Rep.non_iff {K : PySem.W.Frag} {H : Hp} {d : D} {v : V} {F : List Addr} (r : Rep K H d v F) : decide (v = .non) = isNon d := by
  cases d with
  | non => cases r.1; rfl
  | bl _ => cases r.1; rfl
  | int _ => cases r.1; rfl
  | str _ => cases r.1; rfl
  | tup _ => obtain ⟨_, _, rfl, _⟩ := r; rfl
  | frz _ => obtain ⟨_, _, rfl, _⟩ := r; rfl
  | ctp _ => obtain ⟨_, _, rfl, _⟩ := r; rfl
  | lst _ => obtain ⟨_, _, _, rfl, _⟩ := r; rfl
  | dK _ _ => obtain ⟨_, _, _, rfl, _⟩ := r; rfl
  | dT _ _ => obtain ⟨_, _, _, rfl, _⟩ := r; rfl
theorem Rep.of_non {K : PySem.W.Frag} {H : Hp} {d : D} {v : V} {F : List Addr} (r : Rep K H d v F) (h : isNon d = true) : v = .non := by
  have e := r.non_iff
  rw [h] at e
  exact of_decide_eq_true e
theorem d_isN {K : PySem.W.Frag} : OpD K (fun x y H Q => y = .non ∧ Q (.bl (decide (x = .non))) H) oIsN := fun H d1 d2 v1 v2 F1 F2 d Q r1 r2 e k => by
  unfold oIsN at e
  split at e
  · rename_i h
    cases e
    exact ⟨r2.of_non h, k _ H [] (Same.refl H) ⟨by rw [r1.non_iff], rfl⟩ New.nil⟩
  · cases e
theorem d_notN {K : PySem.W.Frag} : OpD K (fun x y H Q => y = .non ∧ Q (.bl (!decide (x = .non))) H) oNotN := fun H d1 d2 v1 v2 F1 F2 d Q r1 r2 e k => by
  unfold oNotN at e
  split at e
  · rename_i h
    cases e
    exact ⟨r2.of_non h, k _ H [] (Same.refl H) ⟨by rw [r1.non_iff], rfl⟩ New.nil⟩
  · cases e
/-! arithmetic -/
def o2 (C : Int → Int → Bool) (f : Int → Int → Int) : D → D → Option D := fun x y => match x, y with
  | .int i, .int j => if C i j = true then some (.int (f i j)) else none
  | _, _ => none
theorem d_2 {K : PySem.W.Frag} {P : Int → Int → Prop} {C : Int → Int → Bool} {f : Int → Int → Int} (hC : ∀ i j, C i j = true → P i j) : OpD K (rI P fun i j => .int (f i j)) (o2 C f) := fun H d1 d2 v1 v2 F1 F2 d Q r1 r2 e k => by
  unfold o2 at e
  split at e
  · split at e
    · rename_i c
      cases e
      exact ⟨_, _, r1.1, r2.1, hC _ _ c, k _ H [] (Same.refl H) ⟨rfl, rfl⟩ New.nil⟩
    · cases e
  · cases e
theorem d_20 {K : PySem.W.Frag} {f : Int → Int → Int} : OpD K (rI0 fun i j => .int (f i j)) (o2 (fun _ _ => true) f) := fun H d1 d2 v1 v2 F1 F2 d Q r1 r2 e k => by
  unfold o2 at e
  split at e
  · cases e
    exact ⟨_, _, r1.1, r2.1, k _ H [] (Same.refl H) ⟨rfl, rfl⟩ New.nil⟩
  · cases e
theorem ip_20 {K : PySem.W.Frag} {f : Int → Int → Int} : IpD K (ipI f) (o2 (fun _ _ => true) f) := fun H d1 d2 v1 v2 F1 F2 d Q r1 r2 e k => by
  unfold o2 at e
  split at e
  · cases e
    exact ⟨_, _, r1.1, r2.1, k _ H [] (Same.refl H) ⟨rfl, rfl⟩ New.nil⟩
  · cases e
def smallI (i : Int) : Bool := decide (i.natAbs < 2 ^ 64)
theorem smallI_iff {i : Int} (h : smallI i = true) : -(2 ^ 64) < i ∧ i < 2 ^ 64 := by
  unfold smallI at h
  rw [decide_eq_true_eq] at h
  omega
def oSub : D → D → Option D := o2 (fun _ _ => true) fun i j => i - j
def oMul : D → D → Option D := o2 (fun i j => smallI i || smallI j) fun i j => i * j
def oFdiv : D → D → Option D := o2 (fun _ j => decide (j ≠ 0) && decide (j.natAbs < 1073741824)) fun i j => i.fdiv j
def oMod : D → D → Option D := o2 (fun _ j => decide (j ≠ 0)) fun i j => i.fmod j
def oPow : D → D → Option D := o2 (fun i j => decide (0 ≤ j) && decide (j ≤ 1000000) && decide (i.natAbs < 2 ^ 64)) fun i j => i ^ j.toNat
theorem d_sub {K : PySem.W.Frag} : OpD K (rI0 fun i j => .int (i - j)) oSub := d_20
theorem d_mul {K : PySem.W.Frag} : OpD K (rI CMul fun i j => .int (i * j)) oMul := d_2 fun i j h => by
  rw [Bool.or_eq_true] at h
  exact h.imp smallI_iff smallI_iff
theorem d_fdiv {K : PySem.W.Frag} : OpD K (rI CDivN fun i j => .int (i.fdiv j)) oFdiv := d_2 fun i j h => by
  rw [Bool.and_eq_true, decide_eq_true_eq, decide_eq_true_eq] at h
  exact h
theorem d_mod {K : PySem.W.Frag} : OpD K (rI (fun _ j => j ≠ 0) fun i j => .int (i.fmod j)) oMod := d_2 fun i j h => by
  rw [decide_eq_true_eq] at h
  exact h
theorem d_pow {K : PySem.W.Frag} : OpD K (rI CPow fun i j => .int (i ^ j.toNat)) oPow := d_2 fun i j h => by
  simp only [Bool.and_eq_true, decide_eq_true_eq] at h
  exact ⟨h.1.1, h.1.2, h.2⟩
/-- + of numbers, of texts, of tuples, of lists -/
def oAdd : D → D → Option D := fun x y => match x, y with
  | .int i, .int j => some (.int (i + j))
  | .str a, .str b => if a.length + b.length ≤ sizeLine then some (.str (a ++ b)) else none
  | .tup xs, .tup ys => if xs.length + ys.length ≤ sizeLine then (if pures xs = true then if pures ys = true then some (.tup (xs ++ ys)) else none else none) else none
  | .lst xs, .lst ys => if xs.length + ys.length ≤ sizeLine then (if pures xs = true then if pures ys = true then some (.lst (xs ++ ys)) else none else none) else none
  | _, _ => none
/-- two lists that may be locked -/
def rAddS : R2 := fun x y H Q => ∃ i j, x = .str i ∧ y = .str j ∧ i.length + j.length ≤ sizeLine ∧ Q (.str (i ++ j)) H
def rAddI : R2 := rI0 fun i j => .int (i + j)
def rAddL : R2 := fun x y H Q => ∃ l b xs zs, x = .ref l ∧ y = .ref b ∧ Rd H l (.lst xs) ∧ Rd H b (.lst zs) ∧ xs.length + zs.length ≤ sizeLine ∧ ∀ p, H p = none → Q (.ref p) (upd H p (.lst (xs ++ zs)))
def rAdd (K : PySem.W.Frag) : R2 := fun x y H Q => rAddI x y H Q ∨ rAddS x y H Q ∨ rCatA K x y H Q ∨ rAddL x y H Q
section
variable {X : Cx} {k : Nat}
theorem op_catL : OpR X (binaryOp .Add) rAddL := by
  intro pins s σ H x y v u Q I rx ry h
  obtain ⟨l, b, xs, zs, rfl, rfl, hH, hB, hz, q⟩ := h
  cases rx
  cases ry
  obtain ⟨z, its, n, r, e⟩ := hH.ok I.hok
  obtain ⟨z2, its2, n2, r2, e2⟩ := hB.ok I.hok
  have hl := r.length
  have hl2 := r2.length
  refine PySem.P.add_list e e2 ?_ (by rw [List.size_toArray, List.size_toArray]; omega)
  have ea : its.toArray ++ its2.toArray = (its ++ its2).toArray := by simp
  rw [ea]
  exact ⟨.ref _, _, I.lnew (t' := s.toks) (r.append r2) (by rw [List.length_append]; omega), rfl, q _ I.fresh⟩
theorem r_add : OpR X (binaryOp .Add) (rAdd X.K) := op_add.or (op_add_str.or (op_catA.or op_catL))
end
theorem reps_pures {K : PySem.W.Frag} {H : Hp} {xs ys : List D} {vs ws : List V} {F G : List Addr} (r : Reps K H xs vs F) (r' : Reps K H ys ws G) (p : pures xs = true) (q : pures ys = true) : Reps K H (xs ++ ys) (vs ++ ws) [] := by
  have z := r.append r'
  rw [r.nil p, r'.nil q] at z
  exact z
theorem d_add {K : PySem.W.Frag} : OpD K (rAdd K) oAdd := fun H d1 d2 v1 v2 F1 F2 d Q r1 r2 e k => by
  unfold oAdd at e
  split at e
  · cases e
    exact .inl ⟨_, _, r1.1, r2.1, k _ H [] (Same.refl H) ⟨rfl, rfl⟩ New.nil⟩
  · split at e
    · rename_i h
      cases e
      exact .inr (.inl ⟨_, _, r1.1, r2.1, h, k _ H [] (Same.refl H) ⟨rfl, rfl⟩ New.nil⟩)
    · cases e
  · rename_i xs ys
    split at e
    · rename_i h
      split at e
      · rename_i p1
        split at e
        · rename_i p2
          cases e
          obtain ⟨a, vs, rfl, q1, t1⟩ := r1
          obtain ⟨b, ws, rfl, q2, t2⟩ := r2
          have z := reps_pures t1 t2 p1 p2
          refine .inr (.inr (.inl ⟨a, b, vs, ws, rfl, rfl, .of q1, .of q2, by rw [t1.length, t2.length]; exact h, fun e1 => ?_, fun e1 e2 => ?_, fun e1 e2 p hp => ?_⟩))
          · subst e1
            exact k _ H [] (Same.refl H) ⟨b, ws, rfl, q2, z⟩ New.nil
          · subst e2
            rw [List.append_nil] at z
            exact k _ H [] (Same.refl H) ⟨a, vs, rfl, q1, z⟩ New.nil
          · have sp : Same H (upd H p (.tup (vs ++ ws))) := same_upd hp
            exact k _ _ [] sp ⟨p, vs ++ ws, rfl, upd_same, z.same sp⟩ New.nil
        · cases e
      · cases e
    · cases e
  · rename_i xs ys
    split at e
    · rename_i h
      split at e
      · rename_i p1
        split at e
        · rename_i p2
          cases e
          obtain ⟨a, vs, G, rfl, q1, rfl, t1⟩ := r1
          obtain ⟨b, ws, G', rfl, q2, rfl, t2⟩ := r2
          have z := reps_pures t1 t2 p1 p2
          exact .inr (.inr (.inr ⟨a, b, vs, ws, rfl, rfl, q1, q2, by rw [t1.length, t2.length]; exact h, fun p hp => by
            have sp : Same H (upd H p (.lst (vs ++ ws))) := same_upd hp
            exact k _ _ [p] sp ⟨p, vs ++ ws, [], rfl, .inl upd_same, rfl, z.same sp⟩ ⟨List.nodup_cons.mpr ⟨fun q => (by cases q), List.nodup_nil⟩, fun a ha => (by rw [List.mem_singleton.mp ha]; exact hp), fun a ha => by rw [List.mem_singleton.mp ha, upd_same]; trivial⟩⟩))
        · cases e
      · cases e
    · cases e
  · cases e
end DL
namespace DL
open PySem PySem.Spec PyProof.Rows L2
/-! ### an item -/
def keyD : Key → D
  | .inl i => .int i
  | .inr x => .str x
def toKey : D → Option Key
  | .int i => some (.inl i)
  | .str x => some (.inr x)
  | _ => none
def toKeys : List D → Option (List Key)
  | [] => some []
  | d :: ds => (toKey d).bind fun k => (toKeys ds).bind fun ks => some (k :: ks)
def toKeyT : D → Option (List Key)
  | .tup ds => toKeys ds
  | _ => none
theorem toKey_rep {K : PySem.W.Frag} {H : Hp} {d : D} {v : V} {F : List Addr} {k : Key} (r : Rep K H d v F) (e : toKey d = some k) : v = kV k ∧ d = keyD k := by
  cases d <;> cases e
  · exact ⟨r.1, rfl⟩
  · exact ⟨r.1, rfl⟩
theorem toKeys_rep {K : PySem.W.Frag} {H : Hp} : ∀ {ds : List D} {vs : List V} {F : List Addr} {ks : List Key}, Reps K H ds vs F → toKeys ds = some ks → vs = ks.map kV ∧ ds = ks.map keyD
  | [], vs, F, ks, r, e => by cases e; exact ⟨r.1, rfl⟩
  | d :: ds, vs, F, ks, r, e => by
    obtain ⟨v, vr, F1, F2, rfl, rfl, r1, r2⟩ := r
    obtain ⟨k, e1, e⟩ := Option.bind_eq_some_iff.mp e
    obtain ⟨kr, e2, e⟩ := Option.bind_eq_some_iff.mp e
    cases e
    obtain ⟨h1, h2⟩ := toKey_rep r1 e1
    obtain ⟨h3, h4⟩ := toKeys_rep r2 e2
    rw [h1, h2, h3, h4]
    exact ⟨rfl, rfl⟩
/-- a dict's value at a key -/
def lookD {κ : Type} [DecidableEq κ] : List κ → List D → κ → Option D
  | k :: ks, x :: xs, q => if k = q then some x else lookD ks xs q
  | _, _, _ => none
theorem lookD_rep {K : PySem.W.Frag} {H : Hp} {κ : Type} [DecidableEq κ] {q : κ} : ∀ {ks : List κ} {xs : List D} {vs : List V} {F : List Addr}, Reps K H xs vs F → ks.length = xs.length → match lookD ks xs q with
    | some x => ∃ v G, valV (ks.zip vs) q = some v ∧ Rep K H x v G ∧ ∀ a ∈ G, a ∈ F
    | none => valV (ks.zip vs) q = none
  | [], [], vs, F, r, l => by
    obtain ⟨rfl, rfl⟩ := r
    rfl
  | [], _ :: _, vs, F, r, l => by cases l
  | _ :: _, [], vs, F, r, l => by cases l
  | k :: ks, x :: xs, vs, F, r, l => by
    obtain ⟨v, vr, F1, F2, rfl, rfl, r1, r2⟩ := r
    unfold lookD
    by_cases h : k = q
    · rw [if_pos h]
      exact ⟨v, F1, by unfold valV; simp [h], r1, fun a ha => List.mem_append_left _ ha⟩
    · rw [if_neg h]
      have e : valV ((k :: ks).zip (v :: vr)) q = valV (ks.zip vr) q := by unfold valV; simp [h]
      rw [e]
      have ih := lookD_rep (q := q) r2 (by simpa using l)
      split
      · rename_i y hy
        rw [hy] at ih
        obtain ⟨w, G, h1, h2, h3⟩ := ih
        exact ⟨w, G, h1, h2, fun a ha => List.mem_append_right _ (h3 a ha)⟩
      · rename_i hy
        rw [hy] at ih
        exact ih
/-- what the dict holds there, if it is one -/
def getD : D → D → Option (Option D)
  | .dK ks xs, k => (toKey k).map fun q => lookD ks xs q
  | .dT ks xs, k => (toKeyT k).map fun q => lookD ks xs q
  | _, _ => none
theorem getD_rep {K : PySem.W.Frag} {H : Hp} {d k : D} {x y : V} {F G : List Addr} {o : Option D} (r : Rep K H d x F) (q : Rep K H k y G) (e : getD d k = some o) :
    ∃ a, x = .ref a ∧ (∀ z, o = some z → ∃ v G, DGet H a y (some v) ∧ Rep K H z v G ∧ ∀ a ∈ G, a ∈ F) ∧ (o = none → DGet H a y none) := by
  cases d with
  | dK ks xs =>
    obtain ⟨p, vs, F', rfl, hr, l, rfl, rr⟩ := r
    obtain ⟨kk, e1, rfl⟩ := Option.map_eq_some_iff.mp e
    obtain ⟨hk, _⟩ := toKey_rep q e1
    have z := lookD_rep (q := kk) rr l
    refine ⟨p, rfl, fun w hw => ?_, fun hw => ?_⟩
    · rw [hw] at z
      obtain ⟨v, G, h1, h2, h3⟩ := z
      exact ⟨v, G, .inl ⟨_, kk, hr, hk, h1.symm⟩, h2, fun a ha => List.mem_cons_of_mem _ (h3 a ha)⟩
    · rw [hw] at z
      exact .inl ⟨_, kk, hr, hk, z.symm⟩
  | dT ks xs =>
    obtain ⟨p, vs, F', rfl, hr, l, rfl, rr⟩ := r
    obtain ⟨kk, e1, rfl⟩ := Option.map_eq_some_iff.mp e
    cases k with
    | tup ds =>
      obtain ⟨b, ws, rfl, hb, rb⟩ := q
      obtain ⟨hk, _⟩ := toKeys_rep rb e1
      subst hk
      have z := lookD_rep (q := kk) rr l
      refine ⟨p, rfl, fun w hw => ?_, fun hw => ?_⟩
      · rw [hw] at z
        obtain ⟨v, G, h1, h2, h3⟩ := z
        exact ⟨v, G, .inr ⟨_, kk, b, hr, rfl, hb, h1.symm⟩, h2, fun a ha => List.mem_cons_of_mem _ (h3 a ha)⟩
      · rw [hw] at z
        exact .inr ⟨_, kk, b, hr, rfl, hb, z.symm⟩
    | _ => cases e1
  | _ => cases e
theorem atI_reps {K : PySem.W.Frag} {H : Hp} {xs : List D} {vs : List V} {F : List Addr} {i : Int} {d : D} (r : Reps K H xs vs F) (e : atI xs i = some d) : ∃ v G, atI vs i = some v ∧ Rep K H d v G ∧ ∀ a ∈ G, a ∈ F := by
  unfold atI at e ⊢
  rw [r.length]
  obtain ⟨j, e1, e2⟩ := Option.bind_eq_some_iff.mp e
  obtain ⟨v, G, h1, h2, h3⟩ := r.get e2
  exact ⟨v, G, by rw [e1]; exact h1, h2, h3⟩
def ixD : D → D → Option D := fun x y => match x, y with
  | .tup xs, .int i => atI xs i
  | .ctp xs, .int i => atI xs i
  | .lst xs, .int i => atI xs i
  | .frz xs, .int i => atI xs i
  | .str z, .int i => if z.length ≤ sizeLine then (atI z.cps.toList i).map fun c => .str ⟨#[c]⟩ else none
  | d, k => (getD d k).bind fun o => o
def IxDb (K : PySem.W.Frag) (r : R2) (g : D → D → Option D) : Prop := ∀ H d1 d2 v1 v2 F1 F2 d (Q : VK), Rep K H d1 v1 F1 → Rep K H d2 v2 F2 → g d1 d2 = some d → (∀ v G, Rep K H d v G → Q v H) → r v1 v2 H Q
section
variable {X : Cx} {k : Nat}
def rIxDc : R2 := fun x y H Q => ∃ a v, x = .ref a ∧ DGet H a y (some v) ∧ Q v H
theorem ix_dict (hu : X.A.units + 1 < cLine) : IxR X rIxDc := by
  intro value slice pins s σ H x y v u Q I rx ry h hs
  obtain ⟨a, z, rfl, g, q⟩ := h
  cases rx
  exact tail_any (dict_typeIs I g) PySem.F.slot_dict_getitem.lookup (d_getItem hu I g ry fun w' s' I' r' => ⟨z, H, I', r', q⟩) hs
def rIxA (K : PySem.W.Frag) : R2 := fun x y H Q => rIx K x y H Q ∨ rIxDc x y H Q
theorem r_ix (hr : Room k X.A) : IxR X (rIxA X.K) := ix_seq.or (ix_dict (hu_of hr))
end
theorem d_ix {K : PySem.W.Frag} : IxDb K (rIxA K) ixD := fun H d1 d2 v1 v2 F1 F2 d Q r1 r2 e k => by
  unfold ixD at e
  split at e
  · obtain ⟨a, vs, rfl, q, r⟩ := r1
    obtain ⟨v, G, h1, h2, _⟩ := atI_reps r e
    exact .inl (.inr (.inl ⟨a, vs, _, v, rfl, r2.1, .of q, h1, k v G h2⟩))
  · obtain ⟨a, vs, rfl, q, r⟩ := r1
    obtain ⟨v, G, h1, h2, _⟩ := atI_reps r e
    exact .inl (.inr (.inl ⟨a, vs, _, v, rfl, r2.1, q.sq, h1, k v G h2⟩))
  · obtain ⟨a, vs, _, rfl, q, _, r⟩ := r1
    obtain ⟨v, G, h1, h2, _⟩ := atI_reps r e
    exact .inl (.inl ⟨a, vs, _, v, rfl, r2.1, .inl q, h1, k v G h2⟩)
  · obtain ⟨a, vs, rfl, q, r⟩ := r1
    obtain ⟨v, G, h1, h2, _⟩ := atI_reps r e
    exact .inl (.inl ⟨a, vs, _, v, rfl, r2.1, q.sq, h1, k v G h2⟩)
  · split at e
    · rename_i h
      obtain ⟨c, e1, rfl⟩ := Option.map_eq_some_iff.mp e
      exact .inl (.inr (.inr ⟨_, _, c, r1.1, r2.1, h, e1, k _ [] ⟨rfl, rfl⟩⟩))
    · cases e
  · obtain ⟨o, e1, e2⟩ := Option.bind_eq_some_iff.mp e
    obtain ⟨a, rfl, h1, h2⟩ := getD_rep r1 r2 e1
    obtain ⟨v, G, g1, g2, _⟩ := h1 d e2
    exact .inr ⟨a, v, rfl, g1, k v G g2⟩
section
variable {X : Cx} {a b : Expr} {f g : EX} {pos : Pos} {k : Nat}
theorem b_ix (hr : Room k X.A) (ha : DB X a f) (hb : DB X b g) (hs : PlainIx b) : DB X (.Subscript a b pos) (xOp ixD f g) := (pe_ix (r_ix hr) ha hb hs).imp fun σ H Q ⟨ρ, d, s, e, k⟩ => by
  obtain ⟨x, y, e1, e2, e3⟩ := xOp_some e
  exact ⟨ρ, x, s, e1, fun v H1 F1 s1 r1 _ => ⟨ρ, y, s.same s1, e2, fun w H2 F2 s2 r2 _ => d_ix H2 x y v w F1 F2 d Q (r1.same s2) r2 e3 fun u G r3 => k u H2 G (s1.trans s2) r3 fun z => by cases z⟩⟩
/-! unary minus -/
def oNeg : D → Option D
  | .int i => some (.int (-i))
  | _ => none
theorem p_neg (ha : DB X a f) : DP X (.UnaryOp .USub a pos) (fun ρ => (f ρ).bind oNeg) := (pe_un un_neg ha).imp fun σ H Q ⟨ρ, d, s, e, k⟩ => by
  obtain ⟨x, e1, e⟩ := Option.bind_eq_some_iff.mp e
  refine ⟨ρ, x, s, e1, fun v H1 F1 s1 r1 _ => ?_⟩
  cases x with
  | int i => cases e; exact ⟨i, r1.1, k _ H1 [] s1 ⟨rfl, rfl⟩ fun _ => New.nil⟩
  | _ => cases e
/-- a module's number -/
theorem p_globI {x : Str} {i : Int} {t : Tok} {po : Pos} (hg : Gl X x) (hm : X.mg x = some (.int i t)) (hd : (x == ("__debug__" : Str)) = false := by decide) : DP X (.Name x po) (xC (.int i)) := p_const (pe_glob (v := .int i) hg hm ⟨t, rfl⟩ hd) fun _ => ⟨rfl, rfl⟩
end
/-! ### built-in functions -/
def simD (K : PySem.W.Frag) (r : List V → Hp → VK → Prop) (o : List D → Option D) : Prop := CallD K r o
/-- len -/
def lenD : List D → Option D := fun ds => match ds with
  | [.tup xs] => some (.int xs.length)
  | [.ctp xs] => some (.int xs.length)
  | [.lst xs] => some (.int xs.length)
  | [.frz xs] => some (.int xs.length)
  | [.str z] => if z.length ≤ sizeLine then some (.int z.length) else none
  | _ => none
theorem reps_one {K : PySem.W.Frag} {H : Hp} {d : D} {vs : List V} {F : List Addr} (r : Reps K H [d] vs F) : ∃ v, vs = [v] ∧ Rep K H d v F := by
  obtain ⟨v, vr, F1, F2, rfl, rfl, r1, r2⟩ := r
  obtain ⟨z1, z2⟩ := r2
  subst z1 z2
  exact ⟨v, rfl, by rw [List.append_nil]; exact r1⟩
def rLenA (K : PySem.W.Frag) : List V → Hp → VK → Prop := fun xs H Q => (∃ p ys, xs = [.ref p] ∧ (SqL K H p ys ∨ SqT K H p ys) ∧ Q (.int ys.length) H) ∨ (∃ z, xs = [.str z] ∧ z.length ≤ sizeLine ∧ Q (.int z.length) H)
theorem c_len {X : Cx} : CallR X (.builtin "len") (rLenA X.K) := call_len_seq.or call_len_str
theorem d_len {K : PySem.W.Frag} : CallD K (rLenA K) lenD := fun H ds vs F d Q r e k => by
  unfold lenD at e
  split at e
  · cases e
    obtain ⟨v, rfl, p, ws, rfl, q, r⟩ := reps_one r
    exact .inl ⟨p, ws, rfl, .inr (.of q), by rw [r.length]; exact k _ H [] (Same.refl H) ⟨rfl, rfl⟩ New.nil⟩
  · cases e
    obtain ⟨v, rfl, p, ws, rfl, q, r⟩ := reps_one r
    exact .inl ⟨p, ws, rfl, .inr q.sq, by rw [r.length]; exact k _ H [] (Same.refl H) ⟨rfl, rfl⟩ New.nil⟩
  · cases e
    obtain ⟨v, rfl, p, ws, G, rfl, q, _, r⟩ := reps_one r
    exact .inl ⟨p, ws, rfl, .inl (.inl q), by rw [r.length]; exact k _ H [] (Same.refl H) ⟨rfl, rfl⟩ New.nil⟩
  · cases e
    obtain ⟨v, rfl, p, ws, rfl, q, r⟩ := reps_one r
    exact .inl ⟨p, ws, rfl, .inl q.sq, by rw [r.length]; exact k _ H [] (Same.refl H) ⟨rfl, rfl⟩ New.nil⟩
  · split at e
    · rename_i h
      cases e
      obtain ⟨v, rfl, q⟩ := reps_one r
      exact .inr ⟨_, by rw [q.1], h, k _ H [] (Same.refl H) ⟨rfl, rfl⟩ New.nil⟩
    · cases e
  · cases e
/-- int -/
def intD : List D → Option D := fun ds => match ds with
  | [.int i] => some (.int i)
  | [.bl b] => some (.int (if b then 1 else 0))
  | _ => none
theorem d_int {K : PySem.W.Frag} : CallD K (fun xs H Q => (∃ i, xs = [.int i] ∧ Q (.int i) H) ∨ ∃ k, xs = [.bl k] ∧ Q (.int (if k then 1 else 0)) H) intD := fun H ds vs F d Q r e k => by
  unfold intD at e
  split at e
  · cases e
    obtain ⟨v, rfl, q⟩ := reps_one r
    exact .inl ⟨_, by rw [q.1], k _ H [] (Same.refl H) ⟨rfl, rfl⟩ New.nil⟩
  · cases e
    obtain ⟨v, rfl, q⟩ := reps_one r
    exact .inr ⟨_, by rw [q.1], k _ H [] (Same.refl H) ⟨rfl, rfl⟩ New.nil⟩
  · cases e
/-- abs -/
def absD : List D → Option D := fun ds => match ds with
  | [.int i] => some (.int (if i < 0 then -i else i))
  | _ => none
/-- tuple of a list, a tuple -/
def tupleD : List D → Option D := fun ds => match ds with
  | [.lst xs] => if pures xs = true then some (.tup xs) else none
  | [.frz xs] => if pures xs = true then some (.tup xs) else none
  | [.tup xs] => if pures xs = true then some (.tup xs) else none
  | _ => none
def rTupOf (K : PySem.W.Frag) : List V → Hp → VK → Prop := fun xs H Q => ∃ p ys, xs = [.ref p] ∧ ((SqL K H p ys ∧ ∀ l, H l = none → Q (.ref l) (upd H l (.tup ys))) ∨ (SqT K H p ys ∧ Q (.ref p) H))
theorem d_tuple {K : PySem.W.Frag} : CallD K (rTupOf K) tupleD := fun H ds vs F d Q r e k => by
  unfold tupleD at e
  split at e
  · split at e
    · rename_i h
      cases e
      obtain ⟨v, rfl, p, ws, G, rfl, q, _, r⟩ := reps_one r
      have z := r.nil h
      subst z
      exact ⟨p, ws, rfl, .inl ⟨.inl q, fun l hl => k _ _ [] (same_upd hl) ⟨l, ws, rfl, upd_same, r.same (same_upd hl)⟩ New.nil⟩⟩
    · cases e
  · split at e
    · rename_i h
      cases e
      obtain ⟨v, rfl, p, ws, rfl, q, r⟩ := reps_one r
      have z := r.nil h
      subst z
      exact ⟨p, ws, rfl, .inl ⟨q.sq, fun l hl => k _ _ [] (same_upd hl) ⟨l, ws, rfl, upd_same, r.same (same_upd hl)⟩ New.nil⟩⟩
    · cases e
  · split at e
    · rename_i h
      cases e
      obtain ⟨v, rfl, p, ws, rfl, q, r⟩ := reps_one r
      have z := r.nil h
      subst z
      exact ⟨p, ws, rfl, .inr ⟨.of q, k _ _ [] (Same.refl H) ⟨p, ws, rfl, q, r⟩ New.nil⟩⟩
    · cases e
  · cases e
/-- list of a list, a tuple -/
def listD : List D → Option D := fun ds => match ds with
  | [.lst xs] => if pures xs = true then some (.lst xs) else none
  | [.frz xs] => if pures xs = true then some (.lst xs) else none
  | [.tup xs] => if pures xs = true then some (.lst xs) else none
  | [.ctp xs] => if pures xs = true then some (.lst xs) else none
  | _ => none
def rListOf (K : PySem.W.Frag) : List V → Hp → VK → Prop := fun xs H Q => ∃ p ys, xs = [.ref p] ∧ (SqL K H p ys ∨ SqT K H p ys) ∧ ∀ l, H l = none → Q (.ref l) (upd H l (.lst ys))
theorem new_lst {H : Hp} {p : Addr} {ws : List V} (hp : H p = none) : New H (upd H p (.lst ws)) [p] :=
  ⟨List.nodup_cons.mpr ⟨fun q => (by cases q), List.nodup_nil⟩, fun a ha => (by rw [List.mem_singleton.mp ha]; exact hp), fun a ha => by rw [List.mem_singleton.mp ha, upd_same]; trivial⟩
theorem d_list {K : PySem.W.Frag} : CallD K (rListOf K) listD := fun H ds vs F d Q r e k => by
  have fin : ∀ {p : Addr} {xs : List D} {ws : List V} {G : List Addr}, (SqL K H p ws ∨ SqT K H p ws) → Reps K H xs ws G → pures xs = true → d = .lst xs → rListOf K [.ref p] H Q := fun {p xs ws G} q r h ed => by
    have z := r.nil h
    subst z
    subst ed
    exact ⟨p, ws, rfl, q, fun l hl => k _ _ [l] (same_upd hl) ⟨l, ws, [], rfl, .inl upd_same, rfl, r.same (same_upd hl)⟩ (new_lst hl)⟩
  unfold listD at e
  split at e
  · split at e
    · rename_i h
      cases e
      obtain ⟨v, rfl, p, ws, G, rfl, q, _, r⟩ := reps_one r
      exact fin (.inl (.inl q)) r h rfl
    · cases e
  · split at e
    · rename_i h
      cases e
      obtain ⟨v, rfl, p, ws, rfl, q, r⟩ := reps_one r
      exact fin (.inl q.sq) r h rfl
    · cases e
  · split at e
    · rename_i h
      cases e
      obtain ⟨v, rfl, p, ws, rfl, q, r⟩ := reps_one r
      exact fin (.inr (.of q)) r h rfl
    · cases e
  · split at e
    · rename_i h
      cases e
      obtain ⟨v, rfl, p, ws, rfl, q, r⟩ := reps_one r
      exact fin (.inr q.sq) r h rfl
    · cases e
  · cases e
/-- sum of ints -/
def toInts : List D → Option (List Int)
  | [] => some []
  | .int i :: ds => (toInts ds).map fun ns => i :: ns
  | _ => none
theorem toInts_rep {K : PySem.W.Frag} {H : Hp} : ∀ {ds : List D} {vs : List V} {F : List Addr} {ns : List Int}, Reps K H ds vs F → toInts ds = some ns → vs = ns.map V.int
  | [], vs, F, ns, r, e => by cases e; exact r.1
  | d :: ds, vs, F, ns, r, e => by
    obtain ⟨v, vr, F1, F2, rfl, rfl, r1, r2⟩ := r
    cases d with
    | int i =>
      obtain ⟨ms, e1, rfl⟩ := Option.map_eq_some_iff.mp e
      rw [r1.1, toInts_rep r2 e1]
      rfl
    | _ => cases e
def seqOf : D → Option (List D)
  | .lst xs => some xs
  | .frz xs => some xs
  | _ => none
theorem seqOf_rep {K : PySem.W.Frag} {H : Hp} {d : D} {v : V} {F : List Addr} {xs : List D} (r : Rep K H d v F) (e : seqOf d = some xs) : ∃ p ws G, v = .ref p ∧ SqL K H p ws ∧ Reps K H xs ws G ∧ ∀ a ∈ G, a ∈ F := by
  cases d <;> cases e
  · obtain ⟨p, ws, G, rfl, q, rfl, r⟩ := r
    exact ⟨p, ws, G, rfl, .inl q, r, fun a ha => List.mem_cons_of_mem _ ha⟩
  · obtain ⟨p, ws, rfl, q, r⟩ := r
    exact ⟨p, ws, F, rfl, q.sq, r, fun a ha => ha⟩
def sumD : List D → Option D := fun ds => match ds with
  | [d] => (seqOf d).bind fun xs => (toInts xs).map fun ns => .int ns.sum
  | _ => none
theorem d_sum {K : PySem.W.Frag} : CallD K (rSum K) sumD := fun H ds vs F d Q r e k => by
  unfold sumD at e
  split at e
  · obtain ⟨xs, e1, e⟩ := Option.bind_eq_some_iff.mp e
    obtain ⟨ns, e2, rfl⟩ := Option.map_eq_some_iff.mp e
    obtain ⟨v, rfl, q⟩ := reps_one r
    obtain ⟨p, ws, G, rfl, hq, rr, _⟩ := seqOf_rep q e1
    have z := toInts_rep rr e2
    subst z
    exact ⟨p, ns, rfl, hq, k _ H [] (Same.refl H) ⟨rfl, rfl⟩ New.nil⟩
  · cases e
/-- any, all of truths -/
def toBls : List D → Option (List Bool)
  | [] => some []
  | .bl i :: ds => (toBls ds).map fun ns => i :: ns
  | _ => none
theorem toBls_rep {K : PySem.W.Frag} {H : Hp} : ∀ {ds : List D} {vs : List V} {F : List Addr} {ns : List Bool}, Reps K H ds vs F → toBls ds = some ns → vs = ns.map V.bl
  | [], vs, F, ns, r, e => by cases e; exact r.1
  | d :: ds, vs, F, ns, r, e => by
    obtain ⟨v, vr, F1, F2, rfl, rfl, r1, r2⟩ := r
    cases d with
    | bl i =>
      obtain ⟨ms, e1, rfl⟩ := Option.map_eq_some_iff.mp e
      rw [r1.1, toBls_rep r2 e1]
      rfl
    | _ => cases e
def anyD : List D → Option D := fun ds => match ds with
  | [d] => (seqOf d).bind fun xs => (toBls xs).map fun ns => .bl (ns.any id)
  | _ => none
def allD : List D → Option D := fun ds => match ds with
  | [d] => (seqOf d).bind fun xs => (toBls xs).map fun ns => .bl (ns.all id)
  | _ => none
theorem d_any {K : PySem.W.Frag} : CallD K (rAny K) anyD := fun H ds vs F d Q r e k => by
  unfold anyD at e
  split at e
  · obtain ⟨xs, e1, e⟩ := Option.bind_eq_some_iff.mp e
    obtain ⟨ns, e2, rfl⟩ := Option.map_eq_some_iff.mp e
    obtain ⟨v, rfl, q⟩ := reps_one r
    obtain ⟨p, ws, G, rfl, hq, rr, _⟩ := seqOf_rep q e1
    have z := toBls_rep rr e2
    subst z
    exact ⟨p, ns, rfl, hq, k _ H [] (Same.refl H) ⟨rfl, rfl⟩ New.nil⟩
  · cases e
theorem d_all {K : PySem.W.Frag} : CallD K (rAll K) allD := fun H ds vs F d Q r e k => by
  unfold allD at e
  split at e
  · obtain ⟨xs, e1, e⟩ := Option.bind_eq_some_iff.mp e
    obtain ⟨ns, e2, rfl⟩ := Option.map_eq_some_iff.mp e
    obtain ⟨v, rfl, q⟩ := reps_one r
    obtain ⟨p, ws, G, rfl, hq, rr, _⟩ := seqOf_rep q e1
    have z := toBls_rep rr e2
    subst z
    exact ⟨p, ns, rfl, hq, k _ H [] (Same.refl H) ⟨rfl, rfl⟩ New.nil⟩
  · cases e
/-- max, min of two ints -/
def max2D : List D → Option D := fun ds => match ds with
  | [.int i, .int j] => some (.int (if j > i then j else i))
  | _ => none
def min2D : List D → Option D := fun ds => match ds with
  | [.int i, .int j] => some (.int (if j < i then j else i))
  | _ => none
theorem d_min2 {K : PySem.W.Frag} : CallD K (fun xs H Q => ∃ i j, xs = [.int i, .int j] ∧ Q (.int (if j < i then j else i)) H) min2D := fun H ds vs F d Q r e k => by
  unfold min2D at e
  split at e
  · cases e
    exact ⟨_, _, reps2 r, k _ H [] (Same.refl H) ⟨rfl, rfl⟩ New.nil⟩
  · cases e
/-! isinstance -/
def tyD : D → String
  | .non => "NoneType" | .bl _ => "bool" | .int _ => "int" | .str _ => "str" | .tup _ => "tuple" | .ctp _ => "tuple" | .lst _ => "list" | .frz _ => "list" | .dK _ _ => "dict" | .dT _ _ => "dict"
theorem Rep.ty {K : PySem.W.Frag} {H : Hp} {d : D} {v : V} {F : List Addr} (r : Rep K H d v F) (hd : tyD d ≠ "dict") : TyX K H v (.type (tyD d)) := by
  cases d with
  | non => rw [r.1]; exact .base .non
  | bl b => rw [r.1]; exact .base (.bl b)
  | int b => rw [r.1]; exact .base (.int b)
  | str b => rw [r.1]; exact .base (.str b)
  | tup xs =>
    obtain ⟨a, vs, rfl, q, _⟩ := r
    exact .base (.tup q)
  | ctp xs =>
    obtain ⟨a, vs, rfl, ⟨o, its, n, q, c, _⟩, _⟩ := r
    exact .kTuple q c
  | lst xs =>
    obtain ⟨a, vs, G, rfl, q, _⟩ := r
    rcases q with q | ⟨o, q⟩
    · exact .base (.lst q)
    · exact .base (.frz q)
  | frz xs =>
    obtain ⟨a, vs, rfl, q, _⟩ := r
    rcases q with ⟨o, q⟩ | ⟨o, its, n, q, c, _⟩
    · exact .base (.frz q)
    · exact .kList q c
  | dK _ _ => exact absurd rfl hd
  | dT _ _ => exact absurd rfl hd
def isTy (a b : String) : Bool := a == b || (a == "bool" && b == "int")
def tysB : List String := ["int", "bool", "str", "tuple", "list"]
theorem kitB_ok : ∀ a ∈ ["NoneType", "bool", "int", "str", "tuple", "list"], ∀ b ∈ tysB, kitB a b = some (isTy a b) := by decide +kernel
theorem tyD_mem {d : D} (h : tyD d ≠ "dict") : tyD d ∈ ["NoneType", "bool", "int", "str", "tuple", "list"] := by
  cases d <;> first
    | exact absurd rfl h
    | (simp [tyD])
def isiD (ts : List String) (d : D) : Option D := match d with
  | .dK _ _ => none
  | .dT _ _ => none
  | d => some (.bl (ts.any fun t => isTy (tyD d) t))
theorem isiD_some {ts : List String} {d x : D} (e : isiD ts d = some x) : tyD d ≠ "dict" ∧ x = .bl (ts.any fun t => isTy (tyD d) t) := by
  cases d <;> cases e <;> exact ⟨by simp [tyD], rfl⟩
section
variable {X : Cx} {a : Expr} {f : EX} {pos : Pos}
/-- isinstance(x, T) -/
theorem p_isi {T : Str} {t : String} {p p2 : Pos} (hg : Gl X "isinstance") (hm : X.mg "isinstance" = none) (hgT : Gl X T) (hmT : X.mg T = none) (hvT : bootBuiltins T = some (.type t)) (ht : t ∈ tysB) (ha : DB X a f)
    (hnT : T ≠ "__name__" := by decide) (hdT : (T == ("__debug__" : Str)) = false := by decide) (hv : bootBuiltins "isinstance" = some (.builtin "isinstance") := by decide +kernel)
    (hs : starEach [a, .Name T p2] X.env = (false, eval a X.env) :: starEach [.Name T p2] X.env := by rfl) (hs2 : starEach [.Name T p2] X.env = (false, eval (.Name T p2) X.env) :: starEach [] X.env := by rfl) (hpl : (backTo pos (starEach [.Name T p2] X.env)).any (·.1) = false := by rfl) :
    DP X (.Call (.Name "isinstance" p) [a, .Name T p2] [] pos) (fun ρ => (f ρ).bind (isiD [t])) :=
  (pe_callB call_isi hg hm hv (pa_cons ha (pa_cons (pe_bltn (v := .ty t) hgT hmT hvT rfl hnT hdT) pa_nil hs2) hs) (by decide) (by decide) hs hpl).imp fun σ H Q ⟨ρ, d, s, e, k⟩ => by
    obtain ⟨x, e1, e⟩ := Option.bind_eq_some_iff.mp e
    obtain ⟨hd, rfl⟩ := isiD_some e
    refine ⟨ρ, x, s, e1, fun v H1 F1 s1 r1 _ => ⟨v, .ty t, _, .type t, isTy (tyD x) t, rfl, .ty t, r1.ty hd, kit_ty (kitB_ok _ (tyD_mem hd) _ ht), k _ H1 [] s1 ⟨?_, rfl⟩ fun _ => New.nil⟩⟩
    simp
/-- isinstance(x, (T, U)) -/
theorem p_isi2 {T U : Str} {t u : String} {p p2 p3 pt : Pos} {kt} (hg : Gl X "isinstance") (hm : X.mg "isinstance" = none) (hgT : Gl X T) (hmT : X.mg T = none) (hvT : bootBuiltins T = some (.type t)) (ht : t ∈ tysB) (hgU : Gl X U) (hmU : X.mg U = none) (hvU : bootBuiltins U = some (.type u)) (hu : u ∈ tysB) (ha : DB X a f)
    (hnT : T ≠ "__name__" := by decide) (hdT : (T == ("__debug__" : Str)) = false := by decide) (hnU : U ≠ "__name__" := by decide) (hdU : (U == ("__debug__" : Str)) = false := by decide) (hv : bootBuiltins "isinstance" = some (.builtin "isinstance") := by decide +kernel)
    (hs : starEach [a, .Tuple [.Name T p2, .Name U p3] kt pt] X.env = (false, eval a X.env) :: starEach [.Tuple [.Name T p2, .Name U p3] kt pt] X.env := by rfl) (hs2 : starEach [.Tuple [.Name T p2, .Name U p3] kt pt] X.env = (false, eval (.Tuple [.Name T p2, .Name U p3] kt pt) X.env) :: starEach [] X.env := by rfl)
    (hs3 : starEach [.Name T p2, .Name U p3] X.env = (false, eval (.Name T p2) X.env) :: starEach [.Name U p3] X.env := by rfl) (hs4 : starEach [.Name U p3] X.env = (false, eval (.Name U p3) X.env) :: starEach [] X.env := by rfl)
    (hpl : (backTo pos (starEach [.Tuple [.Name T p2, .Name U p3] kt pt] X.env)).any (·.1) = false := by rfl) :
    DP X (.Call (.Name "isinstance" p) [a, .Tuple [.Name T p2, .Name U p3] kt pt] [] pos) (fun ρ => (f ρ).bind (isiD [t, u])) :=
  (pe_callB call_isiT hg hm hv (pa_cons ha (pa_cons (pe_tup (pa_cons (pe_bltn (v := .ty t) hgT hmT hvT rfl hnT hdT) (pa_cons (pe_bltn (v := .ty u) hgU hmU hvU rfl hnU hdU) pa_nil hs4) hs3)) pa_nil hs2) hs) (by decide) (by decide) hs hpl).imp fun σ H Q ⟨ρ, d, s, e, k⟩ => by
    obtain ⟨x, e1, e⟩ := Option.bind_eq_some_iff.mp e
    obtain ⟨hd, rfl⟩ := isiD_some e
    refine ⟨ρ, x, s, e1, fun v H1 F1 s1 r1 _ => ⟨by show 2 ≤ sizeLine; decide, fun q hq => ?_⟩⟩
    have sq : Same H1 (upd H1 q (.tup [.ty t, .ty u])) := same_upd hq
    have m1 := kit_ty (K := X.K) (kitB_ok _ (tyD_mem hd) _ ht)
    have m2 := kit_ty (K := X.K) (kitB_ok _ (tyD_mem hd) _ hu)
    refine ⟨v, q, [.ty t, .ty u], _, [.type t, .type u], isTy (tyD x) t || isTy (tyD x) u, rfl, upd_same, .cons (.ty t) (.cons (.ty u) .nil), (r1.same sq).ty hd, ?_, k _ _ [] (s1.trans sq) ⟨?_, rfl⟩ fun _ => New.nil⟩
    · refine kitAny_cons m1 (fun z => ?_) (fun z => by rw [z]; rfl)
      rw [z, Bool.false_or]
      refine kitAny_cons m2 (fun z => ?_) fun z => z
      rw [z]
      exact kitAny_nil
    · simp
end
end DL
namespace DL
open PySem PySem.Spec PyProof.Rows L2
/-! ### sorted -/
def rSortD (K : PySem.W.Frag) : List V → Hp → VK → Prop := fun vs H Q => ∃ (p : Addr) (zs : List (V × D)), vs = [.ref p] ∧ SqL K H p (zs.map Prod.fst) ∧ (∀ z ∈ zs, Dp K H z.1 (py z.2)) ∧ PySem.W.AllAlike (zs.map fun z => py z.2) ∧ PySem.W.Sortable (zs.map fun z => py z.2) ∧
  (∀ z ∈ zs, (py z.2).depth ≤ 60) ∧ ∀ l, H l = none → Q (.ref l) (upd H l (.lst ((zs.mergeSort (PySem.W.dataLe false fun z => py z.2)).map Prod.fst)))
theorem each_zip {α : Type} {R : Value → α → Prop} : ∀ {us : List Value} {zs : List (V × α)}, Vals (zs.map Prod.fst) us → (∀ z ∈ zs, ∀ u, RelV z.1 u → R u z.2) → PySem.W.EachIs (fun u (z : V × α) => RelV z.1 u ∧ R u z.2) us zs
  | [], [], _, _ => .nil
  | u :: us, z :: zs, h, k => by
    cases h with
    | cons r t => exact .cons ⟨r, k z (List.mem_cons_self ..) u r⟩ (each_zip t fun y hy => k y (List.mem_cons_of_mem _ hy))
  | [], _ :: _, h, _ => by cases h
  | _ :: _, [], h, _ => by cases h
theorem each_vals {α : Type} : ∀ {us : List Value} {zs : List (V × α)}, PySem.W.EachIs (fun u (z : V × α) => RelV z.1 u) us zs → Vals (zs.map Prod.fst) us
  | _, _, .nil => .nil
  | _, _, .cons r t => .cons r (each_vals t)
section
variable {X : Cx} {k : Nat}
theorem c_sorted (hr : Room k X.A) : CallR X (.builtin "sorted") (rSortD X.K) := by
  intro pins s σ H vs us Q I r h
  obtain ⟨a, zs, rfl, hs, hd, al, so, dp, q⟩ := h
  obtain ⟨its, rv, hl, hz⟩ := I.list hs
  rw [Vals.ref1 r]
  have hlen := rv.length
  have hu := hr.units
  have e0 := each_zip (R := fun u d => ∃ as, Reads s.heap u (py d) as) rv fun z hz u ru => Dp.reads I _ _ _ (hd z hz) ru
  refine PySem.W.sorted_data (enc := fun z : V × D => py z.2) (R := fun u z => RelV z.1 u) hl.isList (e0.mono fun _ _ h => h.1) (e0.mono fun _ _ h => h.2) al so (by rw [List.length_map] at hz; exact hz) (fun b hb => by have := dp b hb; omega) fun out ho he => ?_
  obtain ⟨ep, he'⟩ := PyProof.Rows.sortedAll_at s.heap its out.toArray
  have hv := each_vals he
  exact ⟨.ref _, upd H (s.heap.objs.size + 1) (.lst ((zs.mergeSort (PySem.W.dataLe false fun z => py z.2)).map Prod.fst)), I.laid (t' := s.toks) (fun _ _ => PyProof.Rows.sortedAll_old) (Nat.le_succ _) ⟨by rw [List.length_map, List.length_mergeSort, ← List.length_map (f := Prod.fst)]; exact hz, out, ep, hv, he'⟩, rfl, q _ (I.hok.fresh (Nat.le_succ _))⟩
end
def leD : D → D → Bool := PySem.W.dataLe false py
def sameKind : List PyData → Bool
  | [] => true
  | x :: xs => xs.all fun y => PySem.W.alike x y
/-- every two are alike -/
def alikes (ds : List PyData) : Bool := ds.all fun x => ds.all fun y => PySem.W.alike x y
def tup1 : PyData → Bool
  | .tuple (_ :: _) => true
  | _ => false
def noTup : PyData → Bool
  | .tuple _ => false
  | .none => false
  | _ => true
def sortOk (ds : List D) : Bool := plains ds && alikes (ds.map py) && ((ds.map py).all tup1 || (ds.map py).all noTup) && (ds.map py).all (fun x => decide (x.depth ≤ 60) && x.canLay0)
theorem sortOk_iff {ds : List D} (h : sortOk ds = true) : plains ds = true ∧ PySem.W.AllAlike (ds.map py) ∧ PySem.W.Sortable (ds.map py) ∧ ∀ d ∈ ds, (py d).depth ≤ 60 ∧ (py d).canLay0 = true := by
  unfold sortOk alikes at h
  simp only [Bool.and_eq_true, Bool.or_eq_true, List.all_eq_true, decide_eq_true_eq] at h
  obtain ⟨⟨⟨h1, h2⟩, h3⟩, h4⟩ := h
  refine ⟨h1, fun d hd e he => h2 d hd e he, ?_, fun d hd => h4 _ (List.mem_map.mpr ⟨d, hd, rfl⟩)⟩
  rcases h3 with h3 | h3
  · refine .inl fun d hd => ?_
    have := h3 d hd
    unfold tup1 at this
    split at this
    · exact ⟨_, _, rfl⟩
    · cases this
  · refine .inr fun d hd => ?_
    have := h3 d hd
    unfold noTup at this
    split at this
    · cases this
    · cases this
    · rename_i n1 n2
      exact ⟨n2, n1⟩
theorem reps_zip {K : PySem.W.Frag} {H : Hp} : ∀ {ds : List D} {vs : List V} {F : List Addr}, Reps K H ds vs F → ∃ zs : List (V × D), zs.map Prod.fst = vs ∧ zs.map Prod.snd = ds ∧ ∀ z ∈ zs, ∃ G, Rep K H z.2 z.1 G
  | [], vs, F, r => ⟨[], r.1.symm, rfl, fun z hz => by cases hz⟩
  | d :: ds, vs, F, r => by
    obtain ⟨v, vr, F1, F2, rfl, rfl, r1, r2⟩ := r
    obtain ⟨zs, h1, h2, h3⟩ := reps_zip r2
    refine ⟨(v, d) :: zs, by rw [List.map_cons, h1], by rw [List.map_cons, h2], fun z hz => ?_⟩
    rcases List.mem_cons.mp hz with rfl | hz
    · exact ⟨F1, r1⟩
    · exact h3 z hz
theorem zip_reps {K : PySem.W.Frag} {H : Hp} : ∀ {zs : List (V × D)}, (∀ z ∈ zs, Rep K H z.2 z.1 []) → Reps K H (zs.map Prod.snd) (zs.map Prod.fst) []
  | [], _ => ⟨rfl, rfl⟩
  | z :: zs, h => ⟨z.1, zs.map Prod.fst, [], [], rfl, rfl, h z (List.mem_cons_self ..), zip_reps fun y hy => h y (List.mem_cons_of_mem _ hy)⟩
theorem sort_snd (zs : List (V × D)) : (zs.mergeSort (PySem.W.dataLe false fun z => py z.2)).map Prod.snd = (zs.map Prod.snd).mergeSort leD := PySem.W.sort_maps Prod.snd fun a _ b _ => rfl
def sortD (ds : List D) : List D := ds.mergeSort leD
theorem plains_mem {ds : List D} (h : plains ds = true) {d : D} (hd : d ∈ ds) : plain d = true := by
  rw [plains_all, List.all_eq_true] at h
  exact h d hd
def sortedD : List D → Option D := fun ds => match ds with
  | [d] => (seqOf d).bind fun xs => if sortOk xs = true then some (.lst (sortD xs)) else none
  | _ => none
theorem d_sorted {K : PySem.W.Frag} : CallD K (rSortD K) sortedD := fun H ds vs F d Q r e k => by
  unfold sortedD at e
  split at e
  · obtain ⟨xs, e1, e⟩ := Option.bind_eq_some_iff.mp e
    split at e
    · rename_i so
      cases e
      obtain ⟨v, rfl, q⟩ := reps_one r
      obtain ⟨p, ws, G, rfl, hq, rr, _⟩ := seqOf_rep q e1
      obtain ⟨h1, h2, h3, h4⟩ := sortOk_iff so
      obtain ⟨zs, z1, z2, z3⟩ := reps_zip rr
      have z4 : ∀ z ∈ zs, Rep K H z.2 z.1 [] := fun z hz => by
        obtain ⟨G, g⟩ := z3 z hz
        have hm : z.2 ∈ xs := by rw [← z2]; exact List.mem_map.mpr ⟨z, hz, rfl⟩
        have e := g.nil (pure_of_plain _ (plains_mem h1 hm))
        rw [e] at g
        exact g
      have em : zs.map (fun z => py z.2) = xs.map py := by rw [← z2, List.map_map]; rfl
      have hm : ∀ z ∈ zs, z.2 ∈ xs := fun z hz => by rw [← z2]; exact List.mem_map.mpr ⟨z, hz, rfl⟩
      refine ⟨p, zs, rfl, by rw [z1]; exact hq, fun z hz => (z4 z hz).dp (h4 _ (hm z hz)).2, by rw [em]; exact h2, by rw [em]; exact h3, fun z hz => (h4 _ (hm z hz)).1, fun l hl => ?_⟩
      refine k _ _ [l] (same_upd hl) ⟨l, _, [], rfl, .inl upd_same, rfl, ?_⟩ (new_lst hl)
      have z5 : Reps K H ((zs.mergeSort (PySem.W.dataLe false fun z => py z.2)).map Prod.snd) ((zs.mergeSort (PySem.W.dataLe false fun z => py z.2)).map Prod.fst) [] := zip_reps fun z hz => z4 z (List.mem_mergeSort.mp hz)
      rw [sort_snd, z2] at z5
      exact z5.same (same_upd hl)
    · cases e
  · cases e
/-! ### comprehensions -/
def wipeE (ρ : Env) : List Nat → Env
  | [] => ρ
  | v :: vs => (wipeE ρ vs).set v none
theorem wipeE_len (ρ : Env) : ∀ vs : List Nat, (wipeE ρ vs).length = ρ.length
  | [] => rfl
  | v :: vs => by unfold wipeE; rw [List.length_set, wipeE_len ρ vs]
theorem wipeE_some {ρ : Env} {i : Nat} {x : Fl × D} : ∀ {vs : List Nat}, (wipeE ρ vs)[i]? = some (some x) → ρ[i]? = some (some x) ∧ i ∉ vs
  | [], h => ⟨h, by simp⟩
  | v :: vs, h => by
    unfold wipeE at h
    by_cases hi : v = i
    · subst hi
      rw [List.getElem?_set] at h
      split at h
      · split at h <;> cases h
      · exact absurd rfl (by assumption)
    · rw [List.getElem?_set_ne hi] at h
      obtain ⟨h1, h2⟩ := wipeE_some h
      exact ⟨h1, by simp only [List.mem_cons, not_or]; exact ⟨fun e => hi e.symm, h2⟩⟩
theorem Sees.wipe {K : PySem.W.Frag} {σ : L2.St} {H : Hp} {ρ : Env} (h : Sees K σ H ρ) (vs : List Nat) : Sees K (wipe σ vs) H (wipeE ρ vs) := by
  refine ⟨by rw [wipeE_len, wipe_length]; exact h.1, fun i m d e => ?_⟩
  obtain ⟨e1, e2⟩ := wipeE_some e
  obtain ⟨v, F, h1, h2⟩ := h.2 i m d e1
  exact ⟨v, F, by rw [wipe_out e2]; exact h1, h2⟩
/-- a block's target: only its own slots are stored -/
def tGP (K : PySem.W.Frag) (vs : List Nat) (g : GX) : TG := fun v σ H Q => ∃ ρ d F ρ', Sees K σ H ρ ∧ Rep K H d v F ∧ g d ρ = some ρ' ∧ ∀ σ', Sees K σ' H ρ' → wipe σ' vs = wipe σ vs → Q σ' H
def tGPs (K : PySem.W.Frag) (vs : List Nat) (g : GXs) : TGs := fun us σ H Q => ∃ ρ ds F ρ', Sees K σ H ρ ∧ Reps K H ds us F ∧ g ds ρ = some ρ' ∧ ∀ σ', Sees K σ' H ρ' → wipe σ' vs = wipe σ vs → Q σ' H
def putB (i : Nat) : GX := fun d ρ => if i < ρ.length then some (ρ.set i (some (.bor, d))) else none
theorem wipe_set (σ : L2.St) (x : Option V) : ∀ (vs : List Nat) (i : Nat), i ∈ vs → wipe (σ.set i x) vs = wipe σ vs
  | v :: vs, i, h => by
    unfold wipe
    by_cases hi : i ∈ vs
    · rw [wipe_set σ x vs i hi]
    · have e : i = v := by
        rcases List.mem_cons.mp h with e | e
        · exact e
        · exact absurd e hi
      subst e
      have z : wipe (σ.set i x) vs = (wipe σ vs).set i x := by
        clear h
        induction vs with
        | nil => rfl
        | cons w ws ih =>
          have hw : w ≠ i := fun q => hi (by rw [q]; exact List.mem_cons_self ..)
          unfold wipe
          rw [ih fun q => hi (List.mem_cons_of_mem _ q)]
          exact List.set_comm _ _ (Ne.symm hw)
      rw [z, List.set_set]
theorem wipe_wipe (σ : L2.St) (vs : List Nat) : ∀ us : List Nat, (∀ v ∈ us, v ∈ vs) → wipe (wipe σ us) vs = wipe σ vs
  | [], _ => rfl
  | u :: us, hu => by
    show wipe ((wipe σ us).set u none) vs = _
    rw [wipe_set _ _ vs u (hu u (List.mem_cons_self ..))]
    exact wipe_wipe σ vs us fun v hv => hu v (List.mem_cons_of_mem _ hv)
section
variable {X : Cx} {tg iter a b : Expr} {f : EX} {pos : Pos} {es : List Expr} {vs : List Nat}
theorem gp_name {i : Nat} (h : PG X a (gName i)) (hi : i ∈ vs) : PG X a (tGP X.K vs (putB i)) := h.imp fun v σ H Q ⟨ρ, d, F, ρ', s, r, e, k⟩ => by
  unfold putB at e
  split at e
  · rename_i hl
    cases e
    refine k _ ⟨by rw [List.length_set, List.length_set]; exact s.1, fun j m e q => ?_⟩ (wipe_set σ _ vs i hi)
    by_cases hj : j = i
    · subst hj
      rw [List.getElem?_set_self hl] at q
      cases q
      exact ⟨v, F, List.getElem?_set_self (by rw [← s.1]; exact hl), r⟩
    · rw [List.getElem?_set_ne (Ne.symm hj)] at q
      obtain ⟨w, G, h1, h2⟩ := s.2 j m e q
      exact ⟨w, G, by rw [List.getElem?_set_ne (Ne.symm hj)]; exact h1, h2⟩
  · cases e
theorem gps_nil : PGs X [] (tGPs X.K vs gsNil) := pgs_nil.imp fun v σ H Q ⟨ρ, d, F, ρ', s, r, e, k⟩ => by
  unfold gsNil at e
  split at e
  · cases e
    exact ⟨r.1, k σ s rfl⟩
  · cases e
theorem gps_cons {gs : GXs} {gx : GX} (h1 : PG X a (tGP X.K vs gx)) (h2 : PGs X es (tGPs X.K vs gs)) (hs : (assignEach (a :: es) X.env).map (·.2) = assign a X.env :: (assignEach es X.env).map (·.2) := by rfl) : PGs X (a :: es) (tGPs X.K vs (gsCons gx gs)) :=
  (pgs_cons h1 h2 hs).imp fun v σ H Q ⟨ρ, ds, F, ρ', s, r, e, k⟩ => by
    cases ds with
    | nil => cases e
    | cons d ds =>
      obtain ⟨ρ1, e1, e⟩ := Option.bind_eq_some_iff.mp e
      obtain ⟨w, vr, F1, F2, rfl, rfl, r1, r2⟩ := r
      exact ⟨w, vr, rfl, ρ, d, F1, ρ1, s, r1, e1, fun σ1 s1 w1 => ⟨ρ1, ds, F2, ρ', s1, r2, e, fun σ2 s2 w2 => k σ2 s2 (w2.trans w1)⟩⟩
theorem gp_tup {k n : Nat} {gs : GXs} (hc : X.calm = true) (h : PGs X es (tGPs X.K vs gs)) (hn : (assignEach es X.env).length = n := by rfl) (hst : (assignEach es X.env).findIdx? (·.1) = none := by rfl) : PG X (.Tuple es k pos) (tGP X.K vs (gTupD n gs)) :=
  (pg_tup hc h hn hst).imp fun v σ H Q ⟨ρ, d, F, ρ', s, r, e, k⟩ => by
    unfold gTupD at e
    split at e
    · rename_i ds
      split at e
      · rename_i hl
        obtain ⟨p, us, rfl, q, r⟩ := r
        exact ⟨p, us, rfl, .of q, by rw [r.length]; exact hl, ρ, ds, F, ρ', s, r, e, k⟩
      · cases e
    · rename_i ds
      split at e
      · rename_i hl
        obtain ⟨p, us, rfl, q, r⟩ := r
        exact ⟨p, us, rfl, q.sq, by rw [r.length]; exact hl, ρ, ds, F, ρ', s, r, e, k⟩
      · cases e
    · cases e
def compE (gx : GX) (q : QX) (e : EX) (ρ : Env) : List D → Option (List D)
  | [] => some []
  | d :: ds => (gx d ρ).bind fun ρ1 => (q ρ1).bind fun b => if b = true then (e ρ1).bind fun y => (compE gx q e ρ ds).bind fun ys => some (y :: ys) else compE gx q e ρ ds
def xComp (vs : List Nat) (src : IX) (gx : GX) (q : QX) (e : EX) : EX := fun ρ => (src ρ).bind fun its => (compE gx q e (wipeE ρ vs) its).bind fun ys => if ys.length ≤ sizeLine then some (.lst ys) else none
/-- what the block's frame asks of a new value beside the list so far -/
theorem tLc_of {src : IX} {gx : GX} {q : QX} {e : EX} {own : Bool} (σ : L2.St) (H : Hp) (Q : VK) (h : tP X.K true (xComp vs src gx q e) σ H Q) :
    tLc (tI X.K own src) (tGP X.K vs gx) (tPT X.K q) (tP X.K true e) vs σ H Q := by
  obtain ⟨ρ, d, s, e0, k⟩ := h
  obtain ⟨its, e1, e0⟩ := Option.bind_eq_some_iff.mp e0
  obtain ⟨ys, e2, e0⟩ := Option.bind_eq_some_iff.mp e0
  split at e0
  · rename_i hy
    cases e0
    refine ⟨ρ, its, s, e1, fun J H1 Fs s1 w _ D hD => ?_⟩
    have sD : Same H1 (upd H1 D (.lst [])) := same_upd hD
    have sees1 := (s.same s1).wipe vs
    -- what holds between two turns
    refine ⟨fun i m Hi => i + m = its.length ∧ ∃ acc av F rest, Same H1 Hi ∧ Hi D = some (.lst av) ∧ Reps X.K Hi acc av F ∧ New H1 Hi F ∧ D ∉ F ∧ compE gx q e (wipeE ρ vs) (its.drop i) = some rest ∧ acc ++ rest = ys,
      ⟨its.length, by simp, [], [], [], ys, sD, upd_same, ⟨rfl, rfl⟩, New.nil, (fun z => by cases z), by simpa using e2, rfl⟩, ?_⟩
    rintro i m Hi ⟨hm, acc, av, F, rest, si, hDi, rep, new, nin, ei, ey⟩
    have kp : Kp H1 Fs Hi := ⟨No, .of_same si, fun _ _ z => z⟩
    by_cases hl : i < its.length
    · have hd : its.drop i = its[i] :: its.drop (i + 1) := List.drop_eq_getElem_cons hl
      rw [hd] at ei
      unfold compE at ei
      obtain ⟨ρa, ea, ei⟩ := Option.bind_eq_some_iff.mp ei
      obtain ⟨b, eb, ei⟩ := Option.bind_eq_some_iff.mp ei
      refine .inr ⟨w.go i Hi hl kp, fun H' => i + 1 + (m - 1) = its.length ∧ ∃ acc av F rest, Same H1 H' ∧ H' D = some (.lst av) ∧ Reps X.K H' acc av F ∧ New H1 H' F ∧ D ∉ F ∧ compE gx q e (wipeE ρ vs) (its.drop (i + 1)) = some rest ∧ acc ++ rest = ys, fun H' q => ⟨m - 1, by omega, q⟩, fun x H' y => ?_⟩
      obtain ⟨sy, G, rg, _⟩ := w.yld i Hi x H' its[i] (List.getElem?_eq_getElem hl) kp y
      refine ⟨_, its[i], G, ρa, (sees1.same si).same sy, rg, ea, fun σ2 s2 w2 => ⟨w2.trans ?_, ρa, b, s2, eb, fun H3 s3 => ?_⟩⟩
      · exact wipe_wipe σ vs vs fun v hv => hv
      · have s13 : Same Hi H3 := sy.trans s3
        cases b with
        | true =>
          obtain ⟨y1, ey1, ei⟩ := Option.bind_eq_some_iff.mp ei
          obtain ⟨r1, er1, ei⟩ := Option.bind_eq_some_iff.mp ei
          cases ei
          refine iteT ⟨ρa, y1, s2.same s3, ey1, fun v4 H4 F4 s4 rep4 new4 => ?_⟩
          have n4 := new4 rfl
          have s14 : Same Hi H4 := s13.trans s4
          have hD4 : H4 D = some (.lst av) := s14 _ _ hDi
          have rep' := rep.same s14
          have nD4 : D ∉ F4 := fun z => by
            have := n4.new D z
            rw [s13 _ _ hDi] at this
            cases this
          have hlen : av.length < sizeLine := by
            rw [rep.length]
            have : (acc ++ y1 :: r1).length ≤ sizeLine := by rw [ey]; exact hy
            rw [List.length_append, List.length_cons] at this
            omega
          have fr : Frm H4 (fun a => a = D) (upd H4 D (.lst (av ++ [v4]))) := ⟨fun a z => by subst z; rw [hD4]; trivial, fun a o z n => by rw [upd_ne n]; exact z⟩
          have nF : ∀ a ∈ F, ¬ a = D := fun a ha z => nin (z ▸ ha)
          have nF4 : ∀ a ∈ F4, ¬ a = D := fun a ha z => nD4 (z ▸ ha)
          have muK : ∀ a, ¬ a = D → Mut (H4 a) → Mut (upd H4 D (.lst (av ++ [v4])) a) := fun a n mu => by rw [upd_ne n]; exact mu
          refine ⟨av, hD4, hlen, by omega, acc ++ [y1], av ++ [v4], F ++ F4, r1, fun a o z => ?_, upd_same, (rep'.frm fr nF).append (Reps.one (rep4.frm fr nF4)), ⟨?_, fun a ha => ?_, fun a ha => ?_⟩, fun z => ?_, er1, by rw [List.append_assoc]; exact ey⟩
          · rw [upd_ne (ne_of_none z hD)]
            exact s14 _ _ (si _ _ z)
          · exact List.nodup_append.mpr ⟨new.nd, n4.nd, fun a ha c hc z => rep.there a ha (by
              have := s13.free (n4.new c hc)
              rw [z]; exact this)⟩
          · rcases List.mem_append.mp ha with ha | ha
            · exact new.new a ha
            · exact (si.trans s13).free (n4.new a ha)
          · rcases List.mem_append.mp ha with ha | ha
            · exact muK a (nF a ha) (Mut.keep (new.mu a ha) s14)
            · exact muK a (nF4 a ha) (n4.mu a ha)
          · rcases List.mem_append.mp z with z | z
            · exact nin z
            · exact nD4 z
        | false =>
          refine iteF ⟨by omega, acc, av, F, rest, si.trans s13, s13 _ _ hDi, rep.same s13, new.to s13, nin, ei, ey⟩
    · have hd : its.drop i = [] := List.drop_of_length_le (by omega)
      have hie : i = its.length := by omega
      rw [hd] at ei
      cases ei
      rw [List.append_nil] at ey
      subst ey
      refine .inl ⟨by rw [hie]; exact w.stop Hi kp, ?_⟩
      refine k _ Hi (D :: F) (s1.trans si) ⟨D, av, F, rfl, .inl hDi, rfl, rep⟩ fun _ => ⟨List.nodup_cons.mpr ⟨nin, new.nd⟩, fun a ha => ?_, fun a ha => ?_⟩
      · rcases List.mem_cons.mp ha with rfl | ha
        · exact s1.free hD
        · exact s1.free (new.new a ha)
      · rcases List.mem_cons.mp ha with rfl | ha
        · rw [hDi]; trivial
        · exact new.mu a ha
  · cases e0
def PTs' (X : Cx) (ifs : List Expr) (q : QX) : Prop := PTs X ifs (tPT X.K q)
def yYes : QX := fun _ => some true
theorem qs_nil : PTs X [] (tPT X.K yYes) := ⟨fun pins s σ H Q I ⟨ρ, b, _, e, k⟩ => by
  cases e
  exact pts_nil.run pins s σ H Q I (k H (Same.refl H))⟩
theorem qs_one {c : Expr} {q : QX} (h : DPT X c q) : PTs X [c] (tPT X.K q) := pts_one h
theorem p_lc {elt : Expr} {ifs : List Expr} {scope : Scope} {own : List (Str × Nat)} {src : IX} {gx : GX} {q : QX} {e : EX} {ow : Bool} (hc : X.calm = true) (hN : X.N.Nodup) (hi : PI X tg iter (tI X.K ow src)) (ok : BlkOk X.N X.env.scope scope own)
    (hg : ∀ (s : Shared) (H : Hp) (C : Addr) (cl : List (Str × Addr)) (fp : List Addr), PG (X.blk s H scope (compEnvC scope cl C X.env) fp) tg (tGP X.K (own.map (·.2)) gx)) (ht : ∀ (s : Shared) (H : Hp) (C : Addr) (cl : List (Str × Addr)) (fp : List Addr), PTs (X.blk s H scope (compEnvC scope cl C X.env) fp) ifs (tPT X.K q))
    (he : ∀ (s : Shared) (H : Hp) (C : Addr) (cl : List (Str × Addr)) (fp : List Addr), PE (X.blk s H scope (compEnvC scope cl C X.env) fp) elt (tP X.K true e)) (hs : ∀ x, foldedSetIterable iter X.env x = Pure.pure x := by intro _; rfl) :
    DP X (.ListComp elt [⟨tg, iter, ifs, 0⟩] scope pos) (xComp (own.map (·.2)) src gx q e) := (pe_lc hc hN hi ok hg ht he hs).imp (tLc_of)
theorem s_setLc {i : Nat} {y : Str} {py : Pos} {elt : Expr} {ifs : List Expr} {scope : Scope} {own : List (Str × Nat)} {spos : Pos} {src : IX} {gx : GX} {q : QX} {e : EX} {ow : Bool} (hc : X.calm = true) (hN : X.N.Nodup) (hy : X.N[i]? = some y) (hyl : X.env.scope.names.lookup y = some .local)
    (hsw : swapsWith (.ListComp elt [⟨tg, iter, ifs, 0⟩] scope pos) (some (.Name y py)) spos.line X.env = Pure.pure true) (hi : PI X tg iter (tI X.K ow src)) (ok : BlkOk X.N X.env.scope scope own)
    (hg : ∀ (s : Shared) (H : Hp) (C : Addr) (cl : List (Str × Addr)) (fp : List Addr), PG (X.blk s H scope (compEnvC scope cl C X.env) fp) tg (tGP X.K (own.map (·.2)) gx)) (ht : ∀ (s : Shared) (H : Hp) (C : Addr) (cl : List (Str × Addr)) (fp : List Addr), PTs (X.blk s H scope (compEnvC scope cl C X.env) fp) ifs (tPT X.K q))
    (he : ∀ (s : Shared) (H : Hp) (C : Addr) (cl : List (Str × Addr)) (fp : List Addr), PE (X.blk s H scope (compEnvC scope cl C X.env) fp) elt (tP X.K true e)) (hs : ∀ x, foldedSetIterable iter X.env x = Pure.pure x := by intro _; rfl) :
    DS X (.Assign [.Name y py] (.ListComp elt [⟨tg, iter, ifs, 0⟩] scope pos) spos) (sAsg (mP (xComp (own.map (·.2)) src gx q e)) (put i)) :=
  (ps_setLc hc hN hy hyl hsw hi ok hg ht he hs).imp fun E σ H ⟨c, ρ, fp, out, h, e0, k⟩ => by
    obtain ⟨⟨x, ρ1⟩, e1, e0⟩ := Option.bind_eq_some_iff.mp e0
    obtain ⟨ρ2, e2, e0⟩ := Option.bind_eq_some_iff.mp e0
    cases e0
    obtain ⟨x', e3, e1⟩ := Option.bind_eq_some_iff.mp e1
    cases e1
    obtain ⟨hi', rfl⟩ := put_some e2
    exact tLc_of σ H _ ⟨_, _, h.sees, e3, fun v H' F s r n => k _ _ _ ((h.same s).put (h.val r (n rfl)).drop hi')⟩
end
end DL
namespace DL
open PySem PySem.Spec PyProof.Rows L2
/-! ### enumerate of a tuple -/
theorem meets_enumB {v : Value} {o : Obj} {H : Heap → Prop} (B : Begins v o H) :
    Meets (Builtin.«enumerate.__new__» ⟨[.type "enumerate", v], []⟩) (fun _ R s => H s.heap ∧ R (.ok (.ret (.ref (s.heap.push o).objs.size)))
      { s with heap := (s.heap.push o).push { cls := .type "enumerate", data := .fields #[.none, .bool false, .ref s.heap.objs.size, rawInt 0, .none, .none] } }) :=
  .of_wp fun prog w A R s hh => by
    obtain ⟨hp, g, d, tk, os⟩ := s
    obtain ⟨h1, hR⟩ := hh
    have hsub := sub_enumerate
    have q1 : ∀ {A' : Around} {E : Value → Shared → Prop} {Q : Value → Shared → Prop}, Q (.ref hp.objs.size) ⟨hp.push o, g, d, tk, os⟩ → wpAny (model prog w) A' (pyIter v) Q E ⟨hp, g, d, tk, os⟩ := fun q => B.iter prog w _ _ _ _ h1 q
    wp_walk using q1
    refine wpAny_stack_any fun st => wpAny_pure ?_
    split
    · rename_i c _ _ _ _ _
      cases (c == Value.type "enumerate") <;> (wp_walk using q1; exact ⟨_, rfl, hR⟩)
    · wp_walk using q1; exact ⟨_, rfl, hR⟩
theorem call_enumB {prog : Program} {w : World} {A : Around} {E : Value → Shared → Prop} {s : Shared} {v : Value} {o : Obj} {H : Heap → Prop} {Q : Value → Shared → Prop} (B : Begins v o H) (h1 : H s.heap)
    (k : ∀ h', IsEnum h' (s.heap.objs.size + 1) s.heap.objs.size 0 .none → h'.get? s.heap.objs.size = some o → (∀ b o, s.heap.get? b = some o → h'.get? b = some o) → Q (.ref (s.heap.objs.size + 1)) { s with heap := h' }) :
    wpAny (model prog w) A (call (.type "enumerate") [v]) Q E s := by
  have hz : (s.heap.push o).objs.size = s.heap.objs.size + 1 := Heap.size_push ..
  have he := Heap.get?_push_size (s.heap.push o) (o := { cls := .type "enumerate", data := .fields #[.none, .bool false, .ref s.heap.objs.size, rawInt 0, .none, .none] }) rfl
  rw [hz] at he
  refine callType_new PySem.F.called_enumerate (by decide) (PySem.F.typeCall_enumerate_1 _) (PySem.F.newCall_enumerate_1 _) (fun obj => PySem.F.args_object_init_2 obj _) PySem.F.entry_enumerate_new (meets_enumB B) ⟨h1, ?_⟩
  show _ ∧ _
  rw [hz]
  exact ⟨⟨_, he, rfl⟩, k _ he (Heap.get?_push_of_some _ (Heap.get?_push_size _ B.free)) fun b o x => Heap.get?_push_of_some _ (Heap.get?_push_of_some _ x)⟩
/-- the tuple at a, each item in a new pair with its number -/
def IteT (K : PySem.W.Frag) (a : Addr) : It :=
  ⟨fun i H => ∃ (xs : List V) (x : V), SqT K H a xs ∧ xs[i]? = some x, fun i H v H' => ∃ T x, v = .ref T ∧ H T = none ∧ H' = upd H T (.tup [.int (i : Nat), x]) ∧ ∀ xs, SqT K H a xs → xs[i]? = some x, fun i H => ∃ xs : List V, SqT K H a xs ∧ xs.length = i⟩
theorem turn_enumT {P : Program} {w : World} {K : PySem.W.Frag} {elts : List Expr} {kk : Nat} {tpos : Pos} (a e it : Addr) (hai : a ≠ it) :
    Turn P w K (.Tuple elts kk tpos) (IteT K a) [e, it] e (fun i h => (∃ old, IsEnum h e it ((i : Nat) : Int) old) ∧ h.IsTupleIter it a i ∧ e ≠ it ∧ a ≠ e) where
  mem := List.mem_cons_self ..
  obj := fun i h st b hb => by
    obtain ⟨⟨old, he⟩, ⟨o, ho, hc, hd⟩, _⟩ := st
    rcases (show b = e ∨ b = it by simpa using hb) with z | z
    · exact ⟨_, by rw [z]; exact he, fun v q => (by cases q)⟩
    · exact ⟨o, by rw [z]; exact ho, fun v q => (by rw [hd] at q; cases q)⟩
  keep := fun i h h' st k => let ⟨⟨old, he⟩, hi, hne, hae⟩ := st; ⟨⟨old, k e (by simp) _ he⟩, hi.at fun o q => k it (by simp) o q, hne, hae⟩
  item := by
    intro X hP hw hK hc i pins s σ H E I hf st hg
    subst hP hw hK
    obtain ⟨⟨old, he⟩, hit, hne, hae⟩ := st
    obtain ⟨xs, x, hq, hx⟩ := hg
    obtain ⟨its, rv, p, hz⟩ := I.tuple hq
    obtain ⟨u, hu, ru⟩ := rv.get hx
    have hel : e < s.heap.objs.size := Heap.lt_size he
    have hil : it < s.heap.objs.size := by obtain ⟨_, q, _⟩ := hit; exact Heap.lt_size q
    have D := Draws.tuple (prog := X.prog) (w := X.w) (A := X.A.in1) (I.ok.hd hc) it a hai its.toArray
    have hsz' : i < its.toArray.size := by rw [List.size_toArray]; exact (List.getElem?_eq_some_iff.mp hu).1
    refine wpAny_pyNext_enum_itemD D he ⟨hit, show s.heap.IsTuple a its.toArray from p⟩ hsz' hne (fun z => ?_) fun y h' tk hP ho hst hT hsz hk => ?_
    · rcases (show e = it ∨ e = a by simpa using z) with z | z
      · exact hne z
      · exact hae z.symm
    have ey : y = u := by
      have hP' : its.toArray[i]? = some y := hP
      rw [List.getElem?_toArray, hu] at hP'
      exact (Option.some.inj hP').symm
    subst ey
    refine ⟨_, rfl, wpAny_letOwnedTupleGo_enum (s := { s with heap := h', toks := tk + 1 }) ho fun h'' he' sb => ?_⟩
    have hT2 : h''.get? s.heap.objs.size = some { cls := .type "tuple", data := .seq #[.int i tk, y] } := (sb.2 _ (Nat.ne_of_gt hel)).trans hT
    have new : ObjOk X.prog X.w (upd H s.heap.objs.size (.tup [.int (i : Nat), x])) h'' s.heap.objs.size (.tup [.int (i : Nat), x]) :=
      ⟨by show 2 ≤ sizeLine; decide, [.int i tk, y], .cons ⟨_, rfl⟩ (.cons ru .nil), ⟨_, hT2, rfl, _, rfl⟩⟩
    have I1 : Inv X pins σ (upd H s.heap.objs.size (.tup [.int (i : Nat), x])) { s with heap := h'', toks := tk + 1 } :=
      I.turnedNew (ch := [e, it]) (fun b ob hb q => (sb.2 b fun z => hb (by simp [z])).trans (hk b ob (fun z => hb (by simp [z])) (fun z => hb (by simp [z])) q)) hf (Nat.le_refl _) new
    refine ⟨.ref s.heap.objs.size, _, I1, rfl, ⟨_, x, rfl, I.hok.fresh (Nat.le_refl _), rfl, fun ys hy => by rw [I.tuple_inj hy hq]; exact hx⟩, ⟨⟨y, ?_⟩, hst.1.at fun o q => (sb.2 it (Ne.symm hne)).trans q, hne, hae⟩, fun b hb => ?_⟩
    · have e1 : ((i + 1 : Nat) : Int) = (i : Int) + 1 := by omega
      rw [e1]
      exact he'
    · have hb' : b < s.heap.objs.size := by
        rcases (show b = e ∨ b = it by simpa using hb) with z | z
        · exact z ▸ hel
        · exact z ▸ hil
      rw [upd_ne (Nat.ne_of_lt hb')]
      exact (hf b hb).1
  done := by
    intro X hP hw hK hc i pins s σ H E I hf st hg
    subst hP hw hK
    obtain ⟨⟨old, he⟩, hit, hne, hae⟩ := st
    obtain ⟨xs, hq, hx⟩ := hg
    obtain ⟨its, rv, p, hz⟩ := I.tuple hq
    obtain ⟨f0, f1, f2, f3, f4, f5⟩ := hf it (by simp)
    have hl := rv.length
    have D := Draws.tuple (prog := X.prog) (w := X.w) (A := X.A.in1) (I.ok.hd hc) it a hai its.toArray
    have hi : i = its.toArray.size := by rw [List.size_toArray, ← hl]; exact hx.symm
    subst hi
    exact wpAny_pyNext_enum_endD D he ⟨hit, show s.heap.IsTuple a its.toArray from p⟩ fun h' eb => ⟨rfl, I.turned (t' := s.toks) (fun b o hb q => eb b o hb q) f0 f1 f3 f4 f5⟩
  self := fun A i s Q E st h => let ⟨⟨_, he⟩, _⟩ := st; wpAny_pyIter_enum he h
/-! ### enumerate -/
def iEnumT (K : PySem.W.Frag) (ta : TA) : TI := fun σ H R => ta σ H fun vs H1 => ∃ a xs, vs = [.ref a] ∧ SqT K H1 a xs ∧ R (IteT K a) H1
section
variable {X : Cx} {e : Expr} {p pos tpos : Pos} {elts : List Expr} {kk : Nat} {f : EX}
def enumF : Nat → List D → List D
  | _, [] => []
  | i, d :: ds => .tup [.int (i : Nat), d] :: enumF (i + 1) ds
theorem enumF_get : ∀ (ds : List D) (k i : Nat) (d : D), (enumF k ds)[i]? = some d → ∃ x, ds[i]? = some x ∧ d = .tup [.int ((k + i : Nat) : Int), x]
  | [], _, _, _, h => by simp [enumF] at h
  | x :: ds, k, 0, d, h => by
    have h' : some (D.tup [.int (k : Nat), x]) = some d := h
    cases h'
    exact ⟨x, rfl, rfl⟩
  | x :: ds, k, i + 1, d, h => by
    obtain ⟨y, h1, h2⟩ := enumF_get ds (k + 1) i d h
    refine ⟨y, h1, ?_⟩
    rw [h2, show k + 1 + i = k + (i + 1) by omega]
theorem enumF_len : ∀ (ds : List D) (k : Nat), (enumF k ds).length = ds.length
  | [], _ => rfl
  | _ :: ds, k => by rw [enumF, List.length_cons, List.length_cons, enumF_len ds]
theorem rep_pair {K : PySem.W.Frag} {H : Hp} {T : Addr} {i : Int} {x : D} {v : V} {G : List Addr} (n : H T = none) (r : Rep K H x v G) : Rep K (upd H T (.tup [.int i, v])) (.tup [.int i, x]) (.ref T) G :=
  ⟨T, _, rfl, upd_same, .int i, [v], [], G, rfl, rfl, ⟨rfl, rfl⟩, Reps.one (r.same (same_upd n))⟩
theorem wk_enumL {K : PySem.W.Frag} {H1 : Hp} {p : Addr} {vs : List V} {its : List D} {Fs : List Addr} (q : ∀ H, Kp H1 Fs H → SqL K H p vs) {Gs : List Addr} (r : Reps K H1 its vs Gs) (sb : ∀ a ∈ Gs, a ∈ Fs) : Wk (Ite K p) K (enumF 0 its) H1 Fs where
  go := fun i H hi k => by
    rw [enumF_len] at hi
    have hl : i < vs.length := by rw [r.length]; exact hi
    exact ⟨vs, vs[i], q H k, List.getElem?_eq_getElem hl⟩
  stop := fun H k => ⟨vs, q H k, by rw [r.length, enumF_len]; exact Nat.le_refl _⟩
  yld := fun i H x H' d e k y => by
    obtain ⟨z, e1, rfl⟩ := enumF_get its 0 i d e
    obtain ⟨v, G, g1, g2, g3⟩ := r.get e1
    obtain ⟨T, w, rfl, n, rfl, f⟩ := y
    have := f vs (q _ k)
    rw [g1] at this
    cases this
    rw [Nat.zero_add]
    exact ⟨same_upd n, G, rep_pair n (k.rep g2 fun a ha => sb a (g3 a ha)), fun a ha => sb a (g3 a ha)⟩
def xEnT (f : EX) : IX := fun ρ => (xItT f ρ).bind fun xs => some (enumF 0 xs)
def xEnL (f : EX) : IX := fun ρ => (xItL f ρ).bind fun xs => some (enumF 0 xs)
end
end DL
namespace DL
open PySem PySem.Spec PyProof.Rows L2
/-! ### a name's value turned by a method or a store -/
/-- what a turn of x from d to d' asks: F is x's own, G the arguments' -/
def TurnK (K : PySem.W.Frag) (H : Hp) (x : V) (F G : List Addr) (d' res : D) (Q : VK) : Prop := ∀ v H' F1 G1, Frm H (fun a => a ∈ F) H' → Rep K H' d' x F1 → F1.Nodup → Rep K H' res v G1 → G1.Nodup → (∀ a ∈ F1, a ∉ G1) →
  (∀ a, a ∈ F1 ∨ a ∈ G1 → (a ∈ F ∨ a ∈ G ∨ H a = none) ∧ Mut (H' a)) → Q v H'
def MutD (K : PySem.W.Frag) (r : V → List V → Hp → VK → Prop) (o : D → List D → Option (D × D)) : Prop := ∀ H d ds x vs F G res d' Q, Rep K H d x F → F.Nodup → (∀ a ∈ F, Mut (H a)) → Reps K H ds vs G → G.Nodup → (∀ a ∈ G, Mut (H a)) → (∀ a ∈ F, a ∉ G) →
  o d ds = some (res, d') → TurnK K H x F G d' res Q → r x vs H Q
section
variable {K : PySem.W.Frag} {c : Ct} {σ : L2.St} {H H' : Hp} {ρ : Env} {fp : Nat → List Addr}
/-- a name's value turned, with others' parts taken in -/
theorem Ok.turnG {i : Nat} {m : Fl} {d d' res : D} {v w : V} {F1 G G1 : List Addr} {ds : List D} {vs : List V} (h : Ok K c σ H ρ fp) (q : ρ[i]? = some (some (m, d))) (hm : m ≠ Fl.bor) (hv : σ[i]? = some (some v)) (x : Vals' K c H ρ fp ds vs G)
    (fr : Frm H (fun a => a ∈ fp i) H') (r : Rep K H' d' v F1) (nd : F1.Nodup) (r2 : Rep K H' res w G1) (nd2 : G1.Nodup) (ap : ∀ a ∈ F1, a ∉ G1) (ow : ∀ a, a ∈ F1 ∨ a ∈ G1 → (a ∈ fp i ∨ a ∈ G ∨ H a = none) ∧ Mut (H' a)) :
    Ok K c σ H' (ρ.set i (some (m, d'))) (fun j => if j = i then F1 else fp j) ∧ Val K c H' (ρ.set i (some (m, d'))) (fun j => if j = i then F1 else fp j) res w G1 := by
  have hi : i < ρ.length := (List.getElem?_eq_some_iff.mp q).1
  have low : ∀ j n e, j ≠ i → (ρ.set i (some (m, d')))[j]? = some (some (n, e)) → ρ[j]? = some (some (n, e)) := fun j n e ne z => by
    rw [List.getElem?_set_ne (Ne.symm ne)] at z; exact z
  have at' : ∀ n e, (ρ.set i (some (m, d')))[i]? = some (some (n, e)) → n = m ∧ e = d' := fun n e z => by
    rw [List.getElem?_set_self hi] at z; cases z; exact ⟨rfl, rfl⟩
  have nin : ∀ j n e, j ≠ i → ρ[j]? = some (some (n, e)) → ∀ a ∈ fp j, a ∉ fp i := fun j n e ne z a ha hb => by
    by_cases hn : n = Fl.bor
    · subst hn
      exact ((h.nd i m d q hm).2 a hb).2.2 (h.bo j e z a ha)
    · exact h.dj i j m d n e (Ne.symm ne) q hm z hn a hb ha
  have mk : ∀ a, a ∉ fp i → Mut (H a) → Mut (H' a) := fun a n mu => by
    cases z : H a with
    | none => rw [z] at mu; exact mu.elim
    | some o => rw [fr.keep a o z n]; rw [z] at mu; exact mu
  have own1 : ∀ a, a ∈ F1 ∨ a ∈ G1 → (c.O0 a ∨ c.H0 a = none) ∧ Mut (H' a) ∧ ¬ c.B a := fun a ha => by
    obtain ⟨z, mu⟩ := ow a ha
    rcases z with z | z | z
    · exact ⟨((h.nd i m d q hm).2 a z).1, mu, ((h.nd i m d q hm).2 a z).2.2⟩
    · exact ⟨(x.ow a z).1, mu, (x.ow a z).2.2⟩
    · exact ⟨sub_ow h (.inr z), mu, fun b => h.there b z⟩
  have cross : ∀ j n e, j ≠ i → ρ[j]? = some (some (n, e)) → n ≠ Fl.bor → ∀ a, a ∈ F1 ∨ a ∈ G1 → a ∉ fp j := fun j n e ne z hn a ha hb => by
    rcases (ow a ha).1 with y | y | y
    · exact nin j n e ne z a hb y
    · exact x.dj j n e z hn a y hb
    · obtain ⟨u, _, h2, _⟩ := h.rep j n e z
      exact h2.there a hb y
  refine ⟨⟨by rw [List.length_set]; exact h.len, fun j n e z => ?_, fun j n e z hn => ?_, fun j e z => ?_, fun j l n e n2 e2 ne z hn z2 hn2 a ha hl => ?_, ⟨h.frm.mu, fun a o e n => ?_⟩, h.bt⟩, r2, nd2, fun a ha => own1 a (.inr ha), fun j n e z hn a ha hl => ?_⟩
  · by_cases hj : j = i
    · subst hj
      obtain ⟨rfl, rfl⟩ := at' n e z
      obtain ⟨u, h1, _, h3⟩ := h.rep j n d q
      rw [hv] at h1
      cases h1
      exact ⟨v, hv, by rw [if_pos rfl]; exact r, h3⟩
    · obtain ⟨u, h1, h2, h3⟩ := h.rep j n e (low j n e hj z)
      exact ⟨u, h1, by rw [if_neg hj]; exact h2.frm fr (nin j n e hj (low j n e hj z)), h3⟩
  · by_cases hj : j = i
    · subst hj
      rw [if_pos rfl]
      exact ⟨nd, fun a ha => own1 a (.inl ha)⟩
    · rw [if_neg hj]
      obtain ⟨n1, n2⟩ := h.nd j n e (low j n e hj z) hn
      exact ⟨n1, fun a ha => ⟨(n2 a ha).1, mk a (nin j n e hj (low j n e hj z) a ha) (n2 a ha).2.1, (n2 a ha).2.2⟩⟩
  · by_cases hj : j = i
    · subst hj
      exact absurd (at' _ e z).1.symm hm
    · rw [if_neg hj]
      exact h.bo j e (low j _ e hj z)
  · by_cases hj : j = i
    · subst hj
      rw [if_pos rfl] at ha
      rw [if_neg (Ne.symm ne)] at hl
      exact cross l n2 e2 (Ne.symm ne) (low l n2 e2 (Ne.symm ne) z2) hn2 a (.inl ha) hl
    · rw [if_neg hj] at ha
      by_cases hl' : l = i
      · subst hl'
        rw [if_pos rfl] at hl
        exact cross j n e hj (low j n e hj z) hn a (.inl hl) ha
      · rw [if_neg hl'] at hl
        exact h.dj j l n e n2 e2 ne (low j n e hj z) hn (low l n2 e2 hl' z2) hn2 a ha hl
  · refine fr.keep a o (h.frm.keep a o e n) fun z => ?_
    rcases ((h.nd i m d q hm).2 a z).1 with y | y
    · exact n y
    · rw [y] at e; cases e
  · by_cases hj : j = i
    · subst hj
      have hl' : a ∈ F1 := by simpa using hl
      exact ap a hl' ha
    · have hl' : a ∈ fp j := by simpa [hj] using hl
      exact cross j n e hj (low j n e hj z) hn a (.inr ha) hl'
end
/-- the own name at i -/
def ownAt (i : Nat) (ρ : Env) : Option (Fl × D) := match ρ[i]? with
  | some (some (m, d)) => if m = Fl.bor then none else some (m, d)
  | _ => none
theorem ownAt_some {i : Nat} {ρ : Env} {m : Fl} {d : D} (e : ownAt i ρ = some (m, d)) : ρ[i]? = some (some (m, d)) ∧ m ≠ Fl.bor := by
  unfold ownAt at e
  split at e
  · split at e
    · cases e
    · cases e
      exact ⟨by assumption, by assumption⟩
  · cases e
def isL : D → Bool
  | .lst _ => true
  | _ => false
def isDc : D → Bool
  | .dK _ _ => true
  | .dT _ _ => true
  | _ => false
def mMut (ty : D → Bool) (o : D → List D → Option (D × D)) (i : Nat) (ms : EMs) : EM := fun ρ => (ownAt i ρ).bind fun z => if ty z.2 = true then (ms ρ).bind fun x => (ownAt i x.2).bind fun y => (o y.2 x.1).bind fun w => some (w.1, x.2.set i (some (y.1, w.2))) else none
section
variable {X : Cx} {e ob : Expr} {es : List Expr} {T id : String} {name : Str} {apos cpos : Pos} {r : V → List V → Hp → VK → Prop} {o : D → List D → Option (D × D)} {ty : D → Bool} {ms : EMs} {i : Nat}
def TyT (K : PySem.W.Frag) (T : String) (ty : D → Bool) : Prop := ∀ H d v F, ty d = true → Rep K H d v F → (∀ a ∈ F, Mut (H a)) → tyV K T v H
theorem ty_list {K : PySem.W.Frag} : TyT K "list" isL := fun H d v F h r _ => by
  cases d with
  | lst xs => obtain ⟨a, vs, G, rfl, q, _⟩ := r; exact .inl ⟨rfl, _, .inl q⟩
  | _ => cases h
theorem mut_rd {H : Hp} {a : Addr} {o : HO} (m : Mut (H a)) (q : Rd H a o) : H a = some o := by
  rcases q with q | ⟨u, q⟩
  · exact q
  · rw [q] at m; exact m.elim
theorem mut_core (ht : TyT X.K T ty) (ho : MutD X.K r o) (σ : L2.St) (H : Hp) (Q : VK) (h : tM X.K (mMut ty o i ms) σ H Q) : ∃ x, σ[i]? = some (some x) ∧ tyV X.K T x H ∧ tMs X.K ms σ H fun xs H2 => r x xs H2 Q := by
  obtain ⟨c, ρ, fp, d, ρ', h, e, k⟩ := h
  obtain ⟨⟨m0, d0⟩, e0, e⟩ := Option.bind_eq_some_iff.mp e
  obtain ⟨q0, hm0⟩ := ownAt_some e0
  simp only at e
  split at e
  · rename_i hty
    obtain ⟨⟨xs, ρ1⟩, e1, e⟩ := Option.bind_eq_some_iff.mp e
    obtain ⟨⟨m, d1⟩, e2, e⟩ := Option.bind_eq_some_iff.mp e
    obtain ⟨⟨w, d2⟩, e3, e⟩ := Option.bind_eq_some_iff.mp e
    cases e
    obtain ⟨v, hv, rv, _⟩ := h.rep i m0 d0 q0
    refine ⟨v, hv, ht H d0 v _ hty rv fun a ha => ((h.nd i m0 d0 q0 hm0).2 a ha).2.1, c, ρ, fp, xs, ρ1, h, e1, fun vs H1 fp1 G h1 x1 => ?_⟩
    obtain ⟨q1, hm⟩ := ownAt_some e2
    obtain ⟨u, hu, ru, _⟩ := h1.rep i m d1 q1
    rw [hv] at hu
    cases hu
    obtain ⟨n1, n2⟩ := h1.nd i m d1 q1 hm
    refine ho H1 d1 xs v vs (fp1 i) G _ d2 Q ru n1 (fun a ha => (n2 a ha).2.1) x1.rep x1.nd (fun a ha => (x1.ow a ha).2.1) (fun a ha hg => x1.dj i m d1 q1 hm a hg ha) e3 fun z H' F1 G1 fr r1 nd1 r2 nd2 ap ow => ?_
    obtain ⟨ok', val'⟩ := h1.turnG q1 hm hv x1 fr r1 nd1 r2 nd2 ap ow
    exact k z H' _ G1 ok' val'
  · cases e
/-- x.m(e, ..) that turns x -/
theorem m_mut (pa : PlainAttrs T) (slot : Slot T name id) (hty : typeOf (.builtin id) = Pure.pure (.type "method_descriptor")) (hm : MtR X id r) (ht : TyT X.K T ty) (ho : MutD X.K r o) (hv : PE X ob (tVar i)) (ha : PA X (e :: es) (tMs X.K ms))
    (hbase : attributeBase ob name X.env (eval ob X.env) = eval ob X.env := by rfl)
    (hfew : ((backTo cpos (starEach (e :: es) X.env)).all (fun x => !x.1) && (backToKw cpos (keywordEach [] X.env)).all (fun x => x.1.isSome) && decide ((e :: es).length + ([] : List Keyword).length + (if ([] : List Keyword).isEmpty then 0 else 1) < 30)) = true := by rfl)
    (hline : (apos.endLine == cpos.line) = true := by rfl) (hs : starEach (e :: es) X.env = (false, eval e X.env) :: starEach es X.env := by rfl) (hplain : (backTo cpos (starEach es X.env)).any (·.1) = false := by rfl) :
    DM X (.Call (.Attribute ob name apos) (e :: es) [] cpos) (mMut ty o i ms) :=
  (pe_bm pa slot hty hm hv ha hbase hfew hline hs hplain).imp fun σ H Q h => mut_core ht ho σ H Q h
end
/-! ### lists -/
def appendD : D → List D → Option (D × D) := fun d ds => match d, ds with
  | .lst xs, [y] => if xs.length < sizeLine then some (.non, .lst (xs ++ [y])) else none
  | _, _ => none
theorem lst_own {K : PySem.W.Frag} {H : Hp} {xs : List D} {x : V} {F : List Addr} (r : Rep K H (.lst xs) x F) (mu : ∀ a ∈ F, Mut (H a)) : ∃ a vs G, x = .ref a ∧ H a = some (.lst vs) ∧ F = a :: G ∧ Reps K H xs vs G := by
  obtain ⟨a, vs, G, rfl, q, rfl, r⟩ := r
  exact ⟨a, vs, G, rfl, mut_rd (mu a (List.mem_cons_self ..)) q, rfl, r⟩
theorem frm_upd {H : Hp} {a : Addr} {F : List Addr} {o : HO} (mu : ∀ b ∈ F, Mut (H b)) (ha : a ∈ F) : Frm H (fun b => b ∈ F) (upd H a o) := ⟨mu, fun b u e n => by
  rw [upd_ne (fun z => n (by rw [z]; exact ha))]
  exact e⟩
theorem frm_one {H : Hp} {a : Addr} {o : HO} (mu : Mut (H a)) : Frm H (fun b => b = a) (upd H a o) := ⟨fun b e => e ▸ mu, fun b u e n => by
  rw [upd_ne n]
  exact e⟩
theorem mut_upd {H : Hp} {a b : Addr} {o : HO} (m : Mut (H b)) (mo : Mut (some o)) : Mut (upd H a o b) := by
  by_cases h : b = a
  · subst h
    rw [upd_same]
    exact mo
  · rw [upd_ne h]
    exact m
theorem mu_append {K : PySem.W.Frag} : MutD K rAppend appendD := fun H d ds x vs F G res d' Q r nd mu rs ndG muG ap e k => by
  unfold appendD at e
  split at e
  · split at e
    · rename_i hl
      cases e
      obtain ⟨a, us, F', rfl, hH, rfl, rr⟩ := lst_own r mu
      obtain ⟨v, rfl, rv⟩ := reps_one rs
      refine ⟨a, us, v, rfl, rfl, hH, by rw [rr.length]; exact hl, ?_⟩
      have fr := frm_upd (o := .lst (us ++ [v])) mu (List.mem_cons_self ..)
      have one := frm_one (o := .lst (us ++ [v])) (mu a (List.mem_cons_self ..))
      have na : a ∉ F' := (List.nodup_cons.mp nd).1
      have nG : a ∉ G := ap a (List.mem_cons_self ..)
      refine k _ _ (a :: (F' ++ G)) [] fr ⟨a, _, _, rfl, .inl upd_same, rfl, (rr.frm one fun b hb z => na (z ▸ hb)).append (Reps.one (rv.frm one fun b hb z => nG (z ▸ hb)))⟩ ?_ ⟨rfl, rfl⟩ List.nodup_nil (fun _ _ z => by cases z) fun b hb => ?_
      · refine List.nodup_cons.mpr ⟨fun z => (List.mem_append.mp z).elim na nG, List.nodup_append.mpr ⟨(List.nodup_cons.mp nd).2, ndG, fun b hb c hc z => ap b (List.mem_cons_of_mem _ hb) (z ▸ hc)⟩⟩
      · rcases hb with hb | hb
        · rcases List.mem_cons.mp hb with rfl | hb
          · exact ⟨.inl (List.mem_cons_self ..), by rw [upd_same]; trivial⟩
          · rcases List.mem_append.mp hb with hb | hb
            · exact ⟨.inl (List.mem_cons_of_mem _ hb), mut_upd (mu b (List.mem_cons_of_mem _ hb)) trivial⟩
            · exact ⟨.inr (.inl hb), mut_upd (muG b hb) trivial⟩
        · cases hb
    · cases e
  · cases e
/-- pop of a plain item -/
def popD : D → List D → Option (D × D) := fun d ds => match d, ds with
  | .lst xs, [] => (xs[xs.length - 1]?).bind fun y => if pures xs = true then some (y, .lst xs.dropLast) else none
  | _, _ => none
theorem Reps.dropLast {K : PySem.W.Frag} {H : Hp} : ∀ {ds : List D} {vs : List V}, Reps K H ds vs [] → Reps K H ds.dropLast vs.dropLast []
  | [], vs, r => by rw [r.1]; exact ⟨rfl, rfl⟩
  | [d], vs, r => by
    obtain ⟨v, rfl, _⟩ := reps_one r
    exact ⟨rfl, rfl⟩
  | d :: e :: ds, vs, r => by
    obtain ⟨v, vr, F1, F2, rfl, z, r1, r2⟩ := r
    obtain ⟨rfl, rfl⟩ := List.append_eq_nil_iff.mp z.symm
    have ih := Reps.dropLast r2
    obtain ⟨w, wr, F3, F4, rfl, z2, r3, r4⟩ := r2
    exact ⟨v, _, [], [], rfl, rfl, r1, ih⟩
theorem pures_mem {ds : List D} (h : pures ds = true) {d : D} (hd : d ∈ ds) : pure d = true := by
  induction ds with
  | nil => cases hd
  | cons e es ih =>
    have h' : (pure e && pures es) = true := h
    rw [Bool.and_eq_true] at h'
    rcases List.mem_cons.mp hd with rfl | hd
    · exact h'.1
    · exact ih h'.2 hd
/-! ### x[i] = v -/
/-- the store by values: d the thing, k the place, v the value -/
def StD (K : PySem.W.Frag) (t : TSet) (o : D → D → D → Option D) : Prop := ∀ H d k w x y v F G Gk d' (Q : Hp → Prop), Rep K H d x F → F.Nodup → (∀ a ∈ F, Mut (H a)) → Rep K H k y Gk → Rep K H w v G → G.Nodup → (∀ a ∈ G, Mut (H a)) → (∀ a ∈ F, a ∉ G) →
  o d k w = some d' → (∀ H' F1, Frm H (fun a => a ∈ F) H' → Rep K H' d' x F1 → F1.Nodup → (∀ a ∈ F1, (a ∈ F ∨ a ∈ G ∨ H a = none) ∧ Mut (H' a)) → Q H') → t x y v H Q
def gSub' (i : Nat) (ix : EX) (o : D → D → D → Option D) : GX := fun v ρ => (ownAt i ρ).bind fun z => (ix ρ).bind fun k => (o z.2 k v).bind fun d' => some (ρ.set i (some (z.1, d')))
section
variable {X : Cx} {a b e : Expr} {pos : Pos} {i : Nat} {f : EX} {m : EM}
theorem gSub_of {t : TSet} {o : D → D → D → Option D} (ho : StD X.K t o) (v : V) (σ : L2.St) (H : Hp) (Q : L2.St → Hp → Prop) (h : tG X.K (gSub' i f o) v σ H Q) : gSub (tVar i) (tP X.K false f) t v σ H Q := by
  obtain ⟨c, ρ, fp, d, F, ρ', ok, x, e, k⟩ := h
  obtain ⟨⟨m, d0⟩, e0, e⟩ := Option.bind_eq_some_iff.mp e
  obtain ⟨kk, e1, e⟩ := Option.bind_eq_some_iff.mp e
  obtain ⟨d2, e2, e⟩ := Option.bind_eq_some_iff.mp e
  cases e
  obtain ⟨q, hm⟩ := ownAt_some e0
  obtain ⟨u, hu, _, _⟩ := ok.rep i m d0 q
  refine ⟨u, hu, ρ, kk, ok.sees, e1, fun y H1 Gk s rk _ => ?_⟩
  have ok1 := ok.same s
  have x1 := x.same s
  obtain ⟨u', hu', ru, _⟩ := ok1.rep i m d0 q
  rw [hu] at hu'
  cases hu'
  obtain ⟨n1, n2⟩ := ok1.nd i m d0 q hm
  refine ho H1 d0 kk d u y v (fp i) F Gk d2 _ ru n1 (fun a ha => (n2 a ha).2.1) rk x1.rep x1.nd (fun a ha => (x1.ow a ha).2.1) (fun a ha hg => x1.dj i m d0 q hm a hg ha) e2 fun H' F1 fr r1 nd1 ow => ?_
  obtain ⟨ok2, _⟩ := ok1.turnG (res := .non) (w := .non) (G1 := []) q hm hu x1.one fr r1 nd1 ⟨rfl, rfl⟩ List.nodup_nil (fun _ _ z => by cases z) fun a ha => ha.elim (ow a) fun z => by cases z
  exact k σ H' _ ok2
theorem g_sub {t : TSet} {o : D → D → D → Option D} (hv : PE X a (tVar i)) (hb : DB X b f) (ht : PSet X t) (ho : StD X.K t o)
    (ha : ∀ v, assign (.Subscript a b pos) X.env v = (do
      let ov ← holding [v] (eval a X.env)
      let iv ← holding [v, ov] (eval b X.env)
      standAt pos
      holding [v, ov, iv] (setItem ov iv v)
      release [v, ov, iv] []) := by intro _; rfl) : PG X (.Subscript a b pos) (tG X.K (gSub' i f o)) := (pg_sub hv hb ht ha).imp fun v σ H Q h => gSub_of ho v σ H Q h
end
/-- a plain item of a list of plain items is stored -/
def setL : D → D → D → Option D := fun d k w => match d, k with
  | .lst xs, .int i => if pures xs = true then if pure w = true then (ixN xs.length i).map fun j => .lst (xs.set j w) else none else none
  | _, _ => none
theorem Reps.set {K : PySem.W.Frag} {H : Hp} {w : D} {v : V} (rw' : Rep K H w v []) : ∀ {ds : List D} {vs : List V} {j : Nat}, Reps K H ds vs [] → Reps K H (ds.set j w) (vs.set j v) []
  | [], vs, j, r => by rw [r.1]; exact ⟨rfl, rfl⟩
  | d :: ds, vs, 0, r => by
    obtain ⟨u, ur, F1, F2, rfl, z, r1, r2⟩ := r
    obtain ⟨rfl, rfl⟩ := List.append_eq_nil_iff.mp z.symm
    exact ⟨v, ur, [], [], rfl, rfl, rw', r2⟩
  | d :: ds, vs, j + 1, r => by
    obtain ⟨u, ur, F1, F2, rfl, z, r1, r2⟩ := r
    obtain ⟨rfl, rfl⟩ := List.append_eq_nil_iff.mp z.symm
    exact ⟨u, _, [], [], rfl, rfl, r1, Reps.set rw' r2⟩
theorem st_list {K : PySem.W.Frag} : StD K rSetL setL := fun H d k w x y v F G Gk d' Q r nd mu rk rv ndG muG ap e kk => by
  unfold setL at e
  split at e
  · split at e
    · rename_i hp
      split at e
      · rename_i hw
        obtain ⟨j, e1, rfl⟩ := Option.map_eq_some_iff.mp e
        obtain ⟨a, us, F', rfl, hH, rfl, rr⟩ := lst_own r mu
        have z := rr.nil hp
        subst z
        have z := rv.nil hw
        subst z
        have hk := rk.1
        subst hk
        refine ⟨a, us, _, j, rfl, rfl, hH, by rw [rr.length]; exact e1, ?_⟩
        have one := frm_one (o := .lst (us.set j v)) (mu a (List.mem_cons_self ..))
        refine kk _ [a] (frm_upd mu (List.mem_cons_self ..)) ⟨a, _, [], rfl, .inl upd_same, rfl, Reps.set (rv.frm one fun b hb => by cases hb) (rr.frm one fun b hb => by cases hb)⟩ nd fun b hb => ?_
        rw [List.mem_singleton.mp hb]
        exact ⟨.inl (List.mem_cons_self ..), by rw [upd_same]; trivial⟩
      · cases e
    · cases e
  · cases e
end DL
namespace DL
open PySem PySem.Spec PyProof.Rows L2
/-! ### any sequence walked, whatever it is -/
def itemsOf : D → Option (List D)
  | .tup xs => some xs
  | .ctp xs => some xs
  | .lst xs => some xs
  | .frz xs => some xs
  | _ => none
def xIt (f : EX) : IX := fun ρ => (f ρ).bind itemsOf
def xEn (f : EX) : IX := fun ρ => (f ρ).bind fun d => (itemsOf d).bind fun xs => some (enumF 0 xs)
/-- a sequence in the heap: a tuple or a list -/
theorem itemsOf_rep {K : PySem.W.Frag} {H : Hp} {d : D} {v : V} {F : List Addr} {xs : List D} (r : Rep K H d v F) (e : itemsOf d = some xs) : ∃ a vs G, v = .ref a ∧ Reps K H xs vs G ∧ (∀ b ∈ G, b ∈ F) ∧ ((SqT K H a vs ∧ ∀ H', Kp H F H' → SqT K H' a vs) ∨ (SqL K H a vs ∧ ∀ H', Kp H F H' → SqL K H' a vs)) := by
  cases d <;> cases e
  · obtain ⟨a, vs, rfl, q, r⟩ := r
    exact ⟨a, vs, F, rfl, r, fun b hb => hb, .inl ⟨.of q, fun H' k => k.sqT (.of q)⟩⟩
  · obtain ⟨a, vs, G, rfl, q, rfl, r⟩ := r
    exact ⟨a, vs, G, rfl, r, fun b hb => List.mem_cons_of_mem _ hb, .inr ⟨.inl q, fun H' k => k.lst q (List.mem_cons_self ..)⟩⟩
  · obtain ⟨a, vs, rfl, q, r⟩ := r
    exact ⟨a, vs, F, rfl, r, fun b hb => hb, .inr ⟨q.sq, fun H' k => k.frz q⟩⟩
  · obtain ⟨a, vs, rfl, q, r⟩ := r
    exact ⟨a, vs, F, rfl, r, fun b hb => hb, .inl ⟨q.sq, fun H' k => q.sq⟩⟩
theorem wk_tup' {K : PySem.W.Frag} {H1 : Hp} {p : Addr} {vs : List V} {its : List D} {Fs G : List Addr} (q : ∀ H, Kp H1 Fs H → SqT K H p vs) (r : Reps K H1 its vs G) (sb : ∀ a ∈ G, a ∈ Fs) : Wk (Itt K p) K its H1 Fs where
  go := fun i H hi k => by
    have hl : i < vs.length := by rw [r.length]; exact hi
    exact ⟨vs, vs[i], q H k, List.getElem?_eq_getElem hl⟩
  stop := fun H k => ⟨vs, q H k, by rw [r.length]; exact Nat.le_refl _⟩
  yld := fun i H x H' d e k y => by
    obtain ⟨v, G', g1, g2, g3⟩ := r.get e
    obtain ⟨rfl, f⟩ := y
    have := f vs (q _ k)
    rw [g1] at this
    cases this
    exact ⟨Same.refl _, G', k.rep g2 fun a ha => sb a (g3 a ha), fun a ha => sb a (g3 a ha)⟩
theorem wk_enumT' {K : PySem.W.Frag} {H1 : Hp} {p : Addr} {vs : List V} {its : List D} {Fs G : List Addr} (q : ∀ H, Kp H1 Fs H → SqT K H p vs) (r : Reps K H1 its vs G) (sb : ∀ a ∈ G, a ∈ Fs) : Wk (IteT K p) K (enumF 0 its) H1 Fs where
  go := fun i H hi k => by
    rw [enumF_len] at hi
    have hl : i < vs.length := by rw [r.length]; exact hi
    exact ⟨vs, vs[i], q H k, List.getElem?_eq_getElem hl⟩
  stop := fun H k => ⟨vs, q H k, by rw [r.length, enumF_len]⟩
  yld := fun i H x H' d e k y => by
    obtain ⟨z, e1, rfl⟩ := enumF_get its 0 i d e
    obtain ⟨v, G', g1, g2, g3⟩ := r.get e1
    obtain ⟨T, w, rfl, n, rfl, f⟩ := y
    have := f vs (q _ k)
    rw [g1] at this
    cases this
    rw [Nat.zero_add]
    exact ⟨same_upd n, G', rep_pair n (k.rep g2 fun a ha => sb a (g3 a ha)), fun a ha => sb a (g3 a ha)⟩
section
variable {X : Cx} {tg iter e : Expr} {f : EX} {pos p tpos : Pos} {elts : List Expr} {kk : Nat} {pins : List (Addr × Obj)} {σ : L2.St} {H : Hp} {s : Shared} {R : It → Hp → Prop}
theorem iter_tup {a : Addr} {vs : List V} (I : Inv X pins σ H s) (q : SqT X.K H a vs) (h : R (Itt X.K a) H) : wpAny (model X.prog X.w) X.A (pyIter (.ref a)) (PIE X pins σ tg R) X.xe s := by
  obtain ⟨its, rv, pl, hz⟩ := I.tuple q
  refine wpAny_pyIter_tuple (show s.heap.IsTuple a its.toArray from pl) ?_
  refine ⟨s.heap.objs.size, [s.heap.objs.size], _, _, H, rfl, I.kept (t' := s.toks) fun b o e => Heap.get?_push_of_some _ e, turn_tuple a _, ⟨_, Heap.get?_push_size _ rfl, rfl, rfl⟩, fun b hb => ?_, h⟩
  rw [List.mem_singleton.mp hb]
  exact I.fpOk (Nat.le_refl _) (I.hok.fresh (Nat.le_refl _))
theorem iter_lst {a : Addr} {vs : List V} (I : Inv X pins σ H s) (q : SqL X.K H a vs) (h : R (Itl X.K a) H) : wpAny (model X.prog X.w) X.A (pyIter (.ref a)) (PIE X pins σ tg R) X.xe s := by
  obtain ⟨its, rv, pl, hz⟩ := I.list q
  refine wpAny_pyIter_list pl.isList ?_
  refine ⟨s.heap.objs.size, [s.heap.objs.size], _, _, H, rfl, I.kept (t' := s.toks) fun b o e => Heap.get?_push_of_some _ e, turn_list a _, ⟨_, Heap.get?_push_size _ rfl, rfl, rfl⟩, fun b hb => ?_, h⟩
  rw [List.mem_singleton.mp hb]
  exact I.fpOk (Nat.le_refl _) (I.hok.fresh (Nat.le_refl _))
theorem i_seq {own : Bool} (he : PE X iter (tP X.K own f)) : PI X tg iter (tI X.K own (xIt f)) := by
  refine ⟨fun pins s σ H R I ⟨ρ, its, sees, e0, k⟩ => ?_⟩
  obtain ⟨d, e1, e2⟩ := Option.bind_eq_some_iff.mp e0
  refine thn (he.run pins s σ H (fun v H1 => ∃ F, Same H H1 ∧ Rep X.K H1 d v F ∧ (own = true → New H H1 F)) I ⟨ρ, d, sees, e1, fun v H' F sm r n => ⟨F, sm, r, n⟩⟩) fun u s1 ⟨v, H1, I1, ru, F, sm, r, n⟩ => ?_
  obtain ⟨a, vs, G, rfl, rr, sb, h⟩ := itemsOf_rep r e2
  obtain rfl : u = Value.ref a := ru
  rcases h with ⟨q, qk⟩ | ⟨q, qk⟩
  · exact iter_tup I1 q (k _ H1 F sm (wk_tup' qk rr sb) fun z a ha => (n z).new a ha)
  · exact iter_lst I1 q (k _ H1 F sm (wk_lst qk rr sb) fun z a ha => (n z).new a ha)
theorem i_enum {own : Bool} (hg : Gl X "enumerate") (hm : X.mg "enumerate" = none) (he : PE X e (tP X.K own f)) (hs : starEach [e] X.env = (false, eval e X.env) :: starEach [] X.env := by rfl) (hs2 : starEach [e] X.env = [(false, eval e X.env)] := by rfl) :
    PI X (.Tuple elts kk tpos) (.Call (.Name "enumerate" p) [e] [] pos) (tI X.K own (xEn f)) := by
  refine ⟨fun pins s σ H R I ⟨ρ, its, sees, e0, k⟩ => ?_⟩
  obtain ⟨d, e1, e0⟩ := Option.bind_eq_some_iff.mp e0
  obtain ⟨xs, e2, e0⟩ := Option.bind_eq_some_iff.mp e0
  cases e0
  have hpa := pa_cons he pa_nil hs
  refine Call_ (ld_blt I hg hm boot_enumerate (PyProof.Rows.callWith_type1 (thn (hpa.run pos pins s σ H (fun ws H1 => ∃ v F, ws = [v] ∧ Same H H1 ∧ Rep X.K H1 d v F ∧ (own = true → New H H1 F)) I ⟨ρ, d, sees, e1, fun v H' F sm r n => ⟨v, F, rfl, sm, r, n⟩⟩) fun us s1 ⟨ws, H1, I1, r1, v, F, ew, sm, r, n⟩ => ?_) hs2 rfl))
  subst ew
  obtain ⟨u, rfl, ru⟩ := vals1 r1
  obtain ⟨a, vs, G, rfl, rr, sb, h⟩ := itemsOf_rep r e2
  obtain rfl : u = Value.ref a := ru
  have two : ∀ b : Addr, b ∈ [s1.heap.objs.size + 1, s1.heap.objs.size] → s1.heap.objs.size ≤ b := fun b hb => by
    rcases (show b = s1.heap.objs.size + 1 ∨ b = s1.heap.objs.size by simpa using hb) with z | z <;> (rw [z]; first | exact Nat.le_add_right _ _ | exact Nat.le_refl _)
  rcases h with ⟨q, qk⟩ | ⟨q, qk⟩
  · obtain ⟨its, rv, pl, hz⟩ := I1.tuple q
    have hT : s1.heap.IsTuple a its.toArray := pl
    have hlt : a < s1.heap.objs.size := by obtain ⟨o, ho, _⟩ := hT; exact Heap.lt_size ho
    refine call_enumB (begins_tuple a its.toArray) hT fun h' he hit hk => wpAny_pyIter_enum he ?_
    have I2 : Inv X pins σ H1 { s1 with heap := h' } := I1.kept (t' := s1.toks) hk
    exact ⟨s1.heap.objs.size + 1, [s1.heap.objs.size + 1, s1.heap.objs.size], _, _, H1, rfl, I2, turn_enumT a (s1.heap.objs.size + 1) s1.heap.objs.size (Nat.ne_of_lt hlt), ⟨⟨.none, he⟩, ⟨_, hit, rfl, rfl⟩, Nat.succ_ne_self _, Nat.ne_of_lt (Nat.lt_succ_of_lt hlt)⟩, fun b hb => I1.fpOk (two b hb) (I1.hok.fresh (two b hb)), k _ H1 F sm (wk_enumT' qk rr sb) fun z a ha => (n z).new a ha⟩
  · obtain ⟨its, rv, pl, hz⟩ := I1.list q
    refine call_enumerate_list pl.isList fun h' he hit hsz hk => wpAny_pyIter_enum he ?_
    have I2 : Inv X pins σ H1 { s1 with heap := h' } := I1.kept (t' := s1.toks) hk
    exact ⟨s1.heap.objs.size + 1, [s1.heap.objs.size + 1, s1.heap.objs.size], _, _, H1, rfl, I2, turn_enum a (s1.heap.objs.size + 1) s1.heap.objs.size, ⟨⟨.none, he⟩, hit, Nat.succ_ne_self _⟩, fun b hb => I1.fpOk (two b hb) (I1.hok.fresh (two b hb)), k _ H1 F sm (wk_enumL qk rr sb) fun z a ha => (n z).new a ha⟩
end
/-! ### own defs by name -/
def FnAt (P : Program) (w : World) (K : PySem.W.Frag) (mg : Str → Option Value) (base : Heap) (k : Nat) (x : Str) (ps : List Str) (sp : Sp) : Prop :=
  ∃ fa fd, mg x = some (.ref fa) ∧ PySem.W.keepIn K (.ref fa) = true ∧ Binds K fd ps [] ∧ FnOk P w K mg base CX0 k fa fd ps sp
def DefAt (K : PySem.W.Frag) (mg : Str → Option Value) (x : Str) (st : Stmt) (ps : List Str) : Prop := ∃ fa fd, L2.Fun K x x st fa fd ∧ mg x = some (.ref fa) ∧ Binds K fd ps []
theorem FnAt.mono {P : Program} {w : World} {K : PySem.W.Frag} {mg : Str → Option Value} {base : Heap} {j k : Nat} {x : Str} {ps : List Str} {sp : Sp} (h : FnAt P w K mg base j x ps sp) (l : j ≤ k) : FnAt P w K mg base k x ps sp := by
  obtain ⟨fa, fd, a, b, c, G⟩ := h
  exact ⟨fa, fd, a, b, c, G.mono l⟩
section
variable {P : Program} {w : World} {K : PySem.W.Frag} {mg : Str → Option Value} {base : Heap}
theorem at_p {x : Str} {st : Stmt} {N ps : List Str} {k : Nat} {g : ES} (F : DefAt K mg x st ps) (S : FnScope N ps (defScope st))
    (hb : ∀ (f : Addr) (cdv : Value) (A : Around) (outer : List PySem.Env) (s : Shared) (H : Hp) (E : XK), Room k (A.deeper (envOfC x (defScope st) s.heap.objs.size f cdv)) → DSs (cxOf CX0 P w K mg base N x (defScope st) f cdv A outer s H E).nox (defBody st) g) :
    FnAt P w K mg base (k + 1) x ps (spP K ps.length (fnP N g)) := by
  obtain ⟨fa, fd, F, hm, b⟩ := F
  exact ⟨fa, fd, hm, F.kp, b, f_p F S (hb fa)⟩
theorem at_r {x : Str} {st : Stmt} {N ps : List Str} {k n : Nat} {g : ES} (F : DefAt K mg x st ps) (S : FnScope N ps (defScope st)) (hps : ps.length = n + 1)
    (hb : ∀ (f : Addr) (cdv : Value) (A : Around) (outer : List PySem.Env) (s : Shared) (H : Hp) (E : XK), Room k (A.deeper (envOfC x (defScope st) s.heap.objs.size f cdv)) → DSs (cxOf CX0 P w K mg base N x (defScope st) f cdv A outer s H E).nox (defBody st) g) :
    FnAt P w K mg base (k + 1) x ps (spR K n (fnR N g)) := by
  obtain ⟨fa, fd, F, hm, b⟩ := F
  exact ⟨fa, fd, hm, F.kp, b, f_r F S hps (hb fa)⟩
end
section
variable {X : Cx} {x : Str} {po pos : Pos} {e : Expr} {es : List Expr} {fs : EXs} {ms : EMs}
theorem p_at {n k : Nat} {F : List D → Option D} {ps : List Str} (G : FnAt X.prog X.w X.K X.mg X.base k x ps (spP X.K n F)) (hr : Room k X.A) (hg : Gl X x) (ha : PA X (e :: es) (tPs X.K false fs))
    (hn : ∀ ρ ds, fs ρ = some ds → ds.length = n) (hdb : (x == ("__debug__" : Str)) = false := by decide) (he : starEach (e :: es) X.env = (false, eval e X.env) :: starEach es X.env := by rfl) (hpl : (backTo pos (starEach es X.env)).any (·.1) = false := by rfl) : DP X (.Call (.Name x po) (e :: es) [] pos) (xCall F fs) := by
  obtain ⟨fa, fd, hm, hk, hb, G⟩ := G
  exact p_call G hr hg hm hk hb ha hn hdb he hpl
theorem m_atR {n k i : Nat} {F : D → List D → Option (D × D)} {ps : List Str} (G : FnAt X.prog X.w X.K X.mg X.base k x ps (spR X.K n F)) (hr : Room k X.A) (hg : Gl X x)
    (hv : PE X e (tVar i)) (ha : PA X es (tMs X.K ms)) (hn : ∀ ρ ds ρ', ms ρ = some (ds, ρ') → ds.length = n) (hs : starEach (e :: es) X.env = (false, eval e X.env) :: starEach es X.env := by rfl) (hdb : (x == ("__debug__" : Str)) = false := by decide) (hpl : (backTo pos (starEach es X.env)).any (·.1) = false := by rfl) :
    DM X (.Call (.Name x po) (e :: es) [] pos) (mCallR F i ms) := by
  obtain ⟨fa, fd, hm, hk, hb, G⟩ := G
  exact m_callR G hr hg hm hk hb hv ha hn hs hdb hpl
end
end DL
namespace DL
open PySem PySem.Spec PyProof.Rows L2
/-! ### the module's constants -/
def IntAt (mg : Str → Option Value) (x : Str) (i : Int) : Prop := ∃ t, mg x = some (.int i t)
def TupAt (K : PySem.W.Frag) (mg : Str → Option Value) (x : Str) (d : D) : Prop := ∃ p, mg x = some (.ref p) ∧ ∀ H, Rep K H d (.ref p) []
section
variable {X : Cx} {a : Expr} {f : EX} {pos : Pos} {k : Nat}
theorem p_gI {x : Str} {i : Int} (hg : Gl X x) (hm : IntAt X.mg x i) (hd : (x == ("__debug__" : Str)) = false := by decide) : DP X (.Name x pos) (xC (.int i)) := by
  obtain ⟨t, hm⟩ := hm
  exact p_globI hg hm hd
def xNeg (f : EX) : EX := fun ρ => (f ρ).bind oNeg
theorem p_neg' (ha : DB X a f) : DP X (.UnaryOp .USub a pos) (xNeg f) := p_neg ha
def xIsi (ts : List String) (f : EX) : EX := fun ρ => (f ρ).bind (isiD ts)
end
/-- a def that is never called -/
theorem at_none {P : Program} {w : World} {K : PySem.W.Frag} {mg : Str → Option Value} {base : Heap} {k n : Nat} {x : Str} {st : Stmt} {ps : List Str} (F : DefAt K mg x st ps) (hn : ps.length = n) : FnAt P w K mg base k x ps (spP K n fun _ => none) := by
  obtain ⟨fa, fd, F, hm, b⟩ := F
  refine ⟨fa, fd, hm, F.kp, b, ⟨fun vs H Q E h => by rw [hn]; exact spP_len h, fun A outer s H args us vs Q E _ _ _ _ h => ?_⟩⟩
  obtain ⟨ds, G, d, _, _, e, _⟩ := h
  cases e
/-! ### the end -/
theorem law_rep {K : PySem.W.Frag} {H : Hp} {a : Addr} {ns : List Int} (hO : Only H) (h : SqL K H a (ns.map V.int)) : Rep K H (.frz (ns.map D.int)) (.ref a) [] := by
  have allI : ∀ ns : List Int, Reps K H (ns.map D.int) (ns.map V.int) [] := fun ns => by
    induction ns with
    | nil => exact ⟨rfl, rfl⟩
    | cons n ns ih => exact ⟨_, _, [], [], rfl, rfl, ⟨rfl, rfl⟩, ih⟩
  refine ⟨a, _, rfl, ?_, allI ns⟩
  rcases h with (h | ⟨o, h⟩) | h
  · rcases hO a with z | ⟨o, xs, z⟩
    · rw [h] at z; cases z
    · rw [h] at z; cases z
  · exact .inl ⟨o, h⟩
  · exact .inr h
theorem law_sp {K : PySem.W.Frag} {F : List D → Option D} {H : Hp} {a : Addr} {ns : List Int} (hF : F [.frz (ns.map D.int)] = some (.bl true)) (hO : Only H) (h : SqL K H a (ns.map V.int)) : spP K 1 F [.ref a] H (fun v _ => v = .bl true) fun _ _ _ => False :=
  ⟨_, [], .bl true, rfl, Reps.one (law_rep hO h), hF, fun v H' F' _ r _ => r.1⟩
end DL
namespace DL
open PySem PySem.Spec PyProof.Rows L2
/-! ### the ends -/
theorem mk_def {K : PySem.W.Frag} {h : Heap} {mg : Str → Option Value} {x : Str} {st : Stmt} {ps : List Str} {f : Addr} {od an : Option Addr} {sl : Array (Option Value)} {oc kV dc pm cd ct : Value} (X : K.In h) (G : h.Ns mainGlobals mg)
    (a : PySem.W.nsIn K mainGlobals x = some (some (.ref f))) (l : K.lookup f = some ⟨oc, od, .func (PySem.W.fnOf x x (defArgs st) (defBody st) (defScope st) .none kV dc pm an cd ct), sl⟩) (c : PySem.W.codeIn K cd x = true) (k : PySem.W.keepIn K (.ref f) = true)
    (hb : ∀ (kV doc pm : Value) (an : Option Addr) (cdv ct : Value) (us : List Value), us.length = ps.length → bindArgs (PySem.W.fnOf x x (defArgs st) (defBody st) (defScope st) .none kV doc pm an cdv ct) ⟨us, []⟩ = Pure.pure (ps.zip us)) : DefAt K mg x st ps :=
  ⟨f, _, fun_mk l c k, PySem.W.mg_of X G a, (fun_mk (st := st) l c k).binds hb⟩
theorem mk_int {K : PySem.W.Frag} {h : Heap} {mg : Str → Option Value} {x : Str} {i : Int} {t : Nat} (X : K.In h) (G : h.Ns mainGlobals mg) (a : PySem.W.nsIn K mainGlobals x = some (some (.int i t))) : IntAt mg x i := ⟨t, PySem.W.mg_of X G a⟩
theorem mk_non {K : PySem.W.Frag} {h : Heap} {mg : Str → Option Value} {x : Str} (X : K.In h) (G : h.Ns mainGlobals mg) (a : PySem.W.nsIn K mainGlobals x = some none) : mg x = none := PySem.W.mg_none_of X G a
/-- the law's own def, over every base -/
def FnTop (P : Program) (w : World) (K : PySem.W.Frag) (mg : Str → Option Value) (k : Nat) (fa : Addr) (x : Str) (sp : Sp) : Prop :=
  ∃ fd : FuncData, (∀ (s : Shared) (v : Value), BindsTo s fd ⟨[v], []⟩ [(x, v)]) ∧ ∀ base : Heap, K.In base → base.Ns mainGlobals mg → FnOk P w K mg base CX0 k fa fd [x] sp
theorem at_law {P : Program} {w : World} {K : PySem.W.Frag} {mg : Str → Option Value} {fa : Addr} {x y : Str} {st : Stmt} {N : List Str} {k : Nat} {g : ES} (F : DefAt K mg x st [y]) (hfa : mg x = some (.ref fa)) (S : FnScope N [y] (defScope st))
    (h1 : ∀ (kV doc pm : Value) (an : Option Addr) (cdv ct v : Value), bindArgs (PySem.W.fnOf x x (defArgs st) (defBody st) (defScope st) .none kV doc pm an cdv ct) ⟨[v], []⟩ = Pure.pure [(y, v)])
    (hb : ∀ (base : Heap) (f : Addr) (cdv : Value) (A : Around) (outer : List PySem.Env) (s : Shared) (H : Hp) (E : XK), Room k (A.deeper (envOfC x (defScope st) s.heap.objs.size f cdv)) → DSs (cxOf CX0 P w K mg base N x (defScope st) f cdv A outer s H E).nox (defBody st) g) :
    FnTop P w K mg (k + 1) fa y (spP K 1 (fnP N g)) := by
  obtain ⟨f2, fd, F, hm, b⟩ := F
  have e := hfa.symm.trans hm
  cases e
  refine ⟨fd, fun s v => ?_, fun base _ _ => f_p F S (hb base fa)⟩
  obtain ⟨oc, od, kV, doc, pm, an, cdv, ct, osl, rfl, lk, hcd⟩ := F.ex
  exact .of_eq (h1 kV doc pm an cdv ct v)
theorem law_hsp {K : Params → PySem.W.Frag} {F : List D → Option D} {n : Nat} (hF : ∀ ns : List Int, ns.length ≤ n → F [.frz (ns.map D.int)] = some (.bl true)) (w : World) (H : Hp) (a : Addr) (ns : List Int) (hl : ns.length ≤ n) (hO : Only H) (h : SqL (K w.params) H a (ns.map V.int)) : spP (K w.params) 1 F [.ref a] H (fun v _ => v = .bl true) fun _ _ _ => False := law_sp (hF ns hl) hO h
end DL
namespace DL
open PySem PySem.Spec L2
def rng1F (ds : List D) : Option (List D) := match ds with
  | [.int j] => if rOk j = true then some (rng 0 j) else none
  | _ => none
def rng2F (ds : List D) : Option (List D) := match ds with
  | [.int i, .int j] => if rOk i = true then if rOk j = true then some (rng i j) else none else none
  | _ => none
/-! ### the plain side: how the readings compute -/
section
variable {ρ : Env} {s : Slt} {i j n : Nat} {f g h : EX} {d d' x y z : D} {m : Fl}
@[simp] theorem e_var : xVar i (s :: ρ) = ((s :: ρ)[i]?).bind fun s => s.map Prod.snd := by
  unfold xVar
  cases (s :: ρ)[i]? with
  | none => rfl
  | some z => cases z with
    | none => rfl
    | some z => rfl
@[simp] theorem e_pure : xPure f (s :: ρ) = (f (s :: ρ)).bind fun d => if pure d = true then some d else none := (rfl)
@[simp] theorem e_C : xC d (s :: ρ) = some d := (rfl)
@[simp] theorem e_op {o : D → D → Option D} : xOp o f g (s :: ρ) = (f (s :: ρ)).bind fun x => (g (s :: ρ)).bind fun y => o x y := (rfl)
@[simp] theorem e_bool : xBool f (s :: ρ) = (f (s :: ρ)).bind fun d => match d with | .bl b => some b | _ => none := (rfl)
@[simp] theorem e_chain {o o' : D → D → Option D} : xChain o o' f g h (s :: ρ) = (f (s :: ρ)).bind fun x => (g (s :: ρ)).bind fun y => (o x y).bind fun z => match z with | .bl true => (h (s :: ρ)).bind fun w => o' y w | .bl false => some (.bl false) | _ => none := by
  unfold xChain
  rfl
@[simp] theorem e_and : xAnd f g (s :: ρ) = (f (s :: ρ)).bind fun x => match x with | .bl true => g (s :: ρ) | .bl false => some (.bl false) | _ => none := (rfl)
@[simp] theorem e_or : xOr f g (s :: ρ) = (f (s :: ρ)).bind fun x => match x with | .bl false => g (s :: ρ) | .bl true => some (.bl true) | _ => none := (rfl)
@[simp] theorem e_not : xNot f (s :: ρ) = (f (s :: ρ)).bind fun x => match x with | .bl k => some (.bl (!k)) | _ => none := (rfl)
@[simp] theorem e_isi {ts : List String} : xIsi ts f (s :: ρ) = (f (s :: ρ)).bind (isiD ts) := (rfl)
@[simp] theorem e_neg : xNeg f (s :: ρ) = (f (s :: ρ)).bind oNeg := (rfl)
@[simp] theorem e_call {o : List D → Option D} {fs : EXs} : xCall o fs (s :: ρ) = (fs (s :: ρ)).bind o := (rfl)
@[simp] theorem e_nil : xsNil (s :: ρ) = some [] := (rfl)
@[simp] theorem e_cons {fs : EXs} : xsCons f fs (s :: ρ) = (f (s :: ρ)).bind fun x => (fs (s :: ρ)).bind fun xs => some (x :: xs) := (rfl)
@[simp] theorem e_tup {fs : EXs} : xTup fs (s :: ρ) = (fs (s :: ρ)).bind fun xs => if xs.length ≤ sizeLine then some (.tup xs) else none := (rfl)
@[simp] theorem e_lst {fs : EXs} : xLst fs (s :: ρ) = (fs (s :: ρ)).bind fun xs => if xs.length ≤ sizeLine then some (.lst xs) else none := (rfl)
@[simp] theorem e_yand {p q : QX} : yAnd p q (s :: ρ) = (p (s :: ρ)).bind fun k => if k = true then q (s :: ρ) else some false := (rfl)
@[simp] theorem e_yor {p q : QX} : yOr p q (s :: ρ) = (p (s :: ρ)).bind fun k => if k = true then some true else q (s :: ρ) := (rfl)
@[simp] theorem e_ynot {p : QX} : yNot p (s :: ρ) = (p (s :: ρ)).map not := (rfl)
@[simp] theorem e_yyes : yYes (s :: ρ) = some true := (rfl)
@[simp] theorem e_if {p : QX} : xIf p f g (s :: ρ) = (p (s :: ρ)).bind fun k => if k = true then f (s :: ρ) else g (s :: ρ) := (rfl)
@[simp] theorem e_mP : mP f (s :: ρ) = (f (s :: ρ)).bind fun d => some (d, (s :: ρ)) := (rfl)
@[simp] theorem e_move : mMove i (s :: ρ) = match (s :: ρ)[i]? with | some (some (.own, d)) => some (d, (s :: ρ).set i none) | _ => none := (rfl)
@[simp] theorem e_msNil : msNil (s :: ρ) = some ([], (s :: ρ)) := (rfl)
@[simp] theorem e_msCons {e : EM} {ms : EMs} : msCons e ms (s :: ρ) = (e (s :: ρ)).bind fun x => (ms x.2).bind fun xs => some (x.1 :: xs.1, xs.2) := (rfl)
@[simp] theorem e_mTup {ms : EMs} : mTup ms (s :: ρ) = (ms (s :: ρ)).bind fun xs => if xs.1.length ≤ sizeLine then some (.tup xs.1, xs.2) else none := (rfl)
@[simp] theorem e_mLst {ms : EMs} : mLst ms (s :: ρ) = (ms (s :: ρ)).bind fun xs => if xs.1.length ≤ sizeLine then some (.lst xs.1, xs.2) else none := (rfl)
@[simp] theorem e_mOp {o : D → D → Option D} {a b : EM} : mOp o a b (s :: ρ) = (a (s :: ρ)).bind fun x => if pure x.1 = true then (b x.2).bind fun y => (o x.1 y.1).bind fun z => some (z, y.2) else none := (rfl)
@[simp] theorem e_tP {p : QX} : tP' p (s :: ρ) = (p (s :: ρ)).bind fun k => some (k, (s :: ρ)) := (rfl)
@[simp] theorem e_mBool {e : EM} : mBool e (s :: ρ) = (e (s :: ρ)).bind fun x => match x.1 with | .bl b => some (b, x.2) | _ => none := by
  unfold mBool
  rfl
@[simp] theorem e_mNotT {t : ET} : mNotT t (s :: ρ) = (t (s :: ρ)).bind fun k => some (!k.1, k.2) := (rfl)
@[simp] theorem e_mIf {t : ET} {a b : EM} : mIf t a b (s :: ρ) = (t (s :: ρ)).bind fun k => if k.1 = true then a k.2 else b k.2 := (rfl)
@[simp] theorem e_next : sNext (s :: ρ) = some (.nx (s :: ρ)) := (rfl)
@[simp] theorem e_seq {a b : ES} : sSeq a b (s :: ρ) = (a (s :: ρ)).bind fun o => match o with | .nx ρ' => b ρ' | o => some o := by
  unfold sSeq
  rfl
@[simp] theorem e_break : sBreak (s :: ρ) = some (.bk (s :: ρ)) := (rfl)
@[simp] theorem e_cont : sCont (s :: ρ) = some (.ct (s :: ρ)) := (rfl)
@[simp] theorem e_never : sNever (s :: ρ) = none := (rfl)
@[simp] theorem e_sIf {t : ET} {a b : ES} : sIf t a b (s :: ρ) = (t (s :: ρ)).bind fun k => if k.1 = true then a k.2 else b k.2 := (rfl)
@[simp] theorem e_ret {e : EM} : sRet e (s :: ρ) = (e (s :: ρ)).bind fun x => some (.rt x.1 x.2) := (rfl)
@[simp] theorem e_retN : sRetN (s :: ρ) = some (.rt .non (s :: ρ)) := (rfl)
@[simp] theorem e_drop {e : EM} : sDrop e (s :: ρ) = (e (s :: ρ)).bind fun x => some (.nx x.2) := (rfl)
@[simp] theorem e_put : put i d (s :: ρ) = match (s :: ρ)[i]? with | some (some (.pin, _)) => none | some _ => some ((s :: ρ).set i (some (.own, d))) | none => none := (rfl)
@[simp] theorem e_putB : putB i d (s :: ρ) = if i < (s :: ρ).length then some ((s :: ρ).set i (some (.bor, d))) else none := (rfl)
@[simp] theorem e_gsNil : gsNil [] (s :: ρ) = some (s :: ρ) := (rfl)
@[simp] theorem e_gsCons {a : GX} {as : GXs} {ds : List D} : gsCons a as (d :: ds) (s :: ρ) = (a d (s :: ρ)).bind (as ds) := (rfl)
@[simp] theorem e_gTup {gs : GXs} {ds : List D} : gTupD n gs (.tup ds) (s :: ρ) = if ds.length = n then gs ds (s :: ρ) else none := (rfl)
@[simp] theorem e_gTupC {gs : GXs} {ds : List D} : gTupD n gs (.ctp ds) (s :: ρ) = if ds.length = n then gs ds (s :: ρ) else none := (rfl)
@[simp] theorem e_asg {e : EM} {gx : GX} : sAsg e gx (s :: ρ) = (e (s :: ρ)).bind fun x => (gx x.1 x.2).bind fun ρ' => some (.nx ρ') := (rfl)
@[simp] theorem e_aug {o : D → D → Option D} {e : EM} : sAug i o e (s :: ρ) = (xPure (xVar i) (s :: ρ)).bind fun x => (e (s :: ρ)).bind fun y => (o x y.1).bind fun z => (put i z y.2).bind fun ρ' => some (.nx ρ') := (rfl)
@[simp] theorem e_iP {src : IX} : iP src (s :: ρ) = (src (s :: ρ)).bind fun its => some (its, (s :: ρ)) := (rfl)
@[simp] theorem e_for {src : IM} {gx : GX} {b : ES} : sFor src gx b (s :: ρ) = (src (s :: ρ)).bind fun x => forE gx b x.1 x.2 := (rfl)
@[simp] theorem e_rng1 {fs : EXs} : xRng1 fs (s :: ρ) = (fs (s :: ρ)).bind rng1F := by
  unfold xRng1
  rfl
@[simp] theorem e_rng2 {fs : EXs} : xRng2 fs (s :: ρ) = (fs (s :: ρ)).bind rng2F := by
  unfold xRng2
  rfl
@[simp] theorem e_comp {vs : List Nat} {src : IX} {gx : GX} {q : QX} : xComp vs src gx q f (s :: ρ) = (src (s :: ρ)).bind fun its => (compE gx q f (wipeE (s :: ρ) vs) its).bind fun ys => if ys.length ≤ sizeLine then some (.lst ys) else none := (rfl)
@[simp] theorem e_wipe0 : wipeE (s :: ρ) [] = (s :: ρ) := (rfl)
@[simp] theorem e_wipe1 {v : Nat} {vs : List Nat} : wipeE (s :: ρ) (v :: vs) = (wipeE (s :: ρ) vs).set v none := (rfl)
@[simp] theorem e_callR {F : D → List D → Option (D × D)} {ms : EMs} : mCallR F i ms (s :: ρ) = (xVar i (s :: ρ)).bind fun _ => (ms (s :: ρ)).bind fun x => match x.2[i]? with | some (some (m, d0)) => if m = .bor then none else (F d0 x.1).bind fun y => some (y.1, x.2.set i (some (m, y.2))) | _ => none := by
  unfold mCallR
  rfl
@[simp] theorem e_mut {ty : D → Bool} {o : D → List D → Option (D × D)} {ms : EMs} : mMut ty o i ms (s :: ρ) = (ownAt i (s :: ρ)).bind fun z => if ty z.2 = true then (ms (s :: ρ)).bind fun x => (ownAt i x.2).bind fun y => (o y.2 x.1).bind fun w => some (w.1, x.2.set i (some (y.1, w.2))) else none := (rfl)
@[simp] theorem e_gsub {ix : EX} {o : D → D → D → Option D} : gSub' i ix o d (s :: ρ) = (ownAt i (s :: ρ)).bind fun z => (ix (s :: ρ)).bind fun k => (o z.2 k d).bind fun d' => some ((s :: ρ).set i (some (z.1, d'))) := (rfl)
@[simp] theorem e_it : xIt f (s :: ρ) = (f (s :: ρ)).bind itemsOf := (rfl)
@[simp] theorem e_en : xEn f (s :: ρ) = (f (s :: ρ)).bind fun d => (itemsOf d).bind fun xs => some (enumF 0 xs) := (rfl)
@[simp] theorem e_fnP {N : List Str} {b : ES} {ds : List D} : fnP N b ds = (b (ds.map argSlot ++ List.replicate (N.length - ds.length) none)).bind fun o => match o with | .rt d _ => some d | .nx _ => some .non | _ => none := by
  unfold fnP outP env0
  rfl
@[simp] theorem e_fnR {N : List Str} {b : ES} {ds : List D} : fnR N b d ds = (b (some (.pin, d) :: (ds.map argSlot ++ List.replicate (N.length - (ds.length + 1)) none))).bind fun o => match o with
    | .rt r ρ => (match ρ[0]? with | some (some (Fl.pin, d')) => some (r, d') | _ => none)
    | .nx ρ => (match ρ[0]? with | some (some (Fl.pin, d')) => some (.non, d') | _ => none)
    | _ => none := by
  unfold fnR outR envR
  rfl
@[simp] theorem e_arg_int {k : Int} : argSlot (.int k) = some (.own, .int k) := (rfl)
@[simp] theorem e_arg_bl {k : Bool} : argSlot (.bl k) = some (.own, .bl k) := (rfl)
@[simp] theorem e_arg_non : argSlot .non = some (.own, .non) := (rfl)
@[simp] theorem e_arg_str {k : Str} : argSlot (.str k) = some (.own, .str k) := (rfl)
@[simp] theorem e_arg_lst {xs : List D} : argSlot (.lst xs) = some (.bor, .lst xs) := (rfl)
@[simp] theorem e_arg_dK {ks : List Key} {xs : List D} : argSlot (.dK ks xs) = some (.bor, .dK ks xs) := (rfl)
@[simp] theorem e_arg_dT {ks : List (List Key)} {xs : List D} : argSlot (.dT ks xs) = some (.bor, .dT ks xs) := (rfl)
theorem e_arg_pure (h : pure d = true) : argSlot d = some (.own, d) := by
  unfold argSlot
  rw [if_pos h]
theorem e_arg_tup {xs : List D} (h : pures xs = true) : argSlot (.tup xs) = some (.own, .tup xs) := e_arg_pure h
theorem e_arg_frz {xs : List D} (h : pures xs = true) : argSlot (.frz xs) = some (.own, .frz xs) := e_arg_pure h
@[simp] theorem e_own0 : ownAt i (s :: ρ) = match (s :: ρ)[i]? with | some (some (m, d)) => if m = .bor then none else some (m, d) | _ => none := by
  unfold ownAt
  rfl
@[simp] theorem l_get0 {α : Type} {u : α} {us : List α} : (u :: us)[0]? = some u := (rfl)
@[simp] theorem l_getS {α : Type} {u : α} {us : List α} {k : Nat} : (u :: us)[k + 1]? = us[k]? := (rfl)
/-! numbers -/
variable {a b c : Int}
@[simp] theorem v_add : oAdd (.int a) (.int b) = some (.int (a + b)) := (rfl)
@[simp] theorem v_sub : oSub (.int a) (.int b) = some (.int (a - b)) := (rfl)
@[simp] theorem v_neg : oNeg (.int a) = some (.int (-a)) := (rfl)
@[simp] theorem v_lt : oLt (.int a) (.int b) = some (.bl (decide (a < b))) := (rfl)
@[simp] theorem v_gt : oGt (.int a) (.int b) = some (.bl (decide (b < a))) := (rfl)
@[simp] theorem v_le : oLe (.int a) (.int b) = some (.bl (decide (a ≤ b))) := (rfl)
@[simp] theorem v_ge : oGe (.int a) (.int b) = some (.bl (decide (b ≤ a))) := (rfl)
theorem v_mul (h : -1000000000000000000 < b ∧ b < 1000000000000000000) : oMul (.int a) (.int b) = some (.int (a * b)) := by
  unfold oMul o2
  have : smallI b = true := by
    unfold smallI
    rw [decide_eq_true_eq]
    omega
  simp [this]
theorem v_fdiv (h : 0 < b ∧ b < 1073741824) : oFdiv (.int a) (.int b) = some (.int (a / b)) := by
  unfold oFdiv o2
  have h1 : (decide (b ≠ 0) && decide (b.natAbs < 1073741824)) = true := by
    simp only [Bool.and_eq_true, decide_eq_true_eq]
    omega
  simp only [h1, if_true]
  rw [Int.fdiv_eq_ediv_of_nonneg _ (by omega)]
theorem v_mod (h : 0 < b) : oMod (.int a) (.int b) = some (.int (a % b)) := by
  unfold oMod o2
  have h1 : decide (b ≠ 0) = true := by
    simp only [decide_eq_true_eq]
    omega
  simp only [h1, if_true]
  rw [Int.fmod_eq_emod_of_nonneg _ (by omega)]
theorem v_rOk (h : -1000000000000000000 < a ∧ a < 1000000000000000000) : rOk a = true := by
  unfold rOk
  rw [decide_eq_true_eq]
  omega
theorem v_rng1 (h : -1000000000000000000 < a ∧ a < 1000000000000000000) : rng1F [.int a] = some (rng 0 a) := by
  show (if rOk a = true then some (rng 0 a) else none) = _
  rw [v_rOk h, if_pos rfl]
theorem v_rng2 (h : -1000000000000000000 < a ∧ a < 1000000000000000000) (h2 : -1000000000000000000 < b ∧ b < 1000000000000000000) : rng2F [.int a, .int b] = some (rng a b) := by
  show (if rOk a = true then if rOk b = true then some (rng a b) else none else none) = _
  rw [v_rOk h, v_rOk h2, if_pos rfl, if_pos rfl]
theorem size_eq : sizeLine = 16777216 := by decide
theorem if_size {α : Type} {n : Nat} {p q : α} (h : n ≤ 16777216) : (if n ≤ sizeLine then p else q) = p := if_pos (by rw [size_eq]; exact h)
@[simp] theorem v_int : intD [.int a] = some (.int a) := (rfl)
@[simp] theorem v_intb {k : Bool} : intD [.bl k] = some (.int (if k then 1 else 0)) := (rfl)
@[simp] theorem v_max2 : max2D [.int a, .int b] = some (.int (if b > a then b else a)) := (rfl)
@[simp] theorem v_min2 : min2D [.int a, .int b] = some (.int (if b < a then b else a)) := (rfl)
@[simp] theorem v_abs : absD [.int a] = some (.int (if a < 0 then -a else a)) := (rfl)
variable {xs ys : List D}
@[simp] theorem v_len1 : lenD [.tup xs] = some (.int xs.length) := (rfl)
@[simp] theorem v_len2 : lenD [.lst xs] = some (.int xs.length) := (rfl)
@[simp] theorem v_len3 : lenD [.frz xs] = some (.int xs.length) := (rfl)
@[simp] theorem v_len4 : lenD [.ctp xs] = some (.int xs.length) := (rfl)
@[simp] theorem v_ix1 : ixD (.tup xs) (.int a) = atI xs a := (rfl)
@[simp] theorem v_ix2 : ixD (.lst xs) (.int a) = atI xs a := (rfl)
@[simp] theorem v_ix3 : ixD (.frz xs) (.int a) = atI xs a := (rfl)
@[simp] theorem v_ix4 : ixD (.ctp xs) (.int a) = atI xs a := (rfl)
@[simp] theorem v_items1 : itemsOf (.tup xs) = some xs := (rfl)
@[simp] theorem v_items2 : itemsOf (.lst xs) = some xs := (rfl)
@[simp] theorem v_items3 : itemsOf (.frz xs) = some xs := (rfl)
@[simp] theorem v_items4 : itemsOf (.ctp xs) = some xs := (rfl)
@[simp] theorem v_append : appendD (.lst xs) [y] = if xs.length < sizeLine then some (.non, .lst (xs ++ [y])) else none := (rfl)
theorem v_at (h : 0 ≤ a) : atI xs a = xs[a.toNat]? := by
  unfold atI ixN
  rw [if_pos h]
  by_cases c : a < xs.length
  · rw [if_pos c]
    rfl
  · rw [if_neg c]
    exact (List.getElem?_eq_none (by omega)).symm
theorem ok_int : okD (.int a) = true := by
  simp [okD, py, SeqAt.shaped, PyData.canLay0, PyData.depth]
theorem ok_bl {k : Bool} : okD (.bl k) = true := by
  simp [okD, py, SeqAt.shaped, PyData.canLay0, PyData.depth]
theorem ok_non : okD .non = true := by
  simp [okD, py, SeqAt.shaped, PyData.canLay0, PyData.depth]
theorem eq_of {o : Bool} (h1 : okD x = true) (h2 : okD y = true) (h : eqv x y = o) : oEq x y = some (.bl o) := by
  unfold oEq
  rw [if_pos h1, if_pos h2, h]
theorem oNe_of {o : Bool} (h1 : okD x = true) (h2 : okD y = true) (h : eqv x y = o) : oNe x y = some (.bl (!o)) := by
  unfold oNe
  rw [if_pos h1, if_pos h2, h]
theorem eqv_int : eqv (.int a) (.int b) = decide (a = b) := by
  simp [eqv, py, PyData.eqv]
  rfl
@[simp] theorem v_eqI : oEq (.int a) (.int b) = some (.bl (decide (a = b))) := eq_of ok_int ok_int eqv_int
@[simp] theorem v_neI : oNe (.int a) (.int b) = some (.bl (!decide (a = b))) := oNe_of ok_int ok_int eqv_int
@[simp] theorem v_eqB {k l : Bool} : oEq (.bl k) (.bl l) = some (.bl (decide (k = l))) := eq_of ok_bl ok_bl (by cases k <;> cases l <;> simp [eqv, py, PyData.eqv])
@[simp] theorem v_neB {k l : Bool} : oNe (.bl k) (.bl l) = some (.bl (!decide (k = l))) := oNe_of ok_bl ok_bl (by cases k <;> cases l <;> simp [eqv, py, PyData.eqv])
theorem eqv_l0 (h : xs = []) : oEq (.lst xs) (.lst []) = some (.bl true) := by
  subst h
  exact eq_of (by simp [okD, py, pys, SeqAt.shaped, PyData.canLay0, PyData.canLayAll0, PyData.depth, PyData.depthAll]) (by simp [okD, py, pys, SeqAt.shaped, PyData.canLay0, PyData.canLayAll0, PyData.depth, PyData.depthAll]) (by simp [eqv, py, pys, PyData.eqv, PyData.eqvAll])
@[simp] theorem v_eqL0 : oEq (.lst []) (.lst []) = some (.bl true) := eqv_l0 rfl
@[simp] theorem v_neL0 : oNe (.lst []) (.lst []) = some (.bl false) := oNe_of (o := true) (by simp [okD, py, pys, SeqAt.shaped, PyData.canLay0, PyData.canLayAll0, PyData.depth, PyData.depthAll]) (by simp [okD, py, pys, SeqAt.shaped, PyData.canLay0, PyData.canLayAll0, PyData.depth, PyData.depthAll]) (by simp [eqv, py, pys, PyData.eqv, PyData.eqvAll])
@[simp] theorem pu_int : pure (.int a) = true := (rfl)
@[simp] theorem pu_bl {k : Bool} : pure (.bl k) = true := (rfl)
@[simp] theorem pu_str {k : Str} : pure (.str k) = true := (rfl)
@[simp] theorem pu_non : pure .non = true := (rfl)
@[simp] theorem pu_tup : pure (.tup xs) = pures xs := (rfl)
@[simp] theorem pu_ctp : pure (.ctp xs) = pures xs := (rfl)
@[simp] theorem pu_frz : pure (.frz xs) = pures xs := (rfl)
@[simp] theorem pu_lst : pure (.lst xs) = false := (rfl)
@[simp] theorem pu_dK {k : List Key} : pure (.dK k xs) = false := (rfl)
@[simp] theorem pu_dT {k : List (List Key)} : pure (.dT k xs) = false := (rfl)
@[simp] theorem pu_nil : pures [] = true := (rfl)
@[simp] theorem pu_cons : pures (x :: xs) = (pure x && pures xs) := (rfl)
@[simp] theorem v_isN : oIsN x .non = some (.bl (isNon x)) := (rfl)
@[simp] theorem v_notN : oNotN x .non = some (.bl (!isNon x)) := (rfl)
end
end DL
namespace DL
open PySem PySem.Spec L2
/-! ### the script's draws -/
def takenS : ES := (sSeq (sIf (tP' (xBool (xOp oGt (xOp ixD (xVar 0) (xC (.int 3))) (xC (.int 0))))) (sSeq (sAsg (mP (xOp oMod (xCall intD (xsCons (xOp ixD (xVar 0) (xC (.int 3))) xsNil)) (xVar 1))) (put 2))
  (sSeq (sAsg (mP (xOp oFdiv (xOp ixD (xVar 0) (xC (.int 3))) (xVar 1))) (gSub' 0 (xC (.int 3)) setL))
  (sRet (mP (xPure (xVar 2)))))) sNext)
  (sSeq (sAsg (mP (xOp oAdd (xOp ixD (xVar 0) (xC (.int 1))) (xC (.int 1)))) (gSub' 0 (xC (.int 1)) setL))
  (sSeq (sIf (tP' (xBool (xOp oGt (xOp ixD (xVar 0) (xC (.int 1))) (xCall lenD (xsCons (xOp ixD (xVar 0) (xC (.int 0))) xsNil))))) (sSeq (sAsg (mP (xOp oMod (xCall intD (xsCons (xOp oAdd (xOp oMul (xOp ixD (xVar 0) (xC (.int 2))) (xC (.int 48271))) (xC (.int 11))) xsNil)) (xC (.int 2147483647)))) (gSub' 0 (xC (.int 2)) setL))
  (sRet (mP (xOp oMod (xCall intD (xsCons (xOp oFdiv (xOp ixD (xVar 0) (xC (.int 2))) (xC (.int 7))) xsNil)) (xVar 1))))) sNext)
  (sSeq (sAsg (mP (xPure (xOp ixD (xOp ixD (xVar 0) (xC (.int 0))) (xOp oSub (xOp ixD (xVar 0) (xC (.int 1))) (xC (.int 1)))))) (put 3))
  (sSeq (sAsg (mP (xOp oMod (xCall intD (xsCons (xOp oAdd (xOp oAdd (xOp oMul (xOp ixD (xVar 0) (xC (.int 2))) (xC (.int 48271))) (xVar 3)) (xC (.int 11))) xsNil)) (xC (.int 2147483647)))) (gSub' 0 (xC (.int 2)) setL))
  (sSeq (sIf (tP' (xBool (xOp oGe (xVar 3) (xOp oPow (xC (.int 10)) (xC (.int 18)))))) (sAsg (mP (xOp oFdiv (xVar 3) (xVar 1))) (gSub' 0 (xC (.int 3)) setL)) sNext)
  (sRet (mP (xOp oMod (xCall intD (xsCons (xVar 3) xsNil)) (xVar 1))))))))))
def takenF : D → List D → Option (D × D) := fnR ["_law_row", "_law_many", "_law_found", "_law_cell"] takenS
/-- a row of draws that is in order -/
def Row (ns : List Int) (d : D) : Prop := ∃ i s e : Int, 0 ≤ i ∧ d = .lst [.frz (ns.map D.int), .int i, .int s, .int e]
theorem pures_ints (ns : List Int) : pures (ns.map D.int) = true := by
  induction ns with
  | nil => rfl
  | cons n ns ih => exact (by rw [List.map_cons, pures, ih]; rfl)
theorem row_mk {ns : List Int} (i s e : Int) (hi : 0 ≤ i) : Row ns (.lst [.frz (ns.map D.int), .int i, .int s, .int e]) := ⟨i, s, e, hi, rfl⟩
theorem taken_ok {ns : List Int} {d : D} {m : Int} (h : Row ns d) (hm : 0 < m ∧ m < 1073741824) : ∃ v d', takenF d [.int m] = some (.int v, d') ∧ 0 ≤ v ∧ v < m ∧ Row ns d' := by
  obtain ⟨i, s, e, hi, rfl⟩ := h
  unfold takenF takenS
  have p1 := pures_ints ns
  have pw : oPow (.int 10) (.int 18) = some (.int 1000000000000000000) := rfl
  by_cases h1 : 0 < e
  · exact ⟨e % m, _, by simp (disch := omega) [h1, v_at, v_mod, v_fdiv, setL, ixN, pures, pure, p1], Int.emod_nonneg _ (by omega), Int.emod_lt_of_pos _ hm.1, row_mk i s (e / m) hi⟩
  · by_cases h2 : (ns.length : Int) < i + 1
    · refine ⟨(s * 48271 + 11) % 2147483647 / 7 % m, _, by simp (disch := omega) [h1, h2, v_at, v_mul, v_mod, v_fdiv, setL, ixN, pures, pure, p1], Int.emod_nonneg _ (by omega), Int.emod_lt_of_pos _ hm.1, row_mk (i + 1) ((s * 48271 + 11) % 2147483647) e (by omega)⟩
    · have hl : i.toNat < ns.length := by omega
      have g : (ns.map D.int)[i.toNat]? = some (.int ns[i.toNat]) := by
        rw [List.getElem?_map, List.getElem?_eq_getElem hl]
        rfl
      have e1 : i + 1 - 1 = i := by omega
      generalize ns[i.toNat] = c at g
      by_cases h3 : (1000000000000000000 : Int) ≤ c
      · exact ⟨c % m, _, by simp (disch := omega) [h1, h2, h3, e1, g, pw, v_at, v_mul, v_mod, v_fdiv, setL, ixN, pures, pure, p1], Int.emod_nonneg _ (by omega), Int.emod_lt_of_pos _ hm.1, row_mk (i + 1) ((s * 48271 + c + 11) % 2147483647) (c / m) (by omega)⟩
      · exact ⟨c % m, _, by simp (disch := omega) [h1, h2, h3, e1, g, pw, v_at, v_mul, v_mod, v_fdiv, setL, ixN, pures, pure, p1], Int.emod_nonneg _ (by omega), Int.emod_lt_of_pos _ hm.1, row_mk (i + 1) ((s * 48271 + c + 11) % 2147483647) e (by omega)⟩
theorem row_start (ns : List Int) (c : Int) : Row ns (.lst [.frz (ns.map D.int), .int 0, .int c, .int 0]) := row_mk 0 c 0 (by omega)
/-! ### comprehensions and loops -/
theorem comp_map {α : Type} {gx : GX} {q : QX} {e : EX} {ρ : Env} (g : α → D) (p : α → Bool) (f : α → D) : ∀ l : List α, (∀ a ∈ l, ∃ ρ1, gx (g a) ρ = some ρ1 ∧ q ρ1 = some (p a) ∧ (p a = true → e ρ1 = some (f a))) → compE gx q e ρ (l.map g) = some ((l.filter p).map f)
  | [], _ => rfl
  | a :: l, h => by
    obtain ⟨ρ1, h1, h2, h3⟩ := h a (List.mem_cons_self ..)
    have ih := comp_map g p f l fun b hb => h b (List.mem_cons_of_mem _ hb)
    rw [List.map_cons, compE, h1, Option.bind_some, h2, Option.bind_some, ih]
    cases hp : p a with
    | true => rw [if_pos rfl, h3 hp, List.filter_cons_of_pos hp]; rfl
    | false => rw [if_neg (by decide), List.filter_cons_of_neg (by rw [hp]; decide)]
theorem comp_all {α : Type} {gx : GX} {q : QX} {e : EX} {ρ : Env} (g : α → D) (f : α → D) (l : List α) (h : ∀ a ∈ l, ∃ ρ1, gx (g a) ρ = some ρ1 ∧ q ρ1 = some true ∧ e ρ1 = some (f a)) : compE gx q e ρ (l.map g) = some (l.map f) := by
  rw [comp_map g (fun _ => true) f l fun a ha => by
    obtain ⟨ρ1, h1, h2, h3⟩ := h a ha
    exact ⟨ρ1, h1, h2, fun _ => h3⟩]
  rw [List.filter_eq_self.mpr fun _ _ => rfl]
theorem comp_none {α : Type} {gx : GX} {q : QX} {e : EX} {ρ : Env} (g : α → D) (l : List α) (h : ∀ a ∈ l, ∃ ρ1, gx (g a) ρ = some ρ1 ∧ q ρ1 = some false) : compE gx q e ρ (l.map g) = some [] := by
  rw [comp_map g (fun _ => false) (fun _ => .non) l fun a ha => by
    obtain ⟨ρ1, h1, h2⟩ := h a ha
    exact ⟨ρ1, h1, h2, fun h => by cases h⟩]
  rw [List.filter_eq_nil_iff.mpr fun _ _ => by decide]
  rfl
theorem for_inv {α : Type} {gx : GX} {b : ES} (g : α → D) (P : Nat → Env → Prop) : ∀ (l : List α) (i : Nat) (ρ : Env), P i ρ →
    (∀ j a ρ, l[j]? = some a → P (i + j) ρ → pure (g a) = true ∧ ∃ ρ1 ρ2, gx (g a) ρ = some ρ1 ∧ (b ρ1 = some (.nx ρ2) ∨ b ρ1 = some (.ct ρ2)) ∧ P (i + j + 1) ρ2) →
    ∃ ρ', forE gx b (l.map g) ρ = some (.nx ρ') ∧ P (i + l.length) ρ'
  | [], i, ρ, h, _ => ⟨ρ, rfl, h⟩
  | a :: l, i, ρ, h, k => by
    obtain ⟨pa, ρ1, ρ2, h1, h2, h3⟩ := k 0 a ρ rfl h
    obtain ⟨ρ', h4, h5⟩ := for_inv g P l (i + 1) ρ2 h3 fun j c ρ e q => by
      have := k (j + 1) c ρ e (by rw [show i + (j + 1) = i + 1 + j by omega]; exact q)
      rw [show i + (j + 1) = i + 1 + j by omega] at this
      exact this
    refine ⟨ρ', ?_, by rw [show i + (a :: l).length = i + 1 + l.length by simp only [List.length_cons]; omega]; exact h5⟩
    rw [List.map_cons, forE, if_pos pa, h1, Option.bind_some]
    rcases h2 with h2 | h2 <;> (rw [h2]; exact h4)
theorem for_ok {α : Type} {gx : GX} {b : ES} (g : α → D) (P : Nat → Env → Prop) (l : List α) (ρ : Env) (h : P 0 ρ)
    (k : ∀ j a ρ, l[j]? = some a → P j ρ → pure (g a) = true ∧ ∃ ρ1 ρ2, gx (g a) ρ = some ρ1 ∧ (b ρ1 = some (.nx ρ2) ∨ b ρ1 = some (.ct ρ2)) ∧ P (j + 1) ρ2) : ∃ ρ', forE gx b (l.map g) ρ = some (.nx ρ') ∧ P l.length ρ' := by
  have := for_inv g P l 0 ρ h fun j a ρ e q => by
    rw [Nat.zero_add] at q ⊢
    exact k j a ρ e q
  rw [Nat.zero_add] at this
  exact this
/-! ### two results alike -/
def alikeS (F : List D → Option D) : ES := (sSeq (sIf (tP' (xBool (xIsi ["tuple", "list"] (xVar 1)))) (sSeq (sIf (tP' (yOr (yNot (xBool (xIsi ["tuple", "list"] (xVar 0)))) (xBool (xOp oNe (xIsi ["list"] (xVar 0)) (xIsi ["list"] (xVar 1)))))) (sRet (mP (xC (.bl false)))) sNext)
  (sSeq (sIf (tP' (xBool (xOp oNe (xCall lenD (xsCons (xVar 0) xsNil)) (xCall lenD (xsCons (xVar 1) xsNil))))) (sRet (mP (xC (.bl false)))) sNext)
  (sRet (mP (xOp oEq (xComp [2] (xRng1 (xsCons (xCall lenD (xsCons (xVar 1) xsNil)) xsNil)) (putB 2) (yNot (xBool (xCall F (xsCons (xOp ixD (xVar 0) (xVar 2)) (xsCons (xOp ixD (xVar 1) (xVar 2)) xsNil))))) (xPure (xVar 2))) (xLst xsNil)))))) sNext)
  (sSeq (sIf (tP' (yOr (xBool (xOp oIsN (xVar 1) (xC .non))) (xBool (xIsi ["str"] (xVar 1))))) (sRet (mP (xAnd (xOp oEq (xVar 0) (xVar 1)) (xOp oEq (xIsi ["str"] (xVar 0)) (xIsi ["str"] (xVar 1)))))) sNext)
  (sRet (mP (xAnd (xIsi ["int"] (xVar 0)) (xAnd (xOp oEq (xIsi ["bool"] (xVar 0)) (xIsi ["bool"] (xVar 1))) (xOp oEq (xVar 0) (xVar 1))))))))
def alikeR : Nat → List D → Option D
  | 0 => fun _ => none
  | n + 1 => fnP ["_law_found", "_law_due", "_law_k"] (alikeS (alikeR n))
def kind : D → Option (Bool × List D)
  | .tup xs => some (false, xs)
  | .ctp xs => some (false, xs)
  | .lst xs => some (true, xs)
  | .frz xs => some (true, xs)
  | _ => none
def Alk : Nat → D → D → Prop
  | 0, _, _ => False
  | n + 1, f, d => (∃ b xs ys, kind f = some (b, xs) ∧ kind d = some (b, ys) ∧ xs.length = ys.length ∧ ys.length ≤ sizeLine ∧ ∀ (i : Nat) x y, xs[i]? = some x → ys[i]? = some y → Alk n x y) ∨ (f = d ∧ kind d = none ∧ okD d = true)
theorem kind_isi {d : D} {b : Bool} {xs : List D} (h : kind d = some (b, xs)) : isiD ["tuple", "list"] d = some (.bl true) ∧ isiD ["list"] d = some (.bl b) ∧ lenD [d] = some (.int xs.length) ∧ ∀ i : Int, ixD d (.int i) = atI xs i := by
  cases d <;> cases h <;> exact ⟨rfl, rfl, rfl, fun _ => rfl⟩
theorem arg_any (d : D) : ∃ m, argSlot d = some (m, d) := ⟨_, rfl⟩
theorem rng_len (n : Nat) : rng 0 (n : Int) = (List.range n).map fun i : Nat => D.int (i : Int) := by
  unfold rng
  simp
theorem atI_of {xs : List D} {i : Nat} : atI xs (i : Int) = xs[i]? := v_at (by omega)
theorem sizeLine_lt : sizeLine < 1000000000000000000 := by decide
theorem Alk.list {n : Nat} {f d : D} {b : Bool} {xs ys : List D} (k1 : kind f = some (b, xs)) (k2 : kind d = some (b, ys)) (hl : xs.length = ys.length) (hs : ys.length ≤ sizeLine) (h : ∀ (i : Nat) x y, xs[i]? = some x → ys[i]? = some y → alikeR n [x, y] = some (.bl true)) : alikeR (n + 1) [f, d] = some (.bl true) := by
  obtain ⟨mf, hf⟩ := arg_any f
  obtain ⟨md, hd⟩ := arg_any d
  obtain ⟨a1, a2, a3, a4⟩ := kind_isi k1
  obtain ⟨b1, b2, b3, b4⟩ := kind_isi k2
  have sz := sizeLine_lt
  have c3 : compE (putB 2) (yNot (xBool (xCall (alikeR n) (xsCons (xOp ixD (xVar 0) (xVar 2)) (xsCons (xOp ixD (xVar 1) (xVar 2)) xsNil))))) (xPure (xVar 2)) [some (mf, f), some (md, d), none] (rng 0 (ys.length : Int)) = some [] := by
    rw [rng_len]
    refine comp_none _ _ fun i hi => ?_
    have hi := List.mem_range.mp hi
    have e1 : ys[i]? = some ys[i] := List.getElem?_eq_getElem hi
    have e2 : xs[i]? = some (xs[i]'(by omega)) := List.getElem?_eq_getElem (by omega)
    have ih := h i _ _ e2 e1
    exact ⟨_, rfl, by simp (disch := omega) [a4, b4, atI_of, e1, e2, ih]⟩
  have c4 : rng1F [.int (ys.length : Int)] = some (rng 0 ys.length) := v_rng1 (by omega)
  rw [alikeR]
  unfold alikeS
  simp (disch := omega) [hf, hd, a1, b1, a2, b2, a3, b3, c3, c4, hl]
theorem Alk.atom {n : Nat} {d : D} (hk : kind d = none) (ho : okD d = true) (hd : tyD d ≠ "dict") : alikeR (n + 1) [d, d] = some (.bl true) := by
  rw [alikeR]
  unfold alikeS
  cases d with
  | non => simp [isiD, isTy, tyD, isNon]; exact eq_of ok_non ok_non rfl
  | bl b => simp [isiD, isTy, tyD, isNon]
  | int b => simp [isiD, isTy, tyD, isNon]
  | str b =>
    have : oEq (.str b) (.str b) = some (.bl true) := eq_of ho ho (by simp [eqv, py, PyData.eqv])
    simp [isiD, isTy, tyD, isNon, this]
  | dK _ _ => exact absurd rfl hd
  | dT _ _ => exact absurd rfl hd
  | _ => cases hk
end DL
namespace DL
open PySem PySem.Spec L2
/-! ### slots of a loop -/
def isPin : Slt → Bool
  | some (.pin, _) => true
  | _ => false
@[simp] theorem pin_none : isPin none = false := rfl
@[simp] theorem pin_own {d : D} : isPin (some (.own, d)) = false := rfl
@[simp] theorem pin_bor {d : D} : isPin (some (.bor, d)) = false := rfl
@[simp] theorem pin_pin {d : D} : isPin (some (.pin, d)) = true := rfl
theorem e_put' {i : Nat} {d : D} {s : Slt} {ρ : Env} : put i d (s :: ρ) = ((s :: ρ)[i]?).bind fun x => if isPin x = true then none else some ((s :: ρ).set i (some (.own, d))) := by
  unfold put
  cases (s :: ρ)[i]? with
  | none => rfl
  | some x => cases x with
    | none => rfl
    | some x =>
      obtain ⟨m, e⟩ := x
      cases m <;> rfl
/-! ### data that is alike to itself -/
def okA : Nat → D → Bool
  | 0, _ => false
  | n + 1, .tup xs => decide (xs.length ≤ sizeLine) && xs.all (okA n)
  | n + 1, .ctp xs => decide (xs.length ≤ sizeLine) && xs.all (okA n)
  | n + 1, .lst xs => decide (xs.length ≤ sizeLine) && xs.all (okA n)
  | n + 1, .frz xs => decide (xs.length ≤ sizeLine) && xs.all (okA n)
  | n + 1, .str z => okD (.str z)
  | n + 1, .dK _ _ => false
  | n + 1, .dT _ _ => false
  | n + 1, _ => true
theorem alk_list {n : Nat} {f d : D} {b : Bool} {xs : List D} (ih : ∀ x, okA n x = true → alikeR n [x, x] = some (.bl true)) (k1 : kind f = some (b, xs)) (k2 : kind d = some (b, xs)) (hs : xs.length ≤ sizeLine) (h : xs.all (okA n) = true) : alikeR (n + 1) [f, d] = some (.bl true) := by
  refine Alk.list k1 k2 rfl hs fun i x y h1 h2 => ?_
  rw [h1] at h2
  cases h2
  exact ih x (List.all_eq_true.mp h x (List.mem_of_getElem? h1))
theorem alk_refl : ∀ (n : Nat) (d : D), okA n d = true → alikeR n [d, d] = some (.bl true) := by
  intro n
  induction n with
  | zero => intro d h; cases h
  | succ n ih =>
    intro d h
    cases d with
    | tup xs => have h : (decide (xs.length ≤ sizeLine) && xs.all (okA n)) = true := h; rw [Bool.and_eq_true, decide_eq_true_eq] at h; exact alk_list ih rfl rfl h.1 h.2
    | ctp xs => have h : (decide (xs.length ≤ sizeLine) && xs.all (okA n)) = true := h; rw [Bool.and_eq_true, decide_eq_true_eq] at h; exact alk_list ih rfl rfl h.1 h.2
    | lst xs => have h : (decide (xs.length ≤ sizeLine) && xs.all (okA n)) = true := h; rw [Bool.and_eq_true, decide_eq_true_eq] at h; exact alk_list ih rfl rfl h.1 h.2
    | frz xs => have h : (decide (xs.length ≤ sizeLine) && xs.all (okA n)) = true := h; rw [Bool.and_eq_true, decide_eq_true_eq] at h; exact alk_list ih rfl rfl h.1 h.2
    | non => exact Alk.atom rfl ok_non (by decide)
    | bl b => exact Alk.atom rfl ok_bl (by show ("bool" : String) ≠ "dict"; decide)
    | int b => exact Alk.atom rfl ok_int (by show ("int" : String) ≠ "dict"; decide)
    | str b => exact Alk.atom rfl h (by show ("str" : String) ≠ "dict"; decide)
    | dK _ _ => cases h
    | dT _ _ => cases h
@[simp] theorem okA_int {n : Nat} {i : Int} : okA (n + 1) (.int i) = true := rfl
@[simp] theorem okA_bl {n : Nat} {b : Bool} : okA (n + 1) (.bl b) = true := rfl
@[simp] theorem okA_non {n : Nat} : okA (n + 1) .non = true := rfl
@[simp] theorem okA_tup {n : Nat} {xs : List D} : okA (n + 1) (.tup xs) = (decide (xs.length ≤ sizeLine) && xs.all (okA n)) := rfl
@[simp] theorem okA_lst {n : Nat} {xs : List D} : okA (n + 1) (.lst xs) = (decide (xs.length ≤ sizeLine) && xs.all (okA n)) := rfl
@[simp] theorem okA_frz {n : Nat} {xs : List D} : okA (n + 1) (.frz xs) = (decide (xs.length ≤ sizeLine) && xs.all (okA n)) := rfl
@[simp] theorem okA_ctp {n : Nat} {xs : List D} : okA (n + 1) (.ctp xs) = (decide (xs.length ≤ sizeLine) && xs.all (okA n)) := rfl
/-! ### sorting number tuples -/
def isI : D → Bool
  | .int _ => true
  | _ => false
def isIT : D → Bool
  | .tup xs => !xs.isEmpty && xs.all isI
  | _ => false
theorem isI_list : ∀ {xs : List D}, xs.all isI = true → ∃ ks : List Int, xs = ks.map D.int
  | [], _ => ⟨[], rfl⟩
  | x :: xs, h => by
    rw [List.all_cons, Bool.and_eq_true] at h
    obtain ⟨ks, rfl⟩ := isI_list h.2
    cases x with
    | int i => exact ⟨i :: ks, rfl⟩
    | _ => cases h.1
theorem isIT_list {d : D} (h : isIT d = true) : ∃ (i : Int) (ks : List Int), d = .tup (D.int i :: ks.map D.int) := by
  cases d with
  | tup xs =>
    have h : (!xs.isEmpty && xs.all isI) = true := h
    rw [Bool.and_eq_true] at h
    obtain ⟨ks, rfl⟩ := isI_list h.2
    cases ks with
    | nil => cases h.1
    | cons i ks => exact ⟨i, ks, rfl⟩
  | _ => cases h
theorem plains_ints : ∀ ks : List Int, plains (ks.map D.int) = true
  | [] => rfl
  | i :: ks => by
    rw [List.map_cons, plains, plains_ints ks]
    rfl
theorem pys_ints : ∀ ks : List Int, pys (ks.map D.int) = ks.map PyData.int
  | [] => rfl
  | i :: ks => by
    rw [List.map_cons, pys, pys_ints ks]
    rfl
theorem alikeAll_ints : ∀ ks js : List Int, PySem.W.alikeAll (ks.map PyData.int) (js.map PyData.int) = true
  | [], _ => by rw [List.map_nil, PySem.W.alikeAll]
  | i :: ks, [] => by rw [List.map_nil, List.map_cons, PySem.W.alikeAll]
  | i :: ks, j :: js => by
    rw [List.map_cons, List.map_cons, PySem.W.alikeAll, alikeAll_ints ks js, PySem.W.alike]
    rfl
theorem depthAll_ints : ∀ ks : List Int, PyData.depthAll (ks.map PyData.int) = 0
  | [] => rfl
  | i :: ks => by
    rw [List.map_cons, PyData.depthAll, depthAll_ints ks]
    rfl
theorem canLayAll_ints : ∀ ks : List Int, PyData.canLayAll0 (ks.map PyData.int) = true
  | [] => rfl
  | i :: ks => by
    rw [List.map_cons, PyData.canLayAll0, canLayAll_ints ks]
    rfl
theorem py_tup {i : Int} {ks : List Int} : py (.tup (D.int i :: ks.map D.int)) = .tuple (.int i :: ks.map PyData.int) := by
  rw [py, ← List.map_cons (f := D.int), pys_ints]
  rfl
theorem sortOk_IT {ds : List D} (h : ds.all isIT = true) : sortOk ds = true := by
  have h' : ∀ d ∈ ds, ∃ (i : Int) (ks : List Int), d = .tup (D.int i :: ks.map D.int) := fun d hd => isIT_list (List.all_eq_true.mp h d hd)
  unfold sortOk alikes
  rw [plains_all]
  simp only [Bool.and_eq_true, Bool.or_eq_true, List.all_eq_true, decide_eq_true_eq, List.mem_map]
  refine ⟨⟨⟨?_, ?_⟩, .inl ?_⟩, ?_⟩
  · intro d hd
    obtain ⟨i, ks, rfl⟩ := h' d hd
    exact plains_ints (i :: ks)
  · rintro _ ⟨d, hd, rfl⟩ _ ⟨e, he, rfl⟩
    obtain ⟨i, ks, rfl⟩ := h' d hd
    obtain ⟨j, js, rfl⟩ := h' e he
    rw [py_tup, py_tup, PySem.W.alike]
    exact alikeAll_ints (i :: ks) (j :: js)
  · rintro _ ⟨d, hd, rfl⟩
    obtain ⟨i, ks, rfl⟩ := h' d hd
    rw [py_tup]
    rfl
  · rintro _ ⟨d, hd, rfl⟩
    obtain ⟨i, ks, rfl⟩ := h' d hd
    rw [py_tup, PyData.depth, PyData.canLay0]
    have e1 := depthAll_ints (i :: ks)
    have e2 := canLayAll_ints (i :: ks)
    rw [List.map_cons] at e1 e2
    rw [e1, e2]
    exact ⟨by decide, rfl⟩
theorem sorted_IT {ds : List D} (h : ds.all isIT = true) : sortedD [.lst ds] = some (.lst (sortD ds)) := by
  show (if sortOk ds = true then some (D.lst (sortD ds)) else none) = _
  rw [sortOk_IT h, if_pos rfl]
theorem okA_I {n : Nat} {ds : List D} (h : ds.all isI = true) : ds.all (okA (n + 1)) = true := List.all_eq_true.mpr fun d hd => by
  have := List.all_eq_true.mp h d hd
  cases d with
  | int i => rfl
  | _ => cases this
theorem okA_IT {n : Nat} {ds : List D} (h : ds.all isIT = true) (hl : ∀ d ∈ ds, ∀ xs, d = .tup xs → xs.length ≤ sizeLine) : ds.all (okA (n + 2)) = true := List.all_eq_true.mpr fun d hd => by
  have := List.all_eq_true.mp h d hd
  cases d with
  | tup xs =>
    have h1 : (!xs.isEmpty && xs.all isI) = true := this
    rw [Bool.and_eq_true] at h1
    rw [okA_tup, decide_eq_true (hl _ hd xs rfl), okA_I h1.2]
    rfl
  | _ => cases this
/-! ### more of lists -/
theorem enumF_at : ∀ (xs : List D) (k i : Nat), (enumF k xs)[i]? = (xs[i]?).map fun x => D.tup [.int ((k + i : Nat) : Int), x]
  | [], k, i => by simp [enumF]
  | x :: xs, k, 0 => rfl
  | x :: xs, k, i + 1 => by
    rw [enumF, List.getElem?_cons_succ, List.getElem?_cons_succ, enumF_at xs (k + 1) i, show k + 1 + i = k + (i + 1) by omega]
theorem pures_rng {f : Nat → Int} {n : Nat} : pures ((List.range n).map fun k => D.int (f k)) = true := by
  have := pures_ints ((List.range n).map f)
  rw [List.map_map] at this
  exact this
theorem at_rng {f : Nat → D} {n i : Nat} (h : i < n) : ((List.range n).map f)[i]? = some (f i) := by
  rw [List.getElem?_map, List.getElem?_range h]
  rfl
end DL
namespace DL
open PySem PySem.Spec PyProof.Rows L2
/-! ### comprehensions whose tests and items may turn what the names own -/
section
variable {K : PySem.W.Frag} {c : Ct} {σ σ' : L2.St} {H H' : Hp} {ρ ρ' : Env} {fp fp' : Nat → List Addr}
theorem Ok.wipes (h : Ok K c σ H ρ fp) : ∀ vs : List Nat, Ok K c σ H (wipeE ρ vs) fp
  | [] => h
  | v :: vs => (Ok.wipes h vs).drop
theorem wipeE_in {ρ : Env} {i : Nat} {x : Slt} : ∀ {vs : List Nat}, i ∈ vs → (wipeE ρ vs)[i]? = some x → x = none
  | v :: vs, hi, e => by
    unfold wipeE at e
    rw [List.getElem?_set] at e
    split at e
    · split at e
      · exact (Option.some.inj e).symm
      · cases e
    · rename_i n
      rcases List.mem_cons.mp hi with z | z
      · exact absurd z.symm n
      · exact wipeE_in z e
theorem Ok.swap {vs : List Nat} (h : Ok K c σ H (wipeE ρ vs) fp) (hl : σ'.length = σ.length) (hs : ∀ i, i ∉ vs → σ'[i]? = σ[i]?) : Ok K c σ' H (wipeE ρ vs) fp := by
  refine ⟨by rw [hl]; exact h.len, fun i m d e => ?_, h.nd, h.bo, h.dj, h.frm, h.bt⟩
  have hi : i ∉ vs := fun z => by
    have := wipeE_in z e
    cases this
  rw [hs i hi]
  exact h.rep i m d e
theorem wipe_eq {vs : List Nat} (w : wipe σ' vs = wipe σ vs) : σ'.length = σ.length ∧ ∀ i, i ∉ vs → σ'[i]? = σ[i]? := by
  refine ⟨by rw [← wipe_length σ' vs, w, wipe_length], fun i hi => ?_⟩
  rw [← wipe_out (σ := σ') hi, w, wipe_out hi]
/-- an object that nobody here owns or sees is changed -/
theorem Ok.aside {D : Addr} {o : HO} (h : Ok K c σ H ρ fp) (h0 : c.H0 D = none) (hm : Mut (H D)) (nD : ¬ Ow ρ fp D) : Ok K c σ (upd H D o) ρ fp := by
  have fr : Frm H (fun a => a = D) (upd H D o) := ⟨fun a z => by subst z; exact hm, fun a o z n => by rw [upd_ne n]; exact z⟩
  have out : ∀ i m d, ρ[i]? = some (some (m, d)) → ∀ a ∈ fp i, ¬ a = D := fun i m d e a ha z => by
    subst z
    by_cases hb : m = Fl.bor
    · subst hb
      exact (h.bt _ (h.bo i d e a ha)).1 h0
    · exact nD ⟨i, m, d, e, hb, ha⟩
  refine ⟨h.len, fun i m d e => ?_, fun i m d e n => ?_, h.bo, h.dj, ⟨h.frm.mu, fun a o z n => ?_⟩, h.bt⟩
  · obtain ⟨v, a, b, p⟩ := h.rep i m d e
    exact ⟨v, a, b.frm fr (out i m d e), p⟩
  · obtain ⟨q1, q2⟩ := h.nd i m d e n
    exact ⟨q1, fun a ha => ⟨(q2 a ha).1, by rw [upd_ne (out i m d e a ha)]; exact (q2 a ha).2.1, (q2 a ha).2.2⟩⟩
  · have ne : a ≠ D := fun q => by subst q; rw [h0] at z; cases z
    rw [upd_ne ne]
    exact h.frm.keep a o z n
end
def compM (gx : GX) (t : ET) (e : EM) (vs : List Nat) : List D → Env → Option (List D × Env)
  | [], ρ => some ([], ρ)
  | d :: ds, ρ => if pure d = true then (gx d ρ).bind fun ρ1 => (t ρ1).bind fun b => if b.1 = true then (e b.2).bind fun y => if pure y.1 = true then (compM gx t e vs ds (wipeE y.2 vs)).bind fun r => some (y.1 :: r.1, r.2) else none
    else compM gx t e vs ds (wipeE b.2 vs) else none
def mComp (vs : List Nat) (src : IM) (gx : GX) (t : ET) (e : EM) : EM := fun ρ => (src ρ).bind fun x => (compM gx t e vs x.1 (wipeE x.2 vs)).bind fun r => if r.1.length ≤ sizeLine then some (.lst r.1, r.2) else none
/-- a block's target that owns -/
def tGM (K : PySem.W.Frag) (vs : List Nat) (g : GX) : TG := fun v σ H Q => ∃ c ρ fp d F ρ', Ok K c σ H ρ fp ∧ Val K c H ρ fp d v F ∧ g d ρ = some ρ' ∧ ∀ σ' H' fp', Ok K c σ' H' ρ' fp' → wipe σ' vs = wipe σ vs → Q σ' H'
def tGMs (K : PySem.W.Frag) (vs : List Nat) (g : GXs) : TGs := fun us σ H Q => ∃ c ρ fp ds F ρ', Ok K c σ H ρ fp ∧ Vals' K c H ρ fp ds us F ∧ g ds ρ = some ρ' ∧ ∀ σ' H' fp', Ok K c σ' H' ρ' fp' → wipe σ' vs = wipe σ vs → Q σ' H'
section
variable {X : Cx} {tg iter a : Expr} {pos : Pos} {vs : List Nat} {elt : Expr} {ifs : List Expr} {es : List Expr}
theorem gm_name {i : Nat} (h : PG X a (gName i)) (hi : i ∈ vs) : PG X a (tGM X.K vs (put i)) := h.imp fun v σ H Q ⟨c, ρ, fp, d, F, ρ', ok, x, e, k⟩ => by
  obtain ⟨hl, rfl⟩ := put_some e
  exact k _ _ _ (ok.put x.drop hl) (wipe_set σ _ vs i hi)
theorem tLc_m {src : IM} {gx : GX} {t : ET} {e : EM} (σ : L2.St) (H : Hp) (Q : VK) (h : tM X.K (mComp vs src gx t e) σ H Q) :
    tLc (tIM X.K src) (tGM X.K vs gx) (tT X.K t) (tM X.K e) vs σ H Q := by
  obtain ⟨c, ρ, fp, d, ρ', ok, e0, k⟩ := h
  obtain ⟨⟨its, ρ1⟩, e1, e0⟩ := Option.bind_eq_some_iff.mp e0
  obtain ⟨⟨ys, ρ2⟩, e2, e0⟩ := Option.bind_eq_some_iff.mp e0
  split at e0
  · rename_i hy
    cases e0
    refine ⟨c, ρ, fp, its, ρ1, ok, e1, fun J H1 fp1 Fs h1 w ap D hD => ?_⟩
    have sD : Same H1 (upd H1 D (.lst [])) := same_upd hD
    have owD : ∀ {ρ : Env} {fp : Nat → List Addr} {H : Hp} {c : Ct} {σ : L2.St}, Ok X.K c σ H ρ fp → H D = none → ¬ Ow ρ fp D := fun {ρ fp H c σ} ok hn ⟨i, m, d, q, _, ha⟩ => by
      obtain ⟨v, _, r, _⟩ := ok.rep i m d q
      exact r.there D ha hn
    have h1w : Ok X.K c σ H1 (wipeE ρ1 vs) fp1 := h1.wipes vs
    let cD := sub c H1 ρ1 fp1
    refine ⟨fun i m Hi => i + m = its.length ∧ ∃ ρi fpi acc av rest, Ok X.K cD σ Hi (wipeE ρi vs) fpi ∧ ¬ Ow (wipeE ρi vs) fpi D ∧ Hi D = some (.lst av) ∧ Reps X.K Hi acc av [] ∧ compM gx t e vs (its.drop i) (wipeE ρi vs) = some (rest, ρ2) ∧ acc ++ rest = ys,
      ⟨its.length, by simp, ρ1, fp1, [], [], ys, (h1.self.wipes vs).same sD, owD h1w hD, upd_same, ⟨rfl, rfl⟩, by simpa using e2, rfl⟩, ?_⟩
    rintro i m Hi ⟨hm, ρi, fpi, acc, av, rest, hi, nD, hDi, rep, ei, ey⟩
    have kp : Kp H1 Fs Hi := ⟨_, hi.frm, ap⟩
    by_cases hl : i < its.length
    · have hd : its.drop i = its[i] :: its.drop (i + 1) := List.drop_eq_getElem_cons hl
      rw [hd] at ei
      unfold compM at ei
      split at ei
      · rename_i pd
        obtain ⟨ρa, ea, ei⟩ := Option.bind_eq_some_iff.mp ei
        obtain ⟨⟨b, ρb⟩, eb, ei⟩ := Option.bind_eq_some_iff.mp ei
        refine .inr ⟨w.go i Hi hl kp, fun H' => i + 1 + (m - 1) = its.length ∧ ∃ ρi fpi acc av rest, Ok X.K cD σ H' (wipeE ρi vs) fpi ∧ ¬ Ow (wipeE ρi vs) fpi D ∧ H' D = some (.lst av) ∧ Reps X.K H' acc av [] ∧ compM gx t e vs (its.drop (i + 1)) (wipeE ρi vs) = some (rest, ρ2) ∧ acc ++ rest = ys, fun H' q => ⟨m - 1, by omega, q⟩, fun x H' y => ?_⟩
        obtain ⟨sy, G, rg, _⟩ := w.yld i Hi x H' its[i] (List.getElem?_eq_getElem hl) kp y
        have nf := rg.nil pd
        subst nf
        have hi' : Ok X.K cD σ H' (wipeE ρi vs) fpi := hi.same sy
        have hDs : H' D = some (.lst av) := sy _ _ hDi
        -- this turn's context
        have self : Ok X.K (sub cD H' (wipeE ρi vs) fpi) (wipe σ vs) H' (wipeE ρi vs) fpi := (Ok.swap (ρ := ρi) (vs := vs) hi'.self (wipe_length σ vs) fun i hi => wipe_out hi)
        -- back to the names' own state
        have back : ∀ {σ2 : L2.St} {H3 : Hp} {ρ3 : Env} {fp3 : Nat → List Addr}, wipe σ2 vs = wipe σ vs → Ok X.K (sub cD H' (wipeE ρi vs) fpi) σ2 H3 ρ3 fp3 → Ok X.K cD σ H3 (wipeE ρ3 vs) fp3 ∧ ¬ Ow (wipeE ρ3 vs) fp3 D ∧ H3 D = some (.lst av) ∧ Reps X.K H3 acc av [] := fun {σ2 H3 ρ3 fp3} w2 h3 => by
          obtain ⟨w3, w4⟩ := wipe_eq w2
          have h4 : Ok X.K (sub cD H' (wipeE ρi vs) fpi) σ H3 (wipeE ρ3 vs) fp3 := Ok.swap (h3.wipes vs) w3.symm fun i hi => (w4 i hi).symm
          refine ⟨hi'.trans h4, fun ⟨j, n, d, q, hn, ha⟩ => ?_, h3.frm.keep _ _ hDs nD, (rep.same sy).frm h3.frm fun a z => by cases z⟩
          rcases ((h4.nd j n d q hn).2 D ha).1 with z | z
          · exact nD z
          · exact absurd (show H' D = none from z) (by rw [hDs]; exact fun q => by cases q)
        refine ⟨_, _, fpi, its[i], [], ρa, self, ⟨rg, List.nodup_nil, fun _ z => (by cases z), fun _ _ _ _ _ _ z => by cases z⟩, ea, fun σ2 H2 fp2 h2 w2 => ?_⟩
        have w2' : wipe σ2 vs = wipe σ vs := w2.trans (wipe_wipe σ vs vs fun v hv => hv)
        refine ⟨w2', _, ρa, fp2, b, ρb, h2, eb, fun H3 fp3 h3 => ?_⟩
        cases b with
        | true =>
          obtain ⟨⟨y1, ρy⟩, ey1, ei⟩ := Option.bind_eq_some_iff.mp ei
          split at ei
          · rename_i py1
            obtain ⟨⟨r1, ρr⟩, er1, ei⟩ := Option.bind_eq_some_iff.mp ei
            cases ei
            refine iteT ⟨_, ρb, fp3, y1, ρy, h3, ey1, fun v4 H4 fp4 F4 h4 x4 => ?_⟩
            have n4 : F4 = [] := x4.rep.nil py1
            subst n4
            obtain ⟨b1, b2, b3, b4⟩ := back w2' h4
            have hlen : av.length < sizeLine := by
              rw [rep.length]
              have : (acc ++ y1 :: r1).length ≤ sizeLine := by rw [ey]; exact hy
              rw [List.length_append, List.length_cons] at this
              omega
            have fr : Frm H4 (fun a => a = D) (upd H4 D (.lst (av ++ [v4]))) := ⟨fun a z => by subst z; rw [b3]; trivial, fun a o z n => by rw [upd_ne n]; exact z⟩
            have rr := (b4.frm fr fun a z => by cases z).append (Reps.one (x4.rep.frm fr fun a z => by cases z))
            exact ⟨av, b3, hlen, by omega, ρy, fp4, acc ++ [y1], av ++ [v4], r1, b1.aside hD (by rw [b3]; trivial) b2, b2, upd_same, rr, er1, by rw [List.append_assoc]; exact ey⟩
          · cases ei
        | false =>
          obtain ⟨b1, b2, b3, b4⟩ := back w2' h3
          exact iteF ⟨by omega, ρb, fp3, acc, av, rest, b1, b2, b3, b4, ei, ey⟩
      · cases ei
    · have hd : its.drop i = [] := List.drop_of_length_le (by omega)
      have hie : i = its.length := by omega
      rw [hd] at ei
      cases ei
      rw [List.append_nil] at ey
      subst ey
      refine .inl ⟨by rw [hie]; exact w.stop Hi kp, k _ Hi fpi [D] (h1.trans hi) ⟨⟨D, av, [], rfl, .inl hDi, rfl, rep⟩, List.nodup_cons.mpr ⟨(fun z => by cases z), List.nodup_nil⟩, fun a ha => ?_, fun j n d q hn a ha hj => ?_⟩⟩
      · rw [List.mem_singleton.mp ha]
        exact ⟨sub_ow h1 (.inr hD), by rw [hDi]; trivial, fun z => h1.there z hD⟩
      · rw [List.mem_singleton.mp ha] at hj
        exact nD ⟨j, n, d, q, hn, hj⟩
  · cases e0
theorem qm_nil : PTs X [] (tT X.K (tP' yYes)) := ⟨fun pins s σ H Q I ⟨c, ρ, fp, b, ρ', h, e, k⟩ => by
  cases e
  exact pts_nil.run pins s σ H Q I (k H fp h)⟩
theorem qm_one {q : Expr} {t : ET} (h : DT X q t) : PTs X [q] (tT X.K t) := pts_one h
theorem m_lc {scope : Scope} {own : List (Str × Nat)} {src : IM} {gx : GX} {t : ET} {e : EM} (hc : X.calm = true) (hN : X.N.Nodup) (hi : PI X tg iter (tIM X.K src)) (ok : BlkOk X.N X.env.scope scope own)
    (hg : ∀ (s : Shared) (H : Hp) (C : Addr) (cl : List (Str × Addr)) (fp : List Addr), PG (X.blk s H scope (compEnvC scope cl C X.env) fp) tg (tGM X.K (own.map (·.2)) gx)) (ht : ∀ (s : Shared) (H : Hp) (C : Addr) (cl : List (Str × Addr)) (fp : List Addr), PTs (X.blk s H scope (compEnvC scope cl C X.env) fp) ifs (tT X.K t))
    (he : ∀ (s : Shared) (H : Hp) (C : Addr) (cl : List (Str × Addr)) (fp : List Addr), PE (X.blk s H scope (compEnvC scope cl C X.env) fp) elt (tM X.K e)) (hs : ∀ x, foldedSetIterable iter X.env x = Pure.pure x := by intro _; rfl) :
    DM X (.ListComp elt [⟨tg, iter, ifs, 0⟩] scope pos) (mComp (own.map (·.2)) src gx t e) := (pe_lc hc hN hi ok hg ht he hs).imp (tLc_m)
end
end DL
namespace DL
open PySem PySem.Spec PyProof.Rows L2
/-! ### a name on the left, a turning expression on the right -/
def mOpV (o : D → D → Option D) (i : Nat) (m2 : EM) : EM := fun ρ => (xVar i ρ).bind fun _ => (m2 ρ).bind fun y => (xVar i y.2).bind fun x => (o x y.1).bind fun z => some (z, y.2)
def mIxV (i : Nat) (m2 : EM) : EM := fun ρ => (xVar i ρ).bind fun _ => (m2 ρ).bind fun y => (xVar i y.2).bind fun x => (ixD x y.1).bind fun z => if pure z = true then some (z, y.2) else none
section
variable {X : Cx} {a b e : Expr} {pos : Pos} {i k : Nat} {f g : EX} {m : EM}
theorem var_of {K : PySem.W.Frag} {c : Ct} {σ : L2.St} {H : Hp} {ρ : Env} {fp : Nat → List Addr} {i : Nat} {x : D} (h : Ok K c σ H ρ fp) (e : xVar i ρ = some x) : ∃ v, σ[i]? = some (some v) ∧ Rep K H x v (fp i) := by
  obtain ⟨fl, q⟩ := xVar_some e
  obtain ⟨v, hv, rv, _⟩ := h.rep i fl x q
  exact ⟨v, hv, rv⟩
theorem m_opV {op : Operator} {r : R2} {o : D → D → Option D} (hr : OpR X (binaryOp op) r) (ho : OpD X.K r o) (ha : PE X a (tVar i)) (hb : DM X b m) : DM X (.BinOp a op b pos) (mOpV o i m) := (pe_op hr ha hb).imp fun σ H Q ⟨c, ρ, fp, d, ρ', h, e, k⟩ => by
  obtain ⟨x0, e0, e⟩ := Option.bind_eq_some_iff.mp e
  obtain ⟨⟨y, ρ1⟩, e1, e⟩ := Option.bind_eq_some_iff.mp e
  obtain ⟨x, e2, e⟩ := Option.bind_eq_some_iff.mp e
  obtain ⟨z, e3, e⟩ := Option.bind_eq_some_iff.mp e
  cases e
  obtain ⟨v, hv, _⟩ := var_of h e0
  refine ⟨v, hv, c, ρ, fp, y, ρ1, h, e1, fun w H1 fp1 F1 h1 x1 => ?_⟩
  obtain ⟨v', hv', rv⟩ := var_of h1 e2
  rw [hv] at hv'
  cases hv'
  exact ho H1 x y v w _ F1 d _ rv x1.rep e3 fun u H2 F2 s2 r2 n2 => k u H2 fp1 F2 (h1.same s2) (h1.val r2 n2)
theorem m_ixV (hr : Room k X.A) (ha : PE X a (tVar i)) (hb : DM X b m) (hs : PlainIx b) : DM X (.Subscript a b pos) (mIxV i m) := (pe_ix (r_ix hr) ha hb hs).imp fun σ H Q ⟨c, ρ, fp, d, ρ', h, e, k⟩ => by
  obtain ⟨x0, e0, e⟩ := Option.bind_eq_some_iff.mp e
  obtain ⟨⟨y, ρ1⟩, e1, e⟩ := Option.bind_eq_some_iff.mp e
  obtain ⟨x, e2, e⟩ := Option.bind_eq_some_iff.mp e
  obtain ⟨z, e3, e⟩ := Option.bind_eq_some_iff.mp e
  split at e
  · rename_i pz
    cases e
    obtain ⟨v, hv, _⟩ := var_of h e0
    refine ⟨v, hv, c, ρ, fp, y, ρ1, h, e1, fun w H1 fp1 F1 h1 x1 => ?_⟩
    obtain ⟨v', hv', rv⟩ := var_of h1 e2
    rw [hv] at hv'
    cases hv'
    exact d_ix H1 x y v w _ F1 d _ rv x1.rep e3 fun u G r => by
      have n := r.nil pz
      subst n
      exact k u H1 fp1 [] h1 ⟨r, List.nodup_nil, fun _ z => (by cases z), fun _ _ _ _ _ _ z => by cases z⟩
  · cases e
/-! ### list * number -/
def oRep : D → D → Option D := fun x y => match x, y with
  | .lst xs, .int j => if pures xs = true then if xs.length * j.toNat ≤ sizeLine then if j.natAbs < 2 ^ 62 then some (.lst (List.replicate j.toNat xs).flatten) else none else none else none
  | _, _ => none
theorem Reps.rep {K : PySem.W.Frag} {H : Hp} {xs : List D} {vs : List V} (r : Reps K H xs vs []) : ∀ n : Nat, Reps K H (List.replicate n xs).flatten (List.replicate n vs).flatten []
  | 0 => ⟨rfl, rfl⟩
  | n + 1 => by
    rw [List.replicate_succ, List.replicate_succ, List.flatten_cons, List.flatten_cons]
    exact r.append (G := []) (Reps.rep r n)
theorem p_rep (ha : DP X a f) (hb : DB X b g) : DP X (.BinOp a .Mult b pos) (xOp oRep f g) := (pe_op op_rep ha hb).imp fun σ H Q ⟨ρ, d, s, e, k⟩ => by
  obtain ⟨x, y, e1, e2, e3⟩ := xOp_some e
  refine ⟨ρ, x, s, e1, fun v H1 F1 s1 r1 n1 => ⟨ρ, y, s.same s1, e2, fun w H2 F2 s2 r2 _ => ?_⟩⟩
  unfold oRep at e3
  split at e3
  · split at e3
    · rename_i hp
      split at e3
      · rename_i hz
        split at e3
        · rename_i hj
          cases e3
          have n1' := n1 rfl
          obtain ⟨l, us, G, rfl, hl, rfl, rr⟩ := lst_own (r1.same s2) fun a ha => Mut.keep (n1'.mu a ha) s2
          have z := rr.nil hp
          subst z
          refine ⟨l, _, us, rfl, r2.1, hl, by omega, by omega, by rw [rr.length]; exact hz, fun p hp => ?_⟩
          exact k _ _ [p] ((s1.trans s2).trans (same_upd hp)) ⟨p, _, [], rfl, .inl upd_same, rfl, (Reps.rep rr _).same (same_upd hp)⟩ fun _ => (new_lst hp).of (s1.trans s2)
        · cases e3
      · cases e3
    · cases e3
  · cases e3
/-! ### x[k] op= v -/
def GetDb (K : PySem.W.Frag) (r : V → V → Hp → VK → Prop) (g : D → D → Option D) : Prop := ∀ H d1 d2 v1 v2 F1 F2 d (Q : VK), Rep K H d1 v1 F1 → Rep K H d2 v2 F2 → g d1 d2 = some d → (∀ v G, Rep K H d v G → Q v H) → r v1 v2 H Q
def getLD : D → D → Option D := fun x y => match x, y with
  | .lst xs, .int i => if 0 ≤ i then xs[i.toNat]? else none
  | _, _ => none
def rGetL (K : PySem.W.Frag) : V → V → Hp → VK → Prop := fun x y H Q => ∃ p xs i z, x = .ref p ∧ y = .int i ∧ SqL K H p xs ∧ 0 ≤ i ∧ xs[i.toNat]? = some z ∧ Q z H
theorem get_list : PGet X (rGetL X.K) := by
  intro pins s σ H o j ov iv Q I ro rj h
  obtain ⟨p, xs, l, z, rfl, rfl, hq, h0, he, q⟩ := h
  cases ro
  obtain ⟨t, rfl⟩ := rj
  obtain ⟨its, r, pl, hz⟩ := I.list hq
  obtain ⟨w, ew, rw'⟩ := r.get he
  have hl := (List.getElem?_eq_some_iff.mp he).1
  have hn := line63
  exact wpAny_getItem_list pl.isList h0 (by omega) (by simpa using ew) ⟨z, H, I, rw', q⟩
theorem d_getL {K : PySem.W.Frag} : GetDb K (rGetL K) getLD := fun H d1 d2 v1 v2 F1 F2 d Q r1 r2 e k => by
  unfold getLD at e
  split at e
  · split at e
    · rename_i h0
      obtain ⟨a, vs, G, rfl, q, _, r⟩ := r1
      obtain ⟨v, G', h1, h2, _⟩ := r.get e
      exact ⟨a, vs, _, v, rfl, r2.1, .inl q, h0, h1, k v G' h2⟩
    · cases e
  · cases e
def sAugS (i : Nat) (ix : EX) (gt o : D → D → Option D) (e : EX) (st : D → D → D → Option D) : ES := fun ρ => (ownAt i ρ).bind fun z => (ix ρ).bind fun k => (gt z.2 k).bind fun x => if pure x = true then (e ρ).bind fun y => (o x y).bind fun w => if pure w = true then (st z.2 k w).bind fun d' => some (.nx (ρ.set i (some (z.1, d')))) else none else none
theorem s_augS {x ix : Expr} {fx fe : EX} {tget : V → V → Hp → VK → Prop} {gt o : D → D → Option D} {tip : TIp} {tset : TSet} {st : D → D → D → Option D} {op : Operator} {tpos : Pos} (hx : PE X x (tVar i)) (hi : DB X ix fx) (hg : PGet X tget) (hgd : GetDb X.K tget gt) (he : DB X e fe) (hp : PIp X op tip) (ho : IpD X.K tip o) (hs : PSet X tset) (hst : StD X.K tset st)
    (ha : ∀ ov iv new, augStore ix ov iv new = (do holding [new, ov, iv] (setItem ov iv new); release [new, ov, iv] []; Pure.pure .next) := by intros; rfl) : DS X (.AugAssign (.Subscript x ix tpos) op e pos) (sAugS i fx gt o fe st) := (ps_augS hx hi hg he hp hs ha).imp fun E σ H ⟨c, ρ, fp, out, h, e, k⟩ => by
  obtain ⟨⟨m, d0⟩, e0, e⟩ := Option.bind_eq_some_iff.mp e
  obtain ⟨kk, e1, e⟩ := Option.bind_eq_some_iff.mp e
  obtain ⟨xx, e2, e⟩ := Option.bind_eq_some_iff.mp e
  split at e
  · rename_i px
    obtain ⟨yy, e3, e⟩ := Option.bind_eq_some_iff.mp e
    obtain ⟨ww, e4, e⟩ := Option.bind_eq_some_iff.mp e
    split at e
    · rename_i pw
      obtain ⟨d2, e5, e⟩ := Option.bind_eq_some_iff.mp e
      cases e
      obtain ⟨q, hm⟩ := ownAt_some e0
      obtain ⟨u, hu, _, _⟩ := h.rep i m d0 q
      refine ⟨u, hu, ρ, kk, h.sees, e1, fun y H1 Gk s1 rk _ => ?_⟩
      have ok1 := h.same s1
      obtain ⟨u1, hu1, ru, _⟩ := ok1.rep i m d0 q
      rw [hu] at hu1
      cases hu1
      refine hgd H1 d0 kk u y _ Gk xx _ ru rk e2 fun v Gv rv => ⟨ρ, yy, ok1.sees, e3, fun w H2 Gw s2 rw2 _ => ?_⟩
      refine ho H2 xx yy v w Gv Gw ww _ (rv.same s2) rw2 e4 fun z H3 Gz s3 rz nz => ?_
      have nz0 := rz.nil pw
      subst nz0
      have ok3 := (ok1.same s2).same s3
      obtain ⟨u3, hu3, ru3, _⟩ := ok3.rep i m d0 q
      rw [hu] at hu3
      cases hu3
      obtain ⟨n1, n2⟩ := ok3.nd i m d0 q hm
      refine hst H3 d0 kk ww u y z (fp i) [] Gk d2 _ ru3 n1 (fun a ha => (n2 a ha).2.1) ((rk.same s2).same s3) rz List.nodup_nil (fun a ha => by cases ha) (fun a ha hg => by cases hg) e5 fun H' F1 fr r1 nd1 ow => ?_
      have x1 : Vals' X.K c H3 ρ fp [ww] [z] [] := ⟨Reps.one rz, List.nodup_nil, fun _ z => (by cases z), fun _ _ _ _ _ _ z => by cases z⟩
      obtain ⟨ok2, _⟩ := ok3.turnG (res := .non) (w := .non) (G1 := []) q hm hu x1 fr r1 nd1 ⟨rfl, rfl⟩ List.nodup_nil (fun _ _ z => by cases z) fun a ha => ha.elim (ow a) fun z => by cases z
      exact k σ H' _ ok2
    · cases e
  · cases e
end
end DL
namespace DL
open PySem PySem.Spec PyProof.Rows L2
/-! ### calls whose arguments turn something -/
def mCall (o : List D → Option D) (ms : EMs) : EM := fun ρ => (ms ρ).bind fun x => (o x.1).bind fun d => some (d, x.2)
section
variable {X : Cx} {x : Str} {po pos : Pos} {e : Expr} {es : List Expr} {ms : EMs} {id T : String}
theorem mCB_of {r : List V → Hp → VK → Prop} {o : List D → Option D} (ho : CallD X.K r o) (σ : L2.St) (H : Hp) (Q : VK) (h : tM X.K (mCall o ms) σ H Q) : tMs X.K ms σ H fun xs H1 => r xs H1 Q := by
  obtain ⟨c, ρ, fp, d, ρ', h, q, k⟩ := h
  obtain ⟨⟨ds, ρ1⟩, e1, q⟩ := Option.bind_eq_some_iff.mp q
  obtain ⟨d1, e2, q⟩ := Option.bind_eq_some_iff.mp q
  cases q
  exact ⟨c, ρ, fp, ds, ρ1, h, e1, fun vs H1 fp1 F1 h1 x1 => ho H1 ds vs F1 d Q x1.rep e2 fun v H2 F2 s2 r2 n2 => k v H2 fp1 F2 (h1.same s2) (h1.val r2 n2)⟩
theorem m_callTy {r : List V → Hp → VK → Prop} {o : List D → Option D} (hc : CallR X (.type T) r) (ho : CallD X.K r o) (hg : Gl X x) (hm : X.mg x = none) (hv : bootBuiltins x = some (.type T)) (ha : PA X (e :: es) (tMs X.K ms)) (hn : x ≠ "__name__" := by decide) (hdb : (x == ("__debug__" : Str)) = false := by decide)
    (he : starEach (e :: es) X.env = (false, eval e X.env) :: starEach es X.env := by rfl) (hpl : (backTo pos (starEach es X.env)).any (·.1) = false := by rfl) : DM X (.Call (.Name x po) (e :: es) [] pos) (mCall o ms) :=
  (pe_callTy hc hg hm hv ha hn hdb he hpl).imp (mCB_of ho)
theorem m_at {n k : Nat} {F : List D → Option D} {ps : List Str} (G : FnAt X.prog X.w X.K X.mg X.base k x ps (spP X.K n F)) (hr : Room k X.A) (hg : Gl X x) (ha : PA X (e :: es) (tMs X.K ms))
    (hn : ∀ ρ ds ρ', ms ρ = some (ds, ρ') → ds.length = n) (hdb : (x == ("__debug__" : Str)) = false := by decide) (he : starEach (e :: es) X.env = (false, eval e X.env) :: starEach es X.env := by rfl) (hpl : (backTo pos (starEach es X.env)).any (·.1) = false := by rfl) : DM X (.Call (.Name x po) (e :: es) [] pos) (mCall F ms) := by
  obtain ⟨fa, fd, hm, hk, hb, G⟩ := G
  exact (pe_call G hr hg hm hk hb .nil pass0 ha hdb he hpl).imp fun σ H Q ⟨c, ρ, fp, d, ρ', h, q, k⟩ => by
    obtain ⟨⟨ds, ρ1⟩, e1, q⟩ := Option.bind_eq_some_iff.mp q
    obtain ⟨d1, e2, q⟩ := Option.bind_eq_some_iff.mp q
    cases q
    refine ⟨c, ρ, fp, ds, ρ1, h, e1, fun vs H1 fp1 F1 h1 x1 => ⟨ds, F1, d, hn ρ ds ρ1 e1, ?_, e2, fun v H2 F2 s2 r2 n2 => k v H2 fp1 F2 (h1.same s2) (h1.val r2 n2)⟩⟩
    rw [List.append_nil]
    exact x1.rep
variable {tg iter elt : Expr} {ifs : List Expr}
end
/-- a comprehension in a comprehension -/
theorem look_rel {e : PySem.Env} : ∀ {names : List (Str × NameKind)} {x : Str}, (names.lookup x = some .cell ∨ names.lookup x = some .free) →
    ((names.map fun (n, k) => if (k == NameKind.free && e.scope.kind == .function && e.kindOf n == some .cell) then (n, NameKind.cell) else (n, k)).lookup x = some .cell ∨ (names.map fun (n, k) => if (k == NameKind.free && e.scope.kind == .function && e.kindOf n == some .cell) then (n, NameKind.cell) else (n, k)).lookup x = some .free)
  | [], _, h => by simp at h
  | (n, k) :: r, x, h => by
    have ih := look_rel (e := e) (names := r) (x := x)
    rw [List.map_cons]
    by_cases c : (k == NameKind.free && e.scope.kind == .function && e.kindOf n == some .cell) = true
    · simp only [c, if_true]
      cases hx : x == n with
      | true => exact .inl (by simp [List.lookup_cons, hx])
      | false =>
        simp only [List.lookup_cons, hx] at h ⊢
        exact ih h
    · simp only [c, if_false, Bool.false_eq_true]
      cases hx : x == n with
      | true =>
        simp only [List.lookup_cons, hx] at h ⊢
        exact h
      | false =>
        simp only [List.lookup_cons, hx] at h ⊢
        exact ih h
theorem blkOk_in {X : Cx} {s : Shared} {H : Hp} {C : Addr} {cl : List (Str × Addr)} {e : PySem.Env} {fp : List Addr} {sc scope : Scope} {own : List (Str × Nat)} {N : List Str} (hN : X.N = N) (h : blkC N sc scope own = true) : BlkOk (X.blk s H sc (compEnvC sc cl C e) fp).N (X.blk s H sc (compEnvC sc cl C e) fp).env.scope scope own := by
  subst hN
  have b := blkOk_by h
  exact ⟨b.kind, b.uniq, b.ix, fun y hy hf => look_rel (b.free y hy hf), b.own⟩
end DL
namespace DL
open PySem PySem.Spec L2
@[simp] theorem e_opV {i : Nat} {o : D → D → Option D} {e : EM} {s : Slt} {ρ : Env} : mOpV o i e (s :: ρ) = (xVar i (s :: ρ)).bind fun _ => (e (s :: ρ)).bind fun y => (xVar i y.2).bind fun x => (o x y.1).bind fun z => some (z, y.2) := (rfl)
@[simp] theorem e_ixV {i : Nat} {e : EM} {s : Slt} {ρ : Env} : mIxV i e (s :: ρ) = (xVar i (s :: ρ)).bind fun _ => (e (s :: ρ)).bind fun y => (xVar i y.2).bind fun x => (ixD x y.1).bind fun z => if pure z = true then some (z, y.2) else none := (rfl)
@[simp] theorem e_mcall {o : List D → Option D} {ms : EMs} {s : Slt} {ρ : Env} : mCall o ms (s :: ρ) = (ms (s :: ρ)).bind fun x => (o x.1).bind fun d => some (d, x.2) := (rfl)
@[simp] theorem e_mcomp {vs : List Nat} {src : IM} {gx : GX} {t : ET} {e : EM} {s : Slt} {ρ : Env} : mComp vs src gx t e (s :: ρ) = (src (s :: ρ)).bind fun x => (compM gx t e vs x.1 (wipeE x.2 vs)).bind fun r => if r.1.length ≤ sizeLine then some (.lst r.1, r.2) else none := (rfl)
@[simp] theorem e_augS {i : Nat} {ix e : EX} {gt o : D → D → Option D} {st : D → D → D → Option D} {s : Slt} {ρ : Env} : sAugS i ix gt o e st (s :: ρ) = (ownAt i (s :: ρ)).bind fun z => (ix (s :: ρ)).bind fun k => (gt z.2 k).bind fun x => if pure x = true then (e (s :: ρ)).bind fun y => (o x y).bind fun w => if pure w = true then (st z.2 k w).bind fun d' => some (.nx ((s :: ρ).set i (some (z.1, d')))) else none else none := (rfl)
@[simp] theorem e_par {i j : Nat} {ms : EMs} {s : Slt} {ρ : Env} : sPar i j ms (s :: ρ) = (ms (s :: ρ)).bind fun x => match x.1 with | [d, e] => (put i d x.2).bind fun ρ1 => (put j e ρ1).bind fun ρ2 => some (.nx ρ2) | _ => none := by
  unfold sPar
  rfl
/-! ### comprehensions that draw -/
theorem compM_filter {α : Type} {gx : GX} {t : ET} {e : EM} {vs : List Nat} (g f : α → D) (P : Env → Prop) : ∀ (l : List α) (ρ : Env), P ρ → (∀ a ∈ l, ∀ ρ, P ρ → pure (g a) = true ∧ ∃ ρ1 b ρ2, gx (g a) ρ = some ρ1 ∧ t ρ1 = some (b, ρ2) ∧ ((b = false ∧ P (wipeE ρ2 vs)) ∨ (b = true ∧ ∃ ρ3, e ρ2 = some (f a, ρ3) ∧ pure (f a) = true ∧ P (wipeE ρ3 vs)))) →
    ∃ (l' : List α) (ρ' : Env), l'.Sublist l ∧ compM gx t e vs (l.map g) ρ = some (l'.map f, ρ') ∧ P ρ'
  | [], ρ, h, _ => ⟨[], ρ, List.Sublist.slnil, rfl, h⟩
  | a :: l, ρ, h, k => by
    obtain ⟨pa, ρ1, b, ρ2, h1, h2, h3⟩ := k a (List.mem_cons_self ..) ρ h
    rcases h3 with ⟨rfl, h3⟩ | ⟨rfl, ρ3, h4, pf, h3⟩
    · obtain ⟨l', ρ', s, c, p⟩ := compM_filter g f P l _ h3 fun a ha => k a (List.mem_cons_of_mem _ ha)
      refine ⟨l', ρ', s.cons a, ?_, p⟩
      rw [List.map_cons, compM, if_pos pa, h1, Option.bind_some, h2, Option.bind_some]
      exact c
    · obtain ⟨l', ρ', s, c, p⟩ := compM_filter g f P l _ h3 fun a ha => k a (List.mem_cons_of_mem _ ha)
      refine ⟨a :: l', ρ', s.cons₂ a, ?_, p⟩
      rw [List.map_cons, compM, if_pos pa, h1, Option.bind_some, h2, Option.bind_some, if_pos rfl, h4, Option.bind_some, if_pos pf]
      show (compM gx t e vs (l.map g) (wipeE ρ3 vs)).bind _ = _
      rw [c]
      rfl
theorem enumF_map {α : Type} [Inhabited α] (g : α → D) (l : List α) : enumF 0 (l.map g) = (List.range l.length).map fun i : Nat => D.tup [.int (i : Int), g (l[i]?.getD default)] := by
  apply List.ext_getElem?
  intro i
  rw [enumF_at, List.getElem?_map, List.getElem?_map, Nat.zero_add]
  by_cases h : i < l.length
  · rw [List.getElem?_range h]
    simp only [Option.map_some]
    rw [List.getElem?_eq_getElem h]
    rfl
  · rw [List.getElem?_eq_none (by omega), List.getElem?_eq_none (by simpa using h)]
    rfl
/-! ### cells -/
abbrev Cell := Int × Int
def cellD (c : Cell) : D := .tup [.int c.1, .int c.2]
def inkD (cs : List Cell) : D := .tup (cs.map cellD)
def ltc (a b : Cell) : Prop := a.1 < b.1 ∨ (a.1 = b.1 ∧ a.2 < b.2)
instance (a b : Cell) : Decidable (ltc a b) := by unfold ltc; infer_instance
structure Good (cs : List Cell) : Prop where
  len : cs.length ≤ 400
  row : ∀ c ∈ cs, -60 ≤ c.1 ∧ c.1 ≤ 60
  col : ∀ c ∈ cs, -60 ≤ c.2 ∧ c.2 ≤ 60
  srt : cs.Pairwise ltc
theorem pure_cell {c : Cell} : pure (cellD c) = true := rfl
theorem pures_cells : ∀ cs : List Cell, pures (cs.map cellD) = true
  | [] => rfl
  | c :: cs => by
    rw [List.map_cons, pures, pures_cells cs]
    rfl
theorem py_cell (c : Cell) : py (cellD c) = .tuple [.int c.1, .int c.2] := by
  simp [cellD, py, pys]
theorem cmpOk_cell (a b : Cell) : cmpOk (py (cellD a)) (py (cellD b)) = true := by
  rw [py_cell, py_cell]
  simp [cmpOk, PySem.W.alike, PySem.W.alikeAll, PyData.depth, PyData.depthAll, PyData.canLay0, PyData.canLayAll0]
theorem lt_cell (a b : Cell) : PySem.W.dataLt (py (cellD a)) (py (cellD b)) = decide (ltc a b) := by
  rw [py_cell, py_cell, PySem.W.dataLt_ii]
  rfl
theorem le_cell (a b : Cell) : oLe (cellD a) (cellD b) = some (.bl (!decide (ltc b a))) := by
  show (if cmpOk (py (cellD a)) (py (cellD b)) = true then some (D.bl (!PySem.W.dataLt (py (cellD b)) (py (cellD a)))) else none) = _
  rw [cmpOk_cell, if_pos rfl, lt_cell]
theorem isIT_cells (cs : List Cell) : (cs.map cellD).all isIT = true := by
  rw [List.all_map]
  exact List.all_eq_true.mpr fun _ _ => rfl
namespace C
abbrev N_is_integer : List Str := ["value"]
def s_is_integer : ES := (sRet (mP (xAnd (xIsi ["int"] (xVar 0)) (xNot (xIsi ["bool"] (xVar 0))))))
def F_is_integer : List D → Option D := fnP N_is_integer s_is_integer
abbrev N_is_list : List Str := ["value", "least", "most"]
def s_is_list : ES := (sRet (mP (xAnd (xIsi ["tuple"] (xVar 0)) (xChain oLe oLe (xVar 1) (xCall lenD (xsCons (xVar 0) xsNil)) (xVar 2)))))
def F_is_list : List D → Option D := fnP N_is_list s_is_list
abbrev N_is_in : List Str := ["value", "least", "most"]
def s_is_in : ES := (sRet (mP (xAnd (xCall F_is_integer (xsCons (xVar 0) xsNil)) (xChain oLe oLe (xVar 1) (xVar 0) (xVar 2)))))
def F_is_in : List D → Option D := fnP N_is_in s_is_in
abbrev N_is_cell : List Str := ["value"]
def s_is_cell : ES := (sRet (mP (xAnd (xCall F_is_list (xsCons (xVar 0) (xsCons (xC (.int 2)) (xsCons (xC (.int 2)) xsNil)))) (xAnd (xCall F_is_in (xsCons (xOp ixD (xVar 0) (xC (.int 0))) (xsCons (xNeg (xC (.int 60))) (xsCons (xC (.int 60)) xsNil)))) (xCall F_is_in (xsCons (xOp ixD (xVar 0) (xC (.int 1))) (xsCons (xNeg (xC (.int 60))) (xsCons (xC (.int 60)) xsNil))))))))
def F_is_cell : List D → Option D := fnP N_is_cell s_is_cell
abbrev N_need_ink : List Str := ["value", "index", "cell"]
def s_need_ink : ES := (sSeq (sIf (tP' (yNot (xBool (xCall F_is_list (xsCons (xVar 0) (xsCons (xC (.int 0)) (xsCons (xC (.int 400)) xsNil))))))) sNever sNext)
  (sFor (iP (xEn (xPure (xVar 0)))) (gTupD 2 (gsCons (put 1) (gsCons (put 2) gsNil)))
  (sIf (tP' (yOr (yNot (xBool (xCall F_is_cell (xsCons (xVar 2) xsNil)))) (yAnd (xBool (xOp oGt (xVar 1) (xC (.int 0)))) (xBool (xOp oLe (xVar 2) (xOp ixD (xVar 0) (xOp oSub (xVar 1) (xC (.int 1))))))))) sNever sNext)))
def F_need_ink : List D → Option D := fnP N_need_ink s_need_ink
abbrev N_law_pick : List Str := ["_law_row", "_law_things"]
def s_law_pick : ES := (sRet (mIxV 1 (mCallR takenF 0 (msCons (mP (xCall lenD (xsCons (xVar 1) xsNil))) msNil))))
def F_law_pick : D → List D → Option (D × D) := fnR N_law_pick s_law_pick
abbrev N_law_framed : List Str := ["_law_row", "_law_high", "_law_wide", "_law_found", "_law_dense", "_law_line", "_law_column"]
def s_law_framed : ES := (sSeq (sAsg (mTup (msCons (mP (xLst xsNil)) (msCons (mCallR F_law_pick 0 (msCons (mP (xLst (xsCons (xC (.int 2)) (xsCons (xC (.int 2)) (xsCons (xC (.int 3)) (xsCons (xC (.int 4)) xsNil)))))) msNil)) msNil))) (gTupD 2 (gsCons (put 3) (gsCons (put 4) gsNil))))
  (sSeq (sFor (iP (xRng1 (xsCons (xVar 1) xsNil))) (put 5)
  (sAsg (mOpV oAdd 3 (mComp [6] (iP (xRng1 (xsCons (xVar 2) xsNil))) (put 6) (mBool (mOp oEq (mCallR takenF 0 (msCons (mP (xPure (xVar 4))) msNil)) (mP (xC (.int 0))))) (mP (xTup (xsCons (xPure (xVar 5)) (xsCons (xPure (xVar 6)) xsNil)))))) (put 3)))
  (sRet (mP (xCall tupleD (xsCons (xVar 3) xsNil))))))
def F_law_framed : D → List D → Option (D × D) := fnR N_law_framed s_law_framed
theorem is_integer_ok (v : Int) : F_is_integer [.int v] = some (.bl true) := by
  unfold F_is_integer s_is_integer
  simp [isiD, isTy, tyD]
theorem is_in_ok (v a b : Int) : F_is_in [.int v, .int a, .int b] = some (.bl (decide (a ≤ v) && decide (v ≤ b))) := by
  unfold F_is_in s_is_in
  simp [is_integer_ok]
  by_cases h1 : a ≤ v
  · simp [h1]
  · simp [h1]
theorem is_list_ok {xs : List D} (p : pures xs = true) (a b : Int) : F_is_list [.tup xs, .int a, .int b] = some (.bl (decide (a ≤ xs.length) && decide ((xs.length : Int) ≤ b))) := by
  unfold F_is_list s_is_list
  simp [e_arg_tup p, isiD, isTy, tyD]
  by_cases h1 : a ≤ xs.length
  · simp [h1]
  · simp [h1]
theorem is_cell_ok {c : Cell} (h1 : -60 ≤ c.1 ∧ c.1 ≤ 60) (h2 : -60 ≤ c.2 ∧ c.2 ≤ 60) : F_is_cell [cellD c] = some (.bl true) := by
  have hl : F_is_list [.tup [.int c.1, .int c.2], .int 2, .int 2] = some (.bl true) := by
    rw [is_list_ok rfl]
    rfl
  unfold F_is_cell s_is_cell cellD
  simp [e_arg_tup (show pures [D.int c.1, D.int c.2] = true from rfl), hl, v_at, is_in_ok, h1, h2]
theorem need_ink_ok {cs : List Cell} (h : Good cs) : F_need_ink [inkD cs] = some .non := by
  have p := pures_cells cs
  have hl : F_is_list [.tup (cs.map cellD), .int 0, .int 400] = some (.bl true) := by
    rw [is_list_ok p, List.length_map]
    have := h.len
    rw [decide_eq_true (show (0 : Int) ≤ (cs.length : Int) by omega), decide_eq_true (show (cs.length : Int) ≤ 400 by omega)]
    rfl
  obtain ⟨ρ', f1, f2⟩ := for_ok (gx := gTupD 2 (gsCons (put 1) (gsCons (put 2) gsNil))) (b := sIf (tP' (yOr (yNot (xBool (xCall F_is_cell (xsCons (xVar 2) xsNil)))) (yAnd (xBool (xOp oGt (xVar 1) (xC (.int 0)))) (xBool (xOp oLe (xVar 2) (xOp ixD (xVar 0) (xOp oSub (xVar 1) (xC (.int 1))))))))) sNever sNext) (fun i : Nat => D.tup [.int (i : Int), cellD (cs[i]?.getD default)]) (fun _ ρ => ∃ x y, isPin x = false ∧ isPin y = false ∧ ρ = [some (.own, .tup (cs.map cellD)), x, y]) (List.range cs.length) [some (.own, .tup (cs.map cellD)), none, none] ⟨none, none, rfl, rfl, rfl⟩ fun j a ρ e q => by
    obtain ⟨x, y, px, py, rfl⟩ := q
    have ha : a < cs.length := by
      have := List.mem_of_getElem? e
      exact List.mem_range.mp this
    have ea : cs[a]? = some cs[a] := List.getElem?_eq_getElem ha
    have m : cs[a] ∈ cs := List.getElem_mem ha
    refine ⟨by simp [cellD], [some (.own, .tup (cs.map cellD)), some (.own, .int a), some (.own, cellD cs[a])], [some (.own, .tup (cs.map cellD)), some (.own, .int a), some (.own, cellD cs[a])], ?_, .inl ?_, ⟨_, _, rfl, rfl, rfl⟩⟩
    · simp [-e_put, e_put', px, py, ea]
    · have c1 := is_cell_ok (h.row _ m) (h.col _ m)
      by_cases h0 : 0 < a
      · have h0' : (0 : Int) < (a : Int) := by omega
        have i1 : ((a : Int) - 1).toNat = a - 1 := by omega
        have e2 : cs[a - 1]? = some (cs[a - 1]'(by omega)) := List.getElem?_eq_getElem (by omega)
        have e1 : atI (cs.map cellD) ((a : Int) - 1) = some (cellD (cs[a - 1]'(by omega))) := by
          rw [v_at (by omega), i1, List.getElem?_map, e2]
          rfl
        have lt : ltc (cs[a - 1]'(by omega)) cs[a] := List.pairwise_iff_getElem.mp h.srt (a - 1) a (by omega) ha (by omega)
        simp [c1, h0', e1, le_cell, lt, h0]
      · have h0' : ¬ (0 : Int) < (a : Int) := by omega
        simp [c1, h0', h0]
  unfold F_need_ink s_need_ink inkD
  simp [e_arg_tup p, hl, p, enumF_map, f1]
variable {ns : List Int}
theorem pick_ok {d : D} {xs : List D} (h : Row ns d) (h0 : 0 < xs.length) (h1 : xs.length < 1000000) (p : pures xs = true) : ∃ (j : Nat) (hj : j < xs.length) (d' : D), F_law_pick d [.lst xs] = some (xs[j], d') ∧ Row ns d' := by
  obtain ⟨v, d', e, a, b, r⟩ := taken_ok (m := (xs.length : Int)) h (by omega)
  obtain ⟨j, rfl⟩ := Int.eq_ofNat_of_zero_le a
  have hj : j < xs.length := by omega
  have ej : xs[j]? = some xs[j] := List.getElem?_eq_getElem hj
  have pj : pure xs[j] = true := pures_mem p (List.getElem_mem hj)
  refine ⟨j, hj, d', ?_, r⟩
  unfold F_law_pick s_law_pick
  have e' : atI xs (j : Int) = some xs[j] := atI_of.trans ej
  simp [e, e', pj]
end C
end DL
namespace DL
open PySem PySem.Spec L2
theorem setL_ok {xs : List D} {w : D} {a : Nat} (p : pures xs = true) (q : pure w = true) (h : a < xs.length) : setL (.lst xs) (.int (a : Int)) w = some (.lst (xs.set a w)) := by
  show (if pures xs = true then if pure w = true then (ixN xs.length (a : Int)).map fun j => D.lst (xs.set j w) else none else none) = _
  unfold ixN
  rw [if_pos p, if_pos q, if_pos (by omega), if_pos (by omega)]
  rfl
theorem getLD_ok {xs : List D} {a : Nat} {x : D} (h : xs[a]? = some x) : getLD (.lst xs) (.int (a : Int)) = some x := by
  show (if (0 : Int) ≤ (a : Int) then xs[((a : Int)).toNat]? else none) = _
  rw [if_pos (by omega), Int.toNat_natCast]
  exact h
theorem rep_ok {xs : List D} {j : Nat} (p : pures xs = true) (h : xs.length * j ≤ sizeLine) (h2 : j < 1000000000) : oRep (.lst xs) (.int (j : Int)) = some (.lst (List.replicate j xs).flatten) := by
  show (if pures xs = true then if xs.length * ((j : Int)).toNat ≤ sizeLine then if ((j : Int)).natAbs < 2 ^ 62 then some (D.lst (List.replicate ((j : Int)).toNat xs).flatten) else none else none else none) = _
  rw [Int.toNat_natCast, if_pos p, if_pos h, if_pos (show ((j : Int)).natAbs < 2 ^ 62 by omega)]
namespace C
variable {ns : List Int}
/-- cells of the frame's lines above i -/
structure Framed (cs : List Cell) (i w : Nat) : Prop where
  len : cs.length ≤ i * w
  row : ∀ c ∈ cs, 0 ≤ c.1 ∧ c.1 < (i : Int)
  col : ∀ c ∈ cs, 0 ≤ c.2 ∧ c.2 < (w : Int)
  srt : cs.Pairwise ltc
theorem Framed.good {cs : List Cell} {i w : Nat} (h : Framed cs i w) (h1 : i * w ≤ 400) (h2 : i ≤ 61) (h3 : w ≤ 61) : Good cs := by
  have hl := h.len
  exact ⟨by omega, fun c hc => by have := h.row c hc; omega, fun c hc => by have := h.col c hc; omega, h.srt⟩
theorem Framed.more {cs : List Cell} {i w : Nat} {l : List Nat} (h : Framed cs i w) (s : l.Sublist (List.range w)) : Framed (cs ++ l.map fun k : Nat => (((i : Nat) : Int), ((k : Nat) : Int))) (i + 1) w := by
  have hl := h.len
  have sl := s.length_le
  rw [List.length_range] at sl
  refine ⟨?_, fun c hc => ?_, fun c hc => ?_, List.pairwise_append.mpr ⟨h.srt, ?_, fun a ha b hb => ?_⟩⟩
  · rw [List.length_append, List.length_map, Nat.add_mul, Nat.one_mul]
    omega
  · rcases List.mem_append.mp hc with hc | hc
    · have := h.row c hc
      omega
    · obtain ⟨k, _, rfl⟩ := List.mem_map.mp hc
      show 0 ≤ (i : Int) ∧ (i : Int) < ((i + 1 : Nat) : Int)
      omega
  · rcases List.mem_append.mp hc with hc | hc
    · exact h.col c hc
    · obtain ⟨k, hk, rfl⟩ := List.mem_map.mp hc
      have := List.mem_range.mp (s.subset hk)
      show 0 ≤ (k : Int) ∧ (k : Int) < (w : Int)
      omega
  · rw [List.pairwise_map]
    refine (List.pairwise_lt_range.sublist s).imp fun {a b} hab => .inr ⟨rfl, ?_⟩
    show (a : Int) < (b : Int)
    omega
  · obtain ⟨k, _, rfl⟩ := List.mem_map.mp hb
    have := h.row a ha
    exact .inl this.2
theorem framed_ok {d : D} {i w : Nat} (h : Row ns d) (h1 : i ≤ 60) (h2 : w ≤ 60) : ∃ (cs : List Cell) (d' : D), F_law_framed d [.int i, .int w] = some (inkD cs, d') ∧ Framed cs i w ∧ Row ns d' := by
  obtain ⟨j, hj, d1, e1, r1⟩ := pick_ok (xs := [.int 2, .int 2, .int 3, .int 4]) h (by decide) (by decide) rfl
  obtain ⟨m, em, b1, b2⟩ : ∃ m : Int, [D.int 2, .int 2, .int 3, .int 4][j] = .int m ∧ 2 ≤ m ∧ m ≤ 4 := by
    have hj' : j < 4 := hj
    match j, hj' with
    | 0, _ => exact ⟨2, rfl, by omega, by omega⟩
    | 1, _ => exact ⟨2, rfl, by omega, by omega⟩
    | 2, _ => exact ⟨3, rfl, by omega, by omega⟩
    | 3, _ => exact ⟨4, rfl, by omega, by omega⟩
  rw [em] at e1
  obtain ⟨ρ', f1, d', cs, x5, x6, p5, p6, r', fr, f2⟩ := for_ok (gx := put 5) (b := sAsg (mOpV oAdd 3 (mComp [6] (iP (xRng1 (xsCons (xVar 2) xsNil))) (put 6) (mBool (mOp oEq (mCallR takenF 0 (msCons (mP (xPure (xVar 4))) msNil)) (mP (xC (.int 0))))) (mP (xTup (xsCons (xPure (xVar 5)) (xsCons (xPure (xVar 6)) xsNil)))))) (put 3)) (fun k : Nat => D.int (k : Int))
    (fun k ρ => ∃ (d : D) (cs : List Cell) (x5 x6 : Slt), isPin x5 = false ∧ isPin x6 = false ∧ Row ns d ∧ Framed cs k w ∧ ρ = [some (.pin, d), some (.own, .int i), some (.own, .int w), some (.own, .lst (cs.map cellD)), some (.own, .int m), x5, x6]) (List.range i) [some (.pin, d1), some (.own, .int i), some (.own, .int w), some (.own, .lst []), some (.own, .int m), none, none]
    ⟨d1, [], none, none, rfl, rfl, r1, ⟨Nat.zero_le _, (fun _ h => by cases h), (fun _ h => by cases h), .nil⟩, rfl⟩ fun k a ρ e q => by
    obtain ⟨d, cs, x5, x6, p5, p6, r, fr, rfl⟩ := q
    have hk : k < i := by
      have := (List.getElem?_eq_some_iff.mp e).1
      simpa using this
    rw [List.getElem?_range hk] at e
    cases e
    obtain ⟨l, ρ2, s, c, d2, r2, e2⟩ := compM_filter (gx := put 6) (t := mBool (mOp oEq (mCallR takenF 0 (msCons (mP (xPure (xVar 4))) msNil)) (mP (xC (.int 0))))) (e := mP (xTup (xsCons (xPure (xVar 5)) (xsCons (xPure (xVar 6)) xsNil)))) (vs := [6]) (fun c : Nat => D.int (c : Int)) (fun c : Nat => cellD ((k : Int), (c : Int)))
      (fun ρ => ∃ d : D, Row ns d ∧ ρ = [some (.pin, d), some (.own, .int i), some (.own, .int w), some (.own, .lst (cs.map cellD)), some (.own, .int m), some (.own, .int k), none]) (List.range w) [some (.pin, d), some (.own, .int i), some (.own, .int w), some (.own, .lst (cs.map cellD)), some (.own, .int m), some (.own, .int k), none] ⟨d, r, rfl⟩ fun c hc ρ q => by
      obtain ⟨d, r, rfl⟩ := q
      obtain ⟨v, d', e, a, b, r'⟩ := taken_ok (m := m) r (by omega)
      refine ⟨rfl, [some (.pin, d), some (.own, .int i), some (.own, .int w), some (.own, .lst (cs.map cellD)), some (.own, .int m), some (.own, .int k), some (.own, .int c)], decide (v = 0), [some (.pin, d'), some (.own, .int i), some (.own, .int w), some (.own, .lst (cs.map cellD)), some (.own, .int m), some (.own, .int k), some (.own, .int c)], by simp, by simp [e], ?_⟩
      by_cases hv : v = 0
      · refine .inr ⟨decide_eq_true hv, [some (.pin, d'), some (.own, .int i), some (.own, .int w), some (.own, .lst (cs.map cellD)), some (.own, .int m), some (.own, .int k), some (.own, .int c)], ?_, rfl, d', r', by simp⟩
        simp (disch := omega) [if_size, cellD]
      · exact .inl ⟨decide_eq_false hv, d', r', by simp⟩
    subst e2
    have fr' := fr.more s
    have sl := s.length_le
    rw [List.length_range] at sl
    have hl := fr.len
    have hkw : k * w ≤ 60 * 60 := Nat.mul_le_mul (by omega) h2
    have lz : l.length ≤ sizeLine := by rw [size_eq]; omega
    have lz2 : cs.length + l.length ≤ sizeLine := by rw [size_eq]; omega
    have pl : pures (l.map fun c : Nat => cellD ((k : Int), (c : Int))) = true := by
      have := pures_cells (l.map fun c : Nat => ((k : Int), (c : Int)))
      rw [List.map_map] at this
      exact this
    have ea : oAdd (.lst (cs.map cellD)) (.lst (l.map fun c : Nat => cellD ((k : Int), (c : Int)))) = some (.lst ((cs ++ l.map fun c : Nat => ((k : Int), (c : Int))).map cellD)) := by
      show (if _ then _ else _) = _
      rw [List.length_map, List.length_map, if_pos lz2, pures_cells, pl, if_pos rfl, if_pos rfl, List.map_append, List.map_map]
      rfl
    rw [show (List.range w).map (fun c : Nat => D.int (c : Int)) = rng 0 (w : Int) from (rng_len w).symm] at c
    refine ⟨rfl, [some (.pin, d), some (.own, .int i), some (.own, .int w), some (.own, .lst (cs.map cellD)), some (.own, .int m), some (.own, .int k), x6], _, by simp [-e_put, e_put', p5], .inl ?_, d2, _, some (.own, .int k), none, rfl, rfl, r2, fr', rfl⟩
    simp (disch := omega) [v_rng1, c, lz, ea]
  rw [List.length_range] at fr
  subst f2
  have f0 : (List.range i).map (fun k : Nat => D.int (k : Int)) = rng 0 (i : Int) := (rng_len i).symm
  rw [f0] at f1
  refine ⟨cs, d', ?_, fr, r'⟩
  have pc := pures_cells cs
  unfold F_law_framed s_law_framed inkD
  simp (disch := omega) [if_size, e1, v_rng1, f1, tupleD, pc]
end C
/-! ### a law that draws and looks some turns long -/
def calm (t : Env) : Bool := t.all fun x => !isPin x
/-- one turn: the row stays in order, the names behind are anything of one's own -/
def Turn (m : Nat) (turn : ES) : Prop := ∀ (ns : List Int) (row : D) (a : Int) (t : Env), Row ns row → t.length = m → calm t = true →
  ∃ (row' : D) (t' : Env), turn (some (.own, .frz (ns.map D.int)) :: some (.own, row) :: some (.own, .int a) :: t) = some (.nx (some (.own, .frz (ns.map D.int)) :: some (.own, row') :: some (.own, .int a) :: t')) ∧ Row ns row' ∧ t'.length = m ∧ calm t' = true
def lawS (c n : Int) (turn : ES) : ES := sSeq (sAsg (mP (xLst (xsCons (xPure (xVar 0)) (xsCons (xC (.int 0)) (xsCons (xC (.int c)) (xsCons (xC (.int 0)) xsNil)))))) (put 1)) (sSeq (sFor (iP (xRng1 (xsCons (xC (.int n)) xsNil))) (put 2) turn) (sRet (mP (xC (.bl true)))))
end DL
namespace DL
open PySem PySem.Spec PyProof.Rows L2
/-! ### dicts whose keys are tuples -/
section
variable {X : Cx} {pos : Pos} {k : Nat}
end
def putKs {κ : Type} [DecidableEq κ] (ks : List κ) (q : κ) : List κ := if q ∈ ks then ks else ks ++ [q]
def putVs {κ α : Type} [DecidableEq κ] (ks : List κ) (xs : List α) (q : κ) (w : α) : List α := if q ∈ ks then List.zipWith (fun k x => if k = q then w else x) ks xs else xs ++ [w]
theorem zip_put {K : PySem.W.Frag} {H : Hp} {κ : Type} [DecidableEq κ] {q : κ} {w : D} {v : V} (rw' : Rep K H w v []) : ∀ {ks : List κ} {xs : List D} {vs : List V}, ks.length = xs.length → Reps K H xs vs [] → Reps K H (List.zipWith (fun k x => if k = q then w else x) ks xs) (List.zipWith (fun k x => if k = q then v else x) ks vs) []
  | [], [], vs, _, r => by
    rw [r.1]
    exact ⟨rfl, rfl⟩
  | k :: ks, x :: xs, vs, h, r => by
    obtain ⟨u, ur, F1, F2, rfl, z, r1, r2⟩ := r
    obtain ⟨rfl, rfl⟩ := List.append_eq_nil_iff.mp z.symm
    rw [List.zipWith_cons_cons, List.zipWith_cons_cons]
    refine ⟨_, _, [], [], rfl, rfl, ?_, zip_put rw' (by simpa using h) r2⟩
    by_cases e : k = q
    · rw [if_pos e, if_pos e]
      exact rw'
    · rw [if_neg e, if_neg e]
      exact r1
theorem Reps.put {K : PySem.W.Frag} {H : Hp} {κ : Type} [DecidableEq κ] {q : κ} {w : D} {v : V} {ks : List κ} {xs : List D} {vs : List V} (rw' : Rep K H w v []) (h : ks.length = xs.length) (r : Reps K H xs vs []) : Reps K H (putVs ks xs q w) (putVs ks vs q v) [] := by
  unfold putVs
  by_cases e : q ∈ ks
  · rw [if_pos e, if_pos e]
    exact zip_put rw' h r
  · rw [if_neg e, if_neg e]
    exact r.append (G := []) (Reps.one rw')
/-- a plain value is stored at a tuple of numbers and texts -/
def setT : D → D → D → Option D := fun d k w => match d with
  | .dT ks xs => (toKeyT k).bind fun q => if pures xs = true then if pure w = true then if ks.length < sizeLine then some (.dT (putKs ks q) (putVs ks xs q w)) else none else none else none
  | _ => none
/-! ### in -/
def inOk (ys : List D) (x : D) : Bool := PyData.plainAll (pys ys) && (py x).plain && PyData.canLayAll0 (pys ys) && (py x).canLay0 && decide (PyData.depthAll (pys ys) ≤ 60)
def inSeq (x : D) (ys : List D) : Option Bool := if inOk ys x = true then some (ys.any fun y => eqv y x) else none
def inD (x c : D) : Option Bool := match c with
  | .dK _ _ => (getD c x).map Option.isSome
  | .dT _ _ => (getD c x).map Option.isSome
  | .lst ys => inSeq x ys
  | .frz ys => inSeq x ys
  | .tup ys => inSeq x ys
  | .ctp ys => inSeq x ys
  | _ => none
def oIn : D → D → Option D := fun x c => (inD x c).map .bl
def oNin : D → D → Option D := fun x c => (inD x c).map fun b => .bl (!b)
def rInA (K : PySem.W.Frag) (f : Bool → Bool) : R2 := fun x y H Q => (∃ a o, y = .ref a ∧ DGet H a x o ∧ Q (.bl (f o.isSome)) H) ∨
  ∃ d ds, Dp K H x d ∧ (Dp K H y (.list ds) ∨ Dp K H y (.tuple ds)) ∧ PyData.plainAll ds = true ∧ d.plain = true ∧ PyData.depthAll ds ≤ 60 ∧ Q (.bl (f (ds.any fun z => PyData.eqv z d))) H
section
variable {X : Cx} {k : Nat}
theorem r_in (hr : Room k X.A) : OpR X (compareOp .In) (rInA X.K id) := by
  intro pins s σ H x y v u Q I rx ry h
  have hu := hr.units
  rcases h with ⟨a, o, rfl, g, q⟩ | ⟨d, ds, hd, he, h1, h2, h3, q⟩
  · obtain rfl : u = Value.ref a := ry
    exact d_in (hu_of hr) I g rx fun s' I' => ⟨.bl o.isSome, H, I', rfl, q⟩
  · obtain ⟨as, r1⟩ := Dp.reads I d x v hd rx
    have hm : min (PyData.depthAll ds) d.depth ≤ PyData.depthAll ds := Nat.min_le_left _ _
    rcases he with he | he
    · obtain ⟨bs, r2⟩ := Dp.reads I _ y u he ry
      exact SeqAt.in_list_data r2 r1 h1 h2 (by omega) ⟨.bl _, H, I, rfl, q⟩
    · obtain ⟨bs, r2⟩ := Dp.reads I _ y u he ry
      exact SeqAt.in_tuple_data r2 r1 h1 h2 (by omega) ⟨.bl _, H, I, rfl, q⟩
theorem r_nin (hr : Room k X.A) : OpR X (compareOp .NotIn) (rInA X.K not) := by
  intro pins s σ H x y v u Q I rx ry h
  have hu := hr.units
  rcases h with ⟨a, o, rfl, g, q⟩ | ⟨d, ds, hd, he, h1, h2, h3, q⟩
  · obtain rfl : u = Value.ref a := ry
    exact d_notIn (hu_of hr) I g rx fun s' I' => ⟨.bl (!o.isSome), H, I', rfl, q⟩
  · obtain ⟨as, r1⟩ := Dp.reads I d x v hd rx
    have hm : min (PyData.depthAll ds) d.depth ≤ PyData.depthAll ds := Nat.min_le_left _ _
    rcases he with he | he
    · obtain ⟨bs, r2⟩ := Dp.reads I _ y u he ry
      exact SeqAt.notIn_list_data r2 r1 h1 h2 (by omega) ⟨.bl _, H, I, rfl, q⟩
    · obtain ⟨bs, r2⟩ := Dp.reads I _ y u he ry
      exact SeqAt.notIn_tuple_data r2 r1 h1 h2 (by omega) ⟨.bl _, H, I, rfl, q⟩
end
theorem in_any {K : PySem.W.Frag} {f : Bool → Bool} {H : Hp} {x c : D} {v w : V} {F G : List Addr} {b : Bool} {Q : VK} (r1 : Rep K H x v F) (r2 : Rep K H c w G) (e : inD x c = some b) (k : Q (.bl (f b)) H) : rInA K f v w H Q := by
  have dic : ∀ {o : Option D}, getD c x = some o → o.isSome = b → rInA K f v w H Q := fun {o} e1 e2 => by
    obtain ⟨a, rfl, h1, h2⟩ := getD_rep r2 r1 e1
    cases o with
    | none => exact .inl ⟨a, none, rfl, h2 rfl, by subst e2; exact k⟩
    | some z =>
      obtain ⟨u, G', g1, _, _⟩ := h1 z rfl
      exact .inl ⟨a, some u, rfl, g1, by subst e2; exact k⟩
  have sq : ∀ {ys : List D} {vs : List V} {G : List Addr}, Reps K H ys vs G → inSeq x ys = some b → ((∀ ds, DpAll K H vs ds → Dp K H w (.list ds)) ∨ (∀ ds, DpAll K H vs ds → Dp K H w (.tuple ds))) → rInA K f v w H Q := fun {ys vs G} rr es mk => by
    unfold inSeq at es
    split at es
    · rename_i ho
      cases es
      unfold inOk at ho
      simp only [Bool.and_eq_true, decide_eq_true_eq] at ho
      obtain ⟨⟨⟨⟨o1, o2⟩, o3⟩, o4⟩, o5⟩ := ho
      have dd := Reps.dp o3 rr
      have ee : (pys ys).any (fun z => PyData.eqv z (py x)) = ys.any fun y => eqv y x := by
        rw [pys_map, List.any_map]
        rfl
      refine .inr ⟨py x, pys ys, r1.dp o4, mk.imp (fun m => m _ dd) (fun m => m _ dd), o1, o2, o5, ?_⟩
      rw [ee]
      exact k
    · cases es
  unfold inD at e
  split at e
  · obtain ⟨o, e1, e2⟩ := Option.map_eq_some_iff.mp e
    exact dic e1 e2
  · obtain ⟨o, e1, e2⟩ := Option.map_eq_some_iff.mp e
    exact dic e1 e2
  · obtain ⟨a, vs, G', rfl, q, _, rr⟩ := r2
    exact sq rr e (.inl fun ds dd => .lst (.inl q) dd)
  · obtain ⟨a, vs, rfl, q, rr⟩ := r2
    exact sq rr e (.inl fun ds dd => .lst q.sq dd)
  · obtain ⟨a, vs, rfl, q, rr⟩ := r2
    exact sq rr e (.inr fun ds dd => .tup (.of q) dd)
  · obtain ⟨a, vs, rfl, q, rr⟩ := r2
    exact sq rr e (.inr fun ds dd => .tup q.sq dd)
  · cases e
theorem d_in' {K : PySem.W.Frag} : OpD K (rInA K id) oIn := fun H d1 d2 v1 v2 F1 F2 d Q r1 r2 e k => by
  obtain ⟨b, e1, rfl⟩ := Option.map_eq_some_iff.mp e
  exact in_any r1 r2 e1 (k _ H [] (Same.refl H) ⟨rfl, rfl⟩ New.nil)
theorem d_nin' {K : PySem.W.Frag} : OpD K (rInA K not) oNin := fun H d1 d2 v1 v2 F1 F2 d Q r1 r2 e k => by
  obtain ⟨b, e1, rfl⟩ := Option.map_eq_some_iff.mp e
  exact in_any r1 r2 e1 (k _ H [] (Same.refl H) ⟨rfl, rfl⟩ New.nil)
end DL
namespace DL
open PySem PySem.Spec PyProof.Rows L2
/-! ### a dict's keys, as a list and sorted -/
def tupK (k : List Key) : D := .tup (k.map keyD)
theorem rep_key {K : PySem.W.Frag} {H : Hp} : ∀ k : Key, Rep K H (keyD k) (kV k) []
  | .inl i => ⟨rfl, rfl⟩
  | .inr x => ⟨rfl, rfl⟩
theorem reps_keys {K : PySem.W.Frag} {H : Hp} : ∀ k : List Key, Reps K H (k.map keyD) (k.map kV) []
  | [] => ⟨rfl, rfl⟩
  | k :: ks => ⟨_, _, [], [], rfl, rfl, rep_key k, reps_keys ks⟩
/-- the key tuples' addresses -/
abbrev KeysAt (H : Hp) (ks : List (List Key)) (bs : List Addr) : Prop := Paired (fun k b => H b = some (.tup (k.map kV))) ks bs
theorem reps_tupK {K : PySem.W.Frag} {H : Hp} {ks : List (List Key)} {bs : List Addr} (p : KeysAt H ks bs) : Reps K H (ks.map tupK) (bs.map V.ref) [] := by
  induction p with
  | nil => exact ⟨rfl, rfl⟩
  | cons h t ih => exact ⟨_, _, [], [], rfl, rfl, ⟨_, _, rfl, h, reps_keys _⟩, ih⟩
theorem keysAt_of {H : Hp} {kvs : List (List Key × V)} {bs : List Addr} (p : IsKeys H kvs bs) : KeysAt H (kvs.map Prod.fst) bs := by
  unfold IsKeys at p
  induction p with
  | nil => exact .nil
  | cons h t ih => exact .cons h ih
theorem fst_zip {κ : Type} {ks : List κ} {vs : List V} (h : ks.length = vs.length) : (ks.zip vs).map Prod.fst = ks := List.map_fst_zip (by omega)
def listA : List D → Option D := fun ds => match ds with
  | [.dT ks xs] => some (.lst (ks.map tupK))
  | ds => listD ds
theorem c_listA {X : Cx} (hc : X.calm = true) : CallR X (.type "list") (fun xs H Q => rListOf X.K xs H Q ∨ ∃ d kvs, xs = [V.ref d] ∧ Rd H d (.dT kvs) ∧ ∀ p bs, H p = none → IsKeys H kvs bs → Q (.ref p) (upd H p (.lst (bs.map V.ref)))) := call_list_of.or (call_list_dT hc)
theorem d_listA {K : PySem.W.Frag} : CallD K (fun xs H Q => rListOf K xs H Q ∨ ∃ d kvs, xs = [V.ref d] ∧ Rd H d (.dT kvs) ∧ ∀ p bs, H p = none → IsKeys H kvs bs → Q (.ref p) (upd H p (.lst (bs.map V.ref)))) listA := fun H ds vs F d Q r e k => by
  unfold listA at e
  split at e
  · rename_i ks xs
    cases e
    obtain ⟨v, rfl, a, us, G, rfl, q, hl, _, rr⟩ := reps_one r
    have hl2 : ks.length = us.length := by rw [rr.length]; exact hl
    refine .inr ⟨a, _, rfl, q, fun p bs hp ik => ?_⟩
    have ka := keysAt_of ik
    rw [fst_zip hl2] at ka
    exact k _ _ [p] (same_upd hp) ⟨p, _, [], rfl, .inl upd_same, rfl, (reps_tupK ka).same (same_upd hp)⟩ (new_lst hp)
  · exact .inl (d_list H ds vs F d Q r e k)
/-! sorted(d) -/
def pyT (k : List Key) : PyData := py (tupK k)
theorem paired_each {H : Hp} {ks : List (List Key)} {bs : List Addr} (p : KeysAt H ks bs) : PySem.W.EachIs (fun u (k : List Key) => ∃ b, u = Value.ref b ∧ H b = some (.tup (k.map kV))) (bs.map Value.ref) ks := by
  induction p with
  | nil => exact .nil
  | cons h t ih => exact .cons ⟨_, rfl, h⟩ ih
theorem each_paired {H : Hp} : ∀ {us : List Value} {ks : List (List Key)}, PySem.W.EachIs (fun u (k : List Key) => ∃ b, u = Value.ref b ∧ H b = some (.tup (k.map kV))) us ks → ∃ bs, us = bs.map Value.ref ∧ KeysAt H ks bs
  | _, _, .nil => ⟨[], rfl, .nil⟩
  | _, _, .cons ⟨b, e, h⟩ t => by
    obtain ⟨bs, rfl, p⟩ := each_paired t
    exact ⟨b :: bs, by rw [e]; rfl, .cons h p⟩
def rSortT : List V → Hp → VK → Prop := fun vs H Q => ∃ (a : Addr) (kvs : List (List Key × V)), vs = [.ref a] ∧ Rd H a (.dT kvs) ∧ sortOk ((kvs.map Prod.fst).map tupK) = true ∧
  ∀ p bs, H p = none → KeysAt H ((kvs.map Prod.fst).mergeSort (PySem.W.dataLe false pyT)) bs → Q (.ref p) (upd H p (.lst (bs.map V.ref)))
theorem reads_key {h : Heap} {v : Value} {as : List Addr} : ∀ k : Key, Reads h v (py (keyD k)) as → as = []
  | .inl i, r => by cases r; rfl
  | .inr x, r => by cases r; rfl
theorem reads_keys {h : Heap} : ∀ {k : List Key} {vs : List Value} {as : List Addr}, ReadsAll h vs (pys (k.map keyD)) as → as = []
  | [], _, _, r => by cases r; rfl
  | k :: ks, _, _, r => by
    rw [List.map_cons, pys] at r
    cases r with
    | cons r1 r2 => rw [reads_key k r1, reads_keys r2]; rfl
theorem reads_tup {h : Heap} {k : List Key} {v : Value} {as : List Addr} (r : Reads h v (pyT k) as) : as = [] := by
  have r' : Reads h v (.tuple (pys (k.map keyD))) as := r
  cases r' with
  | tuple _ _ _ q => exact reads_keys q
section
variable {X : Cx} {k : Nat}
theorem sorted_src {prog : Program} {w : World} {A : Around} {E : Value → Shared → Prop} {s : Shared} {T : String} {r d : Addr} {n : Nat} {P : Nat → Value → Prop} {OK : Heap → Prop} {Q : Value → Shared → Prop} (S : PySem.W.KdlSrc prog w T r d n P OK) (hh : A.handled = none) (hok : OK s.heap) (hn : n ≤ sizeLine)
    (h : ∀ (h' : Heap) (tk : Nat) (acc : List Value), (∀ b o, s.heap.get? b = some o → h'.get? b = some o) → acc.length = n → (∀ (j : Nat) (v : Value), acc[j]? = some v → P j v) →
      wpAny (model prog w) A.in1 (call (.builtin "list.sort") [.ref h'.objs.size]) (fun _ s' => Q (.ref h'.objs.size) s') E { s with heap := h'.push { cls := .type "list", data := .seq acc.toArray }, toks := tk }) :
    wpAny (model prog w) A (call (.builtin "sorted") [.ref r]) Q E s := by
  refine PySem.Calls.call_function_entry kind_sorted plain_sorted entry_sorted (args_sorted1 _) ?_
  unfold Builtin.«sorted»
  refine wpAny_bind (m := checkCount "sorted" 1 1 _) (wpAny_pure (wpAny_bind (PySem.W.kdu_collect (A := A.in1) S hh hok hn fun h' tk acc hk it => ?_)))
  have hl : acc.toList.length = n := (Array.length_toList ..).trans it.1
  exact wpAny_bind (wpAny_newList (wpAny_bind (wpAny_holding (wpAny_mono (h h' tk acc.toList hk hl fun j v e => it.2 j v ((Array.getElem?_toList ..).symm.trans e)) (fun _ s' x => wpAny_pure ⟨_, rfl, x⟩) fun _ _ e => e))) (hl ▸ hn))
theorem c_sortedT (hc : X.calm = true) (hr : Room k X.A) : CallR X (.builtin "sorted") rSortT := by
  intro pins s σ H vs us Q I r h
  obtain ⟨a, kvs, rfl, ha, so, q⟩ := h
  rw [Vals.ref1 r]
  obtain ⟨z, hs, xs, pr, o, es, ep, ho, hx, hdt, he, hn⟩ := (show ObjOk X.prog X.w H s.heap a (.dT kvs) from ha.ok I.hok)
  have hes : es.size = xs.length := size_of_entries he
  have hkv : kvs.length = xs.length := Paired.length pr
  have hu := hr.units
  obtain ⟨s1, s2, s3, s4⟩ := sortOk_iff so
  have keys : KeysAt H (kvs.map Prod.fst) (xs.map fun x => x.2.1) := keysAt_of (isKeys_of pr)
  have emap : ((kvs.map Prod.fst).map tupK).map py = (kvs.map Prod.fst).map pyT := by rw [List.map_map]; rfl
  rw [emap] at s2 s3
  refine sorted_src (kdl_raw hs hx hdt) (I.ok.hd hc) ho (by omega) fun h' tk acc kp hl hP => ?_
  have ea : acc = (xs.map fun x => x.2.1).map Value.ref := by
    apply List.ext_getElem?
    intro j
    by_cases hj : j < acc.length
    · obtain ⟨en, h1, h2⟩ := hP j acc[j] (List.getElem?_eq_getElem hj)
      have h3 := entry_at he j
      have hj2 : j < xs.length := by omega
      rw [h1, List.getElem?_eq_getElem hj2] at h3
      have h4 : en = entryOfKey (tupleKind (mixKind X.prog X.w)) xs[j] := Option.some.inj h3
      rw [List.getElem?_eq_getElem hj, h2, h4, List.getElem?_map, List.getElem?_map, List.getElem?_eq_getElem hj2]
      rfl
    · rw [List.getElem?_eq_none (by omega), List.getElem?_eq_none (by rw [List.length_map, List.length_map]; omega)]
  subst ea
  have E1 := paired_each keys
  -- the heap with the list of keys
  have keep : ∀ b ob, s.heap.get? b = some ob → (h'.push { cls := .type "list", data := .seq ((xs.map fun x => x.2.1).map Value.ref).toArray }).get? b = some ob := fun b ob e => Heap.get?_push_of_some _ (kp b ob e)
  have noA : s.heap.get? h'.objs.size = none := by
    cases c : s.heap.get? h'.objs.size with
    | none => rfl
    | some u => exact absurd (Heap.lt_size (kp _ _ c)) (Nat.lt_irrefl _)
  have noH : H h'.objs.size = none := (I.kept (t' := tk) kp).hok.fresh (Nat.le_refl _)
  have er : PySem.W.EachIs (fun u (k : List Key) => ∃ as, Reads (h'.push { cls := .type "list", data := .seq ((xs.map fun x => x.2.1).map Value.ref).toArray }) u (pyT k) as ∧ h'.objs.size ∉ as) ((xs.map fun x => x.2.1).map Value.ref) (kvs.map Prod.fst) := by
    refine (PySem.W.each_mem E1).mono fun u kk ⟨⟨b, e, hb⟩, hm⟩ => ?_
    subst e
    have ok : ((py (tupK kk)).depth ≤ 60 ∧ (py (tupK kk)).canLay0 = true) := s4 (tupK kk) (List.mem_map.mpr ⟨kk, hm, rfl⟩)
    have rp : Rep X.K H (tupK kk) (.ref b) [] := ⟨b, _, rfl, hb, reps_keys kk⟩
    obtain ⟨as, rd⟩ := Dp.reads I _ _ (Value.ref b) (rp.dp ok.2) rfl
    have ne := reads_tup rd
    subst ne
    exact ⟨[], PyProof.Rows.Reads.keeps keep rd, fun z => by cases z⟩
  have hat : (h'.push { cls := .type "list", data := .seq ((xs.map fun x => x.2.1).map Value.ref).toArray }).get? h'.objs.size = some (seqObj "list" ((xs.map fun x => x.2.1).map Value.ref).toArray 0) := Heap.get?_push_size _ rfl
  have hz : ((xs.map fun x => x.2.1).map Value.ref).length ≤ sizeLine := by rw [List.length_map, List.length_map]; omega
  refine PySem.W.list_sort_data (A := X.A.in1) (s := { s with heap := h'.push { cls := .type "list", data := .seq ((xs.map fun x => x.2.1).map Value.ref).toArray }, toks := tk }) (enc := pyT) (R := fun u (k : List Key) => ∃ b, u = Value.ref b ∧ H b = some (.tup (k.map kV))) hat E1 er s2 s3 (by rw [List.length_map]; omega) (fun b hb => ?_) fun out ho2 eo => ?_
  · have := (s4 (tupK b) (List.mem_map.mpr ⟨b, hb, rfl⟩)).1
    show X.A.units + 1 + 1 + (py (tupK b)).depth < cLine
    omega
  · obtain ⟨bs, rfl, ka⟩ := each_paired eo
    obtain ⟨ep', he'⟩ := sortedHeap_at (out := (bs.map Value.ref).toArray) hat
    refine ⟨.ref h'.objs.size, upd H h'.objs.size (.lst (bs.map V.ref)), I.laidN (t' := tk) (fun b u e => ?_) noA noH ⟨?_, bs.map Value.ref, ep', vals_refs bs, he'⟩, rfl, q _ bs noH ka⟩
    · have h1 := keep b u e
      have nb : b ≠ h'.objs.size := fun z => by
        subst z
        rw [noA] at e
        cases e
      exact (sortedHeap_old nb (Heap.lt_size h1)).trans h1
    · rw [List.length_map] at ho2 ⊢
      rw [ho2, List.length_map]
      omega
/-- sorted of a list or of a dict with tuple keys -/
def sortedA : List D → Option D := fun ds => match ds with
  | [.dT ks xs] => if sortOk (ks.map tupK) = true then some (.lst (sortD (ks.map tupK))) else none
  | ds => sortedD ds
theorem c_sortedA (hc : X.calm = true) (hr : Room k X.A) : CallR X (.builtin "sorted") (fun xs H Q => rSortD X.K xs H Q ∨ rSortT xs H Q) := (c_sorted hr).or (c_sortedT hc hr)
end
theorem sort_map {ks : List (List Key)} : (ks.mergeSort (PySem.W.dataLe false pyT)).map tupK = (ks.map tupK).mergeSort leD := PySem.W.sort_maps tupK fun a _ b _ => rfl
theorem d_sortedA {K : PySem.W.Frag} : CallD K (fun xs H Q => rSortD K xs H Q ∨ rSortT xs H Q) sortedA := fun H ds vs F d Q r e k => by
  unfold sortedA at e
  split at e
  · rename_i ks xs
    split at e
    · rename_i so
      cases e
      obtain ⟨v, rfl, a, us, G, rfl, q, hl, _, rr⟩ := reps_one r
      have hl2 : ks.length = us.length := by rw [rr.length]; exact hl
      refine .inr ⟨a, _, rfl, q, by rw [fst_zip hl2]; exact so, fun p bs hp ka => ?_⟩
      rw [fst_zip hl2] at ka
      have rk := (reps_tupK (K := K) ka).same (same_upd (o := .lst (bs.map V.ref)) hp)
      rw [sort_map] at rk
      exact k _ _ [p] (same_upd hp) ⟨p, _, [], rfl, .inl upd_same, rfl, rk⟩ (new_lst hp)
    · cases e
  · exact .inl (d_sorted H ds vs F d Q r e k)
end DL
namespace DL
open PySem PySem.Spec PyProof.Rows L2
/-! ### dict comprehensions whose keys are tuples -/
def tDt (wi : TI) (g : TG) (tt : TT) (tk tv : TE) (vs : List Nat) : TE := fun σ H Q => wi σ H fun J H1 => ∀ D, H1 D = none → ∃ W : Nat → Nat → Hp → Prop, (∃ m, W 0 m (upd H1 D (.dT []))) ∧
  ∀ i m H, W i m H → (J.stop i H ∧ Q (.ref D) H) ∨ (J.go i H ∧ ∃ Nx : Hp → Prop, (∀ H', Nx H' → ∃ m', m' < m ∧ W (i + 1) m' H') ∧ ∀ x H', J.yld i H x H' → g x (wipe σ vs) H' fun σ2 H2 => wipe σ2 vs = wipe σ vs ∧
    tt σ2 H2 fun b H3 => if b = true then tk σ2 H3 fun y H4 => tv σ2 H4 fun z H5 => ∃ kvs k a, y = V.ref a ∧ H5 a = some (.tup (k.map kV)) ∧ H5 D = some (.dT kvs) ∧ kvs.length < sizeLine ∧ Nx (upd H5 D (.dT (putK kvs k z))) else Nx H3)
section
variable {X : Cx}
def dictE (gx : GX) (q : QX) (fk fe : EX) (ρ : Env) : List D → List (List Key) → List D → Option (List (List Key) × List D)
  | [], ks, xs => some (ks, xs)
  | d :: ds, ks, xs => (gx d ρ).bind fun ρ1 => (q ρ1).bind fun b => if b = true then (fk ρ1).bind fun y => (toKeyT y).bind fun kk => (fe ρ1).bind fun w => if pure w = true then if ks.length < sizeLine then dictE gx q fk fe ρ ds (putKs ks kk) (putVs ks xs kk w) else none else none
    else dictE gx q fk fe ρ ds ks xs
def xDict (vs : List Nat) (src : IX) (gx : GX) (q : QX) (fk fe : EX) : EX := fun ρ => (src ρ).bind fun its => (dictE gx q fk fe (wipeE ρ vs) its [] []).bind fun r => some (.dT r.1 r.2)
end
end DL
namespace DL
open PySem PySem.Spec PyProof.Rows L2
/-! ### comprehensions of two clauses -/
/-- a block's target leaves the names outside alone -/
def GxOk (gx : GX) (vs : List Nat) : Prop := ∀ d ρ ρ', gx d ρ = some ρ' → ∀ i, i ∉ vs → ρ'[i]? = ρ[i]?
def GxsOk (gs : GXs) (vs : List Nat) : Prop := ∀ ds ρ ρ', gs ds ρ = some ρ' → ∀ i, i ∉ vs → ρ'[i]? = ρ[i]?
theorem go_put {i : Nat} {vs : List Nat} (h : i ∈ vs) : GxOk (putB i) vs := fun d ρ ρ' e j hj => by
  unfold putB at e
  split at e
  · cases e
    exact List.getElem?_set_ne (fun (z : i = j) => hj (z ▸ h))
  · cases e
def plainAt (vs : List Nat) (ρ : Env) : Bool := vs.all fun v => match ρ[v]? with
  | some (some (_, d)) => pure d
  | _ => true
def comp2E (vs vs1 : List Nat) (gx : GX) (q : QX) (src1 : IX) (gx1 : GX) (q1 : QX) (e : EX) (ρ : Env) : List D → Option (List D)
  | [] => some []
  | d :: ds => (gx d ρ).bind fun ρ1 => if plainAt vs ρ1 = true then (q ρ1).bind fun b => if b = true then (src1 ρ1).bind fun its => (compE gx1 q1 e (wipeE ρ1 vs1) its).bind fun ys => if pures ys = true then (comp2E vs vs1 gx q src1 gx1 q1 e ρ ds).bind fun zs => some (ys ++ zs) else none
    else comp2E vs vs1 gx q src1 gx1 q1 e ρ ds else none
def xComp2 (vs vs1 : List Nat) (src : IX) (gx : GX) (q : QX) (src1 : IX) (gx1 : GX) (q1 : QX) (e : EX) : EX := fun ρ => (src ρ).bind fun its => (comp2E vs vs1 gx q src1 gx1 q1 e (wipeE ρ vs) its).bind fun ys => if ys.length ≤ sizeLine then some (.lst ys) else none
theorem tLc2_of {src : IX} {gx : GX} {q : QX} {src1 : IX} {gx1 : GX} {q1 : QX} {e : EX} {own : Bool} {vs vs1 : List Nat} {K : PySem.W.Frag} (go : GxOk gx vs) (σ : L2.St) (H : Hp) (Q : VK) (h : tP K true (xComp2 vs vs1 src gx q src1 gx1 q1 e) σ H Q) :
    tLc2 (tI K own src) (tGP K vs gx) (tPT K q) (tI K true src1) (tGP K vs1 gx1) (tPT K q1) (tP K true e) vs vs1 σ H Q := by
  obtain ⟨ρ, d, s, e0, k⟩ := h
  obtain ⟨its, e1, e0⟩ := Option.bind_eq_some_iff.mp e0
  obtain ⟨ys, e2, e0⟩ := Option.bind_eq_some_iff.mp e0
  split at e0
  · rename_i hy
    cases e0
    refine ⟨ρ, its, s, e1, fun J H1 Fs s1 w _ D hD => ?_⟩
    have sees1 := (s.same s1).wipe vs
    refine ⟨fun i m Hi => i + m = its.length ∧ ∃ acc av rest, Same H1 Hi ∧ Hi D = some (.lst av) ∧ Reps K Hi acc av [] ∧ comp2E vs vs1 gx q src1 gx1 q1 e (wipeE ρ vs) (its.drop i) = some rest ∧ acc ++ rest = ys,
      ⟨its.length, by simp, [], [], ys, same_upd hD, upd_same, ⟨rfl, rfl⟩, by simpa using e2, rfl⟩, ?_⟩
    rintro i m Hi ⟨hm, acc, av, rest, si, hDi, rep, ei, ey⟩
    have kp : Kp H1 Fs Hi := ⟨No, .of_same si, fun _ _ z => z⟩
    by_cases hl : i < its.length
    · have hd : its.drop i = its[i] :: its.drop (i + 1) := List.drop_eq_getElem_cons hl
      rw [hd] at ei
      unfold comp2E at ei
      obtain ⟨ρa, ea, ei⟩ := Option.bind_eq_some_iff.mp ei
      split at ei
      · rename_i pl
        obtain ⟨b, eb, ei⟩ := Option.bind_eq_some_iff.mp ei
        refine .inr ⟨w.go i Hi hl kp, fun H' => i + 1 + (m - 1) = its.length ∧ ∃ acc av rest, Same H1 H' ∧ H' D = some (.lst av) ∧ Reps K H' acc av [] ∧ comp2E vs vs1 gx q src1 gx1 q1 e (wipeE ρ vs) (its.drop (i + 1)) = some rest ∧ acc ++ rest = ys, fun H' q => ⟨m - 1, by omega, q⟩, fun x H' y => ?_⟩
        obtain ⟨sy, G, rg, _⟩ := w.yld i Hi x H' its[i] (List.getElem?_eq_getElem hl) kp y
        refine ⟨_, its[i], G, ρa, (sees1.same si).same sy, rg, ea, fun σ2 s2 w2 => ?_⟩
        have w2' : wipe σ2 vs = wipe σ vs := w2.trans (wipe_wipe σ vs vs fun v hv => hv)
        refine ⟨w2', ρa, b, s2, eb, fun H3 s3 => ?_⟩
        have s13 : Same Hi H3 := sy.trans s3
        cases b with
        | true =>
          obtain ⟨it1, ei1, ei⟩ := Option.bind_eq_some_iff.mp ei
          obtain ⟨ys1, ec, ei⟩ := Option.bind_eq_some_iff.mp ei
          split at ei
          · rename_i py1
            obtain ⟨zs, ez, ei⟩ := Option.bind_eq_some_iff.mp ei
            cases ei
            refine iteT ⟨ρa, it1, s2.same s3, ei1, fun J1 H4 Fs1 s4 w4 nw => ?_⟩
            have h14 : Same Hi H4 := s13.trans s4
            have hD4 : H4 D = some (.lst av) := h14 _ _ hDi
            have hD3 : H3 D = some (.lst av) := s13 _ _ hDi
            have nD : D ∉ Fs1 := fun z => by
              have := nw rfl D z
              rw [hD3] at this
              cases this
            -- the names are seen at every later heap
            have later : ∀ {H5 : Hp}, Same H1 H5 → Frm H4 (fun a => a = D) H5 → Sees K σ2 H5 ρa := fun {H5} a1 a4 => by
              refine ⟨s2.1, fun j n dd q => ?_⟩
              by_cases hj : j ∈ vs
              · obtain ⟨v, F, c1, c2⟩ := (s2.same (s3.trans s4)).2 j n dd q
                have pd : pure dd = true := by
                  have := List.all_eq_true.mp pl j hj
                  rw [q] at this
                  exact this
                have nf := c2.nil pd
                subst nf
                exact ⟨v, [], c1, c2.frm a4 fun a z => by cases z⟩
              · have q' : (wipeE ρ vs)[j]? = some (some (n, dd)) := (go _ _ _ ea j hj) ▸ q
                obtain ⟨v, F, c1, c2⟩ := sees1.2 j n dd q'
                refine ⟨v, F, ?_, c2.same a1⟩
                rw [(wipe_eq w2').2 j hj, ← wipe_out (σ := σ) hj]
                exact c1
            refine ⟨fun j k H' => j + k = it1.length ∧ ∃ ac1 av1 rs1, Same H1 H' ∧ Frm H4 (fun a => a = D) H' ∧ H' D = some (.lst av1) ∧ Reps K H' (acc ++ ac1) av1 [] ∧ compE gx1 q1 e (wipeE ρa vs1) (it1.drop j) = some rs1 ∧ ac1 ++ rs1 = ys1,
              ⟨it1.length, by simp, [], av, ys1, si.trans h14, ⟨fun a z => by subst z; rw [hD4]; trivial, fun a o z _ => z⟩, hD4, by rw [List.append_nil]; exact rep.same h14, by simpa using ec, rfl⟩, ?_⟩
            rintro j kk H5 ⟨hk, ac1, av1, rs1, a1, a4, hD5, rep5, ej, ek⟩
            have kp1 : Kp H4 Fs1 H5 := ⟨_, a4, fun a ha z => nD (z ▸ ha)⟩
            by_cases hj : j < it1.length
            · have hd1 : it1.drop j = it1[j] :: it1.drop (j + 1) := List.drop_eq_getElem_cons hj
              rw [hd1] at ej
              unfold compE at ej
              obtain ⟨ρb, eb1, ej⟩ := Option.bind_eq_some_iff.mp ej
              obtain ⟨b1, ebb, ej⟩ := Option.bind_eq_some_iff.mp ej
              refine .inr ⟨w4.go j H5 hj kp1, fun H' => j + 1 + (kk - 1) = it1.length ∧ ∃ ac1 av1 rs1, Same H1 H' ∧ Frm H4 (fun a => a = D) H' ∧ H' D = some (.lst av1) ∧ Reps K H' (acc ++ ac1) av1 [] ∧ compE gx1 q1 e (wipeE ρa vs1) (it1.drop (j + 1)) = some rs1 ∧ ac1 ++ rs1 = ys1, fun H' q => ⟨kk - 1, by omega, q⟩, fun x1 H6 y6 => ?_⟩
              obtain ⟨sy6, G6, rg6, _⟩ := w4.yld j H5 x1 H6 it1[j] (List.getElem?_eq_getElem hj) kp1 y6
              refine ⟨_, it1[j], G6, ρb, ((later a1 a4).wipe vs1).same sy6, rg6, eb1, fun σ3 s3' w3' => ⟨w3'.trans (wipe_wipe σ2 vs1 vs1 fun v hv => hv), ρb, b1, s3', ebb, fun H7 s7 => ?_⟩⟩
              have s57 : Same H5 H7 := sy6.trans s7
              have step : ∀ {H8 : Hp}, Same H5 H8 → Frm H4 (fun a => a = D) H8 := fun {H8} sm => ⟨a4.mu, fun a o z n => sm a o (a4.keep a o z n)⟩
              cases b1 with
              | true =>
                obtain ⟨y1, ey1, ej⟩ := Option.bind_eq_some_iff.mp ej
                obtain ⟨r1, er1, ej⟩ := Option.bind_eq_some_iff.mp ej
                cases ej
                have pyy : pure y1 = true := pures_mem py1 (by rw [← ek]; simp)
                refine iteT ⟨ρb, y1, s3'.same s7, ey1, fun v8 H8 F8 s8 rep8 _ => ?_⟩
                have nf := rep8.nil pyy
                subst nf
                have s58 : Same H5 H8 := s57.trans s8
                have hD8 : H8 D = some (.lst av1) := s58 _ _ hD5
                have hlen : av1.length < sizeLine := by
                  rw [rep5.length]
                  have e9 : (acc ++ (ys1 ++ zs)).length ≤ sizeLine := by rw [ey]; exact hy
                  rw [← ek] at e9
                  simp only [List.length_append, List.length_cons] at e9 ⊢
                  omega
                have fr := frm_one (o := .lst (av1 ++ [v8])) (show Mut (H8 D) by rw [hD8]; trivial)
                have rr := ((rep5.same s58).frm fr fun a z => by cases z).append (G := []) (Reps.one (rep8.frm fr fun a z => by cases z))
                refine ⟨av1, hD8, hlen, by omega, ac1 ++ [y1], av1 ++ [v8], r1, fun a o z => ?_, ⟨a4.mu, fun a o z n => ?_⟩, upd_same, by rw [← List.append_assoc]; exact rr, er1, by rw [List.append_assoc]; exact ek⟩
                · rw [upd_ne (ne_of_none z hD)]
                  exact s58 _ _ (a1 _ _ z)
                · rw [upd_ne n]
                  exact (step s58).keep a o z n
              | false => exact iteF ⟨by omega, ac1, av1, rs1, a1.trans s57, step s57, s57 _ _ hD5, rep5.same s57, ej, ek⟩
            · have hd1 : it1.drop j = [] := List.drop_of_length_le (by omega)
              have hje : j = it1.length := by omega
              rw [hd1] at ej
              cases ej
              rw [List.append_nil] at ek
              subst ek
              exact .inl ⟨by rw [hje]; exact w4.stop H5 kp1, by omega, acc ++ ac1, av1, zs, a1, hD5, rep5, ez, by rw [List.append_assoc]; exact ey⟩
          · cases ei
        | false => exact iteF ⟨by omega, acc, av, rest, si.trans s13, s13 _ _ hDi, rep.same s13, ei, ey⟩
      · cases ei
    · have hd : its.drop i = [] := List.drop_of_length_le (by omega)
      have hie : i = its.length := by omega
      rw [hd] at ei
      cases ei
      rw [List.append_nil] at ey
      subst ey
      refine .inl ⟨by rw [hie]; exact w.stop Hi kp, k _ Hi [D] (s1.trans si) ⟨D, av, [], rfl, .inl hDi, rfl, rep⟩ fun _ => ⟨List.nodup_cons.mpr ⟨(fun z => by cases z), List.nodup_nil⟩, fun a ha => ?_, fun a ha => ?_⟩⟩
      · rw [List.mem_singleton.mp ha]
        exact s1.free hD
      · rw [List.mem_singleton.mp ha, hDi]
        trivial
  · cases e0
section
variable {X : Cx} {elt tg iter tg1 iter1 : Expr} {ifs ifs1 : List Expr} {scope : Scope} {own : List (Str × Nat)} {vs1 : List Nat} {pos : Pos} {src src1 : IX} {gx gx1 : GX} {q q1 : QX} {e : EX} {ow : Bool}
end
end DL
namespace DL
open PySem PySem.Spec PyProof.Rows L2
/-! ### a name's list lent while a statement runs -/
def isBor : Slt → Bool
  | some (.bor, _) => true
  | _ => false
def borOnly (x : Slt) : Slt := if isBor x = true then x else none
def isPn : Slt → Bool
  | some (.pin, _) => true
  | _ => false
def backS (i k : Nat) (x y : Slt) : Slt := if isBor y = true then (if k = i then x else borOnly x) else if k = i then (if isPn y = true then none else y) else y
def backL (i : Nat) : Nat → Env → Env → Env
  | k, x :: xs, y :: ys => backS i k x y :: backL i (k + 1) xs ys
  | _, _, ys => ys
theorem backL_len {i : Nat} : ∀ {k : Nat} {xs ys : Env}, (backL i k xs ys).length = ys.length
  | k, [], ys => by cases ys <;> rfl
  | k, x :: xs, [] => rfl
  | k, x :: xs, y :: ys => by
    rw [backL, List.length_cons, backL_len, List.length_cons]
theorem backL_at {i : Nat} : ∀ {k : Nat} {xs ys : Env} {j : Nat} {z : Slt}, ys.length = xs.length → (backL i k xs ys)[j]? = some z → ∃ x y, xs[j]? = some x ∧ ys[j]? = some y ∧ z = backS i (k + j) x y
  | k, [], [], j, z, _, e => by simp [backL] at e
  | k, x :: xs, [], j, z, h, _ => by simp at h
  | k, [], y :: ys, j, z, h, _ => by simp at h
  | k, x :: xs, y :: ys, 0, z, _, e => ⟨x, y, rfl, rfl, (Option.some.inj e).symm⟩
  | k, x :: xs, y :: ys, j + 1, z, h, e => by
    obtain ⟨a, b, h1, h2, h3⟩ := backL_at (k := k + 1) (xs := xs) (ys := ys) (j := j) (by simpa using h) e
    exact ⟨a, b, h1, h2, by rw [h3, show k + 1 + j = k + (j + 1) by omega]⟩
def backO (i : Nat) (ρ : Env) : Out → Option Out
  | .nx ρ' => if ρ'.length = ρ.length then some (.nx (backL i 0 ρ ρ')) else none
  | .rt d ρ' => if ρ'.length = ρ.length then some (.rt d (backL i 0 ρ ρ')) else none
  | .bk ρ' => if ρ'.length = ρ.length then some (.bk (backL i 0 ρ ρ')) else none
  | .ct ρ' => if ρ'.length = ρ.length then some (.ct (backL i 0 ρ ρ')) else none
def sLend (i : Nat) (g : ES) : ES := fun ρ => match ρ[i]? with
  | some (some (.own, d)) => (g (ρ.set i (some (.bor, d)))).bind (backO i ρ)
  | _ => g ρ
section
variable {K : PySem.W.Frag} {c : Ct} {σ σ' : L2.St} {H H' : Hp} {ρ ρ' : Env} {fp fp' : Nat → List Addr} {i : Nat} {d : D} {v : V}
def lendC (c : Ct) (H : Hp) (ρ : Env) (fp : Nat → List Addr) (i : Nat) (v : V) : Ct := ⟨H, Ow (ρ.set i none) fp, fun j => if j = i then some v else c.pv j, fun a => c.B a ∨ a ∈ fp i⟩
theorem ow_less {a : Addr} (z : Ow (ρ.set i none) fp a) : Ow ρ fp a := by
  obtain ⟨j, n, e, q, hn, ha⟩ := z
  exact ⟨j, n, e, (drop_low q).1, hn, ha⟩
theorem lend_out (h : Ok K c σ H ρ fp) (q : ρ[i]? = some (some (.own, d))) : ∀ a ∈ fp i, ¬ Ow (ρ.set i none) fp a := fun a ha ⟨j, n, e, q2, hn, hj⟩ => h.dj i j .own d n e (Ne.symm (drop_low q2).2) q (by decide) (drop_low q2).1 hn a ha hj
theorem set_low {j : Nat} {n : Fl} {e : D} {x : Slt} (hj : j ≠ i) (q : (ρ.set i x)[j]? = some (some (n, e))) : ρ[j]? = some (some (n, e)) := by
  rw [List.getElem?_set_ne (Ne.symm hj)] at q
  exact q
theorem Ok.lend (h : Ok K c σ H ρ fp) (q : ρ[i]? = some (some (.own, d))) (hv : σ[i]? = some (some v)) : Ok K (lendC c H ρ fp i v) σ H (ρ.set i (some (.bor, d))) fp := by
  have hi := Ok.len_lt q
  have at_ : ∀ {n : Fl} {e : D}, (ρ.set i (some (.bor, d)))[i]? = some (some (n, e)) → n = .bor ∧ e = d := fun {n e} z => by
    rw [List.getElem?_set_self hi] at z
    cases z
    exact ⟨rfl, rfl⟩
  have neq : ∀ {j : Nat} {n : Fl} {e : D}, (ρ.set i (some (.bor, d)))[j]? = some (some (n, e)) → n ≠ .bor → j ≠ i := fun {j n e} z hn hj => by
    subst hj
    exact hn (at_ z).1
  refine ⟨by rw [List.length_set]; exact h.len, fun j n e z => ?_, fun j n e z hn => ?_, fun j e z a ha => ?_, fun j l n e n2 e2 ne z hn z2 hn2 a ha => ?_, ⟨fun a z => ?_, fun a o z _ => z⟩, fun a z => ?_⟩
  · by_cases hj : j = i
    · subst hj
      obtain ⟨rfl, rfl⟩ := at_ z
      obtain ⟨u, h1, h2, _⟩ := h.rep j _ _ q
      rw [hv] at h1
      cases h1
      exact ⟨v, hv, h2, fun _ => if_pos rfl⟩
    · obtain ⟨u, h1, h2, h3⟩ := h.rep j n e (set_low hj z)
      exact ⟨u, h1, h2, fun z => (if_neg hj).trans (h3 z)⟩
  · have hj := neq z hn
    have z' := set_low hj z
    obtain ⟨n1, n2⟩ := h.nd j n e z' hn
    refine ⟨n1, fun a ha => ⟨.inl ⟨j, n, e, ?_, hn, ha⟩, (n2 a ha).2.1, fun zb => ?_⟩⟩
    · rw [List.getElem?_set_ne (Ne.symm hj)]
      exact z'
    · rcases zb with zb | zb
      · exact (n2 a ha).2.2 zb
      · exact h.dj j i n e .own d hj z' hn q (by decide) a ha zb
  · by_cases hj : j = i
    · subst hj
      exact .inr ha
    · exact .inl (h.bo j e (set_low hj z) a ha)
  · exact h.dj j l n e n2 e2 ne (set_low (neq z hn) z) hn (set_low (neq z2 hn2) z2) hn2 a ha
  · obtain ⟨j, n, e, z1, z2, z3⟩ := z
    exact ((h.nd j n e (drop_low z1).1 z2).2 a z3).2.1
  · rcases z with z | z
    · refine ⟨h.there z, fun ⟨j, n, e, z1, z2, z3⟩ => ((h.nd j n e (drop_low z1).1 z2).2 a z3).2.2 z⟩
    · obtain ⟨u, _, h2, _⟩ := h.rep i _ _ q
      exact ⟨h2.there a z, lend_out h q a z⟩
theorem Ok.unlend (h : Ok K c σ H ρ fp) (q : ρ[i]? = some (some (.own, d))) (hv : σ[i]? = some (some v)) (h' : Ok K (lendC c H ρ fp i v) σ' H' ρ' fp') (hl : ρ'.length = ρ.length) :
    ∃ fp2, Ok K c σ' H' (backL i 0 ρ ρ') fp2 ∧ ∀ {dd : D} {vv : V} {F : List Addr}, Val K (lendC c H ρ fp i v) H' ρ' fp' dd vv F → Val K c H' (backL i 0 ρ ρ') fp2 dd vv F := by
  obtain ⟨u0, hu0, r0, _⟩ := h.rep i _ _ q
  rw [hv] at hu0
  cases hu0
  obtain ⟨nd0, ow0⟩ := h.nd i _ _ q (by decide)
  have out0 := lend_out h q
  -- what a slot of the result is
  have cases' : ∀ {j : Nat} {n : Fl} {e : D}, (backL i 0 ρ ρ')[j]? = some (some (n, e)) →
      (∃ e', ρ'[j]? = some (some (.bor, e')) ∧ j = i ∧ n = .own ∧ e = d) ∨ (∃ e', ρ'[j]? = some (some (.bor, e')) ∧ j ≠ i ∧ n = .bor ∧ ρ[j]? = some (some (.bor, e))) ∨ (ρ'[j]? = some (some (n, e)) ∧ n ≠ .bor ∧ (j = i → n = .own)) := fun {j n e} z => by
    obtain ⟨x, y, h1, h2, h3⟩ := backL_at hl z
    rw [Nat.zero_add] at h3
    unfold backS at h3
    by_cases hb : isBor y = true
    · rw [if_pos hb] at h3
      obtain ⟨e', rfl⟩ : ∃ e', y = some (.bor, e') := by
        cases y with
        | none => cases hb
        | some y =>
          obtain ⟨m, e'⟩ := y
          cases m
          · cases hb
          · exact ⟨e', rfl⟩
          · cases hb
      by_cases hj : j = i
      · subst hj
        rw [if_pos rfl] at h3
        subst h3
        rw [q] at h1
        cases h1
        exact .inl ⟨e', h2, rfl, rfl, rfl⟩
      · rw [if_neg hj] at h3
        unfold borOnly at h3
        by_cases hx : isBor x = true
        · rw [if_pos hx] at h3
          subst h3
          have hn : n = .bor := by
            cases n
            · cases hx
            · rfl
            · cases hx
          subst hn
          exact .inr (.inl ⟨e', h2, hj, rfl, h1⟩)
        · rw [if_neg hx] at h3
          cases h3
    · rw [if_neg hb] at h3
      have nb : ∀ {n : Fl} {e : D}, y = some (n, e) → n ≠ .bor := fun {n e} hy hn => hb (by rw [hy, hn]; rfl)
      by_cases hj : j = i
      · rw [if_pos hj] at h3
        by_cases hp : isPn y = true
        · rw [if_pos hp] at h3
          cases h3
        · rw [if_neg hp] at h3
          subst h3
          refine .inr (.inr ⟨h2, nb rfl, fun _ => ?_⟩)
          cases n
          · rfl
          · exact absurd rfl (nb (n := .bor) rfl)
          · exact absurd rfl hp
      · rw [if_neg hj] at h3
        subst h3
        exact .inr (.inr ⟨h2, nb rfl, fun z => absurd z hj⟩)
  have nbor : ∀ {j : Nat} {n : Fl} {e : D}, ρ'[j]? = some (some (n, e)) → n ≠ .bor → isBor ((ρ'[j]?).getD none) = false := fun {j n e} z hn => by
    rw [z]
    cases n
    · rfl
    · exact absurd rfl hn
    · rfl
  have pvj : ∀ {j : Nat}, j ≠ i → (lendC c H ρ fp i v).pv j = c.pv j := fun {j} hj => if_neg hj
  refine ⟨fun j => if isBor ((ρ'[j]?).getD none) = true then fp j else fp' j, ⟨by rw [backL_len]; exact h'.len, fun j n e z => ?_, fun j n e z hn => ?_, fun j e z a ha => ?_, fun j l n e n2 e2 ne z hn z2 hn2 a ha hla => ?_, ⟨fun a z => h.frm.mu a z, fun a o z zn => ?_⟩, h.bt⟩, fun {dd vv F} x => ⟨x.rep, x.nd, fun a ha => ?_, fun j n e z hn a ha hja => ?_⟩⟩
  · rcases cases' z with ⟨e', z1, rfl, rfl, rfl⟩ | ⟨e', z1, hj, rfl, z2⟩ | ⟨z1, hn, hji⟩
    · obtain ⟨w, w1, w2, w3⟩ := h'.rep j _ _ z1
      have w4 : some v = some w := (if_pos rfl : (if j = j then some v else c.pv j) = some v).symm.trans (w3 (by decide))
      cases w4
      exact ⟨v, w1, by rw [z1]; exact r0.frm h'.frm out0, fun k => absurd rfl k⟩
    · obtain ⟨w, w1, w2, w3⟩ := h'.rep j _ _ z1
      obtain ⟨u, u1, u2, u3⟩ := h.rep j _ _ z2
      have e1 := u3 (by decide)
      have e2 := (pvj hj).symm.trans (w3 (by decide))
      rw [e1] at e2
      cases e2
      refine ⟨_, w1, ?_, fun _ => e1⟩
      rw [z1]
      exact u2.frm h'.frm fun a ha zo => (h'.bt a (.inl (h.bo j _ z2 a ha))).2 zo
    · obtain ⟨w, w1, w2, w3⟩ := h'.rep j _ _ z1
      refine ⟨w, w1, by rw [nbor z1 hn]; exact w2, fun hk => ?_⟩
      by_cases hj : j = i
      · exact absurd (hji hj) hk
      · exact (pvj hj).symm.trans (w3 hk)
  · rcases cases' z with ⟨e', z1, rfl, rfl, rfl⟩ | ⟨e', z1, hj, rfl, z2⟩ | ⟨z1, _, hji⟩
    · rw [z1]
      refine ⟨nd0, fun a ha => ⟨(ow0 a ha).1, ?_, (ow0 a ha).2.2⟩⟩
      have m := (ow0 a ha).2.1
      cases ho : H a with
      | none => rw [ho] at m; cases m
      | some o => rw [h'.frm.keep a o ho (out0 a ha)]; rw [ho] at m; exact m
    · exact absurd rfl hn
    · rw [nbor z1 hn]
      obtain ⟨n1, n2⟩ := h'.nd j n e z1 hn
      exact ⟨n1, fun a ha => ⟨sub_ow h ((n2 a ha).1.imp ow_less id), (n2 a ha).2.1, fun zb => (n2 a ha).2.2 (.inl zb)⟩⟩
  · rcases cases' z with ⟨e', z1, _, k, _⟩ | ⟨e', z1, hj, _, z2⟩ | ⟨z1, hn, hji⟩
    · cases k
    · rw [z1] at ha
      exact h.bo j e z2 a ha
    · exact absurd rfl hn
  · rcases cases' z with ⟨e', z1, rfl, rfl, rfl⟩ | ⟨e', z1, hj, rfl, z3⟩ | ⟨z1, _, hji⟩
    · rw [z1] at ha
      rcases cases' z2 with ⟨_, _, k, _, _⟩ | ⟨_, _, _, k, _⟩ | ⟨y1, _, _⟩
      · exact ne k.symm
      · exact hn2 k
      · rw [nbor y1 hn2] at hla
        exact ((h'.nd l n2 e2 y1 hn2).2 a hla).2.2 (.inr ha)
    · exact absurd rfl hn
    · rw [nbor z1 hn] at ha
      rcases cases' z2 with ⟨_, y1, k, _, _⟩ | ⟨_, _, _, k, _⟩ | ⟨y1, _, _⟩
      · subst k
        rw [y1] at hla
        exact ((h'.nd j n e z1 hn).2 a ha).2.2 (.inr hla)
      · exact hn2 k
      · rw [nbor y1 hn2] at hla
        exact h'.dj j l n e n2 e2 ne z1 hn y1 hn2 a ha hla
  · refine h'.frm.keep a o (h.frm.keep a o z zn) fun k => ?_
    rcases sub_ow h (.inl (ow_less k)) with k | k
    · exact zn k
    · rw [z] at k
      cases k
  · exact ⟨sub_ow h ((x.ow a ha).1.imp ow_less id), (x.ow a ha).2.1, fun zb => (x.ow a ha).2.2 (.inl zb)⟩
  · rcases cases' z with ⟨e', z1, rfl, rfl, rfl⟩ | ⟨e', z1, hj, rfl, z2⟩ | ⟨z1, _, hji⟩
    · rw [z1] at hja
      exact (x.ow a ha).2.2 (.inr hja)
    · exact absurd rfl hn
    · rw [nbor z1 hn] at hja
      exact x.dj j n e z1 hn a ha hja
end
section
variable {X : Cx} {i : Nat} {g : ES} {st : Stmt}
theorem s_lend (h : DS X st g) : DS X st (sLend i g) := h.imp fun E σ H ⟨c, ρ, fp, out, ok, e, k⟩ => by
  unfold sLend at e
  split at e
  · rename_i d q
    obtain ⟨o, e1, e2⟩ := Option.bind_eq_some_iff.mp e
    obtain ⟨v, hv, _, _⟩ := ok.rep i _ _ q
    refine ⟨_, _, fp, o, ok.lend q hv, e1, ?_⟩
    cases o with
    | nx ρ' =>
      replace e2 : (if ρ'.length = ρ.length then some (Out.nx (backL i 0 ρ ρ')) else none) = some out := e2
      split at e2
      · rename_i hl
        cases e2
        intro σ' H' fp' h'
        obtain ⟨fp2, h2, _⟩ := ok.unlend q hv h' hl
        exact k σ' H' fp2 h2
      · cases e2
    | bk ρ' =>
      replace e2 : (if ρ'.length = ρ.length then some (Out.bk (backL i 0 ρ ρ')) else none) = some out := e2
      split at e2
      · rename_i hl
        cases e2
        intro σ' H' fp' h'
        obtain ⟨fp2, h2, _⟩ := ok.unlend q hv h' hl
        exact k σ' H' fp2 h2
      · cases e2
    | ct ρ' =>
      replace e2 : (if ρ'.length = ρ.length then some (Out.ct (backL i 0 ρ ρ')) else none) = some out := e2
      split at e2
      · rename_i hl
        cases e2
        intro σ' H' fp' h'
        obtain ⟨fp2, h2, _⟩ := ok.unlend q hv h' hl
        exact k σ' H' fp2 h2
      · cases e2
    | rt d' ρ' =>
      replace e2 : (if ρ'.length = ρ.length then some (Out.rt d' (backL i 0 ρ ρ')) else none) = some out := e2
      split at e2
      · rename_i hl
        cases e2
        intro v' σ' H' fp' F h' x
        obtain ⟨fp2, h2, x2⟩ := ok.unlend q hv h' hl
        exact k v' σ' H' fp2 F h2 (x2 x)
      · cases e2
  · exact ⟨c, ρ, fp, out, ok, e, k⟩
/-- over the list that a lent (or borrowed) name holds -/
def srcB (i : Nat) : IM := fun ρ => match ρ[i]? with
  | some (some (.bor, d)) => (itemsOf d).bind fun its => some (its, ρ)
  | _ => none
variable {tg iter : Expr}
theorem i_varB (he : PE X iter (tVar i)) : PI X tg iter (tIM X.K (srcB i)) := by
  refine ⟨fun pins s σ H R I ⟨c, ρ, fp, its, ρ', ok, e, k⟩ => ?_⟩
  unfold srcB at e
  split at e
  · rename_i d q
    obtain ⟨xs, e1, e2⟩ := Option.bind_eq_some_iff.mp e
    cases e2
    obtain ⟨v, hv, r, _⟩ := ok.rep i _ _ q
    refine thn (he.run pins s σ H (fun w H1 => w = v ∧ H1 = H) I ⟨v, hv, rfl, rfl⟩) fun u s1 ⟨w, H1, I1, ru, ew, eH⟩ => ?_
    subst ew eH
    obtain ⟨a, vs, G, rfl, rr, sb, hh⟩ := itemsOf_rep r e1
    obtain rfl : u = Value.ref a := ru
    have ap : ∀ b ∈ fp i, ¬ Ow ρ fp b := fun b hb ⟨j, n, dd, z1, z2, z3⟩ => ((ok.nd j n dd z1 z2).2 b z3).2.2 (ok.bo i d q b hb)
    rcases hh with ⟨q1, qk⟩ | ⟨q1, qk⟩
    · exact iter_tup I1 q1 (k _ H1 fp (fp i) ok (wk_tup' qk rr sb) ap)
    · exact iter_lst I1 q1 (k _ H1 fp (fp i) ok (wk_lst qk rr sb) ap)
  · cases e
end
end DL
namespace DL
open PySem PySem.Spec PyProof.Rows L2
/-! ### min and max of a list -/
def minF (x : D) (xs : List D) : D := xs.foldl (fun a y => if PySem.W.dataLt (py y) (py a) = true then y else a) x
def maxF (x : D) (xs : List D) : D := xs.foldl (fun a y => if PySem.W.dataLt (py a) (py y) = true then y else a) x
def minOk (xs : List D) : Bool := plains xs && alikes (xs.map py) && (xs.all fun d => !isNon d) && decide (PyData.depthAll (pys xs) ≤ 60) && PyData.canLayAll0 (pys xs)
def minLD : List D → Option D := fun ds => match ds with
  | [d] => (seqOf d).bind fun xs => match xs with
    | x :: xs => if minOk (x :: xs) = true then some (minF x xs) else none
    | [] => none
  | _ => none
def maxLD : List D → Option D := fun ds => match ds with
  | [d] => (seqOf d).bind fun xs => match xs with
    | x :: xs => if minOk (x :: xs) = true then some (maxF x xs) else none
    | [] => none
  | _ => none
def rMinD (K : PySem.W.Frag) (mm : PyData → List PyData → PyData) : List V → Hp → VK → Prop := fun vs H Q => ∃ (p : Addr) (ws : List V) (x : PyData) (xs : List PyData), vs = [.ref p] ∧ SqL K H p ws ∧ DpAll K H ws (x :: xs) ∧ PySem.W.AlikeAll (x :: xs) ∧ PyData.depthAll (x :: xs) ≤ 60 ∧ PyData.canLayAll0 (x :: xs) = true ∧
  ∀ (i : Nat) v d, ws[i]? = some v → (x :: xs)[i]? = some d → d = mm x xs → Q v H
section
variable {X : Cx} {k : Nat}
end
end DL
namespace DL
open PySem PySem.Spec PyProof.Rows L2
/-! ### name = {..} and name = [.. for .. for ..] -/
section
variable {X : Cx} {i : Nat} {y : Str} {py : Pos} {scope : Scope} {own : List (Str × Nat)} {pos spos : Pos} {ow : Bool}
theorem s_setLc2 {elt tg iter tg1 iter1 : Expr} {ifs ifs1 : List Expr} {vs1 : List Nat} {src src1 : IX} {gx gx1 : GX} {q q1 : QX} {e : EX} (hc : X.calm = true) (hN : X.N.Nodup) (hy : X.N[i]? = some y) (hyl : X.env.scope.names.lookup y = some .local)
    (hsw : swapsWith (.ListComp elt [⟨tg, iter, ifs, 0⟩, ⟨tg1, iter1, ifs1, 0⟩] scope pos) (some (.Name y py)) spos.line X.env = Pure.pure true) (hi : PI X tg iter (tI X.K ow src)) (ok : BlkOk X.N X.env.scope scope own) (hv : ∀ i ∈ vs1, i ∈ own.map (·.2)) (go : GxOk gx (own.map (·.2)))
    (hg : ∀ (s : Shared) (H : Hp) (C : Addr) (cl : List (Str × Addr)) (fp : List Addr), PG (X.blk s H scope (compEnvC scope cl C X.env) fp) tg (tGP X.K (own.map (·.2)) gx)) (ht : ∀ (s : Shared) (H : Hp) (C : Addr) (cl : List (Str × Addr)) (fp : List Addr), PTs (X.blk s H scope (compEnvC scope cl C X.env) fp) ifs (tPT X.K q))
    (hi1 : ∀ (s : Shared) (H : Hp) (C : Addr) (cl : List (Str × Addr)) (fp : List Addr), PI (X.blk s H scope (compEnvC scope cl C X.env) fp) tg1 iter1 (tI X.K true src1))
    (hg1 : ∀ (s : Shared) (H : Hp) (C : Addr) (cl : List (Str × Addr)) (fp : List Addr), PG (X.blk s H scope (compEnvC scope cl C X.env) fp) tg1 (tGP X.K vs1 gx1)) (ht1 : ∀ (s : Shared) (H : Hp) (C : Addr) (cl : List (Str × Addr)) (fp : List Addr), PTs (X.blk s H scope (compEnvC scope cl C X.env) fp) ifs1 (tPT X.K q1))
    (he : ∀ (s : Shared) (H : Hp) (C : Addr) (cl : List (Str × Addr)) (fp : List Addr), PE (X.blk s H scope (compEnvC scope cl C X.env) fp) elt (tP X.K true e)) (hs : ∀ x, foldedSetIterable iter X.env x = Pure.pure x := by intro _; rfl) (hs1 : ∀ env x, foldedSetIterable iter1 env x = Pure.pure x := by intro _ _; rfl) :
    DS X (.Assign [.Name y py] (.ListComp elt [⟨tg, iter, ifs, 0⟩, ⟨tg1, iter1, ifs1, 0⟩] scope pos) spos) (sAsg (mP (xComp2 (own.map (·.2)) vs1 src gx q src1 gx1 q1 e)) (put i)) := (ps_setLc2 hc hN hy hyl hsw hi ok hv hg ht hi1 hg1 ht1 he hs hs1).imp fun E σ H ⟨c, ρ, fp, out, h, e0, k⟩ => by
  obtain ⟨⟨x, ρ1⟩, e1, e0⟩ := Option.bind_eq_some_iff.mp e0
  obtain ⟨ρ2, e2, e0⟩ := Option.bind_eq_some_iff.mp e0
  cases e0
  obtain ⟨x', e3, e1⟩ := Option.bind_eq_some_iff.mp e1
  cases e1
  obtain ⟨hi', rfl⟩ := put_some e2
  exact tLc2_of go σ H _ ⟨_, _, h.sees, e3, fun v H' F s r n => k _ _ _ ((h.same s).put (h.val r (n rfl)).drop hi')⟩
end
end DL
namespace DL
open PySem PySem.Spec L2
/-! ### the plain side of dicts and cells -/
section
variable {s : Slt} {ρ : Env} {f g : EX} {i : Nat}
@[simp] theorem e_dict {vs : List Nat} {src : IX} {gx : GX} {q : QX} {fk fe : EX} : xDict vs src gx q fk fe (s :: ρ) = (src (s :: ρ)).bind fun its => (dictE gx q fk fe (wipeE (s :: ρ) vs) its [] []).bind fun r => some (.dT r.1 r.2) := (rfl)
@[simp] theorem e_comp2 {vs vs1 : List Nat} {src : IX} {gx : GX} {q : QX} {src1 : IX} {gx1 : GX} {q1 : QX} {e : EX} : xComp2 vs vs1 src gx q src1 gx1 q1 e (s :: ρ) = (src (s :: ρ)).bind fun its => (comp2E vs vs1 gx q src1 gx1 q1 e (wipeE (s :: ρ) vs) its).bind fun ys => if ys.length ≤ sizeLine then some (.lst ys) else none := (rfl)
@[simp] theorem e_srcB : srcB i (s :: ρ) = match (s :: ρ)[i]? with | some (some (.bor, d)) => (itemsOf d).bind fun its => some (its, s :: ρ) | _ => none := (rfl)
@[simp] theorem e_lend {g : ES} : sLend i g (s :: ρ) = match (s :: ρ)[i]? with | some (some (.own, d)) => (g ((s :: ρ).set i (some (.bor, d)))).bind (backO i (s :: ρ)) | _ => g (s :: ρ) := (rfl)
def mRng1F (x : List D × Env) : Option (List D × Env) := (rng1F x.1).bind fun its => some (its, x.2)
@[simp] theorem e_mrng1 {ms : EMs} : mRng1 ms (s :: ρ) = (ms (s :: ρ)).bind mRng1F := by
  unfold mRng1 mRng1F rng1F
  congr 1
  funext x
  obtain ⟨ds, ρ1⟩ := x
  match ds with
  | [] => rfl
  | [.int j] =>
    show (if rOk j = true then some (rng 0 j, ρ1) else none) = (if rOk j = true then some (rng 0 j) else none).bind _
    by_cases c : rOk j = true
    · rw [if_pos c, if_pos c]; rfl
    · rw [if_neg c, if_neg c]; rfl
  | [.non] => rfl
  | [.bl _] => rfl
  | [.str _] => rfl
  | [.tup _] => rfl
  | [.lst _] => rfl
  | [.frz _] => rfl
  | [.ctp _] => rfl
  | [.dK _ _] => rfl
  | [.dT _ _] => rfl
  | a :: _ :: _ => cases a <;> rfl
end
@[simp] theorem bor_none : isBor none = false := rfl
@[simp] theorem bor_own {d : D} : isBor (some (.own, d)) = false := rfl
@[simp] theorem bor_pin {d : D} : isBor (some (.pin, d)) = false := rfl
@[simp] theorem bor_bor {d : D} : isBor (some (.bor, d)) = true := rfl
/-! cells sorted -/
def leC (a b : Cell) : Bool := !decide (ltc b a)
theorem leD_cell (a b : Cell) : leD (cellD a) (cellD b) = leC a b := by
  show (!PySem.W.dataLt (py (cellD b)) (py (cellD a))) = _
  rw [lt_cell]
  rfl
theorem sortD_cells (cs : List Cell) : sortD (cs.map cellD) = (cs.mergeSort leC).map cellD := (PySem.W.sort_maps cellD fun a _ b _ => (leD_cell a b).symm).symm
theorem leC_iff {a b : Cell} : leC a b = true ↔ ¬ (b.1 < a.1 ∨ (b.1 = a.1 ∧ b.2 < a.2)) := by
  unfold leC
  rw [Bool.not_eq_true', decide_eq_false_iff_not]
  exact Iff.rfl
theorem ltc_iff {a b : Cell} : ltc a b ↔ (a.1 < b.1 ∨ (a.1 = b.1 ∧ a.2 < b.2)) := Iff.rfl
theorem leC_trans (a b c : Cell) (h1 : leC a b = true) (h2 : leC b c = true) : leC a c = true := by
  rw [leC_iff] at *
  omega
theorem leC_total (a b : Cell) : (leC a b || leC b a) = true := by
  rw [Bool.or_eq_true, leC_iff, leC_iff]
  omega
def srt (cs : List Cell) : List Cell := cs.mergeSort leC
theorem srt_mem {cs : List Cell} {c : Cell} : c ∈ srt cs ↔ c ∈ cs := List.mem_mergeSort
theorem srt_len {cs : List Cell} : (srt cs).length = cs.length := List.length_mergeSort ..
theorem srt_pair {cs : List Cell} (h : cs.Nodup) : (srt cs).Pairwise ltc := by
  have h1 : (srt cs).Pairwise (fun a b => leC a b = true) := List.pairwise_mergeSort leC_trans leC_total cs
  have h2 : (srt cs).Nodup := (List.mergeSort_perm cs leC).nodup_iff.mpr h
  refine (h1.and h2).imp fun {a b} ⟨q, ne⟩ => ?_
  rw [leC_iff] at q
  rw [ltc_iff]
  have : a.1 ≠ b.1 ∨ a.2 ≠ b.2 := by
    by_cases e : a.1 = b.1
    · exact .inr fun e2 => ne (Prod.ext e e2)
    · exact .inl e
  omega
theorem ltc_irrefl (a : Cell) : ¬ ltc a a := by
  rw [ltc_iff]
  omega
theorem pair_nodup {cs : List Cell} (h : cs.Pairwise ltc) : cs.Nodup := h.imp fun {a b} q (e : a = b) => ltc_irrefl b (by rw [e] at q; exact q)
/-- two strictly sorted lists with the same cells are one -/
theorem srt_ext : ∀ {as bs : List Cell}, as.Pairwise ltc → bs.Pairwise ltc → (∀ c, c ∈ as ↔ c ∈ bs) → as = bs
  | [], [], _, _, _ => rfl
  | [], b :: bs, _, _, h => by have := (h b).mpr (List.mem_cons_self ..); cases this
  | a :: as, [], _, _, h => by have := (h a).mp (List.mem_cons_self ..); cases this
  | a :: as, b :: bs, ha, hb, h => by
    rw [List.pairwise_cons] at ha hb
    have e : a = b := by
      rcases List.mem_cons.mp ((h a).mp (List.mem_cons_self ..)) with e | m
      · exact e
      · rcases List.mem_cons.mp ((h b).mpr (List.mem_cons_self ..)) with e | m2
        · exact e.symm
        · have q1 := hb.1 a m
          have q2 := ha.1 b m2
          rw [ltc_iff] at q1 q2
          omega
    subst e
    congr 1
    refine srt_ext ha.2 hb.2 fun c => ⟨fun m => ?_, fun m => ?_⟩
    · rcases List.mem_cons.mp ((h c).mp (List.mem_cons_of_mem _ m)) with e | m2
      · exact absurd (show ltc a a by have := ha.1 c m; rw [e] at this; exact this) (ltc_irrefl _)
      · exact m2
    · rcases List.mem_cons.mp ((h c).mpr (List.mem_cons_of_mem _ m)) with e | m2
      · exact absurd (show ltc a a by have := hb.1 c m; rw [e] at this; exact this) (ltc_irrefl _)
      · exact m2
/-! a dict of cells -/
def keyC (c : Cell) : List Key := [.inl c.1, .inl c.2]
def fd (cs : List Cell) : D := .dT (cs.map keyC) (cs.map fun _ => .bl true)
def ins (cs : List Cell) (c : Cell) : List Cell := if c ∈ cs then cs else cs ++ [c]
theorem mem_ins {cs : List Cell} {c b : Cell} : b ∈ ins cs c ↔ b ∈ cs ∨ b = c := by
  unfold ins
  by_cases h : c ∈ cs
  · rw [if_pos h]
    exact ⟨.inl, fun z => z.elim id fun e => e ▸ h⟩
  · rw [if_neg h, List.mem_append, List.mem_singleton]
theorem nodup_ins {cs : List Cell} {c : Cell} (h : cs.Nodup) : (ins cs c).Nodup := by
  unfold ins
  by_cases m : c ∈ cs
  · rw [if_pos m]; exact h
  · rw [if_neg m]
    exact List.nodup_append.mpr ⟨h, List.nodup_cons.mpr ⟨(fun z => by cases z), List.nodup_nil⟩, fun a ha b hb e => m (by rw [← List.mem_singleton.mp hb, ← e]; exact ha)⟩
theorem sortedA_l (cs : List Cell) : sortedA [.lst (cs.map cellD)] = some (.lst ((srt cs).map cellD)) := by
  show sortedD [.lst (cs.map cellD)] = _
  rw [sorted_IT (isIT_cells cs), sortD_cells]
  rfl
/-! as many as fit into a box -/
theorem few_nats : ∀ (n : Nat) (l : List Nat), l.Nodup → (∀ x ∈ l, x < n) → l.length ≤ n
  | 0, l, _, h => by
    cases l with
    | nil => exact Nat.le_refl _
    | cons x l => exact absurd (h x (List.mem_cons_self ..)) (Nat.not_lt_zero _)
  | n + 1, l, nd, h => by
    by_cases m : n ∈ l
    · have ih := few_nats n (l.erase n) (nd.erase n) fun x hx => by
        have q := (nd.mem_erase_iff).mp hx
        have := h x q.2
        omega
      rw [List.length_erase_of_mem m] at ih
      omega
    · have ih := few_nats n l nd fun x hx => by
        have := h x hx
        have ne : x ≠ n := fun e => m (e ▸ hx)
        omega
      omega
structure Box (cs : List Cell) (h w : Nat) : Prop where
  nd : cs.Nodup
  box : ∀ c ∈ cs, 0 ≤ c.1 ∧ c.1 < (h : Int) ∧ 0 ≤ c.2 ∧ c.2 < (w : Int)
theorem Box.few {cs : List Cell} {h w : Nat} (b : Box cs h w) : cs.length ≤ h * w := by
  have q := few_nats (h * w) (cs.map fun c => c.1.toNat * w + c.2.toNat) ?_ ?_
  · rw [List.length_map] at q
    exact q
  · refine List.pairwise_map.mpr ((List.Pairwise.and_mem.mp b.nd).imp fun {x y} ⟨hx, hy, ne⟩ e => ne ?_)
    have bx := b.box x hx
    have by' := b.box y hy
    have e1 : x.2.toNat = y.2.toNat := by
      have := congrArg (· % w) e
      simp only [Nat.mul_comm _ w, Nat.mul_add_mod] at this
      rw [Nat.mod_eq_of_lt (by omega), Nat.mod_eq_of_lt (by omega)] at this
      exact this
    have e2 : x.1.toNat * w = y.1.toNat * w := by omega
    have e3 := Nat.eq_of_mul_eq_mul_right (by omega) e2
    exact Prod.ext (by omega) (by omega)
  · intro x hx
    obtain ⟨c, hc, rfl⟩ := List.mem_map.mp hx
    have bc := b.box c hc
    have h1 : c.1.toNat + 1 ≤ h := by omega
    have h2 := Nat.mul_le_mul_right w h1
    rw [Nat.add_mul, Nat.one_mul] at h2
    omega
theorem Box.ins {cs : List Cell} {h w : Nat} {c : Cell} (b : Box cs h w) (hc : 0 ≤ c.1 ∧ c.1 < (h : Int) ∧ 0 ≤ c.2 ∧ c.2 < (w : Int)) : Box (ins cs c) h w := ⟨nodup_ins b.nd, fun x hx => (mem_ins.mp hx).elim (b.box x) fun e => e ▸ hc⟩
end DL
namespace DL
open PySem PySem.Spec L2
namespace C
/-! ### the laws' drawn inks -/
abbrev N_law_signed : List Str := ["_law_row", "_law_most"]
def s_law_signed : ES := (sRet (mOp oSub (mCallR takenF 0 (msCons (mP (xOp oAdd (xOp oMul (xC (.int 2)) (xVar 1)) (xC (.int 1)))) msNil)) (mP (xPure (xVar 1)))))
def F_law_signed : D → List D → Option (D × D) := fnR N_law_signed s_law_signed
abbrev N_law_ink : List Str := ["_law_row", "_law_high", "_law_wide", "_law_way", "_law_found", "_law_every", "_law_line", "_law_dense", "_law_cell", "_law_turn", "_law_top", "_law_left", "_law_bottom", "_law_right", "_law_column", "_law_inner", "_law_here", "_law_down"]
def s_law_ink : ES := (sSeq (sPar 3 4 (msCons (mCallR takenF 0 (msCons (mP (xC (.int 6))) msNil)) (msCons (mP (xC (.dT [] []))) msNil)))
  (sSeq (sAsg (mP (xLst xsNil)) (put 5))
  (sSeq (sFor (iP (xRng1 (xsCons (xVar 1) xsNil))) (put 6)
  (sAsg (mP (xOp oAdd (xVar 5) (xComp [14] (xRng1 (xsCons (xVar 2) xsNil)) (putB 14) yYes (xTup (xsCons (xPure (xVar 6)) (xsCons (xPure (xVar 14)) xsNil)))))) (put 5)))
  (sSeq (sIf (tP' (xBool (xOp oLt (xVar 3) (xC (.int 2))))) (sSeq (sAsg (mCallR F_law_pick 0 (msCons (mP (xLst (xsCons (xC (.int 2)) (xsCons (xC (.int 2)) (xsCons (xC (.int 3)) (xsCons (xC (.int 4)) xsNil)))))) msNil)) (put 7))
  (sLend 5 (sFor (srcB 5) (put 8)
  (sIf (mBool (mOp oEq (mOp oEq (mCallR takenF 0 (msCons (mP (xPure (xVar 7))) msNil)) (mP (xC (.int 0)))) (mP (xOp oEq (xVar 3) (xC (.int 0)))))) (sAsg (mP (xC (.bl true))) (gSub' 4 (xVar 8) setT)) sNext)))) (sIf (tP' (xBool (xOp oLt (xVar 3) (xC (.int 4))))) (sFor (mRng1 (msCons (mOp oAdd (mP (xC (.int 1))) (mCallR takenF 0 (msCons (mP (xC (.int 4))) msNil))) msNil)) (put 9)
  (sSeq (sPar 10 11 (msCons (mCallR takenF 0 (msCons (mP (xPure (xVar 1))) msNil)) (msCons (mCallR takenF 0 (msCons (mP (xPure (xVar 2))) msNil)) msNil)))
  (sSeq (sAsg (mTup (msCons (mOp oAdd (mP (xOp oAdd (xVar 10) (xC (.int 1)))) (mCallR takenF 0 (msCons (mP (xOp oSub (xVar 1) (xVar 10))) msNil))) (msCons (mOp oAdd (mP (xOp oAdd (xVar 11) (xC (.int 1)))) (mCallR takenF 0 (msCons (mP (xOp oSub (xVar 2) (xVar 11))) msNil))) msNil))) (gTupD 2 (gsCons (put 12) (gsCons (put 13) gsNil))))
  (sLend 5 (sFor (srcB 5) (gTupD 2 (gsCons (put 6) (gsCons (put 14) gsNil)))
  (sSeq (sAsg (mP (xAnd (xChain oLt oLt (xVar 10) (xVar 6) (xOp oSub (xVar 12) (xC (.int 1)))) (xChain oLt oLt (xVar 11) (xVar 14) (xOp oSub (xVar 13) (xC (.int 1)))))) (put 15))
  (sIf (tP' (yAnd (xBool (xChain oLe oLt (xVar 10) (xVar 6) (xVar 12))) (yAnd (xBool (xChain oLe oLt (xVar 11) (xVar 14) (xVar 13))) (yOr (xBool (xOp oEq (xVar 3) (xC (.int 2)))) (yNot (xBool (xVar 15))))))) (sAsg (mP (xC (.bl true))) (gSub' 4 (xTup (xsCons (xPure (xVar 6)) (xsCons (xPure (xVar 14)) xsNil))) setT)) sNext))))))) (sSeq (sAsg (mTup (msCons (mCallR takenF 0 (msCons (mP (xPure (xVar 1))) msNil)) (msCons (mCallR takenF 0 (msCons (mP (xPure (xVar 2))) msNil)) msNil))) (put 16))
  (sFor (mRng1 (msCons (mOp oAdd (mP (xC (.int 1))) (mCallR takenF 0 (msCons (mP (xOp oMul (xVar 1) (xVar 2))) msNil))) msNil)) (put 9)
  (sSeq (sAsg (mP (xC (.bl true))) (gSub' 4 (xVar 16) setT))
  (sSeq (sAsg (mCallR F_law_pick 0 (msCons (mP (xOp oAdd (xLst (xsCons (xTup (xsCons (xC (.int 0)) (xsCons (xC (.int 1)) xsNil))) (xsCons (xTup (xsCons (xC (.int 0)) (xsCons (xNeg (xC (.int 1))) xsNil))) (xsCons (xTup (xsCons (xC (.int 1)) (xsCons (xC (.int 0)) xsNil))) (xsCons (xTup (xsCons (xNeg (xC (.int 1))) (xsCons (xC (.int 0)) xsNil))) xsNil))))) (xOp oRep (xLst (xsCons (xTup (xsCons (xC (.int 1)) (xsCons (xC (.int 1)) xsNil))) (xsCons (xTup (xsCons (xNeg (xC (.int 1))) (xsCons (xC (.int 1)) xsNil))) xsNil))) (xOp oSub (xVar 3) (xC (.int 4)))))) msNil)) (gTupD 2 (gsCons (put 17) (gsCons (put 13) gsNil))))
  (sIf (tP' (yAnd (xBool (xChain oLe oLt (xC (.int 0)) (xOp oAdd (xOp ixD (xVar 16) (xC (.int 0))) (xVar 17)) (xVar 1))) (xBool (xChain oLe oLt (xC (.int 0)) (xOp oAdd (xOp ixD (xVar 16) (xC (.int 1))) (xVar 13)) (xVar 2))))) (sAsg (mP (xTup (xsCons (xOp oAdd (xOp ixD (xVar 16) (xC (.int 0))) (xVar 17)) (xsCons (xOp oAdd (xOp ixD (xVar 16) (xC (.int 1))) (xVar 13)) xsNil)))) (put 16)) sNext)))))))
  (sSeq (sAsg (mIf (mBool (mOp oEq (mCallR takenF 0 (msCons (mP (xC (.int 4))) msNil)) (mP (xC (.int 0))))) (mTup (msCons (mCallR F_law_signed 0 (msCons (mP (xC (.int 9))) msNil)) (msCons (mCallR F_law_signed 0 (msCons (mP (xC (.int 9))) msNil)) msNil))) (mP (xTup (xsCons (xC (.int 0)) (xsCons (xC (.int 0)) xsNil))))) (gTupD 2 (gsCons (put 17) (gsCons (put 13) gsNil))))
  (sRet (mP (xCall tupleD (xsCons (xCall sortedA (xsCons (xComp [6, 14] (xIt (xCall listA (xsCons (xVar 4) xsNil))) (gTupD 2 (gsCons (putB 6) (gsCons (putB 14) gsNil))) yYes (xTup (xsCons (xOp oAdd (xVar 6) (xVar 17)) (xsCons (xOp oAdd (xVar 14) (xVar 13)) xsNil)))) xsNil)) xsNil)))))))))
def F_law_ink : D → List D → Option (D × D) := fnR N_law_ink s_law_ink
variable {ns : List Int}
/-- all cells of the frame's first i lines -/
def allC (i w : Nat) : List Cell := (List.range i).flatMap fun r : Nat => (List.range w).map fun c : Nat => ((r : Int), (c : Int))
section
variable {h w : Nat} {x6 x7 x8 x9 x10 x11 x12 x13 x14 x15 x16 x17 : Slt} {d : D} {wy : Int} {cs : List Cell}
/-- the names of the ink while it is drawn -/
abbrev en (d : D) (h w : Nat) (wy : Int) (cs : List Cell) (t : Env) : Env := some (.pin, d) :: some (.own, .int (h : Int)) :: some (.own, .int (w : Int)) :: some (.own, .int wy) :: some (.own, fd cs) :: t
variable {x5 : Slt} {m : Int}
def inkB : ES := sIf (mBool (mOp oEq (mOp oEq (mCallR takenF 0 (msCons (mP (xPure (xVar 7))) msNil)) (mP (xC (.int 0)))) (mP (xOp oEq (xVar 3) (xC (.int 0)))))) (sAsg (mP (xC (.bl true))) (gSub' 4 (xVar 8) setT)) sNext
end
end C
end DL
namespace DL
open PySem PySem.Spec L2
/-! ### tests that are truths, whichever -/
section
variable {ρ : Env} {f g h : EX} {p q : QX} {o o' : D → D → Option D}
def IB (o : D → D → Option D) : Prop := ∀ i j : Int, ∃ b, o (.int i) (.int j) = some (.bl b)
end
namespace C
variable {ns : List Int}
section
variable {h w : Nat} {x5 x6 x7 x8 x9 x10 x11 x12 x13 x14 x15 x16 x17 : Slt} {d : D} {wy tp lf bt rt : Int} {cs : List Cell}
def innX : EX := xAnd (xChain oLt oLt (xVar 10) (xVar 6) (xOp oSub (xVar 12) (xC (.int 1)))) (xChain oLt oLt (xVar 11) (xVar 14) (xOp oSub (xVar 13) (xC (.int 1))))
def condX : QX := yAnd (xBool (xChain oLe oLt (xVar 10) (xVar 6) (xVar 12))) (yAnd (xBool (xChain oLe oLt (xVar 11) (xVar 14) (xVar 13))) (yOr (xBool (xOp oEq (xVar 3) (xC (.int 2)))) (yNot (xBool (xVar 15)))))
def inkC1 : ES := sSeq (sAsg (mP innX) (put 15)) (sIf (tP' condX) (sAsg (mP (xC (.bl true))) (gSub' 4 (xTup (xsCons (xPure (xVar 6)) (xsCons (xPure (xVar 14)) xsNil))) setT)) sNext)
def inkC : ES := sSeq (sPar 10 11 (msCons (mCallR takenF 0 (msCons (mP (xPure (xVar 1))) msNil)) (msCons (mCallR takenF 0 (msCons (mP (xPure (xVar 2))) msNil)) msNil)))
  (sSeq (sAsg (mTup (msCons (mOp oAdd (mP (xOp oAdd (xVar 10) (xC (.int 1)))) (mCallR takenF 0 (msCons (mP (xOp oSub (xVar 1) (xVar 10))) msNil))) (msCons (mOp oAdd (mP (xOp oAdd (xVar 11) (xC (.int 1)))) (mCallR takenF 0 (msCons (mP (xOp oSub (xVar 2) (xVar 11))) msNil))) msNil))) (gTupD 2 (gsCons (put 12) (gsCons (put 13) gsNil))))
  (sLend 5 (sFor (srcB 5) (gTupD 2 (gsCons (put 6) (gsCons (put 14) gsNil))) inkC1)))
end
end C
end DL
namespace DL
open PySem PySem.Spec L2
namespace C
variable {ns : List Int}
section
variable {h w n : Nat} {x5 x6 x7 x8 x9 x10 x11 x12 x13 x14 x15 x16 x17 : Slt} {d : D} {wy : Int} {cs : List Cell}
/-! the walker -/
def wayL : EX := xOp oAdd (xLst (xsCons (xTup (xsCons (xC (.int 0)) (xsCons (xC (.int 1)) xsNil))) (xsCons (xTup (xsCons (xC (.int 0)) (xsCons (xNeg (xC (.int 1))) xsNil))) (xsCons (xTup (xsCons (xC (.int 1)) (xsCons (xC (.int 0)) xsNil))) (xsCons (xTup (xsCons (xNeg (xC (.int 1))) (xsCons (xC (.int 0)) xsNil))) xsNil))))) (xOp oRep (xLst (xsCons (xTup (xsCons (xC (.int 1)) (xsCons (xC (.int 1)) xsNil))) (xsCons (xTup (xsCons (xNeg (xC (.int 1))) (xsCons (xC (.int 1)) xsNil))) xsNil))) (xOp oSub (xVar 3) (xC (.int 4))))
def inkE : ES := sSeq (sAsg (mP (xC (.bl true))) (gSub' 4 (xVar 16) setT)) (sSeq (sAsg (mCallR F_law_pick 0 (msCons (mP wayL) msNil)) (gTupD 2 (gsCons (put 17) (gsCons (put 13) gsNil))))
  (sIf (tP' (yAnd (xBool (xChain oLe oLt (xC (.int 0)) (xOp oAdd (xOp ixD (xVar 16) (xC (.int 0))) (xVar 17)) (xVar 1))) (xBool (xChain oLe oLt (xC (.int 0)) (xOp oAdd (xOp ixD (xVar 16) (xC (.int 1))) (xVar 13)) (xVar 2))))) (sAsg (mP (xTup (xsCons (xOp oAdd (xOp ixD (xVar 16) (xC (.int 0))) (xVar 17)) (xsCons (xOp oAdd (xOp ixD (xVar 16) (xC (.int 1))) (xVar 13)) xsNil)))) (put 16)) sNext))
theorem ways {t : Env} (hw : wy = 4 ∨ wy = 5) : ∃ xs : List D, wayL (en d h w wy cs t) = some (.lst xs) ∧ 0 < xs.length ∧ xs.length < 1000000 ∧ pures xs = true ∧ ∀ (j : Nat) (hj : j < xs.length), ∃ a b : Int, xs[j] = .tup [.int a, .int b] := by
  rcases hw with rfl | rfl
  · refine ⟨[.tup [.int 0, .int 1], .tup [.int 0, .int (-1)], .tup [.int 1, .int 0], .tup [.int (-1), .int 0]], ?_, by decide, by decide, rfl, fun j hj => ?_⟩
    · have e1 := rep_ok (xs := [.tup [.int 1, .int 1], .tup [.int (-1), .int 1]]) (j := 0) rfl (by rw [size_eq]; decide) (by decide)
      have e1' : oRep (.lst [.tup [.int 1, .int 1], .tup [.int (-1), .int 1]]) (.int 0) = some (.lst []) := e1
      unfold wayL
      simp (disch := omega) [if_size, e1', oAdd]
    · have hj' : j < 4 := hj
      match j, hj' with
      | 0, _ => exact ⟨_, _, rfl⟩
      | 1, _ => exact ⟨_, _, rfl⟩
      | 2, _ => exact ⟨_, _, rfl⟩
      | 3, _ => exact ⟨_, _, rfl⟩
  · refine ⟨[.tup [.int 0, .int 1], .tup [.int 0, .int (-1)], .tup [.int 1, .int 0], .tup [.int (-1), .int 0], .tup [.int 1, .int 1], .tup [.int (-1), .int 1]], ?_, by decide, by decide, rfl, fun j hj => ?_⟩
    · have e1 := rep_ok (xs := [.tup [.int 1, .int 1], .tup [.int (-1), .int 1]]) (j := 1) rfl (by rw [size_eq]; decide) (by decide)
      have e1' : oRep (.lst [.tup [.int 1, .int 1], .tup [.int (-1), .int 1]]) (.int 1) = some (.lst [.tup [.int 1, .int 1], .tup [.int (-1), .int 1]]) := e1
      unfold wayL
      simp (disch := omega) [if_size, e1', oAdd]
    · have hj' : j < 6 := hj
      match j, hj' with
      | 0, _ => exact ⟨_, _, rfl⟩
      | 1, _ => exact ⟨_, _, rfl⟩
      | 2, _ => exact ⟨_, _, rfl⟩
      | 3, _ => exact ⟨_, _, rfl⟩
      | 4, _ => exact ⟨_, _, rfl⟩
      | 5, _ => exact ⟨_, _, rfl⟩
end
end C
end DL
namespace DL
open PySem PySem.Spec L2
namespace C
variable {ns : List Int}
/-- an ink of the laws: strictly sorted cells, at most high * wide of them, nine cells off the frame at most -/
structure Inked (cs : List Cell) (h w : Nat) : Prop where
  len : cs.length ≤ h * w
  row : ∀ c ∈ cs, -9 ≤ c.1 ∧ c.1 < (h : Int) + 9
  col : ∀ c ∈ cs, -9 ≤ c.2 ∧ c.2 < (w : Int) + 9
  srt : cs.Pairwise ltc
  box : ∃ t l : Int, (-9 ≤ t ∧ t ≤ 9) ∧ (-9 ≤ l ∧ l ≤ 9) ∧ ∀ c ∈ cs, (t ≤ c.1 ∧ c.1 < t + (h : Int)) ∧ (l ≤ c.2 ∧ c.2 < l + (w : Int))
theorem Inked.good {cs : List Cell} {h w : Nat} (i : Inked cs h w) (hh : h ≤ 20) (hw : w ≤ 20) : Good cs := by
  have hl := i.len
  have hm : h * w ≤ 20 * 20 := Nat.mul_le_mul hh hw
  exact ⟨by omega, fun c hc => by have := i.row c hc; omega, fun c hc => by have := i.col c hc; omega, i.srt⟩
def shiftS : ES := sRet (mP (xCall tupleD (xsCons (xCall sortedA (xsCons (xComp [6, 14] (xIt (xCall listA (xsCons (xVar 4) xsNil))) (gTupD 2 (gsCons (putB 6) (gsCons (putB 14) gsNil))) yYes (xTup (xsCons (xOp oAdd (xVar 6) (xVar 17)) (xsCons (xOp oAdd (xVar 14) (xVar 13)) xsNil)))) xsNil)) xsNil)))
def shiftC (a b : Int) (c : Cell) : Cell := (c.1 + a, c.2 + b)
/-- the last two statements -/
def endS : ES := sSeq (sAsg (mIf (mBool (mOp oEq (mCallR takenF 0 (msCons (mP (xC (.int 4))) msNil)) (mP (xC (.int 0))))) (mTup (msCons (mCallR F_law_signed 0 (msCons (mP (xC (.int 9))) msNil)) (msCons (mCallR F_law_signed 0 (msCons (mP (xC (.int 9))) msNil)) msNil))) (mP (xTup (xsCons (xC (.int 0)) (xsCons (xC (.int 0)) xsNil))))) (gTupD 2 (gsCons (put 17) (gsCons (put 13) gsNil)))) shiftS
end C
end DL
namespace DL
open PySem PySem.Spec PyProof.Rows L2
/-! ### the module's own tuples -/
def atomD : Value → Option D
  | .int i _ => some (.int i)
  | .str x _ => some (.str x)
  | .bool b => some (.bl b)
  | .none => some .non
  | _ => none
def atomsD : List Value → Option (List D)
  | [] => some []
  | u :: us => (atomD u).bind fun d => (atomsD us).bind fun ds => some (d :: ds)
end DL
namespace DL
open PySem PySem.Spec L2
/-! ### inks and lists compared; min and max of numbers -/
theorem pys_cells (cs : List Cell) : pys (cs.map cellD) = cs.map fun c => PyData.tuple [.int c.1, .int c.2] := by
  rw [pys_map, List.map_map]
  exact List.map_congr_left fun c _ => py_cell c
theorem depth_cells : ∀ cs : List Cell, PyData.depthAll (cs.map fun c => PyData.tuple [.int c.1, .int c.2]) ≤ 1
  | [] => Nat.zero_le _
  | c :: cs => by
    rw [List.map_cons, PyData.depthAll]
    have := depth_cells cs
    have e : (PyData.tuple [.int c.1, .int c.2]).depth = 1 := by simp [PyData.depth, PyData.depthAll]
    omega
theorem lay_cells : ∀ cs : List Cell, PyData.canLayAll0 (cs.map fun c => PyData.tuple [.int c.1, .int c.2]) = true
  | [] => rfl
  | c :: cs => by
    rw [List.map_cons, PyData.canLayAll0, lay_cells cs]
    simp [PyData.canLay0, PyData.canLayAll0]
def minI : List Int → Int
  | [] => 0
  | n :: ns => ns.foldl min n
def maxI : List Int → Int
  | [] => 0
  | n :: ns => ns.foldl max n
end DL
namespace DL
open PySem PySem.Spec PyProof.Rows L2
/-! ### {k: v, ..} with tuples as keys -/
def flatP : List (V × V) → List V
  | [] => []
  | p :: r => p.1 :: p.2 :: flatP r
def tPM (K : PySem.W.Frag) (ms : EMs) (σ : L2.St) (H : Hp) (Q : List (V × V) → Hp → Prop) : Prop := ∃ c ρ fp ds ρ', Ok K c σ H ρ fp ∧ ms ρ = some (ds, ρ') ∧ ∀ ps H' fp' F, Ok K c σ H' ρ' fp' → Vals' K c H' ρ' fp' ds (flatP ps) F → Q ps H'
structure DPP (X : Cx) (pos : Pos) (keys : List (Option Expr)) (values : List Expr) (ms : EMs) : Prop where
  run : ∀ (pins : List (Addr × Obj)) (s : Shared) (σ : L2.St) (H : Hp) (Q : List (V × V) → Hp → Prop), Inv X pins σ H s → tPM X.K ms σ H Q →
    wpAny (model X.prog X.w) X.A (evalPairs (pairTrees keys values X.env pos)) (fun vs s' => ∃ ps H', Inv X pins σ H' s' ∧ VV ps vs ∧ Q ps H') X.xe s
section
variable {X : Cx} {pos : Pos} {k v : Expr} {ks keys : List (Option Expr)} {vs values : List Expr} {mk mv : EM} {ms : EMs}
end
def dispD : List D → List (List Key) → List D → Option D
  | [], ks, xs => some (.dT ks xs)
  | [_], _, _ => none
  | k :: v :: r, ks, xs => (toKeyT k).bind fun q => if pure v = true then dispD r (putKs ks q) (putVs ks xs q v) else none
def mDisp (ms : EMs) : EM := fun ρ => (ms ρ).bind fun x => (dispD x.1 [] []).bind fun d => some (d, x.2)
/-! ### x[k] = v, the key an expression that turns the state -/
def gSubM (i : Nat) (ix : EM) (o : D → D → D → Option D) : GX := fun v ρ => (ownAt i ρ).bind fun _ => (ix ρ).bind fun kk => (ownAt i kk.2).bind fun z => (o z.2 kk.1 v).bind fun d' => some (kk.2.set i (some (z.1, d')))
section
variable {X : Cx} {a b e : Expr} {pos : Pos} {i : Nat} {m : EM}
end
end DL
namespace DL
open PySem PySem.Spec L2
/-! ### inks made of cells, plain side -/
def In60 (c : Cell) : Prop := (-60 ≤ c.1 ∧ c.1 ≤ 60) ∧ (-60 ≤ c.2 ∧ c.2 ≤ 60)
def uniq (cs : List Cell) : List Cell := cs.foldl ins []
theorem mem_fold : ∀ (cs as : List Cell) {b : Cell}, b ∈ cs.foldl ins as ↔ b ∈ as ∨ b ∈ cs
  | [], as, b => by simp
  | c :: cs, as, b => by
    rw [List.foldl_cons, mem_fold cs, mem_ins, List.mem_cons, or_assoc]
theorem nodup_fold : ∀ (cs as : List Cell), as.Nodup → (cs.foldl ins as).Nodup
  | [], _, h => h
  | c :: cs, as, h => nodup_fold cs _ (nodup_ins h)
theorem ins_len (as : List Cell) (c : Cell) : (ins as c).length ≤ as.length + 1 := by
  unfold ins
  split
  · omega
  · rw [List.length_append]
    exact Nat.le_refl _
theorem mem_uniq {cs : List Cell} {b : Cell} : b ∈ uniq cs ↔ b ∈ cs := by
  unfold uniq
  rw [mem_fold]
  simp
theorem nodup_uniq (cs : List Cell) : (uniq cs).Nodup := nodup_fold cs [] List.nodup_nil
/-- the ink of some cells -/
def mk (cs : List Cell) : List Cell := srt (uniq cs)
theorem mk_mem {cs : List Cell} {c : Cell} : c ∈ mk cs ↔ c ∈ cs := srt_mem.trans mem_uniq
theorem mk_pair (cs : List Cell) : (mk cs).Pairwise ltc := srt_pair (nodup_uniq cs)
/-! comprehensions -/
theorem comp2_gen {α β : Type} {vs vs1 : List Nat} {gx : GX} {src1 : IX} {gx1 : GX} {q1 : QX} {e : EX} {ρ : Env} (g : α → D) (gb : α → β → D) (ys : α → List β) (p : α → β → Bool) (f : α → β → D) (hp : ∀ a b, pure (f a b) = true) : ∀ xs : List α,
    (∀ a ∈ xs, ∃ ρ1, gx (g a) ρ = some ρ1 ∧ plainAt vs ρ1 = true ∧ src1 ρ1 = some ((ys a).map (gb a)) ∧ ∀ b ∈ ys a, ∃ ρ2, gx1 (gb a b) (wipeE ρ1 vs1) = some ρ2 ∧ q1 ρ2 = some (p a b) ∧ (p a b = true → e ρ2 = some (f a b))) →
    comp2E vs vs1 gx yYes src1 gx1 q1 e ρ (xs.map g) = some (xs.flatMap fun a => ((ys a).filter (p a)).map (f a))
  | [], _ => rfl
  | a :: xs, h => by
    obtain ⟨ρ1, h1, h2, h3, h4⟩ := h a (List.mem_cons_self ..)
    have ih := comp2_gen g gb ys p f hp xs fun b hb => h b (List.mem_cons_of_mem _ hb)
    have c := comp_map (gx := gx1) (q := q1) (e := e) (ρ := wipeE ρ1 vs1) (gb a) (p a) (f a) (ys a) h4
    have pz : ∀ l : List β, pures (l.map (f a)) = true := fun l => by
      induction l with
      | nil => rfl
      | cons b l ih => rw [List.map_cons, pures, hp, ih]; rfl
    rw [List.map_cons, comp2E, h1, Option.bind_some, if_pos h2]
    show (some true).bind _ = _
    rw [Option.bind_some, if_pos rfl, h3, Option.bind_some, c, Option.bind_some, if_pos (pz _), ih, Option.bind_some, List.flatMap_cons]
theorem toBls_map {α : Type} (f : α → Bool) : ∀ l : List α, toBls (l.map fun a => D.bl (f a)) = some (l.map f)
  | [] => rfl
  | a :: l => by
    rw [List.map_cons, toBls, toBls_map f l]
    rfl
theorem all_map {α : Type} (f : α → Bool) (l : List α) : allD [.lst (l.map fun a => D.bl (f a))] = some (.bl (l.all f)) := by
  show (toBls (l.map fun a => D.bl (f a))).map (fun ns => D.bl (ns.all id)) = _
  rw [toBls_map, Option.map_some, List.all_map]
  rfl
theorem any_map {α : Type} (f : α → Bool) (l : List α) : anyD [.lst (l.map fun a => D.bl (f a))] = some (.bl (l.any f)) := by
  show (toBls (l.map fun a => D.bl (f a))).map (fun ns => D.bl (ns.any id)) = _
  rw [toBls_map, Option.map_some, List.any_map]
  rfl
theorem itemsD_ink (cs : List Cell) : itemsOf (inkD cs) = some (cs.map cellD) := rfl
theorem pure_ink (cs : List Cell) : pure (inkD cs) = true := pures_cells cs
namespace C
abbrev N_made : List Str := ["cells", "found", "cell", "part"]
def s_made : ES := (sSeq (sAsg (mP (xCall tupleD (xsCons (xCall sortedA (xsCons (xDict [2] (xIt (xVar 0)) (putB 2) yYes (xPure (xVar 2)) (xC (.bl true))) xsNil)) xsNil))) (put 1))
  (sSeq (sIf (tP' (yNot (xBool (xCall allD (xsCons (xComp2 [2, 3] [3] (xIt (xVar 1)) (putB 2) yYes (xIt (xPure (xVar 2))) (putB 3) yYes (xChain oLe oLe (xNeg (xC (.int 60))) (xVar 3) (xC (.int 60)))) xsNil))))) sNever sNext)
  (sSeq (sIf (tP' (xBool (xOp oGt (xCall lenD (xsCons (xVar 1) xsNil)) (xC (.int 400))))) sNever sNext)
  (sRet (mP (xPure (xVar 1)))))))
def F_made : List D → Option D := fnP N_made s_made
abbrev N_moved_in : List Str := ["ink", "down", "right", "row", "column"]
def s_moved_in : ES := (sRet (mP (xComp [3, 4] (xIt (xVar 0)) (gTupD 2 (gsCons (putB 3) (gsCons (putB 4) gsNil))) yYes (xTup (xsCons (xOp oAdd (xVar 3) (xVar 1)) (xsCons (xOp oAdd (xVar 4) (xVar 2)) xsNil))))))
def F_moved_in : List D → Option D := fnP N_moved_in s_moved_in
def tr2 (l : List Cell) : List D := l.flatMap fun _ : Cell => ([0, 1] : List Nat).map fun _ : Nat => D.bl true
end C
end DL
namespace DL
open PySem PySem.Spec L2
/-! ### loops as folds; sums of inks -/
abbrev addC (a b : Cell) : Cell := (a.1 + b.1, a.2 + b.2)
abbrev subC (a b : Cell) : Cell := (a.1 - b.1, a.2 - b.2)
def sumC (as bs : List Cell) : List Cell := as.flatMap fun a => bs.map (addC a)
theorem mem_sumC {as bs : List Cell} {c : Cell} : c ∈ sumC as bs ↔ ∃ a ∈ as, ∃ b ∈ bs, addC a b = c := by
  unfold sumC
  simp only [List.mem_flatMap, List.mem_map]
def fitC (as : List Cell) (p : Cell) (bs : List Cell) : Bool := bs.all fun b => decide (addC p b ∈ as)
def b0 (bs : List Cell) : Cell := bs.headD (0, 0)
def shrC (as bs : List Cell) : List Cell := (as.map fun a => subC a (b0 bs)).filter fun p => fitC as p bs
namespace C
abbrev N_need_shape : List Str := ["shape"]
def s_need_shape : ES := (sSeq (sDrop (mP (xCall F_need_ink (xsCons (xVar 0) xsNil))))
  (sIf (tP' (xBool (xOp oEq (xVar 0) (xTup xsNil)))) sNever sNext))
def F_need_shape : List D → Option D := fnP N_need_shape s_need_shape
abbrev N_sum_of : List Str := ["ink", "shape", "row", "column", "down", "right"]
def s_sum_of : ES := (sRet (mP (xCall F_made (xsCons (xComp2 [2, 3, 4, 5] [4, 5] (xIt (xVar 0)) (gTupD 2 (gsCons (putB 2) (gsCons (putB 3) gsNil))) yYes (xIt (xPure (xVar 1))) (gTupD 2 (gsCons (putB 4) (gsCons (putB 5) gsNil))) yYes (xTup (xsCons (xOp oAdd (xVar 2) (xVar 4)) (xsCons (xOp oAdd (xVar 3) (xVar 5)) xsNil)))) xsNil))))
def F_sum_of : List D → Option D := fnP N_sum_of s_sum_of
abbrev N_fits : List Str := ["cells", "place", "shape", "down", "right"]
def s_fits : ES := (sRet (mP (xCall allD (xsCons (xComp [3, 4] (xIt (xVar 2)) (gTupD 2 (gsCons (putB 3) (gsCons (putB 4) gsNil))) yYes (xOp oIn (xTup (xsCons (xOp oAdd (xOp ixD (xVar 1) (xC (.int 0))) (xVar 3)) (xsCons (xOp oAdd (xOp ixD (xVar 1) (xC (.int 1))) (xVar 4)) xsNil))) (xVar 0))) xsNil))))
def F_fits : List D → Option D := fnP N_fits s_fits
abbrev N_shrunk : List Str := ["ink", "shape", "cells", "down", "right", "places", "cell", "row", "column", "place"]
def s_shrunk : ES := (sSeq (sAsg (mP (xTup (xsCons (xDict [6] (xIt (xVar 0)) (putB 6) yYes (xPure (xVar 6)) (xC (.bl true))) (xsCons (xPure (xOp ixD (xVar 1) (xC (.int 0)))) xsNil)))) (gTupD 2 (gsCons (put 2) (gsCons (gTupD 2 (gsCons (put 3) (gsCons (put 4) gsNil))) gsNil))))
  (sSeq (sAsg (mP (xComp [7, 8] (xIt (xVar 0)) (gTupD 2 (gsCons (putB 7) (gsCons (putB 8) gsNil))) yYes (xTup (xsCons (xOp oSub (xVar 7) (xVar 3)) (xsCons (xOp oSub (xVar 8) (xVar 4)) xsNil))))) (put 5))
  (sRet (mP (xCall F_made (xsCons (xComp [9] (xIt (xVar 5)) (putB 9) (xBool (xCall F_fits (xsCons (xVar 2) (xsCons (xVar 9) (xsCons (xVar 1) xsNil))))) (xPure (xVar 9))) xsNil))))))
def F_shrunk : List D → Option D := fnP N_shrunk s_shrunk
abbrev N_dilated : List Str := ["ink", "shape"]
def s_dilated : ES := (sSeq (sDrop (mP (xCall F_need_ink (xsCons (xVar 0) xsNil))))
  (sSeq (sDrop (mP (xCall F_need_shape (xsCons (xVar 1) xsNil))))
  (sRet (mP (xCall F_sum_of (xsCons (xVar 0) (xsCons (xVar 1) xsNil)))))))
def F_dilated : List D → Option D := fnP N_dilated s_dilated
abbrev N_eroded : List Str := ["ink", "shape"]
def s_eroded : ES := (sSeq (sDrop (mP (xCall F_need_ink (xsCons (xVar 0) xsNil))))
  (sSeq (sDrop (mP (xCall F_need_shape (xsCons (xVar 1) xsNil))))
  (sRet (mP (xCall F_shrunk (xsCons (xVar 0) (xsCons (xVar 1) xsNil)))))))
def F_eroded : List D → Option D := fnP N_eroded s_eroded
abbrev N_opened : List Str := ["ink", "shape"]
def s_opened : ES := (sSeq (sDrop (mP (xCall F_need_ink (xsCons (xVar 0) xsNil))))
  (sSeq (sDrop (mP (xCall F_need_shape (xsCons (xVar 1) xsNil))))
  (sRet (mP (xCall F_sum_of (xsCons (xCall F_shrunk (xsCons (xVar 0) (xsCons (xVar 1) xsNil))) (xsCons (xVar 1) xsNil)))))))
def F_opened : List D → Option D := fnP N_opened s_opened
abbrev N_closed : List Str := ["ink", "shape"]
def s_closed : ES := (sSeq (sDrop (mP (xCall F_need_ink (xsCons (xVar 0) xsNil))))
  (sSeq (sDrop (mP (xCall F_need_shape (xsCons (xVar 1) xsNil))))
  (sRet (mP (xCall F_shrunk (xsCons (xCall F_sum_of (xsCons (xVar 0) (xsCons (xVar 1) xsNil))) (xsCons (xVar 1) xsNil)))))))
def F_closed : List D → Option D := fnP N_closed s_closed
end C
end DL
namespace DL
open PySem PySem.Spec L2
/-- a small shape with a cell -/
structure Shp (bs : List Cell) : Prop where
  ne : bs ≠ []
  len : bs.length ≤ 6
  row : ∀ c ∈ bs, -2 ≤ c.1 ∧ c.1 ≤ 2
  col : ∀ c ∈ bs, -2 ≤ c.2 ∧ c.2 ≤ 2
  srt : bs.Pairwise ltc
theorem Shp.good {bs : List Cell} (s : Shp bs) : Good bs := ⟨by have := s.len; omega, fun c hc => by have := s.row c hc; omega, fun c hc => by have := s.col c hc; omega, s.srt⟩
theorem Shp.b0 {bs : List Cell} (s : Shp bs) : b0 bs ∈ bs := by
  have := s.ne
  cases bs with
  | nil => exact absurd rfl this
  | cons b bs => exact List.mem_cons_self ..
namespace C
/-! the laws' own sums -/
abbrev N_law_sum_of : List Str := ["_law_ink_here", "_law_shape_here", "_law_found", "_law_line", "_law_column", "_law_down", "_law_right"]
def s_law_sum_of : ES := (sSeq (sAsg (mP (xC (.dT [] []))) (put 2))
  (sSeq (sFor (iP (xIt (xPure (xVar 0)))) (gTupD 2 (gsCons (put 3) (gsCons (put 4) gsNil)))
  (sFor (iP (xIt (xPure (xVar 1)))) (gTupD 2 (gsCons (put 5) (gsCons (put 6) gsNil)))
  (sAsg (mP (xC (.bl true))) (gSub' 2 (xTup (xsCons (xOp oAdd (xVar 3) (xVar 5)) (xsCons (xOp oAdd (xVar 4) (xVar 6)) xsNil))) setT))))
  (sRet (mP (xCall tupleD (xsCons (xCall sortedA (xsCons (xCall listA (xsCons (xVar 2) xsNil)) xsNil)) xsNil))))))
def F_law_sum_of : List D → Option D := fnP N_law_sum_of s_law_sum_of
abbrev N_law_shrunk : List Str := ["_law_ink_here", "_law_shape_here", "_law_found", "_law_line", "_law_column", "_law_place", "_law_one"]
def s_law_shrunk : ES := (sSeq (sAsg (mP (xLst xsNil)) (put 2))
  (sSeq (sFor (iP (xIt (xPure (xVar 0)))) (gTupD 2 (gsCons (put 3) (gsCons (put 4) gsNil)))
  (sSeq (sAsg (mP (xTup (xsCons (xOp oSub (xVar 3) (xOp ixD (xOp ixD (xVar 1) (xC (.int 0))) (xC (.int 0)))) (xsCons (xOp oSub (xVar 4) (xOp ixD (xOp ixD (xVar 1) (xC (.int 0))) (xC (.int 1)))) xsNil)))) (put 5))
  (sIf (tP' (xBool (xOp oEq (xComp [6] (xIt (xVar 1)) (putB 6) (xBool (xOp oNin (xTup (xsCons (xOp oAdd (xOp ixD (xVar 5) (xC (.int 0))) (xOp ixD (xVar 6) (xC (.int 0)))) (xsCons (xOp oAdd (xOp ixD (xVar 5) (xC (.int 1))) (xOp ixD (xVar 6) (xC (.int 1)))) xsNil))) (xVar 0))) (xPure (xVar 6))) (xLst xsNil)))) (sDrop (mMut isL appendD 2 (msCons (mP (xPure (xVar 5))) msNil))) sNext)))
  (sRet (mP (xCall tupleD (xsCons (xCall sortedA (xsCons (xVar 2) xsNil)) xsNil))))))
def F_law_shrunk : List D → Option D := fnP N_law_shrunk s_law_shrunk
abbrev N_law_shape : List Str := ["_law_row", "_law_found", "_law_turn", "_law_named"]
def s_law_shape : ES := (sSeq (sAsg (mDisp (msCons (mTup (msCons (mCallR F_law_signed 0 (msCons (mP (xC (.int 2))) msNil)) (msCons (mCallR F_law_signed 0 (msCons (mP (xC (.int 2))) msNil)) msNil))) (msCons (mP (xC (.bl true))) msNil))) (put 1))
  (sSeq (sFor (mRng1 (msCons (mCallR takenF 0 (msCons (mP (xC (.int 5))) msNil)) msNil)) (put 2)
  (sAsg (mP (xC (.bl true))) (gSubM 1 (mTup (msCons (mCallR F_law_signed 0 (msCons (mP (xC (.int 2))) msNil)) (msCons (mCallR F_law_signed 0 (msCons (mP (xC (.int 2))) msNil)) msNil))) setT)))
  (sSeq (sAsg (mP (xLst (xsCons (xTup (xsCons (xTup (xsCons (xC (.int 0)) (xsCons (xC (.int 0)) xsNil))) xsNil)) (xsCons (xTup (xsCons (xTup (xsCons (xC (.int 0)) (xsCons (xC (.int 0)) xsNil))) (xsCons (xTup (xsCons (xC (.int 0)) (xsCons (xC (.int 1)) xsNil))) xsNil))) (xsCons (xTup (xsCons (xTup (xsCons (xNeg (xC (.int 1))) (xsCons (xC (.int 0)) xsNil))) (xsCons (xTup (xsCons (xC (.int 0)) (xsCons (xNeg (xC (.int 1))) xsNil))) (xsCons (xTup (xsCons (xC (.int 0)) (xsCons (xC (.int 0)) xsNil))) (xsCons (xTup (xsCons (xC (.int 0)) (xsCons (xC (.int 1)) xsNil))) (xsCons (xTup (xsCons (xC (.int 1)) (xsCons (xC (.int 0)) xsNil))) xsNil)))))) (xsCons (xTup (xsCons (xTup (xsCons (xC (.int 0)) (xsCons (xC (.int 0)) xsNil))) (xsCons (xTup (xsCons (xC (.int 0)) (xsCons (xC (.int 1)) xsNil))) (xsCons (xTup (xsCons (xC (.int 1)) (xsCons (xC (.int 0)) xsNil))) (xsCons (xTup (xsCons (xC (.int 1)) (xsCons (xC (.int 1)) xsNil))) xsNil))))) xsNil)))))) (put 3))
  (sRet (mCallR F_law_pick 0 (msCons (mP (xOp oAdd (xLst (xsCons (xCall tupleD (xsCons (xCall sortedA (xsCons (xCall listA (xsCons (xVar 1) xsNil)) xsNil)) xsNil)) (xsCons (xCall tupleD (xsCons (xCall sortedA (xsCons (xCall listA (xsCons (xVar 1) xsNil)) xsNil)) xsNil)) xsNil))) (xVar 3))) msNil))))))
def F_law_shape : D → List D → Option (D × D) := fnR N_law_shape s_law_shape
end C
end DL
namespace DL
open PySem PySem.Spec L2
/-! ### the drawn shape -/
structure ShU (cs : List Cell) (n : Nat) : Prop where
  ne : cs ≠ []
  nd : cs.Nodup
  len : cs.length ≤ n
  box : ∀ c ∈ cs, (-2 ≤ c.1 ∧ c.1 ≤ 2) ∧ (-2 ≤ c.2 ∧ c.2 ≤ 2)
theorem ShU.ins {cs : List Cell} {n : Nat} {c : Cell} (s : ShU cs n) (hc : (-2 ≤ c.1 ∧ c.1 ≤ 2) ∧ (-2 ≤ c.2 ∧ c.2 ≤ 2)) : ShU (ins cs c) (n + 1) := by
  refine ⟨fun z => ?_, nodup_ins s.nd, ?_, fun b hb => (mem_ins.mp hb).elim (s.box b) fun e => e ▸ hc⟩
  · have : c ∈ DL.ins cs c := mem_ins.mpr (.inr rfl)
    rw [z] at this
    cases this
  · have h1 := ins_len cs c
    have h2 := s.len
    omega
theorem ShU.shp {cs : List Cell} {n : Nat} (s : ShU cs n) (hn : n ≤ 6) : Shp (srt cs) := by
  refine ⟨fun z => ?_, ?_, fun c hc => (s.box c (srt_mem.mp hc)).1, fun c hc => (s.box c (srt_mem.mp hc)).2, srt_pair s.nd⟩
  · have h1 := congrArg List.length z
    rw [srt_len] at h1
    exact s.ne (List.length_eq_zero_iff.mp h1)
  · rw [srt_len]
    have := s.len
    omega
namespace C
variable {ns : List Int}
def sh1 : List Cell := [(0, 0)]
def sh2 : List Cell := [(0, 0), (0, 1)]
def sh3 : List Cell := [(-1, 0), (0, -1), (0, 0), (0, 1), (1, 0)]
def sh4 : List Cell := [(0, 0), (0, 1), (1, 0), (1, 1)]
end C
end DL
namespace DL
open PySem PySem.Spec L2
/-! ### drawn inks and drawn shapes together -/
namespace C
section
variable {as bs : List Cell} {h w : Nat}
end
end C
end DL
namespace DL
open PySem PySem.Spec L2
/-! ### sums of so many equal shapes -/
/-- cells near (0, 0) -/
def Near (n : Int) (cs : List Cell) : Prop := ∀ c ∈ cs, (-n ≤ c.1 ∧ c.1 ≤ n) ∧ (-n ≤ c.2 ∧ c.2 ≤ n)
theorem Near.few {cs : List Cell} {n : Nat} (h : Near n cs) (nd : cs.Nodup) : cs.length ≤ (2 * n + 1) * (2 * n + 1) := by
  have b : Box (cs.map fun c => (c.1 + (n : Int), c.2 + (n : Int))) (2 * n + 1) (2 * n + 1) := by
    refine ⟨?_, fun c hc => ?_⟩
    · refine List.pairwise_map.mpr (nd.imp fun {a b} ne e => ne ?_)
      simp only [Prod.mk.injEq] at e
      exact Prod.ext (by omega) (by omega)
    · obtain ⟨a, ha, rfl⟩ := List.mem_map.mp hc
      have := h a ha
      refine ⟨?_, ?_, ?_, ?_⟩ <;> simp only <;> omega
  have := b.few
  rw [List.length_map] at this
  exact this
def Wn (bs : List Cell) : Nat → List Cell
  | 0 => [(0, 0)]
  | n + 1 => mk (sumC (Wn bs n) bs)
/-- opened -/
def opn (as bs : List Cell) : List Cell := mk (sumC (mk (shrC as bs)) bs)
end DL
namespace DL
open PySem PySem.Spec L2
/-! ### boxes -/
/-- cells in a box of so many lines and columns -/
theorem box_few {cs : List Cell} {t l : Int} {h w : Nat} (nd : cs.Nodup) (b : ∀ c ∈ cs, (t ≤ c.1 ∧ c.1 < t + (h : Int)) ∧ (l ≤ c.2 ∧ c.2 < l + (w : Int))) : cs.length ≤ h * w := by
  have bx : Box (cs.map fun c => (c.1 - t, c.2 - l)) h w := by
    refine ⟨?_, fun c hc => ?_⟩
    · refine List.pairwise_map.mpr (nd.imp fun {a b} ne e => ne ?_)
      simp only [Prod.mk.injEq] at e
      exact Prod.ext (by omega) (by omega)
    · obtain ⟨a, ha, rfl⟩ := List.mem_map.mp hc
      have := b a ha
      refine ⟨?_, ?_, ?_, ?_⟩ <;> simp only <;> omega
  have := bx.few
  rw [List.length_map] at this
  exact this
def top (cs : List Cell) : Int := minI (cs.map (·.1))
def left (cs : List Cell) : Int := minI (cs.map (·.2))
def bot (cs : List Cell) : Int := maxI (cs.map (·.1)) + 1
def right (cs : List Cell) : Int := maxI (cs.map (·.2)) + 1
def boxD (cs : List Cell) : D := .tup [.int (top cs), .int (left cs), .int (bot cs), .int (right cs)]
namespace C
abbrev N_box_in : List Str := ["ink", "rows", "columns", "row", "column"]
def s_box_in : ES := (sSeq (sPar 1 2 (msCons (mP (xComp [3, 4] (xIt (xVar 0)) (gTupD 2 (gsCons (putB 3) (gsCons (putB 4) gsNil))) yYes (xPure (xVar 3)))) (msCons (mP (xComp [3, 4] (xIt (xVar 0)) (gTupD 2 (gsCons (putB 3) (gsCons (putB 4) gsNil))) yYes (xPure (xVar 4)))) msNil)))
  (sRet (mP (xTup (xsCons (xCall minLD (xsCons (xVar 1) xsNil)) (xsCons (xCall minLD (xsCons (xVar 2) xsNil)) (xsCons (xOp oAdd (xCall maxLD (xsCons (xVar 1) xsNil)) (xC (.int 1))) (xsCons (xOp oAdd (xCall maxLD (xsCons (xVar 2) xsNil)) (xC (.int 1))) xsNil))))))))
def F_box_in : List D → Option D := fnP N_box_in s_box_in
abbrev N_law_box : List Str := ["_law_ink_here", "_law_rows", "_law_columns", "_law_row", "_law_column"]
def s_law_box : ES := (sSeq (sPar 1 2 (msCons (mP (xComp [3, 4] (xIt (xVar 0)) (gTupD 2 (gsCons (putB 3) (gsCons (putB 4) gsNil))) yYes (xPure (xVar 3)))) (msCons (mP (xComp [3, 4] (xIt (xVar 0)) (gTupD 2 (gsCons (putB 3) (gsCons (putB 4) gsNil))) yYes (xPure (xVar 4)))) msNil)))
  (sRet (mP (xTup (xsCons (xCall minLD (xsCons (xVar 1) xsNil)) (xsCons (xCall minLD (xsCons (xVar 2) xsNil)) (xsCons (xOp oAdd (xCall maxLD (xsCons (xVar 1) xsNil)) (xC (.int 1))) (xsCons (xOp oAdd (xCall maxLD (xsCons (xVar 2) xsNil)) (xC (.int 1))) xsNil))))))))
def F_law_box : List D → Option D := fnP N_law_box s_law_box
abbrev N_reflected : List Str := ["shape", "row", "column"]
def s_reflected : ES := (sSeq (sDrop (mP (xCall F_need_ink (xsCons (xVar 0) xsNil))))
  (sRet (mP (xCall F_made (xsCons (xComp [1, 2] (xIt (xVar 0)) (gTupD 2 (gsCons (putB 1) (gsCons (putB 2) gsNil))) yYes (xTup (xsCons (xNeg (xVar 1)) (xsCons (xNeg (xVar 2)) xsNil)))) xsNil)))))
def F_reflected : List D → Option D := fnP N_reflected s_reflected
abbrev N_ground : List Str := ["ink", "rim", "top", "left", "bottom", "right", "cells", "wide", "cell", "row", "column"]
def s_ground : ES := (sSeq (sDrop (mP (xCall F_need_ink (xsCons (xVar 0) xsNil))))
  (sSeq (sIf (tP' (xBool (xOp oEq (xVar 0) (xTup xsNil)))) sNever sNext)
  (sSeq (sIf (tP' (yNot (xBool (xCall F_is_in (xsCons (xVar 1) (xsCons (xC (.int 0)) (xsCons (xC (.int 6)) xsNil))))))) sNever sNext)
  (sSeq (sAsg (mP (xCall F_box_in (xsCons (xVar 0) xsNil))) (gTupD 4 (gsCons (put 2) (gsCons (put 3) (gsCons (put 4) (gsCons (put 5) gsNil))))))
  (sSeq (sAsg (mP (xDict [8] (xIt (xVar 0)) (putB 8) yYes (xPure (xVar 8)) (xC (.bl true)))) (put 6))
  (sSeq (sAsg (mP (xComp2 [9, 10] [10] (xRng2 (xsCons (xOp oSub (xVar 2) (xVar 1)) (xsCons (xOp oAdd (xVar 4) (xVar 1)) xsNil))) (putB 9) yYes (xRng2 (xsCons (xOp oSub (xVar 3) (xVar 1)) (xsCons (xOp oAdd (xVar 5) (xVar 1)) xsNil))) (putB 10) yYes (xTup (xsCons (xPure (xVar 9)) (xsCons (xPure (xVar 10)) xsNil))))) (put 7))
  (sRet (mP (xCall F_made (xsCons (xComp [8] (xIt (xVar 7)) (putB 8) (xBool (xOp oNin (xVar 8) (xVar 6))) (xPure (xVar 8))) xsNil))))))))))
def F_ground : List D → Option D := fnP N_ground s_ground
abbrev negC (c : Cell) : Cell := (-c.1, -c.2)
end C
end DL
namespace DL
open PySem PySem.Spec PyProof.Rows L2
/-! ### a, b, c = x, y, z with plain local names -/
theorem Val.beside {K : PySem.W.Frag} {c : Ct} {H : Hp} {ρ : Env} {fp : Nat → List Addr} {d e : D} {w : V} {F G : List Addr} {i : Nat} (y : Val K c H ρ fp e w G) (n : ∀ a ∈ F, a ∉ G) (hi : i < ρ.length) : Val K c H (ρ.set i (some (Fl.own, d))) (fun l => if l = i then F else fp l) e w G := by
  refine ⟨y.rep, y.nd, y.ow, fun l m g q hm a ha hl => ?_⟩
  by_cases hli : l = i
  · subst hli
    rw [if_pos rfl] at hl
    exact n a hl ha
  · rw [if_neg hli] at hl
    rw [List.getElem?_set_ne (Ne.symm hli)] at q
    exact y.dj l m g q hm a ha hl
def sPar3 (i j l : Nat) (ms : EMs) : ES := fun ρ => (ms ρ).bind fun x => match x.1 with
  | [d, e, f] => (put i d x.2).bind fun ρ1 => (put j e ρ1).bind fun ρ2 => (put l f ρ2).bind fun ρ3 => some (.nx ρ3)
  | _ => none
section
variable {X : Cx} {a b c : Expr} {pos : Pos}
end
end DL
namespace DL
open PySem PySem.Spec L2
section
variable {s : Slt} {ρ : Env}
def putF3 (i j l : Nat) (x : List D × Env) : Option Out := match x.1 with
  | [d, e, f] => (put i d x.2).bind fun ρ1 => (put j e ρ1).bind fun ρ2 => (put l f ρ2).bind fun ρ3 => some (.nx ρ3)
  | _ => none
@[simp] theorem e_par3 {i j l : Nat} {ms : EMs} : sPar3 i j l ms (s :: ρ) = (ms (s :: ρ)).bind fun x => match x.1 with | [d, e, f] => (put i d x.2).bind fun ρ1 => (put j e ρ1).bind fun ρ2 => (put l f ρ2).bind fun ρ3 => some (.nx ρ3) | _ => none := (rfl)
end
end DL
namespace DL
open PySem PySem.Spec L2
/-- cells in a box -/
def InBox (t l : Int) (h w : Nat) (cs : List Cell) : Prop := ∀ c ∈ cs, (t ≤ c.1 ∧ c.1 < t + (h : Int)) ∧ (l ≤ c.2 ∧ c.2 < l + (w : Int))
theorem InBox.few {t l : Int} {h w : Nat} {cs : List Cell} (b : InBox t l h w cs) : (mk cs).length ≤ h * w := box_few (pair_nodup (mk_pair cs)) fun c hc => b c (mk_mem.mp hc)
theorem InBox.sum {t l : Int} {h w n : Nat} {cs bs : List Cell} (b : InBox t l h w cs) (s : Near n bs) : InBox (t - n) (l - n) (h + 2 * n) (w + 2 * n) (sumC cs bs) := fun c hc => by
  obtain ⟨a, ha, b', hb, rfl⟩ := mem_sumC.mp hc
  have h1 := b a ha
  have h2 := s b' hb
  simp only [addC]
  omega
theorem InBox.mk {t l : Int} {h w : Nat} {cs : List Cell} (b : InBox t l h w cs) : InBox t l h w (mk cs) := fun c hc => b c (mk_mem.mp hc)
theorem Shp.near {bs : List Cell} (s : Shp bs) : Near ((2 : Nat) : Int) bs := fun c hc => by
  have := s.row c hc
  have := s.col c hc
  omega
theorem Near.sum {m n : Nat} {as bs : List Cell} (a : Near m as) (b : Near n bs) : Near ((m + n : Nat) : Int) (mk (sumC as bs)) := fun c hc => by
  obtain ⟨x, hx, y, hy, rfl⟩ := mem_sumC.mp (mk_mem.mp hc)
  have := a x hx
  have := b y hy
  simp only [addC]
  omega
/-- an ink in a box that lies around (0, 0) -/
structure Bxd (cs : List Cell) (t l : Int) (h w : Nat) : Prop where
  srt : cs.Pairwise ltc
  box : InBox t l h w cs
  lo : -20 ≤ t ∧ -20 ≤ l
  hi : t + (h : Int) ≤ 50 ∧ l + (w : Int) ≤ 50
  few : h * w ≤ 400
theorem Bxd.good {cs : List Cell} {t l : Int} {h w : Nat} (b : Bxd cs t l h w) : Good cs := by
  have h1 := box_few (pair_nodup b.srt) b.box
  have h2 := b.few
  exact ⟨by omega, fun c hc => by have := b.box c hc; have := b.lo; have := b.hi; omega, fun c hc => by have := b.box c hc; have := b.lo; have := b.hi; omega, b.srt⟩
namespace C
end C
end DL
namespace DL
open PySem PySem.Spec L2
/-! ### all cells of a box; the ground -/
def wideC (t l : Int) (h w : Nat) : List Cell := (List.range h).flatMap fun i : Nat => (List.range w).map fun j : Nat => ((t + ((i : Nat) : Int), l + ((j : Nat) : Int)) : Cell)
theorem rng_range (a b : Int) : rng a b = (List.range (b - a).toNat).map fun i : Nat => D.int (a + (i : Int)) := rfl
/-- the ground in a box so much wider -/
def grd (as : List Cell) (n : Int) : List Cell := (wideC (top as - n) (left as - n) ((bot as + n) - (top as - n)).toNat ((right as + n) - (left as - n)).toNat).filter fun c => !decide (c ∈ as)
namespace C
end C
end DL
namespace DL
open PySem PySem.Spec PyProof.Rows L2
/-! ### walking over what a turning expression gives -/
def mIt (m : EM) : IM := fun ρ => (m ρ).bind fun x => (itemsOf x.1).bind fun its => some (its, x.2)
section
variable {X : Cx} {tg iter : Expr} {m : EM}
end
end DL
namespace DL
open PySem PySem.Spec PyProof.Rows L2
/-! ### the module's own tuples of tuples -/
def Cst (K : PySem.W.Frag) (u : Value) (d : D) : Prop := ∃ v, RelV v u ∧ ∀ H, Rep K H d v []
def CstAll (K : PySem.W.Frag) (us : List Value) (ds : List D) : Prop := ∃ vs, Vals vs us ∧ ∀ H, Reps K H ds vs []
end DL
namespace DL
open PySem PySem.Spec L2
/-! ### the least of some inks -/
def toksI (as : List Cell) : List (Int ⊕ List Nat) := PySem.W.keyToks (py (inkD as))
theorem toks_inj : ∀ as bs : List Cell, PySem.W.keyToksAll (as.map fun c => PyData.tuple [.int c.1, .int c.2]) = PySem.W.keyToksAll (bs.map fun c => PyData.tuple [.int c.1, .int c.2]) → as = bs
  | [], [], _ => rfl
  | [], b :: bs, h => by simp [PySem.W.keyToksAll] at h
  | a :: as, [], h => by simp [PySem.W.keyToksAll] at h
  | a :: as, b :: bs, h => by
    simp only [List.map_cons, PySem.W.keyToksAll, PySem.W.keyToks, List.cons_append, List.nil_append, List.cons.injEq, Sum.inl.injEq, true_and] at h
    obtain ⟨h1, h2, h3⟩ := h
    rw [toks_inj as bs h3, Prod.ext h1 h2]
theorem toksI_eq (as : List Cell) : toksI as = PySem.W.keyToksAll (as.map fun c => PyData.tuple [.int c.1, .int c.2]) := by
  unfold toksI inkD
  rw [py, pys_cells, PySem.W.keyToks]
theorem toksI_inj {as bs : List Cell} (h : toksI as = toksI bs) : as = bs := by
  rw [toksI_eq, toksI_eq] at h
  exact toks_inj as bs h
def ltK (as bs : List Cell) : Bool := PySem.W.dataLt (py (inkD as)) (py (inkD bs))
theorem ltK_irr (as : List Cell) : ltK as as = false := PyProof.Rows.lex_irrefl _
theorem ltK_neg {as bs cs : List Cell} (h : ltK as cs = true) : ltK as bs = true ∨ ltK bs cs = true := PyProof.Rows.lex_negTrans _ _ _ h
theorem ltK_trans {as bs cs : List Cell} (h : ltK as bs = true) (h2 : ltK bs cs = true) : ltK as cs = true := PyProof.Rows.lex_trans _ _ _ h h2
theorem ltK_total {as bs : List Cell} (h : ltK as bs = false) (h2 : ltK bs as = false) : as = bs := toksI_inj (PyProof.Rows.lex_total _ _ h h2)
def minG (x : List Cell) (xs : List (List Cell)) : List Cell := xs.foldl (fun a y => if ltK y a = true then y else a) x
def minK : List (List Cell) → List Cell
  | [] => []
  | x :: xs => minG x xs
theorem alike_cells : ∀ as bs : List Cell, PySem.W.alikeAll (as.map fun c => PyData.tuple [.int c.1, .int c.2]) (bs.map fun c => PyData.tuple [.int c.1, .int c.2]) = true
  | [], _ => by simp [PySem.W.alikeAll]
  | _ :: _, [] => by simp [PySem.W.alikeAll]
  | a :: as, b :: bs => by
    rw [List.map_cons, List.map_cons, PySem.W.alikeAll, alike_cells as bs]
    simp [PySem.W.alike, PySem.W.alikeAll]
theorem pys_inks (L : List (List Cell)) : pys (L.map inkD) = L.map fun as => PyData.tuple (as.map fun c => PyData.tuple [.int c.1, .int c.2]) := by
  rw [pys_map, List.map_map]
  refine List.map_congr_left fun as _ => ?_
  show py (inkD as) = _
  unfold inkD
  rw [py, pys_cells]
theorem lay_inks : ∀ L : List (List Cell), PyData.canLayAll0 (L.map fun as => PyData.tuple (as.map fun c => PyData.tuple [.int c.1, .int c.2])) = true
  | [] => rfl
  | as :: L => by
    rw [List.map_cons, PyData.canLayAll0, lay_inks L, PyData.canLay0, lay_cells]
    rfl
theorem depth_inks : ∀ L : List (List Cell), PyData.depthAll (L.map fun as => PyData.tuple (as.map fun c => PyData.tuple [.int c.1, .int c.2])) ≤ 2
  | [] => Nat.zero_le _
  | as :: L => by
    rw [List.map_cons, PyData.depthAll, PyData.depth]
    have h1 := depth_inks L
    have h2 := depth_cells as
    omega
theorem plains_inks : ∀ L : List (List Cell), plains (L.map inkD) = true := fun L => by
  have pc : ∀ l : List Cell, plains (l.map cellD) = true := fun l => by
    induction l with
    | nil => rfl
    | cons a l ih => rw [List.map_cons, plains, ih]; rfl
  induction L with
  | nil => rfl
  | cons a L ih =>
    rw [List.map_cons, plains, ih]
    show (plains (a.map cellD) && true) = true
    rw [pc]
    rfl
theorem minOk_inks (L : List (List Cell)) : minOk (L.map inkD) = true := by
  unfold minOk alikes
  rw [plains_inks, pys_inks, lay_inks]
  have h := depth_inks L
  simp only [Bool.true_and, Bool.and_true, Bool.and_eq_true, List.all_eq_true, List.mem_map, decide_eq_true_eq]
  refine ⟨⟨?_, ?_⟩, by omega⟩
  · rintro _ ⟨_, ⟨a, _, rfl⟩, rfl⟩ _ ⟨_, ⟨b, _, rfl⟩, rfl⟩
    show PySem.W.alike (py (inkD a)) (py (inkD b)) = true
    unfold inkD
    rw [py, py, pys_cells, pys_cells, PySem.W.alike]
    exact alike_cells a b
  · rintro _ ⟨a, _, rfl⟩
    rfl
end DL
namespace DL
open PySem PySem.Spec L2
/-! ### moved, turned, settled -/
/-- the coefficients of the turns -/
def trO : Nat → Int | 0 => 1 | 1 => 0 | 2 => -1 | 3 => 0 | 4 => 1 | 5 => 0 | 6 => -1 | _ => 0
def trW : Nat → Int | 0 => 0 | 1 => 1 | 2 => 0 | 3 => -1 | 4 => 0 | 5 => 1 | 6 => 0 | _ => -1
def trT : Nat → Int | 0 => 0 | 1 => -1 | 2 => 0 | 3 => 1 | 4 => 0 | 5 => 1 | 6 => 0 | _ => -1
def trF : Nat → Int | 0 => 1 | 1 => 0 | 2 => -1 | 3 => 0 | 4 => -1 | 5 => 0 | 6 => 1 | _ => 0
def trC (k : Nat) (c : Cell) : Cell := (trO k * c.1 + trW k * c.2, trT k * c.1 + trF k * c.2)
theorem tr2 (c : Cell) : trC 2 c = (-c.1, -c.2) := by simp [trC, trO, trW, trT, trF]
/-- an ink turned -/
def trn (k : Nat) (as : List Cell) : List Cell := mk (as.map (trC k))
/-- an ink settled -/
def stl (as : List Cell) : List Cell := as.map fun c => addC c (-top as, -left as)
def shapes (as : List Cell) : List (List Cell) := (List.range 8).map fun k => stl (trn k as)
def shp (as : List Cell) : List Cell := minK (shapes as)
end DL
namespace DL
open PySem PySem.Spec L2
namespace C
def c_TURNS : D := (.ctp [(.ctp [(.int 1), (.int 0), (.int 0), (.int 1)]), (.ctp [(.int 0), (.int 1), (.int (-1)), (.int 0)]), (.ctp [(.int (-1)), (.int 0), (.int 0), (.int (-1))]), (.ctp [(.int 0), (.int (-1)), (.int 1), (.int 0)]), (.ctp [(.int 1), (.int 0), (.int 0), (.int (-1))]), (.ctp [(.int 0), (.int 1), (.int 1), (.int 0)]), (.ctp [(.int (-1)), (.int 0), (.int 0), (.int 1)]), (.ctp [(.int 0), (.int (-1)), (.int (-1)), (.int 0)])])
abbrev N_need_cell : List Str := ["value"]
def s_need_cell : ES := (sIf (tP' (yNot (xBool (xCall F_is_cell (xsCons (xVar 0) xsNil))))) sNever sNext)
def F_need_cell : List D → Option D := fnP N_need_cell s_need_cell
abbrev N_moved : List Str := ["ink", "cell"]
def s_moved : ES := (sSeq (sDrop (mP (xCall F_need_ink (xsCons (xVar 0) xsNil))))
  (sSeq (sDrop (mP (xCall F_need_cell (xsCons (xVar 1) xsNil))))
  (sRet (mP (xCall F_made (xsCons (xCall F_moved_in (xsCons (xVar 0) (xsCons (xOp ixD (xVar 1) (xC (.int 0))) (xsCons (xOp ixD (xVar 1) (xC (.int 1))) xsNil)))) xsNil))))))
def F_moved : List D → Option D := fnP N_moved s_moved
abbrev N_turned : List Str := ["ink", "turn", "one", "two", "three", "four", "row", "column"]
def s_turned : ES := (sSeq (sDrop (mP (xCall F_need_ink (xsCons (xVar 0) xsNil))))
  (sSeq (sIf (tP' (yNot (xBool (xCall F_is_in (xsCons (xVar 1) (xsCons (xC (.int 0)) (xsCons (xOp oSub (xCall lenD (xsCons (xC c_TURNS) xsNil)) (xC (.int 1))) xsNil))))))) sNever sNext)
  (sSeq (sAsg (mP (xPure (xOp ixD (xC c_TURNS) (xVar 1)))) (gTupD 4 (gsCons (put 2) (gsCons (put 3) (gsCons (put 4) (gsCons (put 5) gsNil))))))
  (sRet (mP (xCall F_made (xsCons (xComp [6, 7] (xIt (xVar 0)) (gTupD 2 (gsCons (putB 6) (gsCons (putB 7) gsNil))) yYes (xTup (xsCons (xOp oAdd (xOp oMul (xVar 2) (xVar 6)) (xOp oMul (xVar 3) (xVar 7))) (xsCons (xOp oAdd (xOp oMul (xVar 4) (xVar 6)) (xOp oMul (xVar 5) (xVar 7))) xsNil)))) xsNil)))))))
def F_turned : List D → Option D := fnP N_turned s_turned
abbrev N_settled : List Str := ["ink", "top", "left", "bottom", "right"]
def s_settled : ES := (sSeq (sDrop (mP (xCall F_need_ink (xsCons (xVar 0) xsNil))))
  (sSeq (sIf (tP' (xBool (xOp oEq (xVar 0) (xTup xsNil)))) (sRet (mP (xTup xsNil))) sNext)
  (sSeq (sAsg (mP (xCall F_box_in (xsCons (xVar 0) xsNil))) (gTupD 4 (gsCons (put 1) (gsCons (put 2) (gsCons (put 3) (gsCons (put 4) gsNil))))))
  (sRet (mP (xCall F_made (xsCons (xCall F_moved_in (xsCons (xVar 0) (xsCons (xNeg (xVar 1)) (xsCons (xNeg (xVar 2)) xsNil)))) xsNil)))))))
def F_settled : List D → Option D := fnP N_settled s_settled
abbrev N_shape_of : List Str := ["ink", "turn"]
def s_shape_of : ES := (sSeq (sDrop (mP (xCall F_need_ink (xsCons (xVar 0) xsNil))))
  (sRet (mP (xCall minLD (xsCons (xComp [1] (xRng1 (xsCons (xCall lenD (xsCons (xC c_TURNS) xsNil)) xsNil)) (putB 1) yYes (xCall F_settled (xsCons (xCall F_turned (xsCons (xVar 0) (xsCons (xVar 1) xsNil))) xsNil))) xsNil)))))
def F_shape_of : List D → Option D := fnP N_shape_of s_shape_of
end C
end DL
namespace DL
open PySem PySem.Spec PyProof.Rows L2
/-! ### and, or whose first part turns the state -/
def tAndT (p q : ET) : ET := fun ρ => (p ρ).bind fun x => if x.1 = true then q x.2 else some (false, x.2)
def tOrT (p q : ET) : ET := fun ρ => (p ρ).bind fun x => if x.1 = true then some (true, x.2) else q x.2
section
variable {X : Cx} {a b : Expr} {rest : List Expr} {pos : Pos} {p q : ET}
end
end DL
namespace DL
open PySem PySem.Spec L2
/-! ### sums over the cells of an ink -/
def sm (f : Cell → Int) : List Cell → Int
  | [] => 0
  | c :: cs => f c + sm f cs
abbrev fr (c : Cell) : Int := c.1
abbrev fc (c : Cell) : Int := c.2
abbrev frr (c : Cell) : Int := c.1 * c.1
abbrev frc (c : Cell) : Int := c.1 * c.2
abbrev fcc (c : Cell) : Int := c.2 * c.2
def cF (cs : List Cell) : Int := cs.length * sm frr cs - sm fr cs * sm fr cs
def cM (cs : List Cell) : Int := cs.length * sm frc cs - sm fr cs * sm fc cs
def cL (cs : List Cell) : Int := cs.length * sm fcc cs - sm fc cs * sm fc cs
end DL
namespace DL
open PySem PySem.Spec PyProof.Rows L2
/-! ### extend -/
def extendD : D → List D → Option (D × D) := fun d ds => match d, ds with
  | .lst xs, [.lst ys] => if xs.length + ys.length ≤ sizeLine then if pures ys = true then some (.non, .lst (xs ++ ys)) else none else none
  | _, _ => none
/-! ### d.get(k, x) -/
def get2D : D → D → D → Option D := fun d k z => if pure z = true then (getD d k).bind fun o => if pure (o.getD z) = true then some (o.getD z) else none else none
def xGet2 (fo fe ff : EX) : EX := fun ρ => (fo ρ).bind fun d => (fe ρ).bind fun k => (ff ρ).bind fun z => get2D d k z
section
variable {X : Cx} {o e f : Expr} {apos cpos pos p2 : Pos} {fo fe ff : EX}
/-! ### xs[lo:hi] -/
def cutL {α : Type} (xs : List α) (lo hi : Option Int) : List α := (xs.drop (HT.sIx xs.length 0 lo)).take (HT.sIx xs.length xs.length hi - HT.sIx xs.length 0 lo)
def cutD : D → Option Int → Option Int → Option D := fun d lo hi => match d with
  | .lst xs => if pures xs = true then some (.lst (cutL xs lo hi)) else none
  | .tup xs => if pures xs = true then some (.tup (cutL xs lo hi)) else none
  | _ => none
def optI : Option EX → Env → Option (Option Int)
  | none, _ => some none
  | some f, ρ => (f ρ).bind fun d => match d with
    | .int i => some (some i)
    | _ => none
def xCut (f : EX) (lo hi : Option EX) : EX := fun ρ => (f ρ).bind fun d => (optI lo ρ).bind fun l => (optI hi ρ).bind fun h => cutD d l h
def tOf (K : PySem.W.Frag) : Option EX → TO
  | none => tNoPart
  | some f => tPart (tP K false f)
theorem o_none : PO X none (tOf X.K none) := po_none
theorem o_some (h : DB X e fe) : PO X (some e) (tOf X.K (some fe)) := po_some h
theorem tOf_of {K : PySem.W.Frag} {σ : L2.St} {H : Hp} {ρ : Env} {l : Option Int} {Q : Option Int → Hp → Prop} (s : Sees K σ H ρ) : ∀ {o : Option EX}, optI o ρ = some l → (∀ H', Same H H' → Q l H') → tOf K o σ H Q
  | none, e, k => by cases e; exact k H (Same.refl H)
  | some f, e, k => by
    obtain ⟨d, e1, e⟩ := Option.bind_eq_some_iff.mp e
    split at e
    · cases e
      exact ⟨ρ, _, s, e1, fun v H' F sm r _ => ⟨_, r.1, k H' sm⟩⟩
    · cases e
theorem Reps.dropN {K : PySem.W.Frag} {H : Hp} : ∀ (n : Nat) {ds : List D} {vs : List V}, Reps K H ds vs [] → Reps K H (ds.drop n) (vs.drop n) []
  | 0, _, _, r => r
  | n + 1, [], vs, r => by rw [r.1]; exact ⟨rfl, rfl⟩
  | n + 1, d :: ds, vs, r => by
    obtain ⟨v, vr, F1, F2, rfl, z, _, r2⟩ := r
    obtain ⟨rfl, rfl⟩ := List.append_eq_nil_iff.mp z.symm
    exact Reps.dropN n r2
theorem Reps.takeN {K : PySem.W.Frag} {H : Hp} : ∀ (n : Nat) {ds : List D} {vs : List V}, Reps K H ds vs [] → Reps K H (ds.take n) (vs.take n) []
  | 0, _, _, r => ⟨rfl, rfl⟩
  | n + 1, [], vs, r => by rw [r.1]; exact ⟨rfl, rfl⟩
  | n + 1, d :: ds, vs, r => by
    obtain ⟨v, vr, F1, F2, rfl, z, r1, r2⟩ := r
    obtain ⟨rfl, rfl⟩ := List.append_eq_nil_iff.mp z.symm
    exact ⟨v, _, [], [], rfl, rfl, r1, Reps.takeN n r2⟩
theorem Reps.cut {K : PySem.W.Frag} {H : Hp} {ds : List D} {vs : List V} (lo hi : Option Int) (r : Reps K H ds vs []) : Reps K H (cutL ds lo hi) (cutV vs lo hi) [] := by
  unfold cutL cutV
  rw [r.length]
  exact Reps.takeN _ (Reps.dropN _ r)
theorem cut_whole {α : Type} {xs : List α} {lo hi : Option Int} (h : HT.sIx xs.length 0 lo = 0 ∧ HT.sIx xs.length xs.length hi = xs.length) : cutL xs lo hi = xs := by
  unfold cutL
  rw [h.1, h.2, List.drop_zero, Nat.sub_zero, List.take_length]
theorem p_cut {lo hi : Option Expr} {flo fhi : Option EX} (he : DB X o fo) (hl : PO X lo (tOf X.K flo)) (hh : PO X hi (tOf X.K fhi)) : DP X (.Subscript o (.Slice lo hi none p2) pos) (xCut fo flo fhi) := (pe_slice (SlR.or sl_list sl_tupA) he hl hh).imp fun σ H Q ⟨ρ, d, s, e0, k⟩ => by
  obtain ⟨dd, e1, e0⟩ := Option.bind_eq_some_iff.mp e0
  obtain ⟨l, e2, e0⟩ := Option.bind_eq_some_iff.mp e0
  obtain ⟨h, e3, e0⟩ := Option.bind_eq_some_iff.mp e0
  refine ⟨ρ, dd, s, e1, fun v H1 F1 s1 r1 _ => tOf_of (s.same s1) e2 fun H2 s2 => tOf_of ((s.same s1).same s2) e3 fun H3 s3 => ?_⟩
  have s123 := s1.trans (s2.trans s3)
  have r3 := (r1.same s2).same s3
  unfold cutD at e0
  split at e0
  · split at e0
    · rename_i hp
      cases e0
      obtain ⟨a, us, G, rfl, q, _, rr⟩ := r3
      have z := rr.nil hp
      subst z
      refine .inl ⟨a, us, rfl, .inl q, fun p hp => ?_⟩
      exact k _ _ [p] (s123.trans (same_upd hp)) ⟨p, _, [], rfl, .inl upd_same, rfl, (Reps.cut l h rr).same (same_upd hp)⟩ fun _ => (new_lst hp).of s123
    · cases e0
  · split at e0
    · rename_i hp
      cases e0
      obtain ⟨a, us, rfl, q, rr⟩ := r3
      have z := rr.nil hp
      subst z
      refine .inr ⟨a, us, rfl, .of q, fun hw => ?_, fun _ p hp => ?_⟩
      · have rl := rr.length
        rw [cut_whole (by rw [← rl]; exact hw)] at k
        exact k _ _ [] s123 ⟨a, us, rfl, q, rr⟩ fun _ => New.nil
      · exact k _ _ [] (s123.trans (same_upd hp)) ⟨p, _, rfl, upd_same, (Reps.cut l h rr).same (same_upd hp)⟩ fun _ => New.nil
    · cases e0
  · cases e0
end
end DL
namespace DL
open PySem PySem.Spec PyProof.Rows L2
/-! ### list.remove of data -/
def rRemD (K : PySem.W.Frag) : V → List V → Hp → VK → Prop := fun x xs H Q => ∃ (l : Addr) (ys : List V) (y : V) (d : PyData) (ds : List PyData) (j : Nat) (z : PyData), x = .ref l ∧ xs = [y] ∧ H l = some (.lst ys) ∧ DpAll K H ys ds ∧ Dp K H y d ∧ PyData.canLayAll0 ds = true ∧ d.canLay0 = true ∧ PyData.depthAll ds ≤ 60 ∧
  ds[j]? = some z ∧ PyData.eqv z d = true ∧ (∀ (m : Nat) (z' : PyData), m < j → ds[m]? = some z' → PyData.eqv z' d = false) ∧ Q .non (upd H l (.lst (ys.eraseIdx j)))
section
variable {X : Cx}
end
def removeD : D → List D → Option (D × D) := fun d ds => match d, ds with
  | .lst xs, [y] => if pures xs = true then if inOk xs y = true then (xs.findIdx? fun z => eqv z y).map fun j => (.non, .lst (xs.eraseIdx j)) else none else none
  | _, _ => none
/-! ### [*xs, ..] -/
def xsStar (f : EX) (fs : EXs) : EXs := fun ρ => (f ρ).bind fun d => (itemsOf d).bind fun xs => if pures xs = true then (fs ρ).bind fun ys => some (xs ++ ys) else none
section
variable {X : Cx} {e : Expr} {es : List Expr} {f : EX} {fs : EXs} {p : Pos}
theorem a_star {own : Bool} (he : DB X e f) (hr : PA X es (tPs X.K own fs)) (hs : starEach (.Starred e p :: es) X.env = (true, eval e X.env) :: starEach es X.env := by rfl) : PA X (.Starred e p :: es) (tPs X.K own (xsStar f fs)) := (StX.pa_star he hr hs).imp fun σ H Q ⟨ρ, ds, s, e0, k⟩ => by
  obtain ⟨d, e1, e0⟩ := Option.bind_eq_some_iff.mp e0
  obtain ⟨xs, e2, e0⟩ := Option.bind_eq_some_iff.mp e0
  split at e0
  · rename_i hp
    obtain ⟨ys, e3, e0⟩ := Option.bind_eq_some_iff.mp e0
    cases e0
    refine ⟨ρ, d, s, e1, fun v H1 F1 s1 r1 _ => ?_⟩
    obtain ⟨a, vs, G, rfl, rr, sb, q⟩ := itemsOf_rep r1 e2
    have z := rr.nil hp
    subst z
    refine ⟨a, vs, rfl, ?_, ρ, ys, s.same s1, e3, fun us H2 F2 s2 r2 n2 => ?_⟩
    · rcases q with ⟨q, _⟩ | ⟨q, _⟩
      · exact .inl q
      · exact .inr q
    · exact k _ H2 F2 (s1.trans s2) ((rr.same s2).append (G := F2) r2) fun z => (n2 z).of s1
  · cases e0
end
end DL
namespace DL
open PySem PySem.Spec L2
/-! ### statements one after another; while -/
theorem fn_rt {N : List Str} {g : ES} {ds : List D} {ρ ρ' : Env} {d : D} (he : env0 N ds = ρ) (h : g ρ = some (.rt d ρ')) : fnP N g ds = some d := by
  unfold fnP
  rw [he, h]
  rfl
section
variable {s : Slt} {ρ : Env}
@[simp] theorem e_cut {f : EX} {lo hi : Option EX} : xCut f lo hi (s :: ρ) = (f (s :: ρ)).bind fun d => (optI lo (s :: ρ)).bind fun l => (optI hi (s :: ρ)).bind fun h => cutD d l h := (rfl)
@[simp] theorem e_opt0 : optI none (s :: ρ) = some none := (rfl)
@[simp] theorem e_opt1 {f : EX} : optI (some f) (s :: ρ) = (f (s :: ρ)).bind fun d => match d with | .int i => some (some i) | _ => none := (rfl)
@[simp] theorem e_get2 {a b c : EX} : xGet2 a b c (s :: ρ) = (a (s :: ρ)).bind fun d => (b (s :: ρ)).bind fun k => (c (s :: ρ)).bind fun z => get2D d k z := (rfl)
@[simp] theorem e_star {f : EX} {fs : EXs} : xsStar f fs (s :: ρ) = (f (s :: ρ)).bind fun d => (itemsOf d).bind fun xs => if pures xs = true then (fs (s :: ρ)).bind fun ys => some (xs ++ ys) else none := (rfl)
@[simp] theorem e_tor {p q : ET} : tOrT p q (s :: ρ) = (p (s :: ρ)).bind fun x => if x.1 = true then some (true, x.2) else q x.2 := (rfl)
@[simp] theorem e_tand {p q : ET} : tAndT p q (s :: ρ) = (p (s :: ρ)).bind fun x => if x.1 = true then q x.2 else some (false, x.2) := (rfl)
end
end DL
namespace DL
open PySem PySem.Spec PyProof.Rows L2
/-! ### len of a dict with tuples as keys -/
def rLenDT : List V → Hp → VK → Prop := fun xs H Q => ∃ (p : Addr) (kvs : List (List Key × V)), xs = [.ref p] ∧ Rd H p (.dT kvs) ∧ Q (.int ((kvs.length : Nat) : Int)) H
def lenX : List D → Option D := fun ds => match ds with
  | [.dT ks xs] => some (.int ks.length)
  | _ => lenD ds
end DL
namespace DL
open PySem PySem.Spec PyProof.Rows L2
/-! ### a call that changes its first argument, the second one a name that is only lent -/
def mCallRv (F : D → List D → Option (D × D)) (i j : Nat) : EM := fun ρ => (xVar j ρ).bind fun e => match ρ[i]? with
  | some (some (m, d0)) => if m = .bor ∨ i = j then none else (F d0 [e]).bind fun y => some (y.1, ρ.set i (some (m, y.2)))
  | _ => none
section
variable {X : Cx} {x : Str} {po pos : Pos} {e1 e2 : Expr}
end
variable {s : Slt} {ρ : Env}
@[simp] theorem e_callRv {F : D → List D → Option (D × D)} {i j : Nat} : mCallRv F i j (s :: ρ) = (xVar j (s :: ρ)).bind fun e => match (s :: ρ)[i]? with
  | some (some (m, d0)) => if m = .bor ∨ i = j then none else (F d0 [e]).bind fun y => some (y.1, (s :: ρ).set i (some (m, y.2)))
  | _ => none := rfl
end DL
namespace DL
open PySem PySem.Spec PyProof.Rows L2
/-! ### sum of any sequence of numbers -/
def sumX : List D → Option D := fun ds => match ds with
  | [d] => (itemsOf d).bind fun xs => (toInts xs).map fun ns => .int ns.sum
  | _ => none
def rSumX (K : PySem.W.Frag) : List V → Hp → VK → Prop := fun vs H Q => ∃ (a : Addr) (ns : List Int), vs = [V.ref a] ∧ (SqL K H a (ns.map V.int) ∨ SqT K H a (ns.map V.int)) ∧ Q (.int ns.sum) H
theorem cr_sumX {X : Cx} (hc : X.calm = true) : CallR X (.builtin "sum") (rSumX X.K) := by
  intro pins s σ H vs us Q I r h
  obtain ⟨a, ns, rfl, hs, q⟩ := h
  rcases hs with hs | hs
  · obtain ⟨its, rv, hl, _⟩ := I.list hs
    rw [Vals.ref1 r]
    exact sum_raw (I.ok.hd hc) hl.isList rv.ints fun h' tk t' hk => ⟨.int _, H, I.kept hk, ⟨_, rfl⟩, q⟩
  · obtain ⟨its, rv, hl, _⟩ := I.tuple hs
    rw [Vals.ref1 r]
    have hl : s.heap.IsTuple a its.toArray := hl
    have hi := rv.ints
    obtain ⟨xs, e⟩ := hi.allInts.items
    have hn : numsOf (intItems xs).toList = ns := by rw [← e]; exact hi.numsOf
    rw [nums_intItems] at hn
    rw [e] at hl
    refine PySem.W.ktm_sumG (I.ok.hd hc) hl fun h' tk t' hk => ?_
    rw [preSum_eq, List.take_of_length_le (by simp), hn]
    exact ⟨.int _, H, I.kept hk, ⟨_, rfl⟩, q⟩
theorem d_sumX {K : PySem.W.Frag} : CallD K (rSumX K) sumX := fun H ds vs F d Q r e k => by
  unfold sumX at e
  split at e
  · obtain ⟨xs, e1, e⟩ := Option.bind_eq_some_iff.mp e
    obtain ⟨ns, e2, rfl⟩ := Option.map_eq_some_iff.mp e
    obtain ⟨v, rfl, q⟩ := reps_one r
    obtain ⟨a, ws, G, rfl, rr, _, hq⟩ := itemsOf_rep q e1
    have z := toInts_rep rr e2
    subst z
    refine ⟨a, ns, rfl, ?_, k _ H [] (Same.refl H) ⟨rfl, rfl⟩ New.nil⟩
    rcases hq with ⟨h, _⟩ | ⟨h, _⟩
    · exact .inr h
    · exact .inl h
  · cases e
end DL
namespace DL
open PySem PySem.Spec PyProof.Rows L2
section
variable {prog : Program} {w : World} {A : Around} {E : Value → Shared → Prop} {s : Shared}
/-! ### xs[::-1] -/
theorem fmap_some {α β : Type} {f : α → Option β} {g : α → β} : ∀ l : List α, (∀ a ∈ l, f a = some (g a)) → l.filterMap f = l.map g
  | [], _ => rfl
  | a :: l, h => by
    rw [List.filterMap_cons, h a (List.mem_cons_self ..), fmap_some l fun b hb => h b (List.mem_cons_of_mem _ hb)]
    rfl
theorem adjust_rev (n : Nat) : Builtin.Slice.sliceAdjust none none (-1) (n : Int) = ((n : Int) - 1, -1) := by
  unfold Builtin.Slice.sliceAdjust
  simp
theorem places_rev (n : Nat) : Builtin.Slice.slicePlaces ((n : Int) - 1) (-1) (-1) = n := by
  unfold Builtin.Slice.slicePlaces
  simp
  omega
theorem sliceApplied_rev {sl : Addr} {vk : Value} {n : Nat} {Q : Int × Int × Nat → Shared → Prop} (hs : s.heap.IsSliceOf sl .none .none vk) (pk : IsPart vk (some (-1)))
    (h : Q ((n : Int) - 1, -1, n) s) : wpAny (model prog w) A (Builtin.Slice.sliceApplied (.ref sl) (Pure.pure (n : Int))) Q E s := by
  obtain ⟨os, hos, hcs, hds⟩ := id hs
  unfold Builtin.Slice.sliceApplied Builtin.Slice.sliceFields
  refine wpAny_bind (wpAny_bind (wpAny_field hos hds (x := .none) rfl (wpAny_bind (wpAny_field hos hds (x := .none) rfl (wpAny_bind (wpAny_field hos hds (x := vk) rfl (wpAny_pure ?_)))))))
  refine wpAny_bind (HT.slicePart_ pk ?_)
  show wpAny _ _ (if ((-1 : Int) == 0) = true then _ else _) _ _ s
  rw [if_neg (by decide)]
  refine wpAny_bind (HT.slicePart_ .none (wpAny_bind (HT.slicePart_ .none (wpAny_bind (wpAny_pure ?_)))))
  show wpAny _ _ (match Builtin.Slice.sliceAdjust none none (-1) (n : Int) with | (lo, hi) => Pure.pure (lo, (-1 : Int), Builtin.Slice.slicePlaces lo hi (-1))) _ _ s
  rw [adjust_rev n]
  show wpAny _ _ (Pure.pure ((n : Int) - 1, (-1 : Int), Builtin.Slice.slicePlaces ((n : Int) - 1) (-1) (-1))) _ _ s
  rw [places_rev]
  exact wpAny_pure h
theorem pick_rev (xs : Array Value) : ((List.range xs.size).filterMap fun (m : Nat) => xs[(((xs.size : Nat) : Int) - 1 + (m : Int) * (-1)).toNat]?).toArray = xs.toList.reverse.toArray := by
  congr 1
  apply List.ext_getElem?
  intro i
  have e : (List.range xs.size).filterMap (fun (m : Nat) => xs[(((xs.size : Nat) : Int) - 1 + (m : Int) * (-1)).toNat]?) = (List.range xs.size).map fun m => xs.getD (xs.size - 1 - m) .none := by
    refine fmap_some _ fun m hm => ?_
    have hm := List.mem_range.mp hm
    rw [show (((xs.size : Nat) : Int) - 1 + (m : Int) * (-1)).toNat = xs.size - 1 - m by omega, Array.getElem?_eq_getElem (by omega)]
    simp [Array.getD, show xs.size - 1 - m < xs.size by omega]
  rw [e]
  by_cases hi : i < xs.size
  · rw [List.getElem?_map, List.getElem?_range hi, List.getElem?_reverse (by simpa using hi)]
    simp [Array.getD, show xs.size - 1 - i < xs.size by omega]
  · rw [List.getElem?_eq_none (by simpa using hi), List.getElem?_eq_none (by simpa using hi)]
theorem getItem_tuple_rev {t sl : Addr} {items : Array Value} {vk : Value} {Q : Value → Shared → Prop} (ht : IsTup s.heap t items) (hs : s.heap.IsSliceOf sl .none .none vk) (pk : IsPart vk (some (-1)))
    (h : Q (.ref s.heap.objs.size) { s with heap := s.heap.push { cls := .type "tuple", data := .seq items.toList.reverse.toArray } })
    (hsz : items.size ≤ sizeLine) : wpAny (model prog w) A (getItem (.ref t) (.ref sl)) Q E s := by
  have htake : sizeOk (.seq items.toList.reverse.toArray) := by
    show items.toList.reverse.toArray.size ≤ sizeLine
    rw [List.size_toArray, List.length_reverse, Array.length_toList]
    exact hsz
  obtain ⟨os, hos, hcs, hds⟩ := id hs
  have hTs : s.TypeIs (.ref sl) "slice" := ⟨os, hos, hcs⟩
  unfold getItem
  try with_reducible refine wpAny_holding ?_
  first | refine wpAny_bind (wpAny_pure ?_) | skip
  refine wpAny_bind (wpAny_sequenceKey ht.typeIs (by decide) ?_)
  refine wpAny_bind (wpAny_callSpecial?_slot (name := Str.ofString "__getitem__") ht.typeIs PyProof.Rows.slot_tuple_getitem
    (wpAny_call_entry PyProof.Rows.slot_tuple_getitem ht.typeIs entry_tuple_getitem ?_ (args_tuple_getitem _ _)))
  show wpAny _ _ (Builtin.Tuple.tupleItemsOf (.ref t) >>= _) _ _ s
  refine wpAny_bind (tupleItemsOf_ ht ?_)
  refine wpAny_bind (wpAny_typeOf hTs ?_)
  rw [if_pos (by decide)]
  refine wpAny_bind (sliceApplied_rev hs pk ?_)
  have hno : ¬ ((((items.size : Nat) : Int) - 1 == 0 && (-1 : Int) == 1 && items.size == items.size) = true) := by
    intro q
    rw [Bool.and_eq_true, Bool.and_eq_true] at q
    exact absurd (eq_of_beq q.1.2) (by decide)
  show wpAny _ _ (if (((items.size : Nat) : Int) - 1 == 0 && (-1 : Int) == 1 && items.size == items.size) = true then _ else _) _ _ s
  rw [if_neg hno, pick_rev]
  first
    | exact wpAny_bind (m := Builtin.Tuple.tupleExact _) (wpAny_newObj_type (wpAny_pure ⟨_, rfl, wpAny_pure h⟩) htake)
    | exact wpAny_bind (m := Builtin.Tuple.tupleExact _) (wpAny_newObj_type (wpAny_bind (wpAny_pure (wpAny_pure ⟨_, rfl, wpAny_pure h⟩))) htake)
    | exact wpAny_bind (wpAny_bind (m := Builtin.Tuple.tupleExact _) (wpAny_newObj_type (wpAny_pure (wpAny_pure ⟨_, rfl, wpAny_pure h⟩)) htake))
    | exact wpAny_bind (wpAny_bind (m := Builtin.Tuple.tupleExact _) (wpAny_newObj_type (wpAny_pure ⟨_, rfl, wpAny_pure h⟩) htake))
end
def revD : D → Option D
  | .tup xs => if pures xs = true then if xs.length ≤ sizeLine then some (.tup xs.reverse) else none else none
  | .ctp xs => if pures xs = true then if xs.length ≤ sizeLine then some (.tup xs.reverse) else none else none
  | .lst xs => if pures xs = true then if xs.length ≤ sizeLine then some (.lst xs.reverse) else none else none
  | .frz xs => if pures xs = true then if xs.length ≤ sizeLine then some (.lst xs.reverse) else none else none
  | _ => none
def xRev (f : EX) : EX := fun ρ => (f ρ).bind revD
theorem Reps.rev {K : PySem.W.Frag} {H : Hp} : ∀ {ds : List D} {vs : List V}, Reps K H ds vs [] → Reps K H ds.reverse vs.reverse []
  | [], vs, r => by rw [r.1]; exact ⟨rfl, rfl⟩
  | d :: ds, vs, r => by
    obtain ⟨v, vr, F1, F2, rfl, z, r1, r2⟩ := r
    obtain ⟨rfl, rfl⟩ := List.append_eq_nil_iff.mp z.symm
    rw [List.reverse_cons, List.reverse_cons]
    have := Reps.append (Reps.rev r2) (Reps.one r1)
    exact this
section
variable {X : Cx} {o : Expr} {fo : EX} {pos p2 p3 p4 : Pos} {tk : Nat}
theorem Vals.rev : ∀ {xs : List V} {us : List Value}, Vals xs us → Vals xs.reverse us.reverse
  | _, _, .nil => .nil
  | _, _, .cons r t => by
    rw [List.reverse_cons, List.reverse_cons]
    exact (Vals.rev t).append (.cons r .nil)
theorem p_rev {st : Expr} (he : DB X o fo) (hst : DP X st (xC (.int (-1)))) : DP X (.Subscript o (.Slice none none (some st) p2) pos) (xRev fo) := by
  refine ⟨fun pins s σ H Q I h => ?_⟩
  obtain ⟨ρ, dres, sees, e0, k⟩ := h
  obtain ⟨d, e1, e2⟩ := Option.bind_eq_some_iff.mp e0
  refine Subscript_ (thn (he.run pins s σ H (fun v H1 => ∃ F, Same H H1 ∧ Rep X.K H1 d v F) I ⟨ρ, d, sees, e1, fun v H' F sm r _ => ⟨F, sm, r⟩⟩) fun v s1 ⟨x, H1, I1, r1, F, sm, rd⟩ => ?_)
  refine wpAny_Slice ?_
  rw [evalPart_none]
  refine wpAny_pure ?_
  refine wpAny_pure ?_
  rw [evalPart_some]
  refine thn (hst.run pins s1 σ H1 (fun v H2 => Same H1 H2 ∧ v = .int (-1)) I1 ⟨ρ, .int (-1), sees.same sm, rfl, fun v H' F s2 r _ => ⟨s2, r.1⟩⟩) fun vk s3 ⟨y, H3, I3, r3, sm3, ey⟩ => ?_
  subst ey
  obtain ⟨tk, rfl⟩ := r3
  have rd := rd.same sm3
  have sm := sm.trans sm3
  have I4 : Inv X pins σ H3 { s3 with heap := s3.heap.push { cls := .type "slice", data := .fields #[.none, .none, .int (-1) tk] } } := I3.kept (t' := s3.toks) fun b ob q => Heap.get?_push_of_some _ q
  have hs : ({ s3 with heap := s3.heap.push { cls := .type "slice", data := .fields #[.none, .none, .int (-1) tk] } } : Shared).heap.IsSliceOf s3.heap.objs.size .none .none (.int (-1) tk) := Heap.IsSliceOf.new ..
  have pk : IsPart (.int (-1) tk) (some (-1)) := .int _ _
  have tup : ∀ (a : Addr) (us : List V) (xs : List D), x = .ref a → SqT X.K H3 a us → Reps X.K H3 xs us F → pures xs = true → xs.length ≤ sizeLine → dres = .tup xs.reverse →
      wpAny (model X.prog X.w) X.A (subscriptTail o (.Slice none none (some st) p2) v (.ref s3.heap.objs.size)) (EP X pins σ Q) X.xe { s3 with heap := s3.heap.push { cls := .type "slice", data := .fields #[.none, .none, .int (-1) tk] } } := fun a us xs ex hq rr hp hl ed => by
    subst ex ed
    obtain rfl : v = Value.ref a := r1
    have z := rr.nil hp
    subst z
    obtain ⟨its, rv, ht, hz⟩ := I4.tuple hq
    have ht' : IsTup (s3.heap.push { cls := .type "slice", data := .fields #[.none, .none, .int (-1) tk] }) a its.toArray := ht
    refine tail_any (ops := [.ref a, .ref s3.heap.objs.size]) ht.typeIs PyProof.Rows.slot_tuple_getitem.lookup (getItem_tuple_rev ht hs pk ?_ (by rw [List.size_toArray, ← rv.length]; exact hz)) (by with_unfolding_all rfl)
    have hn : H3 (s3.heap.push { cls := .type "slice", data := .fields #[.none, .none, .int (-1) tk] }).objs.size = none := I4.hok.fresh (Nat.le_refl _)
    refine ⟨.ref (s3.heap.push { cls := .type "slice", data := .fields #[.none, .none, .int (-1) tk] }).objs.size, _, I4.laid (t' := s3.toks) (o := .tup us.reverse) (fun b ob q => Heap.get?_push_of_some _ q) (Nat.le_refl _) ?_, rfl, k _ _ [] (sm.trans (same_upd hn)) ⟨_, us.reverse, rfl, upd_same, (Reps.rev rr).same (same_upd hn)⟩ fun _ => New.nil⟩
    refine ⟨by rw [List.length_reverse]; exact hz, its.reverse, Vals.rev rv, ?_⟩
    exact IsTup.new _ _
  have lst : ∀ (a : Addr) (us : List V) (xs : List D) (G : List Addr), x = .ref a → SqL X.K H3 a us → Reps X.K H3 xs us G → pures xs = true → xs.length ≤ sizeLine → dres = .lst xs.reverse →
      wpAny (model X.prog X.w) X.A (subscriptTail o (.Slice none none (some st) p2) v (.ref s3.heap.objs.size)) (EP X pins σ Q) X.xe { s3 with heap := s3.heap.push { cls := .type "slice", data := .fields #[.none, .none, .int (-1) tk] } } := fun a us xs G ex hq rr hp hl ed => by
    subst ex ed
    obtain rfl : v = Value.ref a := r1
    have z := rr.nil hp
    subst z
    obtain ⟨its, rv, hp2, hz⟩ := I4.list hq
    have ht : ({ s3 with heap := s3.heap.push { cls := .type "slice", data := .fields #[.none, .none, .int (-1) tk] } } : Shared).heap.IsList a its.toArray := hp2.isList
    refine tail_any (ops := [.ref a, .ref s3.heap.objs.size]) (T := "list") (Heap.IsList.typeIs ht) list_getitem_lookup (wpAny_getItem_list_slice ht hs .none .none pk (by decide) ?_ (by rw [List.size_toArray, ← rv.length]; exact hz)) (by with_unfolding_all rfl)
    rw [PySem.W.krv_pick]
    have hn : H3 (s3.heap.push { cls := .type "slice", data := .fields #[.none, .none, .int (-1) tk] }).objs.size = none := I4.hok.fresh (Nat.le_refl _)
    refine ⟨.ref (s3.heap.push { cls := .type "slice", data := .fields #[.none, .none, .int (-1) tk] }).objs.size, _, I4.laid (t' := s3.toks) (o := .lst us.reverse) (fun b ob q => Heap.get?_push_of_some _ q) (Nat.le_refl _) ?_, rfl, k _ _ [(s3.heap.push { cls := .type "slice", data := .fields #[.none, .none, .int (-1) tk] }).objs.size] (sm.trans (same_upd hn)) ⟨_, us.reverse, [], rfl, .inl upd_same, rfl, (Reps.rev rr).same (same_upd hn)⟩ fun _ => (new_lst hn).of sm⟩
    exact ⟨by rw [List.length_reverse]; exact hz, its.reverse, 0, Vals.rev rv, Heap.get?_push_size _ rfl⟩
  cases d with
  | tup xs =>
    have e2 : (if pures xs = true then if xs.length ≤ sizeLine then some (D.tup xs.reverse) else none else none) = some dres := e2
    split at e2
    · split at e2
      · obtain ⟨a, us, ex, hq, rr⟩ := rd
        exact tup a us xs ex (.of hq) rr (by assumption) (by assumption) (Option.some.inj e2).symm
      · cases e2
    · cases e2
  | ctp xs =>
    have e2 : (if pures xs = true then if xs.length ≤ sizeLine then some (D.tup xs.reverse) else none else none) = some dres := e2
    split at e2
    · split at e2
      · obtain ⟨a, us, ex, hq, rr⟩ := rd
        exact tup a us xs ex hq.sq rr (by assumption) (by assumption) (Option.some.inj e2).symm
      · cases e2
    · cases e2
  | lst xs =>
    have e2 : (if pures xs = true then if xs.length ≤ sizeLine then some (D.lst xs.reverse) else none else none) = some dres := e2
    split at e2
    · split at e2
      · obtain ⟨a, us, G, ex, hq, _, rr⟩ := rd
        exact lst a us xs G ex (.inl hq) rr (by assumption) (by assumption) (Option.some.inj e2).symm
      · cases e2
    · cases e2
  | frz xs =>
    have e2 : (if pures xs = true then if xs.length ≤ sizeLine then some (D.lst xs.reverse) else none else none) = some dres := e2
    split at e2
    · split at e2
      · obtain ⟨a, us, ex, hq, rr⟩ := rd
        exact lst a us xs F ex hq.sq rr (by assumption) (by assumption) (Option.some.inj e2).symm
      · cases e2
    · cases e2
  | _ => cases e2
end
/-! ### i << j, i >> j -/
def oShl : D → D → Option D := o2 (fun i j => decide (0 ≤ j) && decide (j ≤ 1000000) && decide (i.natAbs < 2 ^ 64)) fun i j => i * 2 ^ j.toNat
def oShr : D → D → Option D := o2 (fun _ j => decide (0 ≤ j)) fun i j => i / 2 ^ j.toNat
theorem d_shl {K : PySem.W.Frag} : OpD K (rI CPow fun i j => .int (i * 2 ^ j.toNat)) oShl := d_2 fun i j h => by
  simp only [Bool.and_eq_true, decide_eq_true_eq] at h
  exact ⟨h.1.1, h.1.2, h.2⟩
theorem d_shr {K : PySem.W.Frag} : OpD K (rI (fun _ j => 0 ≤ j) fun i j => .int (i / 2 ^ j.toNat)) oShr := d_2 fun i j h => by
  rw [decide_eq_true_eq] at h
  exact h
end DL
namespace DL
open PySem PySem.Spec PyProof.Rows L2
/-! ### t[lo:hi], a tuple, the parts with effects -/
def optM : Option EM → Env → Option (Option Int × Env)
  | none, ρ => some (none, ρ)
  | some m, ρ => (m ρ).bind fun x => match x.1 with
    | .int i => some (some i, x.2)
    | _ => none
def cutTD : D → Option Int → Option Int → Option D := fun d lo hi => match d with
  | .tup xs => if pures xs = true then some (.tup (cutL xs lo hi)) else none
  | _ => none
def mCut (m : EM) (lo hi : Option EM) : EM := fun ρ => (m ρ).bind fun x => (optM lo x.2).bind fun l => (optM hi l.2).bind fun h => (cutTD x.1 l.1 h.1).bind fun d => some (d, h.2)
def tOM (K : PySem.W.Frag) (o : Option EM) : TO := fun σ H Q => ∃ c ρ fp l ρ', Ok K c σ H ρ fp ∧ optM o ρ = some (l, ρ') ∧ ∀ H' fp', Ok K c σ H' ρ' fp' → Q l H'
theorem _root_.L2.PO.imp {X : Cx} {e : Option Expr} {t t' : TO} (h : PO X e t) (k : ∀ σ H Q, t' σ H Q → t σ H Q) : PO X e t' := ⟨fun pins s σ H Q I q => h.run pins s σ H Q I (k σ H Q q)⟩
section
variable {X : Cx} {o e : Expr} {pos p2 : Pos} {m : EM}
end
theorem p_neg1 {X : Cx} {a : Expr} {pos : Pos} (h : DP X a (xC (.int 1))) : DP X (.UnaryOp .USub a pos) (xC (.int (-1))) := (p_neg' (p_b h)).imp fun σ H Q ⟨ρ, d, s, e, k⟩ => by
  cases e
  exact ⟨ρ, _, s, rfl, k⟩
end DL
namespace DL
open PySem PySem.Spec PyProof.Rows L2
/-! ### is of truths -/
def oIsB : D → D → Option D := fun x y => match x, y with
  | .bl a, .bl b => some (.bl (decide (a = b)))
  | _, _ => none
def oNotB : D → D → Option D := fun x y => match x, y with
  | .bl a, .bl b => some (.bl (!decide (a = b)))
  | _, _ => none
end DL
namespace DL
open PySem PySem.Spec PyProof.Rows L2
/-! ### a new list that is frozen at once: nobody changes it any more -/
def frzD : D → Option D := fun d => match d with
  | .lst xs => if pures xs = true then some (.frz xs) else none
  | _ => none
def xFrz (f : EX) : EX := fun ρ => (f ρ).bind frzD
section
variable {X : Cx} {e : Expr} {f : EX}
end
end DL
namespace DL
open PySem PySem.Spec PyProof.Rows L2 RT
/-! ### for x in reversed(a sequence), reversed(a range) -/
def xRvI (f : EX) : IX := fun ρ => ((f ρ).bind itemsOf).map List.reverse
def xRvR2 (f g : EX) : IX := fun ρ => (f ρ).bind fun x => (g ρ).bind fun y => match x, y with
  | .int i, .int j => if rOk i = true then if rOk j = true then some (rng i j).reverse else none else none
  | _, _ => none
section
variable {X : Cx} {tg e a b : Expr} {f g : EX} {p p2 pos pos2 : Pos} {own : Bool}
end
end DL
namespace DL
open PySem PySem.Spec PyProof.Rows L2
/-! ### for k, v in d.items() of a dict with tuple keys that is locked -/
def ItiT (d : Addr) (o : Obj) (kvs : List (List Key × V)) : It where
  go i H := H d = some (.frz o (.dT kvs)) ∧ i < kvs.length
  yld i H x H' := ∃ (T q : Addr) (k : List Key) (v : V), kvs[i]? = some (k, v) ∧ x = .ref T ∧ H T = none ∧ H q = some (.tup (k.map kV)) ∧ H' = upd H T (.tup [.ref q, v])
  stop i H := H d = some (.frz o (.dT kvs)) ∧ kvs.length ≤ i
section
variable {X : Cx} {pins : List (Addr × Obj)} {σ : L2.St} {H : Hp} {s : Shared} {d : Addr} {o : Obj} {kvs : List (List Key × V)}
end
section
variable {P : Program} {w : World} {K : PySem.W.Frag} {d : Addr} {o : Obj} {es : Array DictEntry} {ep : Nat}
end
def iItemsT (td : TE) : TI := fun σ H R => td σ H fun x H1 => ∃ (d : Addr) (o : Obj) (kvs : List (List Key × V)), x = .ref d ∧ H1 d = some (.frz o (.dT kvs)) ∧ R (ItiT d o kvs) H1
/-! ### the lock put on and taken off -/
/-- two heaps that differ in the lock of a dict alone -/
structure Swp (a : Addr) (kvs : List (List Key × V)) (x y : HO) (H H' : Hp) : Prop where
  at1 : H a = some x
  at2 : H' a = some y
  ne : ∀ b, b ≠ a → H' b = H b
  x1 : x = .dT kvs ∨ ∃ o, x = .frz o (.dT kvs)
  y1 : y = .dT kvs ∨ ∃ o, y = .frz o (.dT kvs)
section
variable {K : PySem.W.Frag} {a : Addr} {kvs : List (List Key × V)} {x y : HO} {H H' : Hp}
theorem Swp.rd (w : Swp a kvs x y H H') {b : Addr} {o : HO} (h : Rd H b o) (hno : ∀ u z, o ≠ .frz u z) : Rd H' b o := by
  by_cases e : b = a
  · subst e
    have ho : o = .dT kvs := by
      rcases h with h | ⟨u, h⟩
      · rw [w.at1] at h
        cases h
        rcases w.x1 with z | ⟨u, z⟩
        · exact z
        · exact absurd z (hno _ _)
      · rw [w.at1] at h
        cases h
        rcases w.x1 with z | ⟨u', z⟩
        · cases z
        · cases z; rfl
    subst ho
    rcases w.y1 with z | ⟨u, z⟩
    · exact .inl (by rw [w.at2, z])
    · exact .inr ⟨u, by rw [w.at2, z]⟩
  · rcases h with h | ⟨u, h⟩
    · exact .inl (by rw [w.ne b e]; exact h)
    · exact .inr ⟨u, by rw [w.ne b e]; exact h⟩
theorem Swp.tup (w : Swp a kvs x y H H') {b : Addr} {vs : List V} (h : H b = some (.tup vs)) : H' b = some (.tup vs) := by
  rw [w.ne b fun e => ?_]
  · exact h
  · subst e
    rw [w.at1] at h
    cases h
    rcases w.x1 with z | ⟨u, z⟩ <;> cases z
theorem Swp.frz (w : Swp a kvs x y H H') {b : Addr} {vs : List V} (h : Frz K H b vs) : Frz K H' b vs := by
  rcases h with ⟨o, h⟩ | h
  · refine .inl ⟨o, ?_⟩
    rw [w.ne b fun e => ?_]
    · exact h
    · subst e
      rw [w.at1] at h
      cases h
      rcases w.x1 with z | ⟨u, z⟩ <;> cases z
  · exact .inr h
mutual
theorem Swp.rep (w : Swp a kvs x y H H') : ∀ {d : D} {v : V} {F : List Addr}, Rep K H d v F → Rep K H' d v F
  | .non, _, _, h => h
  | .bl _, _, _, h => h
  | .int _, _, _, h => h
  | .str _, _, _, h => h
  | .tup xs, v, F, ⟨b, vs, e, q, r⟩ => ⟨b, vs, e, w.tup q, w.reps r⟩
  | .ctp xs, v, F, ⟨b, vs, e, q, r⟩ => ⟨b, vs, e, q, w.reps r⟩
  | .frz xs, v, F, ⟨b, vs, e, q, r⟩ => ⟨b, vs, e, w.frz q, w.reps r⟩
  | .lst xs, v, F, ⟨b, vs, G, e, q, f, r⟩ => ⟨b, vs, G, e, w.rd q (fun _ _ z => by cases z), f, w.reps r⟩
  | .dK ks xs, v, F, ⟨b, vs, G, e, q, l, f, r⟩ => ⟨b, vs, G, e, w.rd q (fun _ _ z => by cases z), l, f, w.reps r⟩
  | .dT ks xs, v, F, ⟨b, vs, G, e, q, l, f, r⟩ => ⟨b, vs, G, e, w.rd q (fun _ _ z => by cases z), l, f, w.reps r⟩
theorem Swp.reps (w : Swp a kvs x y H H') : ∀ {ds : List D} {vs : List V} {F : List Addr}, Reps K H ds vs F → Reps K H' ds vs F
  | [], _, _, h => h
  | d :: ds, vs, F, ⟨v, vr, F1, F2, e, f, r1, r2⟩ => ⟨v, vr, F1, F2, e, f, w.rep r1, w.reps r2⟩
end
end
def swC (c : Ct) (a : Addr) (y : HO) : Ct := ⟨upd c.H0 a y, c.O0, c.pv, c.B⟩
section
variable {K : PySem.W.Frag} {c : Ct} {σ : L2.St} {H : Hp} {ρ : Env} {fp : Nat → List Addr} {a : Addr} {kvs : List (List Key × V)} {x y : HO}
end
/-! ### the loop itself -/
def pairsT (ks : List (List Key)) (xs : List D) : List D := List.zipWith (fun k x => D.tup [tupK k, x]) ks xs
/-- over the pairs of the dict that a lent name holds -/
def srcI (i : Nat) : IM := fun ρ => match ρ[i]? with
  | some (some (.bor, .dT ks xs)) => some (pairsT ks xs, ρ)
  | _ => none
def sItems (i : Nat) (gx : GX) (g : ES) : ES := fun ρ => match ρ[i]? with
  | some (some (.own, _)) => sLend i (sFor (srcI i) gx g) ρ
  | _ => none
section
variable {X : Cx} {gx : GX} {g : ES}
end
section
variable {X : Cx} {gx : GX} {g : ES} {i : Nat} {e : Expr} {apos cpos tpos pos : Pos} {elts : List Expr} {kk : Nat} {body : List Stmt}
end
end DL
namespace DL
open PySem PySem.Spec PyProof.Rows L2
/-! ### sorted(d.items()) of a new dict with tuple keys -/
mutual
theorem reads_plain {h : Heap} : ∀ {d : D} {v : Value} {as : List Addr}, plain d = true → Reads h v (py d) as → as = []
  | .non, v, as, _, r => by cases r; rfl
  | .bl b, v, as, _, r => by cases r; rfl
  | .int i, v, as, _, r => by cases r; rfl
  | .str x, v, as, _, r => by cases r; rfl
  | .tup xs, v, as, p, r => by
    have r' : Reads h v (.tuple (pys xs)) as := by rw [py] at r; exact r
    cases r' with
    | tuple _ _ _ q => exact reads_plains p q
  | .lst xs, v, as, p, r => by cases p
  | .frz xs, v, as, p, r => by cases p
  | .ctp xs, v, as, p, r => by cases p
  | .dK ks xs, v, as, p, r => by cases p
  | .dT ks xs, v, as, p, r => by cases p
theorem reads_plains {h : Heap} : ∀ {ds : List D} {vs : List Value} {as : List Addr}, plains ds = true → ReadsAll h vs (pys ds) as → as = []
  | [], vs, as, _, r => by rw [pys] at r; cases r; rfl
  | d :: ds, vs, as, p, r => by
    rw [pys] at r
    rw [plains, Bool.and_eq_true] at p
    cases r with
    | cons r1 r2 => rw [reads_plain p.1 r1, reads_plains p.2 r2]; rfl
end
def rSortP (K : PySem.W.Frag) : List V → Hp → VK → Prop := fun vs H Q => ∃ (p a : Addr) (ks : List (List Key)) (xs : List D) (us : List V), vs = [.ref p] ∧ H p = some (DX.itemsO p a) ∧ H a = some (.dT (ks.zip us)) ∧ ks.length = xs.length ∧ Reps K H xs us [] ∧ sortOk (pairsT ks xs) = true ∧
  ∀ (H' : Hp) (l : Addr) (ws : List V), Same H H' → H l = none → H' l = some (.lst ws) → Reps K H' (sortD (pairsT ks xs)) ws [] → Q (.ref l) H'
section
variable {X : Cx} {k : Nat}
def srtID : D → Option D
  | .dT ks xs => if pures xs = true then if sortOk (pairsT ks xs) = true then some (.lst (sortD (pairsT ks xs))) else none else none
  | _ => none
/-- sorted(e.items()), e's dict new -/
def xSrtI (f : EX) : EX := fun ρ => (f ρ).bind srtID
variable {e : Expr} {f : EX} {po apos cpos pos : Pos}
end
end DL
namespace DL
open PySem PySem.Spec PyProof.Rows L2
/-! ### any of a tuple of numbers -/
theorem truth_ns {prog : Program} {w : World} {A : Around} {ns : List Int} {its : List Value} (e : Vals (ns.map V.int) its) : TruthOf prog w A (fun i v => its.toArray[i]? = some v) (fun i => ns.getD i 0 != 0) := fun i v s Q E hv hq => by
  have hv' : its[i]? = some v := by simpa using hv
  have hi : i < its.length := (List.getElem?_eq_some_iff.mp hv').1
  have hl := e.length
  rw [List.length_map] at hl
  obtain ⟨u, hu, r⟩ := e.get (i := i) (x := V.int ns[i]) (by rw [List.getElem?_map, List.getElem?_eq_getElem (by omega)]; rfl)
  rw [hv'] at hu
  cases hu
  obtain ⟨t, rfl⟩ := r
  have hg : ns.getD i 0 = ns[i] := by rw [List.getD_eq_getElem?_getD, List.getElem?_eq_getElem (by omega)]; rfl
  have hq' : Q (ns.getD i 0 != 0) s := hq
  rw [hg] at hq'
  exact PyProof.Rows.truthy_int hq'
theorem any_ns : ∀ ns : List Int, (List.range ns.length).any (fun i => ns.getD i 0 != 0) = ns.any fun n => n != 0
  | [] => rfl
  | b :: bs => by
    rw [List.length_cons, List.range_succ_eq_map, List.any_cons, List.any_map, List.any_cons, ← any_ns bs]
    all_goals rfl
def rAnyT (K : PySem.W.Frag) : List V → Hp → VK → Prop := fun vs H Q => ∃ (a : Addr) (ns : List Int), vs = [V.ref a] ∧ SqT K H a (ns.map V.int) ∧ Q (.bl (ns.any fun n => n != 0)) H
section
variable {X : Cx}
theorem c_anyT (hc : X.calm = true) : CallR X (.builtin "any") (rAnyT X.K) := by
  intro pins s σ H vs us Q I r h
  obtain ⟨a, ns, rfl, hs, q⟩ := h
  obtain ⟨its, rv, hl, _⟩ := I.tuple hs
  rw [Vals.ref1 r]
  have ht : s.heap.IsTuple a its.toArray := by
    obtain ⟨o, h1, h2, n, h3⟩ := hl
    exact ⟨o, h1, h2, n, h3⟩
  have hlt : a < s.heap.objs.size := by obtain ⟨_, e, _⟩ := hl; exact Heap.lt_size e
  refine call_any_walk (wpAny_pyIter_tuple ht ?_)
  refine ⟨_, _, _, _, _, _, _, rfl, Walks.tuple (A := X.A.in1) (I.ok.hd hc) _ a (Nat.ne_of_lt hlt) its.toArray, ⟨⟨_, Heap.get?_push_size _ rfl, rfl, rfl⟩, ht.push _⟩, truth_ns rv, fun h' tk hk => ?_⟩
  refine ⟨.bl _, H, I.kept fun b o eo => hk b o (fun hmem => ?_) (Heap.get?_push_of_some _ eo), ?_, q⟩
  · rcases List.mem_cons.mp hmem with e1 | hmem
    · exact absurd (e1 ▸ Heap.lt_size eo) (Nat.lt_irrefl _)
    · cases hmem
  · show Value.bool _ = Value.bool _
    have hl2 := rv.length
    rw [List.length_map] at hl2
    rw [← any_ns, List.size_toArray, ← hl2]
def anyA : List D → Option D
  | [.tup xs] => (toInts xs).map fun ns => .bl (ns.any fun n => n != 0)
  | ds => anyD ds
theorem c_anyA (hc : X.calm = true) : CallR X (.builtin "any") (fun xs H Q => rAny X.K xs H Q ∨ rAnyT X.K xs H Q) := (cr_any hc).or (c_anyT hc)
theorem d_anyA {K : PySem.W.Frag} : CallD K (fun xs H Q => rAny K xs H Q ∨ rAnyT K xs H Q) anyA := fun H ds vs F d Q r e k => by
  unfold anyA at e
  split at e
  · rename_i xs
    obtain ⟨ns, e2, rfl⟩ := Option.map_eq_some_iff.mp e
    obtain ⟨v, rfl, a, ws, rfl, q, rr⟩ := reps_one r
    have z := toInts_rep rr e2
    subst z
    exact .inr ⟨a, ns, rfl, .inl (.inl q), k _ H [] (Same.refl H) ⟨rfl, rfl⟩ New.nil⟩
  · exact .inl (d_any H ds vs F d Q r e k)
end
end DL
namespace DL
open PySem PySem.Spec PyProof.Rows L2
/-! ### sorted of one thing (an empty tuple, say) -/
theorem sorts_one {prog : Program} {w : World} {A : Around} {s : Shared} {v : Value} {d : PyData} {as : List Addr} (r : Reads s.heap v d as) (al : PySem.W.alike d d = true) (hn : d ≠ .none) (hu : A.units + d.depth < cLine) : PySem.W.SortsAt prog w A s (PySem.W.dataKind s.heap [d]) [v] := by
  have hal : PySem.W.AllAlike [d] := fun x hx y hy => by rw [List.mem_singleton.mp hx, List.mem_singleton.mp hy]; exact al
  refine ⟨fun u hu' => by rw [List.mem_singleton.mp hu']; exact ⟨_, PySem.W.dataKind_some hal (List.mem_singleton.mpr rfl) r⟩, general', fun E x y a b Q ha hb hq => ?_, fun h2 => absurd h2 (by simp)⟩
  obtain ⟨d1, as1, hd1, ra, rfl⟩ := PySem.W.dataKind_inv ha
  obtain ⟨d2, as2, hd2, rb, rfl⟩ := PySem.W.dataKind_inv hb
  rw [List.mem_singleton] at hd1 hd2
  subst hd1 hd2
  show wpAny _ _ (oneLt' false x y) Q E s
  exact PySem.W.oneLt_alike (fun z => by cases z) ra rb al hn (by rw [Nat.min_self]; exact hu) hq
def rSort1 (K : PySem.W.Frag) : List V → Hp → VK → Prop := fun vs H Q => ∃ (a : Addr) (z : V × D), vs = [.ref a] ∧ SqL K H a [z.1] ∧ Dp K H z.1 (py z.2) ∧ PySem.W.alike (py z.2) (py z.2) = true ∧ py z.2 ≠ .none ∧ (py z.2).depth ≤ 60 ∧ ∀ l, H l = none → Q (.ref l) (upd H l (.lst [z.1]))
section
variable {X : Cx} {k : Nat}
theorem c_sortedOne (hr : Room k X.A) : CallR X (.builtin "sorted") (rSort1 X.K) := by
  intro pins s σ H vs us Q I r h
  obtain ⟨a, z, rfl, hs, hd, al, hn, dp, q⟩ := h
  obtain ⟨its, rv, hl, hz⟩ := I.list hs
  rw [Vals.ref1 r]
  have hu := hr.units
  obtain ⟨u, rfl, ru⟩ : ∃ u, its = [u] ∧ RelV z.1 u := by
    cases rv with
    | cons h t => cases t; exact ⟨_, rfl, h⟩
  obtain ⟨as, rd⟩ := Dp.reads I _ _ _ hd ru
  have rd' : Reads (PySem.W.sortingHeap (PySem.W.copyHeap s.heap [u]) (s.heap.objs.size + 1) [u]) u (py z.2) as := PyProof.Rows.Reads.keeps (fun _ _ => PySem.W.sorting_copy_old) rd
  have hal : PySem.W.AllAlike ([z].map fun z : V × D => py z.2) := fun x hx y hy => by rw [List.mem_singleton.mp hx, List.mem_singleton.mp hy]; exact al
  have he := PySem.W.sortVals_data (h' := PySem.W.sortingHeap (PySem.W.copyHeap s.heap [u]) (s.heap.objs.size + 1) [u]) (enc := fun z : V × D => py z.2) (R := fun u z => RelV z.1 u) (vs := [u]) (bs := [z]) false (.cons ru .nil) (.cons ⟨as, rd'⟩ .nil) hal
  rw [List.mergeSort_singleton] at he
  refine PySem.W.sorted_vals (κ := PySem.W.dataKind (PySem.W.sortingHeap (PySem.W.copyHeap s.heap [u]) (s.heap.objs.size + 1) [u]) [py z.2]) hl.isList (sorts_one (s := { s with heap := PySem.W.sortingHeap (PySem.W.copyHeap s.heap [u]) (s.heap.objs.size + 1) [u] }) rd' al hn (by show X.A.units + 1 + 1 + _ < _; omega)) (by show 1 ≤ _; decide) ?_
  generalize hout : PySem.W.sortVals (PySem.W.dataKind (PySem.W.sortingHeap (PySem.W.copyHeap s.heap [u]) (s.heap.objs.size + 1) [u]) [py z.2]) false [u] [u] = out
  have he2 : PySem.W.EachIs (fun u (z : V × D) => RelV z.1 u) out [z] := by rw [← hout]; exact he
  obtain ⟨ep, he'⟩ := PyProof.Rows.sortedAll_at s.heap [u] out.toArray
  have hv := each_vals he2
  exact ⟨.ref _, upd H (s.heap.objs.size + 1) (.lst [z.1]), I.laid (t' := s.toks) (fun _ _ => PyProof.Rows.sortedAll_old) (Nat.le_succ _) ⟨by show 1 ≤ _; decide, out, ep, hv, he'⟩, rfl, q _ (I.hok.fresh (Nat.le_succ _))⟩
/-- sorted, a list of one plain thing taken as it is -/
def sortedB : List D → Option D
  | [.lst [x]] => if plain x && PySem.W.alike (py x) (py x) && decide ((py x).depth ≤ 60) && (py x).canLay0 && !isNon x then some (.lst [x]) else none
  | ds => sortedA ds
theorem py_non {x : D} (h : isNon x = false) : py x ≠ .none := by
  cases x <;> first | (cases h; done) | (intro z; cases z)
theorem c_sortedB (hc : X.calm = true) (hr : Room k X.A) : CallR X (.builtin "sorted") (fun xs H Q => rSort1 X.K xs H Q ∨ (rSortD X.K xs H Q ∨ rSortT xs H Q)) := (c_sortedOne hr).or (c_sortedA hc hr)
theorem d_sortedB {K : PySem.W.Frag} : CallD K (fun xs H Q => rSort1 K xs H Q ∨ (rSortD K xs H Q ∨ rSortT xs H Q)) sortedB := fun H ds vs F d Q r e k => by
  unfold sortedB at e
  split at e
  · rename_i x
    split at e
    · rename_i c
      cases e
      simp only [Bool.and_eq_true, decide_eq_true_eq, Bool.not_eq_true'] at c
      obtain ⟨⟨⟨⟨c1, c2⟩, c3⟩, c4⟩, c5⟩ := c
      obtain ⟨v, rfl, a, ws, G, rfl, q, hF, rr⟩ := reps_one r
      obtain ⟨w, rfl, r1⟩ := reps_one rr
      have gn := r1.nil (pure_of_plain _ c1)
      subst gn
      refine .inl ⟨a, (w, x), rfl, .inl q, r1.dp c4, c2, py_non c5, c3, fun l hl => k _ _ [l] (same_upd hl) ⟨l, [w], [], rfl, .inl upd_same, rfl, Reps.one (r1.same (same_upd hl))⟩ (new_lst hl)⟩
    · cases e
  · exact .inr (d_sortedA H ds vs F d Q r e k)
end
end DL
namespace DL
open PySem PySem.Spec PyProof.Rows L2
/-! ### sorted of a tuple of plain things -/
mutual
theorem readsQ_plain {h : Heap} : ∀ (d : D) {v : Value} {as : List Addr}, plain d = true → Reads h v (py d) as → as = []
  | .non, v, as, _, r => by rw [py] at r; cases r; rfl
  | .bl b, v, as, _, r => by rw [py] at r; cases r; rfl
  | .int i, v, as, _, r => by rw [py] at r; cases r; rfl
  | .str x, v, as, _, r => by rw [py] at r; cases r; rfl
  | .tup xs, v, as, p, r => by
    rw [py] at r
    cases r with
    | tuple _ _ _ q => exact readsQ_plains xs p q
  | .lst _, _, _, p, _ => by cases p
  | .frz _, _, _, p, _ => by cases p
  | .ctp _, _, _, p, _ => by cases p
  | .dK _ _, _, _, p, _ => by cases p
  | .dT _ _, _, _, p, _ => by cases p
theorem readsQ_plains {h : Heap} : ∀ (ds : List D) {vs : List Value} {as : List Addr}, plains ds = true → ReadsAll h vs (pys ds) as → as = []
  | [], vs, as, _, r => by rw [pys] at r; cases r; rfl
  | d :: ds, vs, as, p, r => by
    rw [pys] at r
    rw [plains, Bool.and_eq_true] at p
    cases r with
    | cons r1 r2 => rw [readsQ_plain d p.1 r1, readsQ_plains ds p.2 r2]; rfl
end
def rSortTp (K : PySem.W.Frag) : List V → Hp → VK → Prop := fun vs H Q => ∃ (a : Addr) (zs : List (V × D)), vs = [.ref a] ∧ SqT K H a (zs.map Prod.fst) ∧ (∀ z ∈ zs, Dp K H z.1 (py z.2) ∧ plain z.2 = true) ∧ PySem.W.AllAlike (zs.map fun z => py z.2) ∧ PySem.W.Sortable (zs.map fun z => py z.2) ∧
  (∀ z ∈ zs, (py z.2).depth ≤ 60) ∧ ∀ l, H l = none → Q (.ref l) (upd H l (.lst ((zs.mergeSort (PySem.W.dataLe false fun z => py z.2)).map Prod.fst)))
section
variable {X : Cx} {k : Nat}
theorem sorted_tup {prog : Program} {w : World} {A : Around} {E : Value → Shared → Prop} {s : Shared} {a : Addr} {o : Obj} {items : Array Value} {n : Nat} {Q : Value → Shared → Prop} (ho : s.heap.get? a = some o) (hc : o.cls = .type "tuple") (hd : o.data = .seq items n) (hsz : items.size ≤ sizeLine)
    (h : ∀ h' : Heap, (∀ b o, s.heap.get? b = some o → h'.get? b = some o) →
      wpAny (model prog w) A.in1 (call (.builtin "list.sort") [.ref h'.objs.size]) (fun _ s' => Q (.ref h'.objs.size) s') E { s with heap := h'.push { cls := .type "list", data := .seq items.toList.toArray } }) :
    wpAny (model prog w) A (call (.builtin "sorted") [.ref a]) Q E s := by
  refine PySem.Calls.call_function_entry kind_sorted plain_sorted entry_sorted (args_sorted1 _) ?_
  unfold Builtin.«sorted»
  refine wpAny_bind (m := checkCount "sorted" 1 1 _) (wpAny_pure (wpAny_bind (wpAny_collect_seq (A := A.in1) a (.inr rfl) ho hc hd (fun h' kp => ?_) hsz)))
  exact wpAny_bind (wpAny_newList (wpAny_bind (wpAny_holding (wpAny_mono (h h' kp) (fun _ s' x => wpAny_pure ⟨_, rfl, x⟩) fun _ _ e => e))) (by rw [Array.length_toList]; exact hsz))
theorem c_sortedTp (hr : Room k X.A) : CallR X (.builtin "sorted") (rSortTp X.K) := by
  intro pins s σ H vs us Q I r h
  obtain ⟨a, zs, rfl, hs, hd, al, so, dp, q⟩ := h
  obtain ⟨its, rv, hl, hz⟩ := I.tuple hs
  rw [Vals.ref1 r]
  have hlen := rv.length
  have hu := hr.units
  obtain ⟨o, ho, hcls, n, hdat⟩ := hl
  have hlt : its.length ≤ sizeLine := by omega
  refine sorted_tup ho hcls hdat (by rw [List.size_toArray]; exact hlt) fun h' kp => ?_
  have eL : its.toArray.toList = its := List.toList_toArray
  rw [eL]
  have E1 := each_zip (R := fun u d => ∃ as, Reads s.heap u (py d) as) rv fun z hz u ru => Dp.reads I _ _ _ (hd z hz).1 ru
  have keep : ∀ b ob, s.heap.get? b = some ob → (h'.push { cls := .type "list", data := .seq its.toArray }).get? b = some ob := fun b ob e => Heap.get?_push_of_some _ (kp b ob e)
  have noA : s.heap.get? h'.objs.size = none := by
    cases c : s.heap.get? h'.objs.size with
    | none => rfl
    | some u => exact absurd (Heap.lt_size (kp _ _ c)) (Nat.lt_irrefl _)
  have noH : H h'.objs.size = none := (I.kept (t' := s.toks) kp).hok.fresh (Nat.le_refl _)
  have er : PySem.W.EachIs (fun u (z : V × D) => ∃ as, Reads (h'.push { cls := .type "list", data := .seq its.toArray }) u (py z.2) as ∧ h'.objs.size ∉ as) its zs := by
    refine (PySem.W.each_mem E1).mono fun u z ⟨⟨_, as, rd⟩, hm⟩ => ?_
    have ne := readsQ_plain z.2 (hd z hm).2 rd
    subst ne
    exact ⟨[], PyProof.Rows.Reads.keeps keep rd, fun z => by cases z⟩
  have hat : (h'.push { cls := .type "list", data := .seq its.toArray }).get? h'.objs.size = some (seqObj "list" its.toArray 0) := Heap.get?_push_size _ rfl
  have hzl : zs.length = its.length := by rw [List.length_map] at hlen; omega
  refine PySem.W.list_sort_data (A := X.A.in1) (s := { s with heap := h'.push { cls := .type "list", data := .seq its.toArray } }) (enc := fun z : V × D => py z.2) (R := fun u (z : V × D) => RelV z.1 u) hat (E1.mono fun _ _ h => h.1) er al so (by omega) (fun b hb => ?_) fun out ho2 eo => ?_
  · have := dp b hb
    show X.A.units + 1 + 1 + (py b.2).depth < cLine
    omega
  · have hv := each_vals eo
    obtain ⟨ep', he'⟩ := sortedHeap_at (out := out.toArray) hat
    refine ⟨.ref h'.objs.size, upd H h'.objs.size (.lst ((zs.mergeSort (PySem.W.dataLe false fun z => py z.2)).map Prod.fst)), I.laidN (t' := s.toks) (fun b u e => ?_) noA noH ⟨?_, out, ep', hv, he'⟩, rfl, q _ noH⟩
    · have h1 := keep b u e
      have nb : b ≠ h'.objs.size := fun z => by
        subst z
        rw [noA] at e
        cases e
      exact (sortedHeap_old nb (Heap.lt_size h1)).trans h1
    · rw [List.length_map, List.length_mergeSort]
      omega
/-- sorted, of a tuple too -/
def sortedC : List D → Option D
  | [.tup xs] => if sortOk xs = true then some (.lst (sortD xs)) else none
  | ds => sortedB ds
theorem c_sortedC (hc : X.calm = true) (hr : Room k X.A) : CallR X (.builtin "sorted") (fun xs H Q => rSortTp X.K xs H Q ∨ (rSort1 X.K xs H Q ∨ (rSortD X.K xs H Q ∨ rSortT xs H Q))) := (c_sortedTp hr).or (c_sortedB hc hr)
theorem d_sortedC {K : PySem.W.Frag} : CallD K (fun xs H Q => rSortTp K xs H Q ∨ (rSort1 K xs H Q ∨ (rSortD K xs H Q ∨ rSortT xs H Q))) sortedC := fun H ds vs F d Q r e k => by
  unfold sortedC at e
  split at e
  · rename_i xs
    split at e
    · rename_i so
      cases e
      obtain ⟨v, rfl, a, ws, rfl, hq, rr⟩ := reps_one r
      obtain ⟨h1, h2, h3, h4⟩ := sortOk_iff so
      obtain ⟨zs, z1, z2, z3⟩ := reps_zip rr
      have z4 : ∀ z ∈ zs, Rep K H z.2 z.1 [] := fun z hz => by
        obtain ⟨G, g⟩ := z3 z hz
        have hm : z.2 ∈ xs := by rw [← z2]; exact List.mem_map.mpr ⟨z, hz, rfl⟩
        have e := g.nil (pure_of_plain _ (plains_mem h1 hm))
        rw [e] at g
        exact g
      have em : zs.map (fun z => py z.2) = xs.map py := by rw [← z2, List.map_map]; rfl
      have hm : ∀ z ∈ zs, z.2 ∈ xs := fun z hz => by rw [← z2]; exact List.mem_map.mpr ⟨z, hz, rfl⟩
      refine .inl ⟨a, zs, rfl, by rw [z1]; exact .inl (.inl hq), fun z hz => ⟨(z4 z hz).dp (h4 _ (hm z hz)).2, plains_mem h1 (hm z hz)⟩, by rw [em]; exact h2, by rw [em]; exact h3, fun z hz => (h4 _ (hm z hz)).1, fun l hl => ?_⟩
      refine k _ _ [l] (same_upd hl) ⟨l, _, [], rfl, .inl upd_same, rfl, ?_⟩ (new_lst hl)
      have z5 : Reps K H ((zs.mergeSort (PySem.W.dataLe false fun z => py z.2)).map Prod.snd) ((zs.mergeSort (PySem.W.dataLe false fun z => py z.2)).map Prod.fst) [] := zip_reps fun z hz => z4 z (List.mem_mergeSort.mp hz)
      rw [sort_snd, z2] at z5
      exact z5.same (same_upd hl)
    · cases e
  · exact .inr (d_sortedB H ds vs F d Q r e k)
end
end DL
namespace DL
open PySem PySem.Spec L2
/-! ### plain data of any kind: equal, within -/
structure Enc {α : Type} [DecidableEq α] (g : α → D) (n : Nat) : Prop where
  pl : ∀ a, (py (g a)).plain = true
  lay : ∀ a, (py (g a)).canLay0 = true
  dep : ∀ a, (py (g a)).depth ≤ n
  eq : ∀ a b, PyData.eqv (py (g a)) (py (g b)) = decide (a = b)
section
variable {α : Type} [DecidableEq α] {g : α → D} {n : Nat}
theorem Enc.plAll (h : Enc g n) : ∀ l : List α, PyData.plainAll (pys (l.map g)) = true
  | [] => rfl
  | a :: l => by rw [List.map_cons, pys, PyData.plainAll, h.pl, h.plAll l]; rfl
theorem Enc.layAll (h : Enc g n) : ∀ l : List α, PyData.canLayAll0 (pys (l.map g)) = true
  | [] => rfl
  | a :: l => by rw [List.map_cons, pys, PyData.canLayAll0, h.lay, h.layAll l]; rfl
theorem Enc.depAll (h : Enc g n) : ∀ l : List α, PyData.depthAll (pys (l.map g)) ≤ n
  | [] => Nat.zero_le _
  | a :: l => by
    rw [List.map_cons, pys, PyData.depthAll]
    exact Nat.max_le.mpr ⟨h.dep a, h.depAll l⟩
theorem Enc.eqAll (h : Enc g n) : ∀ l m : List α, PyData.eqvAll (pys (l.map g)) (pys (m.map g)) = decide (l = m)
  | [], [] => rfl
  | [], _ :: _ => rfl
  | _ :: _, [] => rfl
  | a :: l, b :: m => by
    rw [List.map_cons, List.map_cons, pys, pys, PyData.eqvAll, h.eq, h.eqAll l m, ← Bool.decide_and]
    exact decide_eq_decide.mpr (by simp)
theorem Enc.any (h : Enc g n) (x : α) : ∀ l : List α, ((l.map g).any fun y => eqv y (g x)) = decide (x ∈ l)
  | [] => rfl
  | a :: l => by
    have e : eqv (g a) (g x) = decide (a = x) := h.eq a x
    rw [List.map_cons, List.any_cons, e, h.any x l, ← Bool.decide_or]
    exact decide_eq_decide.mpr (by rw [List.mem_cons]; exact or_congr ⟨Eq.symm, Eq.symm⟩ Iff.rfl)
theorem Enc.inOk (h : Enc g n) (hn : n ≤ 60) (l : List α) (x : α) : inOk (l.map g) (g x) = true := by
  unfold DL.inOk
  rw [h.plAll, h.pl, h.layAll, h.lay]
  have := h.depAll l
  simp
  omega
theorem Enc.seq (h : Enc g n) (hn : n ≤ 60) (l : List α) (x : α) : inSeq (g x) (l.map g) = some (decide (x ∈ l)) := by
  unfold inSeq
  rw [if_pos (h.inOk hn l x), h.any]
theorem nin_lstE (h : Enc g n) (hn : n ≤ 60) (l : List α) (x : α) : oNin (g x) (.lst (l.map g)) = some (.bl (!decide (x ∈ l))) := by
  show (inSeq (g x) (l.map g)).map (fun b => D.bl (!b)) = _
  rw [h.seq hn]; rfl
theorem in_tupE (h : Enc g n) (hn : n ≤ 60) (l : List α) (x : α) : oIn (g x) (.tup (l.map g)) = some (.bl (decide (x ∈ l))) := by
  show (inSeq (g x) (l.map g)).map D.bl = _
  rw [h.seq hn]; rfl
theorem Enc.lst (h : Enc g n) : Enc (fun l : List α => D.lst (l.map g)) (n + 1) := by
  refine ⟨fun l => ?_, fun l => ?_, fun l => ?_, fun l m => ?_⟩
  · show PyData.plain (py (.lst _)) = true
    rw [py, PyData.plain, h.plAll]
  · show PyData.canLay0 (py (.lst _)) = true
    rw [py, PyData.canLay0, h.layAll]
  · show PyData.depth (py (.lst _)) ≤ _
    rw [py, PyData.depth]
    exact Nat.succ_le_succ (h.depAll l)
  · show PyData.eqv (py (.lst _)) (py (.lst _)) = _
    rw [py, py, PyData.eqv, h.eqAll]
theorem Enc.tup (h : Enc g n) : Enc (fun l : List α => D.tup (l.map g)) (n + 1) := by
  refine ⟨fun l => ?_, fun l => ?_, fun l => ?_, fun l m => ?_⟩
  · show PyData.plain (py (.tup _)) = true
    rw [py, PyData.plain, h.plAll]
  · show PyData.canLay0 (py (.tup _)) = true
    rw [py, PyData.canLay0, h.layAll]
  · show PyData.depth (py (.tup _)) ≤ _
    rw [py, PyData.depth]
    exact Nat.succ_le_succ (h.depAll l)
  · show PyData.eqv (py (.tup _)) (py (.tup _)) = _
    rw [py, py, PyData.eqv, h.eqAll]
theorem Enc.ok (h : Enc g n) (hn : n ≤ 60) (x : α) : okD (g x) = true := by
  unfold okD SeqAt.shaped
  rw [h.lay, Bool.true_and, decide_eq_true_eq]
  have := h.dep x
  omega
theorem eq_E (h : Enc g n) (hn : n ≤ 60) (x y : α) : oEq (g x) (g y) = some (.bl (decide (x = y))) := eq_of (h.ok hn x) (h.ok hn y) (h.eq x y)
theorem ne_E (h : Enc g n) (hn : n ≤ 60) (x y : α) : oNe (g x) (g y) = some (.bl (!decide (x = y))) := oNe_of (h.ok hn x) (h.ok hn y) (h.eq x y)
theorem Enc.comp {β : Type} [DecidableEq β] (h : Enc g n) {f : β → α} (inj : ∀ x y, f x = f y → x = y) : Enc (fun x => g (f x)) n :=
  ⟨fun _ => h.pl _, fun _ => h.lay _, fun _ => h.dep _, fun x y => by rw [h.eq]; exact decide_eq_decide.mpr ⟨inj x y, fun e => by rw [e]⟩⟩
end
theorem enc_int : Enc D.int 1 := ⟨fun _ => rfl, fun _ => rfl, fun _ => by simp [py, PyData.depth], fun a b => by
  show PyData.eqv (.int a) (.int b) = _
  rw [PyData.eqv]
  exact Bool.beq_eq_decide_eq a b⟩
theorem enc_ints : Enc (fun l : List Int => D.tup (l.map .int)) 2 := enc_int.tup
theorem enc_cell : Enc cellD 2 := enc_ints.comp (f := fun c : Cell => [c.1, c.2]) fun x y h => by
  simp only [List.cons.injEq] at h
  exact Prod.ext h.1 h.2.1
theorem enc_ink : Enc inkD 3 := enc_cell.tup
end DL
namespace DL
open PySem PySem.Spec L2
/-! ### a loop that may answer early -/
namespace C
abbrev N_need_word : List Str := ["word", "index", "letter"]
def s_need_word : ES := (sSeq (sIf (tP' (yNot (xBool (xCall F_is_list (xsCons (xVar 0) (xsCons (xC (.int 0)) (xsCons (xC (.int 40)) xsNil))))))) sNever sNext)
  (sFor (iP (xEn (xPure (xVar 0)))) (gTupD 2 (gsCons (put 1) (gsCons (put 2) gsNil)))
  (sIf (tP' (yNot (xBool (xCall F_is_in (xsCons (xVar 2) (xsCons (xC (.int 0)) (xsCons (xC (.int 1)) xsNil))))))) sNever sNext)))
def F_need_word : List D → Option D := fnP N_need_word s_need_word
abbrev N_heights : List Str := ["word", "found", "letter"]
def s_heights : ES := (sSeq (sAsg (mP (xLst (xsCons (xC (.int 0)) xsNil))) (put 1))
  (sSeq (sFor (iP (xIt (xPure (xVar 0)))) (put 2)
  (sDrop (mMut isL appendD 1 (msCons (mP (xOp oAdd (xOp ixD (xVar 1) (xNeg (xC (.int 1)))) (xVar 2))) msNil))))
  (sRet (mMove 1))))
def F_heights : List D → Option D := fnP N_heights s_heights
abbrev N_imbalance : List Str := ["word", "rows", "size", "sums", "one", "other", "at"]
def s_imbalance : ES := (sSeq (sDrop (mP (xCall F_need_word (xsCons (xVar 0) xsNil))))
  (sSeq (sAsg (mP (xCall F_heights (xsCons (xVar 0) xsNil))) (put 1))
  (sSeq (sFor (iP (xRng2 (xsCons (xC (.int 1)) (xsCons (xOp oAdd (xCall lenD (xsCons (xVar 0) xsNil)) (xC (.int 1))) xsNil)))) (put 2)
  (sSeq (sAsg (mP (xComp [6] (xRng1 (xsCons (xOp oAdd (xOp oSub (xCall lenD (xsCons (xVar 0) xsNil)) (xVar 2)) (xC (.int 1))) xsNil)) (putB 6) yYes (xOp oSub (xOp ixD (xVar 1) (xOp oAdd (xVar 6) (xVar 2))) (xOp ixD (xVar 1) (xVar 6))))) (put 3))
  (sFor (iP (xRng1 (xsCons (xCall lenD (xsCons (xVar 3) xsNil)) xsNil))) (put 4)
  (sFor (iP (xRng1 (xsCons (xVar 4) xsNil))) (put 5)
  (sIf (tP' (xBool (xOp oGt (xCall absD (xsCons (xOp oSub (xOp ixD (xVar 3) (xVar 4)) (xOp ixD (xVar 3) (xVar 5))) xsNil)) (xC (.int 1))))) (sRet (mP (xTup (xsCons (xPure (xVar 2)) (xsCons (xPure (xVar 5)) (xsCons (xPure (xVar 4)) xsNil)))))) sNext)))))
  (sRet (mP (xC .non))))))
def F_imbalance : List D → Option D := fnP N_imbalance s_imbalance
abbrev N_is_straight : List Str := ["word"]
def s_is_straight : ES := (sRet (mP (xOp oIsN (xCall F_imbalance (xsCons (xVar 0) xsNil)) (xC .non))))
def F_is_straight : List D → Option D := fnP N_is_straight s_is_straight
abbrev N_bounds : List Str := ["rows", "right", "found", "one", "other", "gap", "rise"]
def s_bounds : ES := (sSeq (sAsg (mP (xLst xsNil)) (put 2))
  (sSeq (sFor (iP (xRng1 (xsCons (xCall lenD (xsCons (xVar 0) xsNil)) xsNil))) (put 3)
  (sFor (iP (xRng2 (xsCons (xOp oAdd (xVar 3) (xC (.int 1))) (xsCons (xCall lenD (xsCons (xVar 0) xsNil)) xsNil)))) (put 4)
  (sSeq (sPar 5 6 (msCons (mP (xOp oSub (xVar 4) (xVar 3))) (msCons (mP (xOp oMul (xOp oSub (xOp ixD (xVar 0) (xVar 4)) (xOp ixD (xVar 0) (xVar 3))) (xVar 1))) msNil)))
  (sDrop (mMut isL appendD 2 (msCons (mP (xTup (xsCons (xOp oAdd (xOp oFdiv (xOp oSub (xVar 6) (xVar 1)) (xVar 5)) (xC (.int 1))) (xsCons (xOp oSub (xNeg (xOp oFdiv (xOp oSub (xNeg (xVar 6)) (xVar 1)) (xVar 5))) (xC (.int 1))) xsNil)))) msNil))))))
  (sRet (mMove 2))))
def F_bounds : List D → Option D := fnP N_bounds s_bounds
abbrev N_slope : List Str := ["word", "rows", "right", "some", "low", "high", "down", "least", "most", "pair", "at"]
def s_slope : ES := (sSeq (sDrop (mP (xCall F_need_word (xsCons (xVar 0) xsNil))))
  (sSeq (sAsg (mP (xCall F_heights (xsCons (xVar 0) xsNil))) (put 1))
  (sSeq (sFor (iP (xRng2 (xsCons (xC (.int 1)) (xsCons (xOp oAdd (xCall lenD (xsCons (xVar 0) xsNil)) (xC (.int 2))) xsNil)))) (put 2)
  (sSeq (sAsg (mP (xCall F_bounds (xsCons (xVar 1) (xsCons (xVar 2) xsNil)))) (put 3))
  (sSeq (sAsg (mP (xCall maxLD (xsCons (xLst (xsCons (xC (.int 0)) (xsStar (xComp [9] (xIt (xVar 3)) (putB 9) yYes (xPure (xOp ixD (xVar 9) (xC (.int 0))))) xsNil))) xsNil))) (put 4))
  (sSeq (sAsg (mP (xCall minLD (xsCons (xLst (xsCons (xPure (xVar 2)) (xsStar (xComp [9] (xIt (xVar 3)) (putB 9) yYes (xPure (xOp ixD (xVar 9) (xC (.int 1))))) xsNil))) xsNil))) (put 5))
  (sFor (iP (xRng2 (xsCons (xVar 4) (xsCons (xOp oAdd (xVar 5) (xC (.int 1))) xsNil)))) (put 6)
  (sSeq (sAsg (mP (xCall maxLD (xsCons (xComp [10] (xRng1 (xsCons (xCall lenD (xsCons (xVar 1) xsNil)) xsNil)) (putB 10) yYes (xOp oSub (xOp oMul (xOp ixD (xVar 1) (xVar 10)) (xVar 2)) (xOp oMul (xVar 6) (xVar 10)))) xsNil))) (put 7))
  (sSeq (sAsg (mP (xCall minLD (xsCons (xComp [10] (xRng1 (xsCons (xCall lenD (xsCons (xVar 1) xsNil)) xsNil)) (putB 10) yYes (xOp oSub (xOp oAdd (xOp oSub (xOp oMul (xOp ixD (xVar 1) (xVar 10)) (xVar 2)) (xOp oMul (xVar 6) (xVar 10))) (xVar 2)) (xC (.int 1)))) xsNil))) (put 8))
  (sIf (tP' (xBool (xOp oLe (xCall max2D (xsCons (xVar 7) (xsCons (xC (.int 0)) xsNil))) (xCall min2D (xsCons (xVar 8) (xsCons (xOp oSub (xVar 2) (xC (.int 1))) xsNil)))))) (sRet (mP (xTup (xsCons (xPure (xVar 2)) (xsCons (xPure (xVar 6)) (xsCons (xCall max2D (xsCons (xVar 7) (xsCons (xC (.int 0)) xsNil))) xsNil)))))) sNext))))))))
  (sRet (mP (xC .non))))))
def F_slope : List D → Option D := fnP N_slope s_slope
abbrev N_need_line : List Str := ["down", "right", "start"]
def s_need_line : ES := (sIf (tP' (yOr (yNot (xBool (xCall F_is_in (xsCons (xVar 1) (xsCons (xC (.int 1)) (xsCons (xC (.int 60)) xsNil)))))) (yOr (yNot (xBool (xCall F_is_in (xsCons (xVar 0) (xsCons (xC (.int 0)) (xsCons (xVar 1) xsNil)))))) (yNot (xBool (xCall F_is_in (xsCons (xVar 2) (xsCons (xC (.int 0)) (xsCons (xOp oSub (xVar 1) (xC (.int 1))) xsNil))))))))) sNever sNext)
def F_need_line : List D → Option D := fnP N_need_line s_need_line
abbrev N_word_in : List Str := ["down", "right", "start", "many", "at"]
def s_word_in : ES := (sRet (mP (xCall tupleD (xsCons (xComp [4] (xRng1 (xsCons (xVar 3) xsNil)) (putB 4) yYes (xOp oSub (xOp oFdiv (xOp oAdd (xOp oMul (xVar 0) (xOp oAdd (xVar 4) (xC (.int 1)))) (xVar 2)) (xVar 1)) (xOp oFdiv (xOp oAdd (xOp oMul (xVar 0) (xVar 4)) (xVar 2)) (xVar 1)))) xsNil))))
def F_word_in : List D → Option D := fnP N_word_in s_word_in
abbrev N_line_word : List Str := ["down", "right", "start", "many"]
def s_line_word : ES := (sSeq (sDrop (mP (xCall F_need_line (xsCons (xVar 0) (xsCons (xVar 1) (xsCons (xVar 2) xsNil))))))
  (sSeq (sIf (tP' (yNot (xBool (xCall F_is_in (xsCons (xVar 3) (xsCons (xC (.int 0)) (xsCons (xC (.int 40)) xsNil))))))) sNever sNext)
  (sRet (mP (xCall F_word_in (xsCons (xVar 0) (xsCons (xVar 1) (xsCons (xVar 2) (xsCons (xVar 3) xsNil)))))))))
def F_line_word : List D → Option D := fnP N_line_word s_line_word
abbrev N_law_any_line : List Str := ["_law_row", "_law_most", "_law_right"]
def s_law_any_line : ES := (sSeq (sAsg (mOp oAdd (mP (xC (.int 1))) (mCallR takenF 0 (msCons (mP (xPure (xVar 1))) msNil))) (put 2))
  (sRet (mTup (msCons (mCallR takenF 0 (msCons (mP (xOp oAdd (xVar 2) (xC (.int 1)))) msNil)) (msCons (mP (xPure (xVar 2))) (msCons (mCallR takenF 0 (msCons (mP (xPure (xVar 2))) msNil)) msNil))))))
def F_law_any_line : D → List D → Option (D × D) := fnR N_law_any_line s_law_any_line
abbrev N_law_line_word : List Str := ["_law_down", "_law_right", "_law_start", "_law_many", "_law_at"]
def s_law_line_word : ES := (sRet (mP (xCall tupleD (xsCons (xComp [4] (xRng1 (xsCons (xVar 3) xsNil)) (putB 4) yYes (xOp oSub (xOp oFdiv (xOp oAdd (xOp oMul (xVar 0) (xOp oAdd (xVar 4) (xC (.int 1)))) (xVar 2)) (xVar 1)) (xOp oFdiv (xOp oAdd (xOp oMul (xVar 0) (xVar 4)) (xVar 2)) (xVar 1)))) xsNil))))
def F_law_line_word : List D → Option D := fnP N_law_line_word s_law_line_word
abbrev N_law_any_word : List Str := ["_law_row", "_law_most", "_law_down", "_law_right", "_law_start", "_law_word", "_law_way", "_law_at"]
def s_law_any_word : ES := (sSeq (sAsg (mCallR F_law_any_line 0 (msCons (mP (xC (.int 12))) msNil)) (gTupD 3 (gsCons (put 2) (gsCons (put 3) (gsCons (put 4) gsNil)))))
  (sSeq (sAsg (mCall F_law_line_word (msCons (mP (xPure (xVar 2))) (msCons (mP (xPure (xVar 3))) (msCons (mP (xPure (xVar 4))) (msCons (mCallR takenF 0 (msCons (mP (xOp oAdd (xVar 1) (xC (.int 1)))) msNil)) msNil))))) (put 5))
  (sSeq (sAsg (mCallR takenF 0 (msCons (mP (xC (.int 3))) msNil)) (put 6))
  (sSeq (sIf (tP' (yAnd (xBool (xOp oEq (xVar 6) (xC (.int 1)))) (xBool (xOp oNe (xVar 5) (xTup xsNil))))) (sSeq (sAsg (mCallR takenF 0 (msCons (mP (xCall lenD (xsCons (xVar 5) xsNil))) msNil)) (put 7))
  (sAsg (mP (xOp oAdd (xOp oAdd (xCut (xVar 5) none (some (xVar 7))) (xTup (xsCons (xOp oSub (xC (.int 1)) (xOp ixD (xVar 5) (xVar 7))) xsNil))) (xCut (xVar 5) (some (xOp oAdd (xVar 7) (xC (.int 1)))) none))) (put 5))) sNext)
  (sSeq (sIf (tP' (xBool (xOp oEq (xVar 6) (xC (.int 2))))) (sAsg (mCall tupleD (msCons (mComp [7] (mRng1 (msCons (mCallR takenF 0 (msCons (mP (xC (.int 9))) msNil)) msNil)) (put 7) (tP' yYes) (mCallR takenF 0 (msCons (mP (xC (.int 2))) msNil))) msNil)) (put 5)) sNext)
  (sRet (mP (xPure (xVar 5)))))))))
def F_law_any_word : D → List D → Option (D × D) := fnR N_law_any_word s_law_any_word
abbrev N_law_gcd : List Str := ["_law_one", "_law_other"]
def s_law_gcd : ES := (sSeq (sWhile (tP' (xBool (xOp oNe (xVar 1) (xC (.int 0)))))
  (sPar 0 1 (msCons (mP (xPure (xVar 1))) (msCons (mP (xOp oMod (xCall intD (xsCons (xVar 0) xsNil)) (xVar 1))) msNil))))
  (sRet (mP (xPure (xVar 0)))))
def F_law_gcd : List D → Option D := fnP N_law_gcd s_law_gcd
end C
/-! ### words -/
abbrev wD (w : List Int) : D := .tup (w.map .int)
def Bits (w : List Int) : Prop := ∀ x ∈ w, x = 0 ∨ x = 1
/-- the row a word stands on after so many letters -/
def ht (w : List Int) (i : Nat) : Int := (w.take i).sum
theorem pures_w (w : List Int) : pures (w.map D.int) = true := pures_ints w
abbrev hD (w : List Int) : D := .lst ((List.range (w.length + 1)).map fun i => .int (ht w i))
namespace C
end C
def dif (w : List Int) (s k : Nat) : Int := ht w (k + s) - ht w k
def gapAt (w : List Int) (s one other : Nat) : Option D := if 1 < (if dif w s one - dif w s other < 0 then -(dif w s one - dif w s other) else dif w s one - dif w s other) then some (.tup [.int s, .int other, .int one]) else none
def imbI (w : List Int) (s one : Nat) : Option D := (List.range one).findSome? fun other => gapAt w s one other
def imbS (w : List Int) (s : Nat) : Option D := (List.range (w.length - s + 1)).findSome? fun one => imbI w s one
def imb (w : List Int) : Option D := (List.range w.length).findSome? fun k => imbS w (k + 1)
def optD : Option D → D
  | some d => d
  | none => .non
namespace C
def gapB : ES := (sIf (tP' (xBool (xOp oGt (xCall absD (xsCons (xOp oSub (xOp ixD (xVar 3) (xVar 4)) (xOp ixD (xVar 3) (xVar 5))) xsNil)) (xC (.int 1))))) (sRet (mP (xTup (xsCons (xPure (xVar 2)) (xsCons (xPure (xVar 5)) (xsCons (xPure (xVar 4)) xsNil)))))) sNext)
def gapI : ES := (sFor (iP (xRng1 (xsCons (xVar 4) xsNil))) (put 5) gapB)
def gapS : ES := (sSeq (sAsg (mP (xComp [6] (xRng1 (xsCons (xOp oAdd (xOp oSub (xCall lenD (xsCons (xVar 0) xsNil)) (xVar 2)) (xC (.int 1))) xsNil)) (putB 6) yYes (xOp oSub (xOp ixD (xVar 1) (xOp oAdd (xVar 6) (xVar 2))) (xOp ixD (xVar 1) (xVar 6))))) (put 3))
  (sFor (iP (xRng1 (xsCons (xCall lenD (xsCons (xVar 3) xsNil)) xsNil))) (put 4) gapI))
abbrev sumsD (w : List Int) (s : Nat) : D := .lst ((List.range (w.length - s + 1)).map fun k => .int (dif w s k))
end C
end DL
namespace DL
open PySem PySem.Spec L2
/-! ### slopes of words -/
def gapP (w : List Int) (r : Int) (i k : Nat) : Int × Int :=
  (((ht w (i + 1 + k) - ht w i) * r - r) / ((k : Int) + 1) + 1, -((-((ht w (i + 1 + k) - ht w i) * r) - r) / ((k : Int) + 1)) - 1)
def bndI (w : List Int) (r : Int) (i : Nat) : List (Int × Int) := (List.range (w.length - i)).map (gapP w r i)
def bnd (w : List Int) (r : Int) : List (Int × Int) := (List.range (w.length + 1)).flatMap (bndI w r)
def lowD (w : List Int) (r : Int) : Int := maxI (0 :: (bnd w r).map Prod.fst)
def highD (w : List Int) (r : Int) : Int := minI (r :: (bnd w r).map Prod.snd)
def leastS (w : List Int) (r d : Int) : Int := maxI ((List.range (w.length + 1)).map fun i => ht w i * r - d * (i : Nat))
def mostS (w : List Int) (r d : Int) : Int := minI ((List.range (w.length + 1)).map fun i => ht w i * r - d * (i : Nat) + r - 1)
def mxS (w : List Int) (r d : Int) : Int := if 0 > leastS w r d then 0 else leastS w r d
def stp (w : List Int) (r d : Int) : Option D := if mxS w r d ≤ (if r - 1 < mostS w r d then r - 1 else mostS w r d) then some (.tup [.int r, .int d, .int (mxS w r d)]) else none
def slD (w : List Int) (r : Int) : Option D := (List.range (highD w r + 1 - lowD w r).toNat).findSome? fun k => stp w r (lowD w r + (k : Nat))
def slp (w : List Int) : Option D := (List.range (w.length + 1)).findSome? fun k => slD w (1 + (k : Nat))
/-- the line (d * i + s) / r passes the word's rows -/
def Line (w : List Int) (r d s : Int) : Prop := 1 ≤ r ∧ 0 ≤ d ∧ d ≤ r ∧ ∀ i, i ≤ w.length → ht w i * r ≤ d * (i : Nat) + s ∧ d * (i : Nat) + s < ht w i * r + r
def Least (w : List Int) (r d s : Int) : Prop := Line w r d s ∧ ∀ r' d' s', Line w r' d' s' → r < r' ∨ (r = r' ∧ (d < d' ∨ (d = d' ∧ s ≤ s')))
end DL
namespace DL
open PySem PySem.Spec L2
abbrev prD (p : Int × Int) : D := .tup [.int p.1, .int p.2]
namespace C
def bndB : ES := (sSeq (sPar 5 6 (msCons (mP (xOp oSub (xVar 4) (xVar 3))) (msCons (mP (xOp oMul (xOp oSub (xOp ixD (xVar 0) (xVar 4)) (xOp ixD (xVar 0) (xVar 3))) (xVar 1))) msNil)))
  (sDrop (mMut isL appendD 2 (msCons (mP (xTup (xsCons (xOp oAdd (xOp oFdiv (xOp oSub (xVar 6) (xVar 1)) (xVar 5)) (xC (.int 1))) (xsCons (xOp oSub (xNeg (xOp oFdiv (xOp oSub (xNeg (xVar 6)) (xVar 1)) (xVar 5))) (xC (.int 1))) xsNil)))) msNil))))
def bndL : ES := (sFor (iP (xRng2 (xsCons (xOp oAdd (xVar 3) (xC (.int 1))) (xsCons (xCall lenD (xsCons (xVar 0) xsNil)) xsNil)))) (put 4) bndB)
variable {w : List Int}
end C
end DL
namespace DL
open PySem PySem.Spec L2
namespace C
variable {w : List Int}
def slpI : ES := (sSeq (sAsg (mP (xCall maxLD (xsCons (xComp [10] (xRng1 (xsCons (xCall lenD (xsCons (xVar 1) xsNil)) xsNil)) (putB 10) yYes (xOp oSub (xOp oMul (xOp ixD (xVar 1) (xVar 10)) (xVar 2)) (xOp oMul (xVar 6) (xVar 10)))) xsNil))) (put 7))
  (sSeq (sAsg (mP (xCall minLD (xsCons (xComp [10] (xRng1 (xsCons (xCall lenD (xsCons (xVar 1) xsNil)) xsNil)) (putB 10) yYes (xOp oSub (xOp oAdd (xOp oSub (xOp oMul (xOp ixD (xVar 1) (xVar 10)) (xVar 2)) (xOp oMul (xVar 6) (xVar 10))) (xVar 2)) (xC (.int 1)))) xsNil))) (put 8))
  (sIf (tP' (xBool (xOp oLe (xCall max2D (xsCons (xVar 7) (xsCons (xC (.int 0)) xsNil))) (xCall min2D (xsCons (xVar 8) (xsCons (xOp oSub (xVar 2) (xC (.int 1))) xsNil)))))) (sRet (mP (xTup (xsCons (xPure (xVar 2)) (xsCons (xPure (xVar 6)) (xsCons (xCall max2D (xsCons (xVar 7) (xsCons (xC (.int 0)) xsNil))) xsNil)))))) sNext)))
def slpR : ES := (sSeq (sAsg (mP (xCall F_bounds (xsCons (xVar 1) (xsCons (xVar 2) xsNil)))) (put 3))
  (sSeq (sAsg (mP (xCall maxLD (xsCons (xLst (xsCons (xC (.int 0)) (xsStar (xComp [9] (xIt (xVar 3)) (putB 9) yYes (xPure (xOp ixD (xVar 9) (xC (.int 0))))) xsNil))) xsNil))) (put 4))
  (sSeq (sAsg (mP (xCall minLD (xsCons (xLst (xsCons (xPure (xVar 2)) (xsStar (xComp [9] (xIt (xVar 3)) (putB 9) yYes (xPure (xOp ixD (xVar 9) (xC (.int 1))))) xsNil))) xsNil))) (put 5))
  (sFor (iP (xRng2 (xsCons (xVar 4) (xsCons (xOp oAdd (xVar 5) (xC (.int 1))) xsNil)))) (put 6) slpI))))
end C
end DL
namespace DL
open PySem PySem.Spec L2
/-! ### words of lines; drawn words -/
theorem cut_to {w : List Int} {j : Nat} : cutD (wD w) none (some (j : Int)) = some (wD (w.take j)) := by
  show (if pures (w.map D.int) = true then _ else _) = _
  rw [if_pos (pures_w w)]
  unfold cutL
  rw [HT.sIx_nat, HT.sIx_none, List.length_map, List.drop_zero, Nat.sub_zero, ← List.map_take]
  congr 3
  rcases Nat.le_total j w.length with h | h
  · rw [Nat.min_eq_left h]
  · rw [Nat.min_eq_right h, List.take_length, List.take_of_length_le h]
theorem cut_from {w : List Int} {i : Nat} : cutD (wD w) (some (i : Int)) none = some (wD (w.drop i)) := by
  show (if pures (w.map D.int) = true then _ else _) = _
  rw [if_pos (pures_w w)]
  unfold cutL
  rw [HT.sIx_nat, HT.sIx_none, List.length_map, ← List.map_drop, ← List.map_take]
  congr 3
  rcases Nat.le_total i w.length with h | h
  · rw [Nat.min_eq_left h, List.take_of_length_le (by rw [List.length_drop]; exact Nat.le_refl _)]
  · rw [Nat.min_eq_right h, Nat.sub_self, List.take_zero, List.drop_eq_nil_iff.mpr h]
theorem add_w {u v : List Int} (h : u.length + v.length ≤ 1000000) : oAdd (wD u) (wD v) = some (wD (u ++ v)) := by
  show (if (u.map D.int).length + (v.map D.int).length ≤ sizeLine then (if pures (u.map D.int) = true then if pures (v.map D.int) = true then some (D.tup (u.map D.int ++ v.map D.int)) else none else none) else none) = _
  rw [if_pos (by rw [List.length_map, List.length_map, size_eq]; omega), if_pos (pures_w u), if_pos (pures_w v), ← List.map_append]
theorem ne_w (u v : List Int) : oNe (wD u) (wD v) = some (.bl (!decide (u = v))) := ne_E enc_ints (by omega) u v
theorem len_w (w : List Int) : lenD [wD w] = some (.int w.length) := by
  show some (D.int ((w.map D.int).length : Int)) = _
  rw [List.length_map]
def lw (d r s : Int) (m : Nat) : List Int := (List.range m).map fun k : Nat => (d * ((k : Int) + 1) + s) / r - (d * (k : Int) + s) / r
namespace C
variable {ns : List Int}
end C
end DL
namespace DL
open PySem PySem.Spec L2
theorem compM_vals {α : Type} {gx : GX} {t : ET} {e : EM} {vs : List Nat} (g : α → D) (P : Env → Prop) (R : Int → Prop) : ∀ (l : List α) (ρ : Env), P ρ → (∀ a ∈ l, ∀ ρ, P ρ → pure (g a) = true ∧ ∃ ρ1 ρ2 v ρ3, gx (g a) ρ = some ρ1 ∧ t ρ1 = some (true, ρ2) ∧ e ρ2 = some (.int v, ρ3) ∧ R v ∧ P (wipeE ρ3 vs)) →
    ∃ (us : List Int) (ρ' : Env), us.length = l.length ∧ (∀ v ∈ us, R v) ∧ compM gx t e vs (l.map g) ρ = some (us.map .int, ρ') ∧ P ρ'
  | [], ρ, h, _ => ⟨[], ρ, rfl, (fun _ h => by cases h), rfl, h⟩
  | a :: l, ρ, h, k => by
    obtain ⟨pa, ρ1, ρ2, v, ρ3, h1, h2, h3, rv, h4⟩ := k a (List.mem_cons_self ..) ρ h
    obtain ⟨us, ρ', el, ru, c, p⟩ := compM_vals g P R l _ h4 fun a ha => k a (List.mem_cons_of_mem _ ha)
    refine ⟨v :: us, ρ', by rw [List.length_cons, el]; rfl, fun u hu => ?_, ?_, p⟩
    · rcases List.mem_cons.mp hu with rfl | hu
      · exact rv
      · exact ru u hu
    · rw [List.map_cons, compM, if_pos pa, h1, Option.bind_some, h2, Option.bind_some, if_pos rfl, h3, Option.bind_some]
      rw [if_pos (show pure (D.int v) = true from rfl)]
      show (compM gx t e vs (l.map g) (wipeE ρ3 vs)).bind _ = _
      rw [c]
      rfl
namespace C
variable {ns : List Int}
def anyB : ES := (sIf (tP' (yAnd (xBool (xOp oEq (xVar 6) (xC (.int 1)))) (xBool (xOp oNe (xVar 5) (xTup xsNil))))) (sSeq (sAsg (mCallR takenF 0 (msCons (mP (xCall lenD (xsCons (xVar 5) xsNil))) msNil)) (put 7))
  (sAsg (mP (xOp oAdd (xOp oAdd (xCut (xVar 5) none (some (xVar 7))) (xTup (xsCons (xOp oSub (xC (.int 1)) (xOp ixD (xVar 5) (xVar 7))) xsNil))) (xCut (xVar 5) (some (xOp oAdd (xVar 7) (xC (.int 1)))) none))) (put 5))) sNext)
def anyC : ES := (sIf (tP' (xBool (xOp oEq (xVar 6) (xC (.int 2))))) (sAsg (mCall tupleD (msCons (mComp [7] (mRng1 (msCons (mCallR takenF 0 (msCons (mP (xC (.int 9))) msNil)) msNil)) (put 7) (tP' yYes) (mCallR takenF 0 (msCons (mP (xC (.int 2))) msNil))) msNil)) (put 5)) sNext)
end C
end DL
namespace DL
open PySem PySem.Spec L2
/-! ### a word is a line's exactly if it is balanced -/
def Bal (w : List Int) : Prop := ∀ s i j, 1 ≤ s → i + s ≤ w.length → j + s ≤ w.length → dif w s i - dif w s j ≤ 1
/-- the slope between two critical lines -/
theorem between {p q s t i j e f hi hj he hf : Int} (hs : 0 < s) (ht : 0 < t) (pq : p * t < q * s) (ee : e = i + s) (ef : f = j + t) (ve : he = hi + p + 1) (vf : hf = hj + q - 1)
    (a1 : (hj - hi - 1) * s ≤ p * (j - i)) (a1' : j ≤ i → (hj - hi - 1) * s < p * (j - i)) (b1 : q * (f - e) ≤ (hf - he + 1) * t) (b1' : f ≤ e → q * (f - e) < (hf - he + 1) * t) :
    (0 < e - j ∧ p * (e - j) < (he - hj) * s ∧ (he - hj) * t < q * (e - j)) ∨ (0 < f - i ∧ p * (f - i) < (hf - hi) * s ∧ (hf - hi) * t < q * (f - i)) := by
  have f1 : p * (e - j) ≤ (he - hj) * s := by
    subst ee ve
    have e1 : p * (i + s - j) = p * s - p * (j - i) := by grind
    have e2 : (hi + p + 1 - hj) * s = p * s - (hj - hi - 1) * s := by grind
    omega
  have f2 : (he - hj) * t ≤ q * (e - j) := by
    subst ef vf
    have e1 : q * (e - j) = q * t - q * (j + t - e) := by grind
    have e2 : (he - hj) * t = q * t - (hj + q - 1 - he + 1) * t := by grind
    omega
  have ge : 0 ≤ e - j := by
    have h1 := Int.mul_le_mul_of_nonneg_right f1 (show 0 ≤ t by omega)
    have h2 := Int.mul_le_mul_of_nonneg_right f2 (show 0 ≤ s by omega)
    have e1 : (he - hj) * s * t = (he - hj) * t * s := by grind
    have e2 : p * (e - j) * t = (p * t) * (e - j) := by grind
    have e3 : q * (e - j) * s = (q * s) * (e - j) := by grind
    have h3 : 0 ≤ (q * s - p * t) * (e - j) := by rw [Int.sub_mul]; omega
    by_cases c : 0 ≤ e - j
    · exact c
    · have := Int.mul_neg_of_pos_of_neg (show 0 < q * s - p * t by omega) (show e - j < 0 by omega)
      omega
  by_cases c1 : p * (e - j) = (he - hj) * s
  · have eq1 : (hj - hi - 1) * s = p * (j - i) := by
      subst ee ve
      have e1 : p * (i + s - j) = p * s - p * (j - i) := by grind
      have e2 : (hi + p + 1 - hj) * s = p * s - (hj - hi - 1) * s := by grind
      omega
    have ji : i < j := by
      by_cases c : i < j
      · exact c
      · have := a1' (by omega)
        omega
    right
    subst ef vf
    refine ⟨by omega, ?_, ?_⟩
    · have e1 : (hj + q - 1 - hi) * s = q * s + (hj - hi - 1) * s := by grind
      have e2 : p * (j + t - i) = p * t + p * (j - i) := by grind
      omega
    · have e1 : (hj + q - 1 - hi) * t * s = q * t * s + (hj - hi - 1) * s * t := by grind
      have e2 : q * (j + t - i) * s = q * t * s + q * s * (j - i) := by grind
      have h1 := Int.mul_lt_mul_of_pos_right pq (show 0 < j - i by omega)
      have e3 : p * (j - i) * t = p * t * (j - i) := by grind
      refine Int.lt_of_mul_lt_mul_right (a := s) ?_ (by omega)
      rw [e1, e2, eq1, e3]
      omega
  · by_cases c2 : (he - hj) * t = q * (e - j)
    · have eq1 : q * (f - e) = (hf - he + 1) * t := by
        subst ef vf
        have e1 : q * (e - j) = q * t - q * (j + t - e) := by grind
        have e2 : (he - hj) * t = q * t - (hj + q - 1 - he + 1) * t := by grind
        omega
      have fe : e < f := by
        by_cases c : e < f
        · exact c
        · have := b1' (by omega)
          omega
      right
      subst ee ve
      refine ⟨by omega, ?_, ?_⟩
      · have e1 : (hf - hi) * s * t = (hf - (hi + p + 1) + 1) * t * s + p * s * t := by grind
        have e2 : p * (f - i) * t = p * t * (f - (i + s)) + p * s * t := by grind
        have h1 := Int.mul_lt_mul_of_pos_right pq (show 0 < f - (i + s) by omega)
        have e3 : q * (f - (i + s)) * s = q * s * (f - (i + s)) := by grind
        refine Int.lt_of_mul_lt_mul_right (a := t) ?_ (by omega)
        rw [e1, e2, ← eq1, e3]
        omega
      · have e1 : (hf - hi) * t = (hf - (hi + p + 1) + 1) * t + p * t := by grind
        have e2 : q * (f - i) = q * (f - (i + s)) + q * s := by grind
        omega
    · have : e - j ≠ 0 := by
        intro z
        rw [z] at c1 c2 f1 f2
        have h1 : 0 ≤ (he - hj) * s := by omega
        have h2 : (he - hj) * t ≤ 0 := by omega
        have h3 : he - hj ≤ 0 := by
          by_cases c : he - hj ≤ 0
          · exact c
          · have := Int.mul_pos (show 0 < he - hj by omega) ht
            omega
        have h4 : 0 ≤ he - hj := by
          by_cases c : 0 ≤ he - hj
          · exact c
          · have := Int.mul_neg_of_neg_of_pos (show he - hj < 0 by omega) hs
            omega
        have h5 : he - hj = 0 := by omega
        rw [h5] at c1
        omega
      exact .inl ⟨by omega, by omega, by omega⟩
end DL
namespace DL
open PySem PySem.Spec L2
def wins (n : Nat) : List (Nat × Nat) := (List.range n).flatMap fun k => (List.range (n - k)).map fun i => (i, k + 1)
end DL
namespace DL
open PySem PySem.Spec L2
/-! ### names that nobody will read may be forgotten -/
def leS (s t : Slt) : Prop := s = t ∨ (s = none ∧ isPin t = false)
theorem leS.refl (s : Slt) : leS s s := .inl rfl
theorem leS.trans {s t u : Slt} (h : leS s t) (k : leS t u) : leS s u := by
  rcases h with rfl | ⟨rfl, h⟩
  · exact k
  · rcases k with rfl | ⟨rfl, k⟩
    · exact .inr ⟨rfl, h⟩
    · exact .inr ⟨rfl, k⟩
def Le : Env → Env → Prop
  | [], [] => True
  | s :: ρ, t :: ρ' => leS s t ∧ Le ρ ρ'
  | _, _ => False
theorem Le.refl : ∀ ρ : Env, Le ρ ρ
  | [] => trivial
  | s :: ρ => ⟨.inl rfl, Le.refl ρ⟩
theorem Le.trans : ∀ {ρ ρ' ρ'' : Env}, Le ρ ρ' → Le ρ' ρ'' → Le ρ ρ''
  | [], [], [], _, _ => trivial
  | _ :: _, _ :: _, _ :: _, h, k => ⟨h.1.trans k.1, h.2.trans k.2⟩
  | [], _ :: _, _, h, _ => h.elim
  | _ :: _, [], _, h, _ => h.elim
  | _, [], _ :: _, _, k => k.elim
  | _, _ :: _, [], _, k => k.elim
theorem Le.len : ∀ {ρ ρ' : Env}, Le ρ ρ' → ρ.length = ρ'.length
  | [], [], _ => rfl
  | _ :: _, _ :: _, h => by rw [List.length_cons, List.length_cons, h.2.len]
  | [], _ :: _, h => h.elim
  | _ :: _, [], h => h.elim
theorem Le.at {ρ ρ' : Env} : Le ρ ρ' → ∀ i : Nat, (ρ[i]? = none ∧ ρ'[i]? = none) ∨ ∃ s t, ρ[i]? = some s ∧ ρ'[i]? = some t ∧ leS s t := by
  induction ρ generalizing ρ' with
  | nil =>
    intro h i
    cases ρ' with
    | nil => exact .inl ⟨rfl, rfl⟩
    | cons _ _ => exact h.elim
  | cons s ρ ih =>
    intro h i
    cases ρ' with
    | nil => exact h.elim
    | cons t ρ' =>
      cases i with
      | zero => exact .inr ⟨s, t, rfl, rfl, h.1⟩
      | succ i => exact ih h.2 i
theorem Le.get {ρ ρ' : Env} (h : Le ρ ρ') {i : Nat} {x : Fl × D} (e : ρ[i]? = some (some x)) : ρ'[i]? = some (some x) := by
  rcases h.at i with ⟨a, _⟩ | ⟨s, t, a, b, l⟩
  · rw [a] at e; cases e
  · rw [a] at e
    cases e
    rcases l with rfl | ⟨z, _⟩
    · exact b
    · cases z
theorem Le.set : ∀ {ρ ρ' : Env}, Le ρ ρ' → ∀ (i : Nat) {s t : Slt}, leS s t → Le (ρ.set i s) (ρ'.set i t)
  | [], [], _, _, _, _, _ => trivial
  | _ :: _, _ :: _, h, 0, _, _, l => ⟨l, h.2⟩
  | _ :: _, _ :: _, h, i + 1, _, _, l => ⟨h.1, h.2.set i l⟩
  | [], _ :: _, h, _, _, _, _ => h.elim
  | _ :: _, [], h, _, _, _, _ => h.elim
theorem Le.set' {ρ ρ' : Env} (h : Le ρ ρ') (i : Nat) (s : Slt) : Le (ρ.set i s) (ρ'.set i s) := h.set i (.inl rfl)
theorem Le.wipes {ρ ρ' : Env} (h : Le ρ ρ') : ∀ vs : List Nat, Le (wipeE ρ vs) (wipeE ρ' vs)
  | [] => h
  | v :: vs => (h.wipes vs).set' v none
theorem wipe_len {ρ : Env} : ∀ vs : List Nat, (wipeE ρ vs).length = ρ.length
  | [] => rfl
  | v :: vs => by rw [wipeE, List.length_set, wipe_len vs]
def LeO : Out → Out → Prop
  | .nx ρ, .nx ρ' => Le ρ ρ'
  | .bk ρ, .bk ρ' => Le ρ ρ'
  | .ct ρ, .ct ρ' => Le ρ ρ'
  | .rt d ρ, .rt d' ρ' => d = d' ∧ Le ρ ρ'
  | _, _ => False
def outE : Out → Env
  | .nx ρ => ρ
  | .bk ρ => ρ
  | .ct ρ => ρ
  | .rt _ ρ => ρ
theorem LeO.refl (o : Out) : LeO o o := by cases o <;> first | exact Le.refl _ | exact ⟨rfl, Le.refl _⟩
theorem LeO.trans {o o' o'' : Out} (h : LeO o o') (k : LeO o' o'') : LeO o o'' := by
  cases o <;> cases o' <;> first | exact h.elim | skip
  all_goals cases o'' <;> first | exact k.elim | skip
  · exact Le.trans h k
  · exact ⟨h.1.trans k.1, Le.trans h.2 k.2⟩
  · exact Le.trans h k
  · exact Le.trans h k
/-- readings -/
class MX {α : Type} (f : Env → Option α) : Prop where
  mono : ∀ {ρ ρ' : Env} {d : α}, Le ρ ρ' → f ρ = some d → f ρ' = some d
/-- readings that change names -/
class MM {α : Type} (f : Env → Option (α × Env)) : Prop where
  mono : ∀ {ρ ρ' : Env} {d : α} {ρ1 : Env}, Le ρ ρ' → f ρ = some (d, ρ1) → ρ1.length = ρ.length ∧ ∃ ρ2, f ρ' = some (d, ρ2) ∧ Le ρ1 ρ2
class MG {α : Type} (g : α → Env → Option Env) : Prop where
  mono : ∀ {ρ ρ' : Env} {d : α} {ρ1 : Env}, Le ρ ρ' → g d ρ = some ρ1 → ρ1.length = ρ.length ∧ ∃ ρ2, g d ρ' = some ρ2 ∧ Le ρ1 ρ2
class MS (g : ES) : Prop where
  mono : ∀ {ρ ρ' : Env} {o : Out}, Le ρ ρ' → g ρ = some o → (outE o).length = ρ.length ∧ ∃ o', g ρ' = some o' ∧ LeO o o'
theorem obind {α β : Type} {x : Option α} {k : α → Option β} {b : β} (h : x.bind k = some b) : ∃ a, x = some a ∧ k a = some b := Option.bind_eq_some_iff.mp h
section
variable {α : Type}
instance mx_bind {β : Type} {f : Env → Option α} {k : α → Env → Option β} [MX f] [∀ a, MX (k a)] : MX fun ρ => (f ρ).bind fun a => k a ρ := ⟨fun {ρ ρ' d} l e => by
  obtain ⟨a, e1, e2⟩ := obind e
  show (f ρ').bind _ = _
  rw [MX.mono l e1]
  exact MX.mono (f := k a) l e2⟩
theorem mx_bind' {β : Type} {f : Env → Option α} {k : α → Option β} (h : MX f) : MX fun ρ => (f ρ).bind k := ⟨fun {ρ ρ' d} l e => by
  obtain ⟨a, e1, e2⟩ := obind e
  show (f ρ').bind _ = _
  rw [MX.mono l e1]
  exact e2⟩
theorem mx_two {β γ : Type} {f : Env → Option α} {g : Env → Option β} {k : α → β → Option γ} (h : MX f) (h' : MX g) : MX fun ρ => (f ρ).bind fun a => (g ρ).bind fun b => k a b := ⟨fun {ρ ρ' d} l e => by
  obtain ⟨a, e1, e2⟩ := obind e
  obtain ⟨b, e2, e3⟩ := obind e2
  show (f ρ').bind _ = _
  rw [MX.mono l e1, Option.bind_some, MX.mono l e2]
  exact e3⟩
variable {f g h : EX} {fs : EXs} {p q : QX} {src : IX} {gx gx1 : GX} {e : EX}
instance {i : Nat} : MX (xVar i) := ⟨fun {ρ ρ' d} l e => by
  unfold xVar at e ⊢
  cases z : ρ[i]? with
  | none => rw [z] at e; cases e
  | some s =>
    rw [z] at e
    cases s with
    | none => cases e
    | some x => rw [l.get z]; exact e⟩
instance [MX f] : MX (xPure f) := mx_bind' ‹_›
instance {d : D} : MX (xC d) := ⟨fun l e => e⟩
instance {o : D → D → Option D} [MX f] [MX g] : MX (xOp o f g) := mx_two ‹_› ‹_›
instance [MX f] : MX (xBool f) := mx_bind' ‹_›
instance {o o' : D → D → Option D} [hf : MX f] [hg : MX g] [hh : MX h] : MX (xChain o o' f g h) := ⟨fun {ρ ρ' d} l e => by
  obtain ⟨x, e1, e⟩ := obind e
  obtain ⟨y, e2, e⟩ := obind e
  obtain ⟨z, e3, e⟩ := obind e
  show (f ρ').bind _ = _
  rw [hf.mono l e1, Option.bind_some, hg.mono l e2, Option.bind_some, e3, Option.bind_some]
  cases z with
  | bl b =>
    cases b with
    | true =>
      obtain ⟨w, e4, e⟩ := obind e
      show (h ρ').bind _ = _
      rw [hh.mono l e4]
      exact e
    | false => exact e
  | _ => cases e⟩
instance [hf : MX f] [hg : MX g] : MX (xAnd f g) := ⟨fun {ρ ρ' d} l e => by
  obtain ⟨x, e1, e⟩ := obind e
  show (f ρ').bind _ = _
  rw [hf.mono l e1, Option.bind_some]
  cases x with
  | bl b =>
    cases b with
    | true => exact hg.mono l e
    | false => exact e
  | _ => cases e⟩
instance [hf : MX f] [hg : MX g] : MX (xOr f g) := ⟨fun {ρ ρ' d} l e => by
  obtain ⟨x, e1, e⟩ := obind e
  show (f ρ').bind _ = _
  rw [hf.mono l e1, Option.bind_some]
  cases x with
  | bl b =>
    cases b with
    | false => exact hg.mono l e
    | true => exact e
  | _ => cases e⟩
instance [MX f] : MX (xNot f) := mx_bind' ‹_›
instance {ts : List String} [MX f] : MX (xIsi ts f) := mx_bind' ‹_›
instance [MX f] : MX (xNeg f) := mx_bind' ‹_›
instance {o : List D → Option D} [MX fs] : MX (xCall o fs) := mx_bind' ‹_›
instance : MX xsNil := ⟨fun l e => e⟩
instance [MX f] [MX fs] : MX (xsCons f fs) := mx_two ‹_› ‹_›
instance [hf : MX f] [hs : MX fs] : MX (xsStar f fs) := ⟨fun {ρ ρ' d} l e => by
  obtain ⟨x, e1, e⟩ := obind e
  obtain ⟨xs, e2, e⟩ := obind e
  show (f ρ').bind _ = _
  rw [hf.mono l e1, Option.bind_some, e2, Option.bind_some]
  split at e
  · rename_i z
    obtain ⟨ys, e3, e⟩ := obind e
    rw [if_pos z, hs.mono l e3]
    exact e
  · cases e⟩
instance [MX fs] : MX (xTup fs) := mx_bind' ‹_›
instance [MX fs] : MX (xLst fs) := mx_bind' ‹_›
instance [hp : MX p] [hf : MX f] [hg : MX g] : MX (xIf p f g) := ⟨fun {ρ ρ' d} l e => by
  obtain ⟨x, e1, e⟩ := obind e
  show (p ρ').bind _ = _
  rw [hp.mono l e1, Option.bind_some]
  cases x with
  | true => exact hf.mono l e
  | false => exact hg.mono l e⟩
instance [hp : MX p] [hq : MX q] : MX (yAnd p q) := ⟨fun {ρ ρ' d} l e => by
  obtain ⟨x, e1, e⟩ := obind e
  show (p ρ').bind _ = _
  rw [hp.mono l e1, Option.bind_some]
  cases x with
  | true => exact hq.mono l e
  | false => exact e⟩
instance [hp : MX p] [hq : MX q] : MX (yOr p q) := ⟨fun {ρ ρ' d} l e => by
  obtain ⟨x, e1, e⟩ := obind e
  show (p ρ').bind _ = _
  rw [hp.mono l e1, Option.bind_some]
  cases x with
  | true => exact e
  | false => exact hq.mono l e⟩
instance [hp : MX p] : MX (yNot p) := ⟨fun {ρ ρ' d} l e => by
  obtain ⟨x, e1, e⟩ := Option.map_eq_some_iff.mp e
  show (p ρ').map _ = _
  rw [hp.mono l e1, ← e]
  rfl⟩
instance : MX yYes := ⟨fun l e => e⟩
instance [MX fs] : MX (xRng1 fs) := mx_bind' ‹_›
instance [MX fs] : MX (xRng2 fs) := mx_bind' ‹_›
instance [MX f] : MX (xIt f) := mx_bind' ‹_›
instance [MX f] : MX (xEn f) := mx_bind' ‹_›
instance [hf : MX f] [hg : MX g] [hh : MX h] : MX (xGet2 f g h) := ⟨fun {ρ ρ' d} l e => by
  obtain ⟨x, e1, e⟩ := obind e
  obtain ⟨y, e2, e⟩ := obind e
  obtain ⟨z, e3, e⟩ := obind e
  show (f ρ').bind _ = _
  rw [hf.mono l e1, Option.bind_some, hg.mono l e2, Option.bind_some, hh.mono l e3]
  exact e⟩
instance : MX (optI none) := ⟨fun l e => e⟩
instance [MX f] : MX (optI (some f)) := mx_bind' ‹_›
instance {lo hi : Option EX} [hf : MX f] [hg : MX (optI lo)] [hh : MX (optI hi)] : MX (xCut f lo hi) := ⟨fun {ρ ρ' d} l e => by
  obtain ⟨x, e1, e⟩ := obind e
  obtain ⟨y, e2, e⟩ := obind e
  obtain ⟨z, e3, e⟩ := obind e
  show (f ρ').bind _ = _
  rw [hf.mono l e1, Option.bind_some, hg.mono l e2, Option.bind_some, hh.mono l e3]
  exact e⟩
theorem comp_mono (hg : MG gx) (hq : MX q) (he : MX e) {ρ ρ' : Env} (l : Le ρ ρ') : ∀ {ds ys : List D}, compE gx q e ρ ds = some ys → compE gx q e ρ' ds = some ys
  | [], _, h => h
  | d :: ds, ys, h => by
    rw [compE] at h ⊢
    obtain ⟨ρ1, e1, h⟩ := obind h
    obtain ⟨_, ρ2, e2, l2⟩ := hg.mono l e1
    obtain ⟨b, e3, h⟩ := obind h
    rw [e2, Option.bind_some, hq.mono l2 e3, Option.bind_some]
    cases b with
    | true =>
      obtain ⟨y, e4, h⟩ := obind h
      obtain ⟨zs, e5, h⟩ := obind h
      show (e ρ2).bind _ = _
      rw [he.mono l2 e4, Option.bind_some, comp_mono hg hq he l e5]
      exact h
    | false => exact comp_mono hg hq he l h
instance {vs : List Nat} [hs : MX src] [hg : MG gx] [hq : MX q] [he : MX e] : MX (xComp vs src gx q e) := ⟨fun {ρ ρ' d} l z => by
  obtain ⟨its, e1, z⟩ := obind z
  obtain ⟨ys, e2, z⟩ := obind z
  show (src ρ').bind _ = _
  rw [hs.mono l e1, Option.bind_some, comp_mono hg hq he (l.wipes vs) e2]
  exact z⟩
theorem plainAt_mono {vs : List Nat} {ρ ρ' : Env} (l : ∀ v ∈ vs, ρ[v]? = ρ'[v]?) (h : plainAt vs ρ = true) : plainAt vs ρ' = true := by
  unfold plainAt at h ⊢
  rw [List.all_eq_true] at h ⊢
  intro v hv
  have := h v hv
  rw [l v hv] at this
  exact this
theorem wipe_same {ρ ρ' : Env} (hl : ρ.length = ρ'.length) : ∀ {vs : List Nat} {v : Nat}, v ∈ vs → (wipeE ρ vs)[v]? = (wipeE ρ' vs)[v]?
  | [], _, h => by cases h
  | u :: vs, v, h => by
    by_cases e : u = v
    · subst e
      show ((wipeE ρ vs).set u none)[u]? = ((wipeE ρ' vs).set u none)[u]?
      by_cases hu : u < ρ.length
      · rw [List.getElem?_set_self (by rw [wipe_len]; exact hu), List.getElem?_set_self (by rw [wipe_len]; omega)]
      · rw [List.getElem?_eq_none (by rw [List.length_set, wipe_len]; omega), List.getElem?_eq_none (by rw [List.length_set, wipe_len]; omega)]
    · show ((wipeE ρ vs).set u none)[v]? = ((wipeE ρ' vs).set u none)[v]?
      rw [List.getElem?_set_ne e, List.getElem?_set_ne e]
      exact wipe_same hl ((List.mem_cons.mp h).resolve_left (fun z => e z.symm))
/-- what is alike stays alike -/
class GE {α : Type} (g : α → Env → Option Env) : Prop where
  keep : ∀ {ρ ρ' : Env} {d : α} {ρ1 ρ2 : Env}, g d ρ = some ρ1 → g d ρ' = some ρ2 → ∀ i : Nat, ρ[i]? = ρ'[i]? → ρ1[i]? = ρ2[i]?
instance {i : Nat} : GE (putB i) := ⟨fun {ρ ρ' d ρ1 ρ2} h h' j e => by
  unfold putB at h h'
  split at h
  · split at h'
    · cases h
      cases h'
      by_cases z : i = j
      · subst z
        rw [List.getElem?_set_self (by assumption), List.getElem?_set_self (by assumption)]
      · rw [List.getElem?_set_ne z, List.getElem?_set_ne z]
        exact e
    · cases h'
  · cases h⟩
instance : GE gsNil := ⟨fun {ρ ρ' d ρ1 ρ2} h h' j e => by
  cases d with
  | nil => cases h; cases h'; exact e
  | cons _ _ => cases h⟩
instance {g : GX} {gs : GXs} [hg : GE g] [hs : GE gs] : GE (gsCons g gs) := ⟨fun {ρ ρ' d ρ1 ρ2} h h' j e => by
  cases d with
  | nil => cases h
  | cons d ds =>
    obtain ⟨σ, e1, h⟩ := obind h
    obtain ⟨σ', e2, h'⟩ := obind h'
    exact hs.keep h h' j (hg.keep e1 e2 j e)⟩
instance {n : Nat} {gs : GXs} [hs : GE gs] : GE (gTupD n gs) := ⟨fun {ρ ρ' d ρ1 ρ2} h h' j e => by
  cases d with
  | tup ds =>
    have h : (if ds.length = n then gs ds ρ else none) = some ρ1 := h
    have h' : (if ds.length = n then gs ds ρ' else none) = some ρ2 := h'
    split at h
    · rename_i z
      rw [if_pos z] at h'
      exact hs.keep h h' j e
    · cases h
  | ctp ds =>
    have h : (if ds.length = n then gs ds ρ else none) = some ρ1 := h
    have h' : (if ds.length = n then gs ds ρ' else none) = some ρ2 := h'
    split at h
    · rename_i z
      rw [if_pos z] at h'
      exact hs.keep h h' j e
    · cases h
  | _ => cases h⟩
theorem comp2_mono {vs vs1 : List Nat} {src1 : IX} {q1 : QX} (hg : MG gx) (ge : GE gx) (hq : MX q) (hs1 : MX src1) (hg1 : MG gx1) (hq1 : MX q1) (he : MX e) {ρ ρ' : Env} (l : Le ρ ρ') (lv : ∀ v ∈ vs, ρ[v]? = ρ'[v]?) : ∀ {ds ys : List D}, comp2E vs vs1 gx q src1 gx1 q1 e ρ ds = some ys → comp2E vs vs1 gx q src1 gx1 q1 e ρ' ds = some ys
  | [], _, h => h
  | d :: ds, ys, h => by
    rw [comp2E] at h ⊢
    obtain ⟨ρ1, e1, h⟩ := obind h
    obtain ⟨_, ρ2, e2, l2⟩ := hg.mono l e1
    rw [e2, Option.bind_some]
    split at h
    · rename_i pa
      rw [if_pos (plainAt_mono (fun v hv => ge.keep e1 e2 v (lv v hv)) pa)]
      obtain ⟨b, e3, h⟩ := obind h
      rw [hq.mono l2 e3, Option.bind_some]
      cases b with
      | true =>
        obtain ⟨its, e4, h⟩ := obind h
        obtain ⟨zs, e5, h⟩ := obind h
        show (src1 ρ2).bind _ = _
        rw [hs1.mono l2 e4, Option.bind_some, comp_mono hg1 hq1 he (l2.wipes vs1) e5, Option.bind_some]
        split at h
        · rename_i pz
          obtain ⟨us, e6, h⟩ := obind h
          rw [if_pos pz, comp2_mono hg ge hq hs1 hg1 hq1 he l lv e6]
          exact h
        · cases h
      | false => exact comp2_mono hg ge hq hs1 hg1 hq1 he l lv h
    · cases h
instance {vs vs1 : List Nat} {src1 : IX} {q1 : QX} [hs : MX src] [hg : MG gx] [ge : GE gx] [hq : MX q] [hs1 : MX src1] [hg1 : MG gx1] [hq1 : MX q1] [he : MX e] : MX (xComp2 vs vs1 src gx q src1 gx1 q1 e) := ⟨fun {ρ ρ' d} l z => by
  obtain ⟨its, e1, z⟩ := obind z
  obtain ⟨ys, e2, z⟩ := obind z
  show (src ρ').bind _ = _
  rw [hs.mono l e1, Option.bind_some, comp2_mono hg ge hq hs1 hg1 hq1 he (l.wipes vs) (fun v hv => wipe_same l.len hv) e2]
  exact z⟩
theorem dict_mono {fk fe : EX} (hg : MG gx) (hq : MX q) (hk : MX fk) (he : MX fe) {ρ ρ' : Env} (l : Le ρ ρ') : ∀ {ds : List D} {ks : List (List Key)} {xs : List D} {r}, dictE gx q fk fe ρ ds ks xs = some r → dictE gx q fk fe ρ' ds ks xs = some r
  | [], _, _, _, h => h
  | d :: ds, ks, xs, r, h => by
    rw [dictE] at h ⊢
    obtain ⟨ρ1, e1, h⟩ := obind h
    obtain ⟨_, ρ2, e2, l2⟩ := hg.mono l e1
    obtain ⟨b, e3, h⟩ := obind h
    rw [e2, Option.bind_some, hq.mono l2 e3, Option.bind_some]
    cases b with
    | true =>
      obtain ⟨y, e4, h⟩ := obind h
      obtain ⟨kk, e5, h⟩ := obind h
      obtain ⟨w, e6, h⟩ := obind h
      show (fk ρ2).bind _ = _
      rw [hk.mono l2 e4, Option.bind_some, e5, Option.bind_some, he.mono l2 e6, Option.bind_some]
      split at h
      · rename_i pw
        rw [if_pos pw]
        split at h
        · rename_i pl
          rw [if_pos pl]
          exact dict_mono hg hq hk he l h
        · cases h
      · cases h
    | false => exact dict_mono hg hq hk he l h
instance {vs : List Nat} {fk fe : EX} [hs : MX src] [hg : MG gx] [hq : MX q] [hk : MX fk] [he : MX fe] : MX (xDict vs src gx q fk fe) := ⟨fun {ρ ρ' d} l z => by
  obtain ⟨its, e1, z⟩ := obind z
  obtain ⟨ys, e2, z⟩ := obind z
  show (src ρ').bind _ = _
  rw [hs.mono l e1, Option.bind_some, dict_mono hg hq hk he (l.wipes vs) e2]
  exact z⟩
end
end DL
namespace DL
open PySem PySem.Spec L2
section
variable {f g h : EX} {fs : EXs} {p q : QX} {src : IX} {gx gx1 : GX} {gs : GXs} {e m m1 m2 : EM} {ms : EMs} {t t1 t2 : ET} {i j l : Nat} {isrc : IM} {a b : ES}
/-! ### values on their way -/
theorem mm_x {α : Type} {f : Env → Option α} (hf : MX f) : MM fun ρ => (f ρ).bind fun d => some (d, ρ) := ⟨fun {ρ ρ' d ρ1} l z => by
  obtain ⟨x, e1, z⟩ := obind z
  cases z
  refine ⟨rfl, ρ', ?_, l⟩
  show (f ρ').bind _ = _
  rw [hf.mono l e1]
  rfl⟩
theorem mm_k {α β : Type} {f : Env → Option (α × Env)} {k : α → Option β} (hf : MM f) : MM fun ρ => (f ρ).bind fun x => (k x.1).bind fun y => some (y, x.2) := ⟨fun {ρ ρ' d ρ1} l z => by
  obtain ⟨x, e1, z⟩ := obind z
  obtain ⟨y, e2, z⟩ := obind z
  cases z
  obtain ⟨n, ρ2, e3, l2⟩ := hf.mono l e1
  refine ⟨n, ρ2, ?_, l2⟩
  show (f ρ').bind _ = _
  rw [e3]
  show (k x.1).bind _ = _
  rw [e2]
  rfl⟩
theorem mm_of {α : Type} {f g : Env → Option (α × Env)} (hf : MM f) (h : ∀ ρ, g ρ = f ρ) : MM g := by
  have : g = f := funext h
  rw [this]
  exact hf
instance [hf : MX f] : MM (mP f) := mm_x hf
instance : MM (mMove i) := ⟨fun {ρ ρ' d ρ1} l z => by
  unfold mMove at z ⊢
  split at z
  · rename_i q
    cases z
    rw [l.get q]
    exact ⟨List.length_set .., _, rfl, l.set' i none⟩
  · cases z⟩
instance : MM msNil := ⟨fun {ρ ρ' d ρ1} l z => by
  cases z
  exact ⟨rfl, ρ', rfl, l⟩⟩
instance [hm : MM m] [hs : MM ms] : MM (msCons m ms) := ⟨fun {ρ ρ' d ρ1} l z => by
  obtain ⟨x, e1, z⟩ := obind z
  obtain ⟨y, e2, z⟩ := obind z
  cases z
  obtain ⟨n, ρ2, e3, l2⟩ := hm.mono l e1
  obtain ⟨n2, ρ3, e4, l3⟩ := hs.mono l2 e2
  refine ⟨n2.trans n, ρ3, ?_, l3⟩
  show (m ρ').bind _ = _
  rw [e3, Option.bind_some, e4]
  rfl⟩
instance [hs : MM ms] : MM (mTup ms) := mm_of (mm_k (k := fun xs : List D => if xs.length ≤ sizeLine then some (D.tup xs) else none) hs) fun ρ => by
  unfold mTup
  cases ms ρ with
  | none => rfl
  | some x =>
    show (if _ then _ else _) = (if _ then _ else _ : Option D).bind _
    split <;> rfl
instance [hs : MM ms] : MM (mLst ms) := mm_of (mm_k (k := fun xs : List D => if xs.length ≤ sizeLine then some (D.lst xs) else none) hs) fun ρ => by
  unfold mLst
  cases ms ρ with
  | none => rfl
  | some x =>
    show (if _ then _ else _) = (if _ then _ else _ : Option D).bind _
    split <;> rfl
instance {o : D → D → Option D} [h1 : MM m1] [h2 : MM m2] : MM (mOp o m1 m2) := ⟨fun {ρ ρ' d ρ1} l z => by
  obtain ⟨x, e1, z⟩ := obind z
  obtain ⟨n, ρ2, e3, l2⟩ := h1.mono l e1
  split at z
  · rename_i px
    obtain ⟨y, e2, z⟩ := obind z
    obtain ⟨w, e4, z⟩ := obind z
    cases z
    obtain ⟨n2, ρ3, e5, l3⟩ := h2.mono l2 e2
    refine ⟨n2.trans n, ρ3, ?_, l3⟩
    show (m1 ρ').bind _ = _
    rw [e3, Option.bind_some, if_pos px]
    show (m2 ρ2).bind _ = _
    rw [e5, Option.bind_some, e4]
    rfl
  · cases z⟩
instance [hp : MX p] : MM (tP' p) := mm_x hp
instance [hm : MM m] : MM (mBool m) := mm_of (mm_k (k := fun d : D => match d with | .bl k => some k | _ => none) hm) fun ρ => by
  unfold mBool
  cases m ρ with
  | none => rfl
  | some x =>
    obtain ⟨d, ρ1⟩ := x
    cases d <;> rfl
instance [ht : MM t] : MM (mNotT t) := mm_of (mm_k (k := fun d : Bool => some (!d)) ht) fun ρ => rfl
instance [ht : MM t] [h1 : MM m1] [h2 : MM m2] : MM (mIf t m1 m2) := ⟨fun {ρ ρ' d ρ1} l z => by
  obtain ⟨⟨k, ρ0⟩, e1, z⟩ := obind z
  obtain ⟨n, ρ2, e3, l2⟩ := ht.mono l e1
  cases k with
  | true =>
    obtain ⟨n2, ρ3, e5, l3⟩ := h1.mono l2 z
    refine ⟨n2.trans n, ρ3, ?_, l3⟩
    show (t ρ').bind _ = _
    rw [e3]
    exact e5
  | false =>
    obtain ⟨n2, ρ3, e5, l3⟩ := h2.mono l2 z
    refine ⟨n2.trans n, ρ3, ?_, l3⟩
    show (t ρ').bind _ = _
    rw [e3]
    exact e5⟩
instance [h1 : MM t1] [h2 : MM t2] : MM (tAndT t1 t2) := ⟨fun {ρ ρ' d ρ1} l z => by
  obtain ⟨⟨k, ρ0⟩, e1, z⟩ := obind z
  obtain ⟨n, ρ2, e3, l2⟩ := h1.mono l e1
  cases k with
  | true =>
    obtain ⟨n2, ρ3, e5, l3⟩ := h2.mono l2 z
    refine ⟨n2.trans n, ρ3, ?_, l3⟩
    show (t1 ρ').bind _ = _
    rw [e3]
    exact e5
  | false =>
    cases z
    refine ⟨n, ρ2, ?_, l2⟩
    show (t1 ρ').bind _ = _
    rw [e3]
    rfl⟩
instance [h1 : MM t1] [h2 : MM t2] : MM (tOrT t1 t2) := ⟨fun {ρ ρ' d ρ1} l z => by
  obtain ⟨⟨k, ρ0⟩, e1, z⟩ := obind z
  obtain ⟨n, ρ2, e3, l2⟩ := h1.mono l e1
  cases k with
  | false =>
    obtain ⟨n2, ρ3, e5, l3⟩ := h2.mono l2 z
    refine ⟨n2.trans n, ρ3, ?_, l3⟩
    show (t1 ρ').bind _ = _
    rw [e3]
    exact e5
  | true =>
    cases z
    refine ⟨n, ρ2, ?_, l2⟩
    show (t1 ρ').bind _ = _
    rw [e3]
    rfl⟩
instance {o : List D → Option D} [hs : MM ms] : MM (mCall o ms) := mm_k (k := o) hs
instance [hs : MM ms] : MM (mDisp ms) := mm_k (k := fun xs => dispD xs [] []) hs
theorem x_var {ρ ρ' : Env} {d : D} (l : Le ρ ρ') (z : xVar i ρ = some d) : xVar i ρ' = some d := MX.mono l z
theorem own_mono {ρ ρ' : Env} {x : Fl × D} (l : Le ρ ρ') (z : ownAt i ρ = some x) : ownAt i ρ' = some x := by
  unfold ownAt at z ⊢
  split at z
  · rename_i q
    rw [l.get q]
    exact z
  · cases z
instance {o : D → D → Option D} [h2 : MM m2] : MM (mOpV o i m2) := ⟨fun {ρ ρ' d ρ1} l z => by
  obtain ⟨x, e1, z⟩ := obind z
  obtain ⟨y, e2, z⟩ := obind z
  obtain ⟨u, e3, z⟩ := obind z
  obtain ⟨w, e4, z⟩ := obind z
  cases z
  obtain ⟨n, ρ2, e5, l2⟩ := h2.mono l e2
  refine ⟨n, ρ2, ?_, l2⟩
  show (xVar i ρ').bind _ = _
  rw [x_var l e1, Option.bind_some, e5, Option.bind_some]
  show (xVar i ρ2).bind _ = _
  rw [x_var l2 e3, Option.bind_some]
  show (o u y.1).bind _ = _
  rw [e4]
  rfl⟩
instance [h2 : MM m2] : MM (mIxV i m2) := ⟨fun {ρ ρ' d ρ1} l z => by
  obtain ⟨x, e1, z⟩ := obind z
  obtain ⟨y, e2, z⟩ := obind z
  obtain ⟨u, e3, z⟩ := obind z
  obtain ⟨w, e4, z⟩ := obind z
  obtain ⟨n, ρ2, e5, l2⟩ := h2.mono l e2
  split at z
  · rename_i pw
    cases z
    refine ⟨n, ρ2, ?_, l2⟩
    show (xVar i ρ').bind _ = _
    rw [x_var l e1, Option.bind_some, e5, Option.bind_some]
    show (xVar i ρ2).bind _ = _
    rw [x_var l2 e3, Option.bind_some]
    show (ixD u y.1).bind _ = _
    rw [e4, Option.bind_some, if_pos pw]
  · cases z⟩
instance {F : D → List D → Option (D × D)} [hs : MM ms] : MM (mCallR F i ms) := ⟨fun {ρ ρ' d ρ1} l z => by
  obtain ⟨x, e1, z⟩ := obind z
  obtain ⟨⟨y, ρ0⟩, e2, z⟩ := obind z
  obtain ⟨n, ρ2, e5, l2⟩ := hs.mono l e2
  cases q : ρ0[i]? with
  | none => simp only [q] at z; cases z
  | some s =>
    simp only [q] at z
    cases s with
    | none => cases z
    | some s =>
      obtain ⟨md, d0⟩ := s
      have z : (if md = Fl.bor then none else (F d0 y).bind fun y => some (y.1, ρ0.set i (some (md, y.2)))) = some (d, ρ1) := z
      by_cases nb : md = Fl.bor
      · rw [if_pos nb] at z; cases z
      · rw [if_neg nb] at z
        obtain ⟨w, e4, z⟩ := obind z
        cases z
        refine ⟨(List.length_set ..).trans n, ρ2.set i (some (md, w.2)), ?_, l2.set' i _⟩
        show (xVar i ρ').bind _ = _
        rw [x_var l e1, Option.bind_some, e5, Option.bind_some]
        simp only [l2.get q]
        rw [if_neg nb, e4]
        rfl⟩
instance {F : D → List D → Option (D × D)} : MM (mCallRv F i j) := ⟨fun {ρ ρ' d ρ1} l z => by
  obtain ⟨x, e1, z⟩ := obind z
  cases q : ρ[i]? with
  | none => simp only [q] at z; cases z
  | some s =>
    simp only [q] at z
    cases s with
    | none => cases z
    | some s =>
      obtain ⟨md, d0⟩ := s
      have z : (if md = Fl.bor ∨ i = j then none else (F d0 [x]).bind fun y => some (y.1, ρ.set i (some (md, y.2)))) = some (d, ρ1) := z
      by_cases nb : md = Fl.bor ∨ i = j
      · rw [if_pos nb] at z; cases z
      · rw [if_neg nb] at z
        obtain ⟨w, e4, z⟩ := obind z
        cases z
        refine ⟨List.length_set .., ρ'.set i (some (md, w.2)), ?_, l.set' i _⟩
        show (xVar j ρ').bind _ = _
        rw [x_var l e1, Option.bind_some]
        simp only [l.get q]
        rw [if_neg nb, e4]
        rfl⟩
instance {ty : D → Bool} {o : D → List D → Option (D × D)} [hs : MM ms] : MM (mMut ty o i ms) := ⟨fun {ρ ρ' d ρ1} l z => by
  obtain ⟨x, e1, z⟩ := obind z
  split at z
  · rename_i tx
    obtain ⟨y, e2, z⟩ := obind z
    obtain ⟨u, e3, z⟩ := obind z
    obtain ⟨w, e4, z⟩ := obind z
    cases z
    obtain ⟨n, ρ2, e5, l2⟩ := hs.mono l e2
    refine ⟨(List.length_set ..).trans n, ρ2.set i (some (u.1, w.2)), ?_, l2.set' i _⟩
    show (ownAt i ρ').bind _ = _
    rw [own_mono l e1, Option.bind_some, if_pos tx]
    show (ms ρ').bind _ = _
    rw [e5, Option.bind_some]
    show (ownAt i ρ2).bind _ = _
    rw [own_mono l2 e3, Option.bind_some]
    show (o u.2 y.1).bind _ = _
    rw [e4]
    rfl
  · cases z⟩
/-! ### targets -/
instance : MG (put i) := ⟨fun {ρ ρ' d ρ1} l z => by
  unfold put at z ⊢
  rcases l.at i with ⟨q, _⟩ | ⟨s, t, q, q2, ls⟩
  · simp only [q] at z; cases z
  · have np : isPin s = false ∧ ρ1 = ρ.set i (some (.own, d)) := by
      simp only [q] at z
      cases s with
      | none => cases z; exact ⟨rfl, rfl⟩
      | some s =>
        obtain ⟨md, d0⟩ := s
        cases md <;> first | (cases z; done) | (cases z; exact ⟨rfl, rfl⟩)
    obtain ⟨np, rfl⟩ := np
    refine ⟨List.length_set .., ρ'.set i (some (.own, d)), ?_, l.set' i _⟩
    have nt : isPin t = false := by
      rcases ls with rfl | ⟨_, ls⟩
      · exact np
      · exact ls
    simp only [q2]
    cases t with
    | none => rfl
    | some t =>
      obtain ⟨md, d0⟩ := t
      cases md
      · rfl
      · rfl
      · cases nt⟩
instance : MG (putB i) := ⟨fun {ρ ρ' d ρ1} l z => by
  unfold putB at z ⊢
  split at z
  · rename_i hi
    cases z
    rw [if_pos (by rw [← l.len]; exact hi)]
    exact ⟨List.length_set .., _, rfl, l.set' i _⟩
  · cases z⟩
instance : MG gsNil := ⟨fun {ρ ρ' d ρ1} l z => by
  cases d with
  | nil => cases z; exact ⟨rfl, ρ', rfl, l⟩
  | cons _ _ => cases z⟩
instance {g : GX} [hg : MG g] [hs : MG gs] : MG (gsCons g gs) := ⟨fun {ρ ρ' d ρ1} l z => by
  cases d with
  | nil => cases z
  | cons d ds =>
    obtain ⟨ρ2, e1, z⟩ := obind z
    obtain ⟨n, ρ3, e2, l2⟩ := hg.mono l e1
    obtain ⟨n2, ρ4, e3, l3⟩ := hs.mono l2 z
    refine ⟨n2.trans n, ρ4, ?_, l3⟩
    show (g d ρ').bind _ = _
    rw [e2]
    exact e3⟩
instance {n : Nat} [hs : MG gs] : MG (gTupD n gs) := ⟨fun {ρ ρ' d ρ1} l z => by
  cases d with
  | tup ds =>
    have z : (if ds.length = n then gs ds ρ else none) = some ρ1 := z
    show _ ∧ ∃ ρ2, (if ds.length = n then gs ds ρ' else none) = _ ∧ _
    split at z
    · rename_i h
      rw [if_pos h]
      exact hs.mono l z
    · cases z
  | ctp ds =>
    have z : (if ds.length = n then gs ds ρ else none) = some ρ1 := z
    show _ ∧ ∃ ρ2, (if ds.length = n then gs ds ρ' else none) = _ ∧ _
    split at z
    · rename_i h
      rw [if_pos h]
      exact hs.mono l z
    · cases z
  | _ => cases z⟩
instance {ix : EX} {o : D → D → D → Option D} [hx : MX ix] : MG (gSub' i ix o) := ⟨fun {ρ ρ' d ρ1} l z => by
  obtain ⟨x, e1, z⟩ := obind z
  obtain ⟨k, e2, z⟩ := obind z
  obtain ⟨w, e3, z⟩ := obind z
  cases z
  refine ⟨List.length_set .., ρ'.set i (some (x.1, w)), ?_, l.set' i _⟩
  show (ownAt i ρ').bind _ = _
  rw [own_mono l e1, Option.bind_some, hx.mono l e2, Option.bind_some, e3]
  rfl⟩
instance {ix : EM} {o : D → D → D → Option D} [hx : MM ix] : MG (gSubM i ix o) := ⟨fun {ρ ρ' d ρ1} l z => by
  obtain ⟨x, e1, z⟩ := obind z
  obtain ⟨k, e2, z⟩ := obind z
  obtain ⟨u, e3, z⟩ := obind z
  obtain ⟨w, e4, z⟩ := obind z
  cases z
  obtain ⟨n, ρ2, e5, l2⟩ := hx.mono l e2
  refine ⟨(List.length_set ..).trans n, ρ2.set i (some (u.1, w)), ?_, l2.set' i _⟩
  show (ownAt i ρ').bind _ = _
  rw [own_mono l e1, Option.bind_some, e5, Option.bind_some]
  show (ownAt i ρ2).bind _ = _
  rw [own_mono l2 e3, Option.bind_some, e4]
  rfl⟩
/-! ### what is walked -/
instance [hs : MX src] : MM (iP src) := mm_x hs
instance [hs : MM ms] : MM (mRng1 ms) := mm_of (mm_k (k := fun xs : List D => match xs with | [.int j] => if rOk j = true then some (rng 0 j) else none | _ => none) hs) fun ρ => by
  unfold mRng1
  cases ms ρ with
  | none => rfl
  | some x =>
    obtain ⟨ds, ρ1⟩ := x
    show (match ds with | [.int j] => if rOk j = true then some (rng 0 j, ρ1) else none | _ => none) = (match ds with | [.int j] => if rOk j = true then some (rng 0 j) else none | _ => none : Option (List D)).bind _
    split
    · split <;> rfl
    · rfl
instance : MM (srcB i) := ⟨fun {ρ ρ' d ρ1} l z => by
  unfold srcB at z ⊢
  split at z
  · rename_i q
    obtain ⟨its, e1, z⟩ := obind z
    cases z
    refine ⟨rfl, ρ', ?_, l⟩
    rw [l.get q]
    show (itemsOf _).bind _ = _
    rw [e1]
    rfl
  · cases z⟩
theorem compM_mono {gx : GX} {t : ET} {e : EM} {vs : List Nat} (hg : MG gx) (ht : MM t) (he : MM e) : ∀ {ds ys : List D} {ρ ρ' ρ1 : Env}, Le ρ ρ' → compM gx t e vs ds ρ = some (ys, ρ1) → ρ1.length = ρ.length ∧ ∃ ρ2, compM gx t e vs ds ρ' = some (ys, ρ2) ∧ Le ρ1 ρ2
  | [], ys, ρ, ρ', ρ1, l, z => by
    cases z
    exact ⟨rfl, ρ', rfl, l⟩
  | d :: ds, ys, ρ, ρ', ρ1, l, z => by
    rw [compM] at z ⊢
    split at z
    · rename_i pd
      rw [if_pos pd]
      obtain ⟨ρ2, e1, z⟩ := obind z
      obtain ⟨n1, σ2, f1, l1⟩ := hg.mono l e1
      obtain ⟨⟨b, ρ3⟩, e2, z⟩ := obind z
      obtain ⟨n2, σ3, f2, l2⟩ := ht.mono l1 e2
      rw [f1, Option.bind_some, f2, Option.bind_some]
      cases b with
      | true =>
        obtain ⟨⟨y, ρ4⟩, e3, z⟩ := obind z
        obtain ⟨n3, σ4, f3, l3⟩ := he.mono l2 e3
        show _ ∧ ∃ ρ2, (e σ3).bind _ = _ ∧ _
        rw [f3, Option.bind_some]
        split at z
        · rename_i py
          rw [if_pos py]
          obtain ⟨⟨us, ρ5⟩, e4, z⟩ := obind z
          obtain ⟨n4, σ5, f4, l4⟩ := compM_mono hg ht he (l3.wipes vs) e4
          cases z
          refine ⟨by rw [n4, wipe_len, n3, n2, n1], σ5, ?_, l4⟩
          show (compM gx t e vs ds (wipeE σ4 vs)).bind _ = _
          rw [f4]
          rfl
        · cases z
      | false =>
        obtain ⟨n4, σ5, f4, l4⟩ := compM_mono hg ht he (l2.wipes vs) z
        exact ⟨by rw [n4, wipe_len, n2, n1], σ5, f4, l4⟩
    · cases z
instance {vs : List Nat} [hs : MM isrc] [hg : MG gx] [ht : MM t] [he : MM e] : MM (mComp vs isrc gx t e) := ⟨fun {ρ ρ' d ρ1} l z => by
  obtain ⟨⟨its, ρ2⟩, e1, z⟩ := obind z
  obtain ⟨n1, σ2, f1, l1⟩ := hs.mono l e1
  obtain ⟨⟨ys, ρ3⟩, e2, z⟩ := obind z
  obtain ⟨n2, σ3, f2, l2⟩ := compM_mono hg ht he (l1.wipes vs) e2
  split at z
  · rename_i hl
    cases z
    refine ⟨by rw [n2, wipe_len, n1], σ3, ?_, l2⟩
    show (isrc ρ').bind _ = _
    rw [f1, Option.bind_some, f2, Option.bind_some, if_pos hl]
  · cases z⟩
/-! ### statements -/
instance : MS sNext := ⟨fun {ρ ρ' o} l z => by cases z; exact ⟨rfl, _, rfl, l⟩⟩
instance : MS sBreak := ⟨fun {ρ ρ' o} l z => by cases z; exact ⟨rfl, _, rfl, l⟩⟩
instance : MS sCont := ⟨fun {ρ ρ' o} l z => by cases z; exact ⟨rfl, _, rfl, l⟩⟩
instance : MS sNever := ⟨fun {ρ ρ' o} l z => by cases z⟩
instance : MS sRetN := ⟨fun {ρ ρ' o} l z => by cases z; exact ⟨rfl, _, rfl, rfl, l⟩⟩
instance [hm : MM m] : MS (sRet m) := ⟨fun {ρ ρ' o} l z => by
  obtain ⟨x, e1, z⟩ := obind z
  cases z
  obtain ⟨n, ρ2, e2, l2⟩ := hm.mono l e1
  refine ⟨n, .rt x.1 ρ2, ?_, rfl, l2⟩
  show (m ρ').bind _ = _
  rw [e2]
  rfl⟩
instance [hm : MM m] : MS (sDrop m) := ⟨fun {ρ ρ' o} l z => by
  obtain ⟨x, e1, z⟩ := obind z
  cases z
  obtain ⟨n, ρ2, e2, l2⟩ := hm.mono l e1
  refine ⟨n, .nx ρ2, ?_, l2⟩
  show (m ρ').bind _ = _
  rw [e2]
  rfl⟩
instance [hm : MM m] [hg : MG gx] : MS (sAsg m gx) := ⟨fun {ρ ρ' o} l z => by
  obtain ⟨x, e1, z⟩ := obind z
  obtain ⟨ρ3, e3, z⟩ := obind z
  cases z
  obtain ⟨n, ρ2, e2, l2⟩ := hm.mono l e1
  obtain ⟨n2, ρ4, e4, l3⟩ := hg.mono l2 e3
  refine ⟨n2.trans n, .nx ρ4, ?_, l3⟩
  show (m ρ').bind _ = _
  rw [e2, Option.bind_some]
  show (gx x.1 ρ2).bind _ = _
  rw [e4]
  rfl⟩
instance [hm : MM ms] : MS (sPar i j ms) := ⟨fun {ρ ρ' o} l z => by
  obtain ⟨⟨ds, ρ1⟩, e1, z⟩ := obind z
  obtain ⟨n, ρ2, e2, l2⟩ := hm.mono l e1
  unfold sPar
  rw [e2, Option.bind_some]
  match ds, z with
  | [d, e], z =>
    obtain ⟨ρ3, e3, z⟩ := obind z
    obtain ⟨ρ4, e4, z⟩ := obind z
    cases z
    obtain ⟨n2, σ3, f3, l3⟩ := MG.mono (g := put i) l2 e3
    obtain ⟨n3, σ4, f4, l4⟩ := MG.mono (g := put j) l3 e4
    refine ⟨n3.trans (n2.trans n), .nx σ4, ?_, l4⟩
    show (put i d ρ2).bind _ = _
    rw [f3, Option.bind_some, f4]
    rfl
  | [], z => cases z
  | [_], z => cases z
  | _ :: _ :: _ :: _, z => cases z⟩
instance {o : D → D → Option D} [hm : MM m] : MS (sAug i o m) := ⟨fun {ρ ρ' o'} l z => by
  obtain ⟨x, e1, z⟩ := obind z
  obtain ⟨y, e2, z⟩ := obind z
  obtain ⟨w, e3, z⟩ := obind z
  obtain ⟨ρ2, e4, z⟩ := obind z
  cases z
  obtain ⟨n, ρ3, f2, l2⟩ := hm.mono l e2
  obtain ⟨n2, ρ4, f4, l3⟩ := MG.mono (g := put i) l2 e4
  refine ⟨n2.trans n, .nx ρ4, ?_, l3⟩
  show (xPure (xVar i) ρ').bind _ = _
  rw [MX.mono l e1, Option.bind_some, f2, Option.bind_some, e3, Option.bind_some]
  show (put i w ρ3).bind _ = _
  rw [f4]
  rfl⟩
instance {ix e : EX} {gt o : D → D → Option D} {st : D → D → D → Option D} [hx : MX ix] [he : MX e] : MS (sAugS i ix gt o e st) := ⟨fun {ρ ρ' o'} l z => by
  obtain ⟨x, e1, z⟩ := obind z
  obtain ⟨y, e2, z⟩ := obind z
  obtain ⟨w, e3, z⟩ := obind z
  split at z
  · rename_i pw
    obtain ⟨u, e4, z⟩ := obind z
    obtain ⟨v, e5, z⟩ := obind z
    split at z
    · rename_i pv
      obtain ⟨d', e6, z⟩ := obind z
      cases z
      refine ⟨List.length_set .., .nx (ρ'.set i (some (x.1, d'))), ?_, l.set' i _⟩
      show (ownAt i ρ').bind _ = _
      rw [own_mono l e1, Option.bind_some, hx.mono l e2, Option.bind_some, e3, Option.bind_some, if_pos pw, he.mono l e4, Option.bind_some, e5, Option.bind_some, if_pos pv, e6]
      rfl
    · cases z
  · cases z⟩
instance [ha : MS a] [hb : MS b] : MS (sSeq a b) := ⟨fun {ρ ρ' o} l z => by
  obtain ⟨x, e1, z⟩ := obind z
  obtain ⟨n, y, e2, l2⟩ := ha.mono l e1
  unfold sSeq
  rw [e2, Option.bind_some]
  cases x with
  | nx ρ1 =>
    cases y with
    | nx ρ2 =>
      obtain ⟨n2, w, e3, l3⟩ := hb.mono (show Le ρ1 ρ2 from l2) z
      exact ⟨n2.trans n, w, e3, l3⟩
    | _ => exact l2.elim
  | bk ρ1 =>
    cases z
    cases y with
    | bk ρ2 => exact ⟨n, _, rfl, l2⟩
    | _ => exact l2.elim
  | ct ρ1 =>
    cases z
    cases y with
    | ct ρ2 => exact ⟨n, _, rfl, l2⟩
    | _ => exact l2.elim
  | rt d ρ1 =>
    cases z
    cases y with
    | rt d2 ρ2 => exact ⟨n, _, rfl, l2⟩
    | _ => exact l2.elim⟩
instance [ht : MM t] [ha : MS a] [hb : MS b] : MS (sIf t a b) := ⟨fun {ρ ρ' o} l z => by
  obtain ⟨⟨k, ρ1⟩, e1, z⟩ := obind z
  obtain ⟨n, ρ2, e2, l2⟩ := ht.mono l e1
  unfold sIf
  rw [e2, Option.bind_some]
  cases k with
  | true =>
    obtain ⟨n2, w, e3, l3⟩ := ha.mono l2 z
    exact ⟨n2.trans n, w, e3, l3⟩
  | false =>
    obtain ⟨n2, w, e3, l3⟩ := hb.mono l2 z
    exact ⟨n2.trans n, w, e3, l3⟩⟩
theorem for_mono (hg : MG gx) (hb : MS b) : ∀ {ds : List D} {ρ ρ' : Env} {o : Out}, Le ρ ρ' → forE gx b ds ρ = some o → (outE o).length = ρ.length ∧ ∃ o', forE gx b ds ρ' = some o' ∧ LeO o o'
  | [], ρ, ρ', o, l, z => by
    cases z
    exact ⟨rfl, _, rfl, l⟩
  | d :: ds, ρ, ρ', o, l, z => by
    rw [forE] at z ⊢
    split at z
    · rename_i pd
      rw [if_pos pd]
      obtain ⟨ρ1, e1, z⟩ := obind z
      obtain ⟨n1, σ1, f1, l1⟩ := hg.mono l e1
      obtain ⟨x, e2, z⟩ := obind z
      obtain ⟨n2, y, f2, l2⟩ := hb.mono l1 e2
      rw [f1, Option.bind_some, f2, Option.bind_some]
      cases x with
      | nx ρ2 =>
        cases y with
        | nx σ2 =>
          obtain ⟨n3, w, f3, l3⟩ := for_mono hg hb (show Le ρ2 σ2 from l2) z
          exact ⟨n3.trans (n2.trans n1), w, f3, l3⟩
        | _ => exact l2.elim
      | ct ρ2 =>
        cases y with
        | ct σ2 =>
          obtain ⟨n3, w, f3, l3⟩ := for_mono hg hb (show Le ρ2 σ2 from l2) z
          exact ⟨n3.trans (n2.trans n1), w, f3, l3⟩
        | _ => exact l2.elim
      | bk ρ2 =>
        cases y with
        | bk σ2 => cases z; exact ⟨n2.trans n1, _, rfl, l2⟩
        | _ => exact l2.elim
      | rt d' ρ2 =>
        cases y with
        | rt d2 σ2 => cases z; exact ⟨n2.trans n1, _, rfl, l2⟩
        | _ => exact l2.elim
    · cases z
instance [hs : MM isrc] [hg : MG gx] [hb : MS b] : MS (sFor isrc gx b) := ⟨fun {ρ ρ' o} l z => by
  obtain ⟨⟨its, ρ1⟩, e1, z⟩ := obind z
  obtain ⟨n, ρ2, e2, l2⟩ := hs.mono l e1
  obtain ⟨n2, w, e3, l3⟩ := for_mono hg hb l2 z
  refine ⟨n2.trans n, w, ?_, l3⟩
  unfold sFor
  rw [e2]
  exact e3⟩
theorem while_mono (ht : MM t) (hb : MS b) : ∀ {k : Nat} {ρ ρ' : Env} {o : Out}, Le ρ ρ' → whileE t b k ρ = some o → (outE o).length = ρ.length ∧ ∃ o', whileE t b k ρ' = some o' ∧ LeO o o'
  | 0, ρ, ρ', o, l, z => by cases z
  | k + 1, ρ, ρ', o, l, z => by
    rw [whileE] at z ⊢
    obtain ⟨⟨c, ρ1⟩, e1, z⟩ := obind z
    obtain ⟨n1, σ1, f1, l1⟩ := ht.mono l e1
    rw [f1, Option.bind_some]
    cases c with
    | true =>
      obtain ⟨x, e2, z⟩ := obind z
      obtain ⟨n2, y, f2, l2⟩ := hb.mono l1 e2
      show _ ∧ ∃ o', (b σ1).bind _ = _ ∧ _
      rw [f2, Option.bind_some]
      cases x with
      | nx ρ2 =>
        cases y with
        | nx σ2 =>
          obtain ⟨n3, w, f3, l3⟩ := while_mono ht hb (show Le ρ2 σ2 from l2) z
          exact ⟨n3.trans (n2.trans n1), w, f3, l3⟩
        | _ => exact l2.elim
      | ct ρ2 =>
        cases y with
        | ct σ2 =>
          obtain ⟨n3, w, f3, l3⟩ := while_mono ht hb (show Le ρ2 σ2 from l2) z
          exact ⟨n3.trans (n2.trans n1), w, f3, l3⟩
        | _ => exact l2.elim
      | bk ρ2 =>
        cases y with
        | bk σ2 => cases z; exact ⟨n2.trans n1, _, rfl, l2⟩
        | _ => exact l2.elim
      | rt d' ρ2 =>
        cases y with
        | rt d2 σ2 => cases z; exact ⟨n2.trans n1, _, rfl, l2⟩
        | _ => exact l2.elim
    | false =>
      cases z
      exact ⟨n1, _, rfl, l1⟩
instance [ht : MM t] [hb : MS b] : MS (sWhile t b) := ⟨fun {ρ ρ' o} l z => while_mono ht hb l z⟩
end
end DL
namespace DL
open PySem PySem.Spec L2
section
variable {ms : EMs} {i j l : Nat} {g : ES}
instance [hm : MM ms] : MS (sPar3 i j l ms) := ⟨fun {ρ ρ' o} le z => by
  obtain ⟨⟨ds, ρ1⟩, e1, z⟩ := obind z
  obtain ⟨n, ρ2, e2, l2⟩ := hm.mono le e1
  unfold sPar3
  rw [e2, Option.bind_some]
  match ds, z with
  | [d, e, f], z =>
    obtain ⟨ρ3, e3, z⟩ := obind z
    obtain ⟨ρ4, e4, z⟩ := obind z
    obtain ⟨ρ5, e5, z⟩ := obind z
    cases z
    obtain ⟨n2, σ3, f3, l3⟩ := MG.mono (g := put i) l2 e3
    obtain ⟨n3, σ4, f4, l4⟩ := MG.mono (g := put j) l3 e4
    obtain ⟨n4, σ5, f5, l5⟩ := MG.mono (g := put l) l4 e5
    refine ⟨n4.trans (n3.trans (n2.trans n)), .nx σ5, ?_, l5⟩
    show (put i d ρ2).bind _ = _
    rw [f3, Option.bind_some, f4, Option.bind_some, f5]
    rfl
  | [], z => cases z
  | [_], z => cases z
  | [_, _], z => cases z
  | _ :: _ :: _ :: _ :: _, z => cases z⟩
theorem pin_bo {x : Slt} (h : isPin x = false) : isPin (borOnly x) = false := by
  unfold borOnly
  split
  · exact h
  · rfl
theorem backS_le {k : Nat} {x x' y y' : Slt} (hx : leS x x') (hy : leS y y') (hi : k = i → isPin x' = false) : leS (backS i k x y) (backS i k x' y') := by
  have pnb : ∀ y : Slt, isBor y = true → isPin y = false := fun y h => by
    cases y with
    | none => rfl
    | some y =>
      obtain ⟨m, d⟩ := y
      cases m
      · cases h
      · rfl
      · cases h
  have pn : ∀ y : Slt, isPn y = isPin y := fun y => by
    cases y with
    | none => rfl
    | some y =>
      obtain ⟨m, d⟩ := y
      cases m <;> rfl
  unfold backS
  rcases hy with rfl | ⟨rfl, py⟩
  · by_cases hb : isBor y = true
    · rw [if_pos hb, if_pos hb]
      by_cases hk : k = i
      · rw [if_pos hk, if_pos hk]; exact hx
      · rw [if_neg hk, if_neg hk]
        rcases hx with rfl | ⟨rfl, px⟩
        · exact .inl rfl
        · exact .inr ⟨rfl, pin_bo px⟩
    · rw [if_neg hb, if_neg hb]
      exact .inl rfl
  · have e0 : (if isBor (none : Slt) = true then (if k = i then x else borOnly x) else if k = i then (if isPn (none : Slt) = true then none else none) else none) = (none : Slt) := by
      rw [if_neg (by decide)]
      split <;> rfl
    rw [e0]
    refine .inr ⟨rfl, ?_⟩
    by_cases hb : isBor y' = true
    · rw [if_pos hb]
      by_cases hk : k = i
      · rw [if_pos hk]; exact hi hk
      · rw [if_neg hk]
        rcases hx with rfl | ⟨rfl, px⟩
        · by_cases hbx : isBor x = true
          · exact pin_bo (pnb x hbx)
          · unfold borOnly; rw [if_neg hbx]; rfl
        · exact pin_bo px
    · rw [if_neg hb]
      split
      · split
        · rfl
        · exact py
      · exact py
theorem backL_le : ∀ {k : Nat} {xs xs' ys ys' : Env}, Le xs xs' → Le ys ys' → (∀ s, xs'[i - k]? = some s → k ≤ i → isPin s = false) → Le (backL i k xs ys) (backL i k xs' ys')
  | k, [], [], ys, ys', _, hy, _ => by
    cases ys <;> cases ys' <;> exact hy
  | k, x :: xs, x' :: xs', [], [], _, _, _ => trivial
  | k, x :: xs, x' :: xs', y :: ys, y' :: ys', hx, hy, hi => by
    refine ⟨backS_le hx.1 hy.1 fun e => hi x' (by rw [e, Nat.sub_self]; rfl) (Nat.le_of_eq e), backL_le hx.2 hy.2 fun s e h => ?_⟩
    refine hi s ?_ (by omega)
    rw [show i - k = (i - (k + 1)) + 1 by omega]
    exact e
  | k, [], _ :: _, _, _, h, _, _ => h.elim
  | k, _ :: _, [], _, _, h, _, _ => h.elim
  | k, _ :: _, _ :: _, [], _ :: _, _, h, _ => h.elim
  | k, _ :: _, _ :: _, _ :: _, [], _, h, _ => h.elim
theorem backO_le {ρ ρ' : Env} {o o' r : Out} (l : Le ρ ρ') (lo : LeO o o') (h : backO i ρ o = some r) (hi : ∀ s, ρ'[i]? = some s → isPin s = false) : (outE r).length = ρ.length ∧ ∃ r', backO i ρ' o' = some r' ∧ LeO r r' := by
  cases o with
  | nx ρ1 =>
    cases o' with
    | nx σ1 =>
      have lo : Le ρ1 σ1 := lo
      have h : (if ρ1.length = ρ.length then some (Out.nx (backL i 0 ρ ρ1)) else none) = some r := h
      split at h
      · rename_i e
        cases h
        refine ⟨backL_len.trans e, .nx (backL i 0 ρ' σ1), ?_, backL_le l lo fun s z _ => hi s z⟩
        show (if σ1.length = ρ'.length then some (Out.nx (backL i 0 ρ' σ1)) else none) = _
        rw [if_pos (by rw [← lo.len, ← l.len, e])]
      · cases h
    | _ => exact lo.elim
  | bk ρ1 =>
    cases o' with
    | bk σ1 =>
      have lo : Le ρ1 σ1 := lo
      have h : (if ρ1.length = ρ.length then some (Out.bk (backL i 0 ρ ρ1)) else none) = some r := h
      split at h
      · rename_i e
        cases h
        refine ⟨backL_len.trans e, .bk (backL i 0 ρ' σ1), ?_, backL_le l lo fun s z _ => hi s z⟩
        show (if σ1.length = ρ'.length then some (Out.bk (backL i 0 ρ' σ1)) else none) = _
        rw [if_pos (by rw [← lo.len, ← l.len, e])]
      · cases h
    | _ => exact lo.elim
  | ct ρ1 =>
    cases o' with
    | ct σ1 =>
      have lo : Le ρ1 σ1 := lo
      have h : (if ρ1.length = ρ.length then some (Out.ct (backL i 0 ρ ρ1)) else none) = some r := h
      split at h
      · rename_i e
        cases h
        refine ⟨backL_len.trans e, .ct (backL i 0 ρ' σ1), ?_, backL_le l lo fun s z _ => hi s z⟩
        show (if σ1.length = ρ'.length then some (Out.ct (backL i 0 ρ' σ1)) else none) = _
        rw [if_pos (by rw [← lo.len, ← l.len, e])]
      · cases h
    | _ => exact lo.elim
  | rt d ρ1 =>
    cases o' with
    | rt d' σ1 =>
      obtain ⟨rfl, lo⟩ : d = d' ∧ Le ρ1 σ1 := lo
      have h : (if ρ1.length = ρ.length then some (Out.rt d (backL i 0 ρ ρ1)) else none) = some r := h
      split at h
      · rename_i e
        cases h
        refine ⟨backL_len.trans e, .rt d (backL i 0 ρ' σ1), ?_, rfl, backL_le l lo fun s z _ => hi s z⟩
        show (if σ1.length = ρ'.length then some (Out.rt d (backL i 0 ρ' σ1)) else none) = _
        rw [if_pos (by rw [← lo.len, ← l.len, e])]
      · cases h
    | _ => exact lo.elim
theorem srcB_none {ρ : Env} (h : ρ[i]? = some none ∨ ρ[i]? = none) : srcB i ρ = none := by
  unfold srcB
  rcases h with h | h <;> rw [h]
instance {gx : GX} {b : ES} [hg : MG gx] [hb : MS b] : MS (sLend i (sFor (srcB i) gx b)) := ⟨fun {ρ ρ' o} l z => by
  have hs : MS (sFor (srcB i) gx b) := inferInstance
  have dead : (ρ[i]? = some none ∨ ρ[i]? = none) → sFor (srcB i) gx b ρ = none := fun h => by
    unfold sFor
    rw [srcB_none h]
    rfl
  unfold sLend at z ⊢
  rcases l.at i with ⟨q, q'⟩ | ⟨s, t, q, q', ls⟩
  · simp only [q] at z
    rw [dead (.inr q)] at z
    cases z
  · rcases ls with rfl | ⟨rfl, _⟩
    · simp only [q] at z
      simp only [q']
      cases s with
      | none =>
        have z : sFor (srcB i) gx b ρ = some o := z
        rw [dead (.inl q)] at z
        cases z
      | some s =>
        obtain ⟨m, d⟩ := s
        cases m with
        | own =>
          have z : (sFor (srcB i) gx b (ρ.set i (some (.bor, d)))).bind (backO i ρ) = some o := z
          show _ ∧ ∃ o', (sFor (srcB i) gx b (ρ'.set i (some (.bor, d)))).bind (backO i ρ') = some o' ∧ _
          obtain ⟨o1, e1, z⟩ := obind z
          obtain ⟨_, o2, e2, l2⟩ := hs.mono (l.set' i (some (.bor, d))) e1
          rw [e2]
          exact backO_le l l2 z fun s e => by rw [q'] at e; cases e; rfl
        | bor => exact hs.mono l z
        | pin => exact hs.mono l z
    · simp only [q] at z
      have z : sFor (srcB i) gx b ρ = some o := z
      rw [dead (.inl q)] at z
      cases z⟩
end
/-! ### what a statement comes to, names forgotten -/
def Ev (b : ES) (ρ : Env) (o : Out) : Prop := ∃ o', b ρ = some o' ∧ LeO o o'
section
variable {ρ ρ' ρ1 : Env} {o : Out} {a b : ES} {d : D}
theorem Ev.of (h : b ρ = some o) : Ev b ρ o := ⟨o, h, LeO.refl o⟩
theorem Ev.le [hb : MS b] (l : Le ρ ρ') (h : Ev b ρ o) : Ev b ρ' o := by
  obtain ⟨o1, e, l1⟩ := h
  obtain ⟨_, o2, e2, l2⟩ := hb.mono l e
  exact ⟨o2, e2, l1.trans l2⟩
theorem Ev.less {o2 : Out} (h : Ev b ρ o) (l : LeO o2 o) : Ev b ρ o2 := let ⟨o1, e, l1⟩ := h; ⟨o1, e, l.trans l1⟩
theorem Ev.seq [hb : MS b] (h : Ev a ρ (.nx ρ1)) (k : Ev b ρ1 o) : Ev (sSeq a b) ρ o := by
  obtain ⟨o1, e1, l1⟩ := h
  cases o1 with
  | nx σ =>
    obtain ⟨o2, e2, l2⟩ := k.le (ρ' := σ) l1
    refine ⟨o2, ?_, l2⟩
    unfold sSeq
    rw [e1]
    exact e2
  | _ => exact l1.elim
theorem Ev.rt (h : Ev a ρ (.rt d ρ1)) : Ev (sSeq a b) ρ (.rt d ρ1) := by
  obtain ⟨o1, e1, l1⟩ := h
  cases o1 with
  | rt d' σ =>
    refine ⟨.rt d' σ, ?_, l1⟩
    unfold sSeq
    rw [e1]
    rfl
  | _ => exact l1.elim
theorem Ev.bk (h : Ev a ρ (.bk ρ1)) : Ev (sSeq a b) ρ (.bk ρ1) := by
  obtain ⟨o1, e1, l1⟩ := h
  cases o1 with
  | bk σ =>
    refine ⟨.bk σ, ?_, l1⟩
    unfold sSeq
    rw [e1]
    rfl
  | _ => exact l1.elim
theorem Ev.ct (h : Ev a ρ (.ct ρ1)) : Ev (sSeq a b) ρ (.ct ρ1) := by
  obtain ⟨o1, e1, l1⟩ := h
  cases o1 with
  | ct σ =>
    refine ⟨.ct σ, ?_, l1⟩
    unfold sSeq
    rw [e1]
    rfl
  | _ => exact l1.elim
theorem Ev.ifT {t : ET} (h : t ρ = some (true, ρ1)) (k : Ev a ρ1 o) : Ev (sIf t a b) ρ o := by
  obtain ⟨o1, e1, l1⟩ := k
  refine ⟨o1, ?_, l1⟩
  unfold sIf
  rw [h]
  exact e1
theorem Ev.ifF {t : ET} (h : t ρ = some (false, ρ1)) (k : Ev b ρ1 o) : Ev (sIf t a b) ρ o := by
  obtain ⟨o1, e1, l1⟩ := k
  refine ⟨o1, ?_, l1⟩
  unfold sIf
  rw [h]
  exact e1
/-- a loop's turns -/
def EvF (gx : GX) (b : ES) (ds : List D) (ρ : Env) (o : Out) : Prop := ∃ o', forE gx b ds ρ = some o' ∧ LeO o o'
theorem Ev.for {isrc : IM} {gx : GX} {ds : List D} (h : isrc ρ = some (ds, ρ1)) (k : EvF gx b ds ρ1 o) : Ev (sFor isrc gx b) ρ o := by
  obtain ⟨o1, e1, l1⟩ := k
  refine ⟨o1, ?_, l1⟩
  unfold sFor
  rw [h]
  exact e1
theorem EvF.le {gx : GX} {ds : List D} [hg : MG gx] [hb : MS b] (l : Le ρ ρ') (h : EvF gx b ds ρ o) : EvF gx b ds ρ' o := by
  obtain ⟨o1, e, l1⟩ := h
  obtain ⟨_, o2, e2, l2⟩ := for_mono hg hb l e
  exact ⟨o2, e2, l1.trans l2⟩
inductive Step (S : Type) where
  | go (s : S) | stop (s : S) | ret (d : D) (s : S)
/-- a loop over a list: the state after it -/
def runL {α S : Type} (f : S → α → Step S) : List α → S → Step S
  | [], s => .go s
  | a :: l, s => match f s a with
    | .go s' => runL f l s'
    | .stop s' => .stop s'
    | .ret d s' => .ret d s'
def outS {S : Type} (E : S → Env) : Step S → Out
  | .go s => .nx (E s)
  | .stop s => .nx (E s)
  | .ret d s => .rt d (E s)
/-- what one turn may come to -/
def TurnS {S : Type} (E : S → Env) (b : ES) (ρ : Env) : Step S → Prop
  | .go s => Ev b ρ (.nx (E s)) ∨ Ev b ρ (.ct (E s))
  | .stop s => Ev b ρ (.bk (E s))
  | .ret d s => Ev b ρ (.rt d (E s))
theorem ev_run {α S : Type} {gx : GX} [hg : MG gx] [hb : MS b] (g : α → D) (E : S → Env) (P : S → Prop) (f : S → α → Step S) : ∀ (l : List α) (s : S), P s →
    (∀ a ∈ l, ∀ s, P s → pure (g a) = true ∧ (∀ s', f s a = .go s' → P s') ∧ ∃ ρ1, gx (g a) (E s) = some ρ1 ∧ TurnS E b ρ1 (f s a)) → EvF gx b (l.map g) (E s) (outS E (runL f l s))
  | [], s, _, _ => ⟨.nx (E s), rfl, Le.refl _⟩
  | a :: l, s, p, k => by
    obtain ⟨pa, ps, ρ1, h1, h2⟩ := k a (List.mem_cons_self ..) s p
    have go : ∀ s', f s a = .go s' → EvF gx b (l.map g) (E s') (outS E (runL f l s')) := fun s' e => ev_run g E P f l s' (ps s' e) fun c hc => k c (List.mem_cons_of_mem _ hc)
    unfold EvF
    rw [List.map_cons, forE, if_pos pa, h1, Option.bind_some, runL]
    cases e : f s a with
    | go s' =>
      rw [e] at h2
      rcases h2 with ⟨o1, e1, l1⟩ | ⟨o1, e1, l1⟩
      · cases o1 with
        | nx σ => rw [e1]; exact (go s' e).le (ρ' := σ) l1
        | _ => exact l1.elim
      · cases o1 with
        | ct σ => rw [e1]; exact (go s' e).le (ρ' := σ) l1
        | _ => exact l1.elim
    | stop s' =>
      rw [e] at h2
      obtain ⟨o1, e1, l1⟩ := h2
      cases o1 with
      | bk σ => rw [e1]; exact ⟨_, rfl, l1⟩
      | _ => exact l1.elim
    | ret d s' =>
      rw [e] at h2
      obtain ⟨o1, e1, l1⟩ := h2
      cases o1 with
      | rt d' σ => rw [e1]; exact ⟨_, rfl, l1⟩
      | _ => exact l1.elim
/-- a loop that answers at the first one it finds, and changes nothing -/
theorem ev_find {α : Type} {gx : GX} [hg : MG gx] [hb : MS b] (g : α → D) (p : α → Option D) (l : List α) (ρ : Env)
    (k : ∀ a ∈ l, pure (g a) = true ∧ ∃ ρ1, gx (g a) ρ = some ρ1 ∧ (∀ d, p a = some d → Ev b ρ1 (.rt d ρ)) ∧ (p a = none → Ev b ρ1 (.nx ρ) ∨ Ev b ρ1 (.ct ρ))) :
    EvF gx b (l.map g) ρ (match l.findSome? p with | some d => .rt d ρ | none => .nx ρ) := by
  have := ev_run g (fun _ : Unit => ρ) (fun _ => True) (fun s a => match p a with | some d => .ret d s | none => .go s) l () trivial fun a ha s _ => by
    obtain ⟨h1, ρ1, h3, h4, h5⟩ := k a ha
    refine ⟨h1, fun _ _ => trivial, ρ1, h3, ?_⟩
    cases e : p a with
    | none => exact h5 e
    | some d => exact h4 d e
  have e : ∀ l : List α, outS (fun _ : Unit => ρ) (runL (fun s a => match p a with | some d => Step.ret d s | none => .go s) l ()) = (match l.findSome? p with | some d => .rt d ρ | none => .nx ρ) := fun l => by
    induction l with
    | nil => rfl
    | cons a l ih =>
      rw [runL, List.findSome?_cons]
      cases p a with
      | none => exact ih
      | some d => rfl
  rw [e] at this
  exact this
/-- while -/
theorem ev_while {S : Type} {t : ET} [ht : MM t] [hb : MS b] (E : S → Env) (P : S → Prop) (c : S → Bool) (f : S → S) (k : ∀ s, P s → ∃ ρ1, t (E s) = some (c s, ρ1) ∧ (c s = true → P (f s) ∧ (Ev b ρ1 (.nx (E (f s))) ∨ Ev b ρ1 (.ct (E (f s))))) ∧ (c s = false → Le (E s) ρ1)) (m : Nat) :
    ∀ (n : Nat) (s : S), P s → c (Nat.repeat f n s) = false → (∀ j, j < n → c (Nat.repeat f j s) = true) → ∃ o', whileE t b (n + 1 + m) (E s) = some o' ∧ LeO (.nx (E (Nat.repeat f n s))) o'
  | 0, s, p, h0, _ => by
    obtain ⟨ρ1, e1, _, k2⟩ := k s p
    have h0 : c s = false := h0
    refine ⟨.nx ρ1, ?_, k2 h0⟩
    rw [show 0 + 1 + m = m + 1 by omega, whileE, e1, h0]
    rfl
  | n + 1, s, p, h0, h1 => by
    have sh : ∀ j s, Nat.repeat f (j + 1) s = Nat.repeat f j (f s) := fun j => by
      induction j with
      | zero => intro s; rfl
      | succ j ih => intro s; show f (Nat.repeat f (j + 1) s) = f (Nat.repeat f j (f s)); rw [ih]
    obtain ⟨ρ1, e1, k1, _⟩ := k s p
    have c0 : c s = true := h1 0 (by omega)
    obtain ⟨p', h3⟩ := k1 c0
    obtain ⟨o', e4, l4⟩ := ev_while E P c f k m n (f s) p' (by rw [← sh]; exact h0) fun j hj => by rw [← sh]; exact h1 (j + 1) (by omega)
    rw [sh, show n + 1 + 1 + m = (n + 1 + m) + 1 by omega, whileE, e1, c0]
    show ∃ o', (b ρ1).bind _ = _ ∧ _
    rcases h3 with ⟨o1, e5, l5⟩ | ⟨o1, e5, l5⟩
    · cases o1 with
      | nx σ =>
        obtain ⟨_, o2, e6, l6⟩ := while_mono ht hb (show Le (E (f s)) σ from l5) e4
        rw [e5]
        exact ⟨o2, e6, l4.trans l6⟩
      | _ => exact l5.elim
    · cases o1 with
      | ct σ =>
        obtain ⟨_, o2, e6, l6⟩ := while_mono ht hb (show Le (E (f s)) σ from l5) e4
        rw [e5]
        exact ⟨o2, e6, l4.trans l6⟩
      | _ => exact l5.elim
theorem Ev.while {S : Type} {t : ET} [ht : MM t] [hb : MS b] (E : S → Env) (P : S → Prop) (c : S → Bool) (f : S → S) (k : ∀ s, P s → ∃ ρ1, t (E s) = some (c s, ρ1) ∧ (c s = true → P (f s) ∧ (Ev b ρ1 (.nx (E (f s))) ∨ Ev b ρ1 (.ct (E (f s))))) ∧ (c s = false → Le (E s) ρ1))
    {n : Nat} {s : S} (hn : n ≤ 1000000) (p : P s) (h0 : c (Nat.repeat f n s) = false) (h1 : ∀ j, j < n → c (Nat.repeat f j s) = true) : Ev (sWhile t b) (E s) (.nx (E (Nat.repeat f n s))) := by
  have hf : fuel = n + 1 + (fuel - n - 1) := by
    unfold fuel
    omega
  unfold Ev sWhile
  rw [hf]
  exact ev_while E P c f k _ n s p h0 h1
/-- the end of a def -/
theorem ev_fn {N : List Str} {g : ES} {ds : List D} (he : env0 N ds = ρ) (h : Ev g ρ (.rt d ρ1)) : fnP N g ds = some d := by
  obtain ⟨o1, e1, l1⟩ := h
  cases o1 with
  | rt d' σ =>
    obtain ⟨rfl, _⟩ : d = d' ∧ _ := l1
    exact fn_rt he e1
  | _ => exact l1.elim
theorem ev_fnN {N : List Str} {g : ES} {ds : List D} (he : env0 N ds = ρ) (h : Ev g ρ (.nx ρ1)) : fnP N g ds = some .non := by
  obtain ⟨o1, e1, l1⟩ := h
  cases o1 with
  | nx σ =>
    unfold fnP
    rw [he, e1]
    rfl
  | _ => exact l1.elim
theorem ev_fnR {N : List Str} {g : ES} {d0 d' : D} {ds : List D} (he : envR N d0 ds = ρ) (h : Ev g ρ (.rt d ρ1)) (h0 : ρ1[0]? = some (some (.pin, d'))) : fnR N g d0 ds = some (d, d') := by
  obtain ⟨o1, e1, l1⟩ := h
  cases o1 with
  | rt d2 σ =>
    obtain ⟨rfl, l1⟩ : d = d2 ∧ Le ρ1 σ := l1
    unfold fnR
    rw [he, e1]
    show (match σ[0]? with | some (some (Fl.pin, d')) => some (d, d') | _ => none) = _
    rw [l1.get h0]
  | _ => exact l1.elim
end
end DL
namespace DL
open PySem PySem.Spec L2
@[simp] abbrev ow (d : D) : Slt := some (.own, d)
@[simp] abbrev bo (d : D) : Slt := some (.bor, d)
@[simp] abbrev pn (d : D) : Slt := some (.pin, d)
section
variable {b : ES}
/-- a loop whose states are only known to be so -/
theorem ev_ex {α S : Type} {gx : GX} [hg : MG gx] [hb : MS b] (g : α → D) (E : S → Env) (P : Nat → S → Prop) : ∀ (l : List α) (i : Nat) (s : S), P i s →
    (∀ (j : Nat) (a : α) (s : S), l[j]? = some a → P (i + j) s → pure (g a) = true ∧ ∃ ρ1 s', gx (g a) (E s) = some ρ1 ∧ P (i + j + 1) s' ∧ (Ev b ρ1 (.nx (E s')) ∨ Ev b ρ1 (.ct (E s')))) → ∃ s', P (i + l.length) s' ∧ EvF gx b (l.map g) (E s) (.nx (E s'))
  | [], i, s, p, _ => ⟨s, p, .nx (E s), rfl, Le.refl _⟩
  | a :: l, i, s, p, k => by
    obtain ⟨pa, ρ1, s1, h1, p1, h2⟩ := k 0 a s rfl p
    obtain ⟨s', p', f⟩ := ev_ex g E P l (i + 1) s1 p1 fun j c s e q => by
      have := k (j + 1) c s e (by rw [show i + (j + 1) = i + 1 + j by omega]; exact q)
      rw [show i + (j + 1) + 1 = i + 1 + j + 1 by omega] at this
      exact this
    refine ⟨s', by rw [List.length_cons, show i + (l.length + 1) = i + 1 + l.length by omega]; exact p', ?_⟩
    unfold EvF
    rw [List.map_cons, forE, if_pos pa, h1, Option.bind_some]
    rcases h2 with ⟨o1, e1, l1⟩ | ⟨o1, e1, l1⟩
    · cases o1 with
      | nx σ => rw [e1]; exact f.le (ρ' := σ) l1
      | _ => exact l1.elim
    · cases o1 with
      | ct σ => rw [e1]; exact f.le (ρ' := σ) l1
      | _ => exact l1.elim
theorem ev_ex0 {α S : Type} {gx : GX} [hg : MG gx] [hb : MS b] (g : α → D) (E : S → Env) (P : S → Prop) (l : List α) (s : S) (p : P s)
    (k : ∀ a ∈ l, ∀ s, P s → pure (g a) = true ∧ ∃ ρ1 s', gx (g a) (E s) = some ρ1 ∧ P s' ∧ (Ev b ρ1 (.nx (E s')) ∨ Ev b ρ1 (.ct (E s')))) : ∃ s', P s' ∧ EvF gx b (l.map g) (E s) (.nx (E s')) :=
  ev_ex g E (fun _ s => P s) l 0 s p fun j a s e q => k a (List.mem_of_getElem? e) s q
end
def absI (z : Int) : Int := if z < 0 then -z else z
@[simp] theorem v_absI {z : Int} : absD [.int z] = some (.int (absI z)) := rfl
@[simp] theorem leS_self {s : Slt} : leS s s := .inl rfl
@[simp] theorem leS_none {t : Slt} : leS none t ↔ isPin t = false := ⟨fun h => by
  rcases h with rfl | ⟨_, h⟩
  · rfl
  · exact h, fun h => .inr ⟨rfl, h⟩⟩
@[simp] theorem le_nil : Le [] [] := trivial
@[simp] theorem le_cons {s t : Slt} {ρ ρ' : Env} : Le (s :: ρ) (t :: ρ') ↔ leS s t ∧ Le ρ ρ' := Iff.rfl
@[simp] theorem leO_nx {ρ ρ' : Env} : LeO (.nx ρ) (.nx ρ') ↔ Le ρ ρ' := Iff.rfl
@[simp] theorem leO_bk {ρ ρ' : Env} : LeO (.bk ρ) (.bk ρ') ↔ Le ρ ρ' := Iff.rfl
@[simp] theorem leO_ct {ρ ρ' : Env} : LeO (.ct ρ) (.ct ρ') ↔ Le ρ ρ' := Iff.rfl
@[simp] theorem leO_rt {d d' : D} {ρ ρ' : Env} : LeO (.rt d ρ) (.rt d' ρ') ↔ d = d' ∧ Le ρ ρ' := Iff.rfl
theorem Ev.mk {b : ES} {ρ : Env} {o o' : Out} (h : b ρ = some o') (l : LeO o o') : Ev b ρ o := (Ev.of h).less l
theorem Ev.retP {f : EX} {ρ : Env} {d : D} (h : f ρ = some d) : Ev (sRet (mP f)) ρ (.rt d ρ) := by
  refine Ev.of ?_
  unfold sRet mP
  rw [h]
  rfl
theorem Ev.ret {m : EM} {ρ ρ1 : Env} {d : D} (h : m ρ = some (d, ρ1)) : Ev (sRet m) ρ (.rt d ρ1) := by
  refine Ev.of ?_
  unfold sRet
  rw [h]
  rfl
/-- found or not -/
def fnd (x : Option D) (ρ : Env) : Out := match x with
  | some d => .rt d ρ
  | none => .nx ρ
theorem ev_fnd {α : Type} {b : ES} {gx : GX} [hg : MG gx] [hb : MS b] (g : α → D) (p : α → Option D) (l : List α) (ρ : Env)
    (k : ∀ a ∈ l, pure (g a) = true ∧ ∃ ρ1 ρ2, gx (g a) ρ = some ρ1 ∧ Le ρ ρ2 ∧ Ev b ρ1 (fnd (p a) ρ2)) : EvF gx b (l.map g) ρ (fnd (l.findSome? p) ρ) := by
  have := ev_find (gx := gx) (b := b) g p l ρ fun a ha => by
    obtain ⟨h1, ρ1, ρ2, h3, h4, h5⟩ := k a ha
    refine ⟨h1, ρ1, h3, fun d e => ?_, fun e => .inl ?_⟩
    · rw [e] at h5; exact h5.less ⟨rfl, h4⟩
    · rw [e] at h5; exact h5.less h4
  exact this
end DL
namespace DL
open PySem PySem.Spec L2
/-! ### while, by a measure -/
/-! ### sums of words' parts -/
namespace C
end C
end DL
namespace DL
open PySem PySem.Spec L2
section
variable {f : EX} {m : EM} {lo hi : Option EM}
instance [MX f] : MX (xRev f) := mx_bind' ‹_›
instance : MM (optM none) := ⟨fun {ρ ρ' d ρ1} l z => by
  cases z
  exact ⟨rfl, ρ', rfl, l⟩⟩
instance [hm : MM m] : MM (optM (some m)) := mm_of (mm_k (k := fun d : D => match d with | .int i => some (some i) | _ => none) hm) fun ρ => by
  show ((m ρ).bind _) = _
  cases m ρ with
  | none => rfl
  | some x =>
    obtain ⟨d, ρ1⟩ := x
    cases d <;> rfl
instance [hm : MM m] [hl : MM (optM lo)] [hh : MM (optM hi)] : MM (mCut m lo hi) := ⟨fun {ρ ρ' d ρ1} l z => by
  obtain ⟨x, e1, z⟩ := obind z
  obtain ⟨y, e2, z⟩ := obind z
  obtain ⟨u, e3, z⟩ := obind z
  obtain ⟨w, e4, z⟩ := obind z
  cases z
  obtain ⟨n, ρ2, f1, l1⟩ := hm.mono l e1
  obtain ⟨n2, ρ3, f2, l2⟩ := hl.mono l1 e2
  obtain ⟨n3, ρ4, f3, l3⟩ := hh.mono l2 e3
  refine ⟨n3.trans (n2.trans n), ρ4, ?_, l3⟩
  show (m ρ').bind _ = _
  rw [f1, Option.bind_some, f2, Option.bind_some, f3, Option.bind_some, e4]
  rfl⟩
end
section
variable {s : Slt} {ρ : Env}
@[simp] theorem e_rev {f : EX} : xRev f (s :: ρ) = (f (s :: ρ)).bind revD := (rfl)
@[simp] theorem e_mcut {m : EM} {lo hi : Option EM} : mCut m lo hi (s :: ρ) = (m (s :: ρ)).bind fun x => (optM lo x.2).bind fun l => (optM hi l.2).bind fun h => (cutTD x.1 l.1 h.1).bind fun d => some (d, h.2) := (rfl)
@[simp] theorem e_optM0 : optM none (s :: ρ) = some (none, s :: ρ) := (rfl)
@[simp] theorem e_optM1 {m : EM} : optM (some m) (s :: ρ) = (m (s :: ρ)).bind fun x => match x.1 with | .int i => some (some i, x.2) | _ => none := (rfl)
end
theorem v_shl {a : Int} {n : Nat} (h : n ≤ 1000) (ha : a.natAbs < 1000000000) : oShl (.int a) (.int (n : Int)) = some (.int (a * 2 ^ n)) := by
  unfold oShl o2
  have c : (decide (0 ≤ (n : Int)) && decide ((n : Int) ≤ 1000000) && decide (a.natAbs < 2 ^ 64)) = true := by
    simp only [Bool.and_eq_true, decide_eq_true_eq]
    omega
  simp only [c, if_true, Int.toNat_natCast]
theorem v_shr {a : Int} {n : Nat} : oShr (.int a) (.int (n : Int)) = some (.int (a / 2 ^ n)) := by
  unfold oShr o2
  have c : decide (0 ≤ (n : Int)) = true := by
    simp only [decide_eq_true_eq]
    omega
  simp only [c, if_true, Int.toNat_natCast]
theorem rng1n (n : Nat) : rng 1 ((n : Int) + 1) = (List.range n).map fun t : Nat => D.int ((t + 1 : Nat) : Int) := by
  rw [rng_range, show ((n : Int) + 1 - 1).toNat = n by omega]
  exact List.map_congr_left fun t _ => by rw [show ((t + 1 : Nat) : Int) = 1 + (t : Int) by omega]
end DL
namespace DL
open PySem PySem.Spec L2
@[simp] theorem v_isB {a b : Bool} : oIsB (.bl a) (.bl b) = some (.bl (decide (a = b))) := rfl
@[simp] theorem v_notB {a b : Bool} : oNotB (.bl a) (.bl b) = some (.bl (!decide (a = b))) := rfl
/-! ### balanced words: parts, backward, turned over, one letter more -/
variable {w : List Int}
def cw (w : List Int) : List Int := w.map fun x => 1 - x
end DL
namespace DL
open PySem PySem.Spec L2
/-! dicts from cells to any data, on the plain side -/
section
variable {α : Type}
def mapD (g : α → D) (m : List (Cell × α)) : D := .dT (m.map fun p => keyC p.1) (m.map fun p => g p.2)
def akeys (m : List (Cell × α)) : List Cell := m.map (·.1)
def aset (m : List (Cell × α)) (c : Cell) (v : α) : List (Cell × α) := if c ∈ akeys m then m.map fun p => if p.1 = c then (p.1, v) else p else m ++ [(c, v)]
def aget : List (Cell × α) → Cell → Option α
  | [], _ => none
  | p :: m, c => if p.1 = c then some p.2 else aget m c
variable {g : α → D}
end
end DL
namespace DL
open PySem PySem.Spec L2
instance {f : EX} [hf : MX f] : MX (xFrz f) := mx_bind' hf
@[simp] theorem e_frz {f : EX} {s : Slt} {ρ : Env} : xFrz f (s :: ρ) = (f (s :: ρ)).bind frzD := (rfl)
@[simp] theorem frz_lst {xs : List D} : frzD (.lst xs) = if pures xs = true then some (.frz xs) else none := (rfl)
/-- a loop that always goes on, the turn's number told -/
theorem ev_foldI {α S : Type} {gx : GX} {b : ES} [hg : MG gx] [hb : MS b] (g : α → D) (E : S → Env) (f : S → α → S) (Q : Nat → S → Prop) (l : List α) (s : S) (q : Q 0 s)
    (k : ∀ (j : Nat) (a : α) (t : S), l[j]? = some a → Q j t → pure (g a) = true ∧ Q (j + 1) (f t a) ∧ ∃ ρ1, gx (g a) (E t) = some ρ1 ∧ (Ev b ρ1 (.nx (E (f t a))) ∨ Ev b ρ1 (.ct (E (f t a))))) : EvF gx b (l.map g) (E s) (.nx (E (l.foldl f s))) := by
  obtain ⟨s', ⟨_, e⟩, h⟩ := ev_ex (gx := gx) (b := b) g E (fun j t => Q j t ∧ t = (l.take j).foldl f s) l 0 s ⟨q, by simp⟩ fun j a t ej ⟨qj, et⟩ => by
    rw [Nat.zero_add] at qj et
    obtain ⟨h1, h2, ρ1, h3, h4⟩ := k j a t ej qj
    rw [Nat.zero_add]
    refine ⟨h1, ρ1, f t a, h3, ⟨h2, ?_⟩, h4⟩
    rw [List.take_add_one, ej, List.foldl_append, ← et]
    rfl
  rw [Nat.zero_add, List.take_length] at e
  rw [e] at h
  exact h
theorem foldI_keep {α S : Type} (f : S → α → S) (Q : Nat → S → Prop) (l : List α) (s : S) (q : Q 0 s) (k : ∀ (j : Nat) (a : α) (t : S), l[j]? = some a → Q j t → Q (j + 1) (f t a)) : Q l.length (l.foldl f s) := by
  have : ∀ (m : List α) (i : Nat) (t : S), Q i t → (∀ j a, m[j]? = some a → l[i + j]? = some a) → Q (i + m.length) (m.foldl f t) := by
    intro m
    induction m with
    | nil => intro i t h _; exact h
    | cons a m ih =>
      intro i t h hm
      rw [List.foldl_cons, List.length_cons, show i + (m.length + 1) = (i + 1) + m.length by omega]
      refine ih (i + 1) _ (k i a t (by have := hm 0 a rfl; rwa [Nat.add_zero] at this) h) fun j c hc => ?_
      have := hm (j + 1) c hc
      rwa [show i + (j + 1) = i + 1 + j by omega] at this
  have := this l 0 s q fun j a h => by rwa [Nat.zero_add]
  rwa [Nat.zero_add] at this
end DL
namespace DL
open PySem PySem.Spec L2
theorem getElem?_lt {α : Type} {l : List α} {j : Nat} {a : α} (h : l[j]? = some a) : j < l.length := (List.getElem?_eq_some_iff.mp h).1
end DL
namespace DL
open PySem PySem.Spec L2
/-! ### reversed -/
instance {f : EX} [hf : MX f] : MX (xRvI f) := ⟨fun {ρ ρ' d} l e => by
  obtain ⟨xs, e1, e2⟩ := Option.map_eq_some_iff.mp e
  obtain ⟨y, e3, e4⟩ := obind e1
  show ((f ρ').bind itemsOf).map List.reverse = _
  rw [hf.mono l e3, Option.bind_some, e4]
  rw [← e2]
  rfl⟩
instance {f g : EX} [hf : MX f] [hg : MX g] : MX (xRvR2 f g) := mx_two hf hg
@[simp] theorem e_rvI {f : EX} {s : Slt} {ρ : Env} : xRvI f (s :: ρ) = ((f (s :: ρ)).bind itemsOf).map List.reverse := (rfl)
end DL
namespace DL
open PySem PySem.Spec L2
/-! ### cells set one after another in a table -/
def setF (val : List (Cell × Int) → Cell → Int) (m : List (Cell × Int)) (c : Cell) : List (Cell × Int) := aset m c (val m c)
def gtc (a b : Cell) : Prop := ltc b a
/-! ### two scans -/
def adC (c d : Cell) : Cell := (c.1 + d.1, c.2 + d.2)
def sbC (c d : Cell) : Cell := (c.1 - d.1, c.2 - d.2)
def val1 (st : List Cell) (m : List (Cell × Int)) (c : Cell) : Int := minI (st.map fun d => (aget m (sbC c d)).getD 0) + 1
def val2 (st cs : List Cell) (m : List (Cell × Int)) (c : Cell) : Int := minI ((aget m c).getD 0 :: st.map fun d => if adC c d ∈ cs then (aget m (adC c d)).getD 0 + 1 else 1)
def scan1 (st cs : List Cell) : List (Cell × Int) := cs.foldl (setF (val1 st)) []
def scan2 (st cs : List Cell) : List (Cell × Int) := cs.reverse.foldl (setF (val2 st cs)) (scan1 st cs)
def f1 (st cs : List Cell) (c : Cell) : Int := (aget (scan1 st cs) c).getD 0
def f2 (st cs : List Cell) (c : Cell) : Int := (aget (scan2 st cs) c).getD 0
section
variable {st cs : List Cell} (p : cs.Pairwise ltc)
include p
end
/-! ### distances -/
def ab (a : Int) : Int := if a < 0 then -a else a
def farI (k : Nat) (a b : Cell) : Int :=
  if k = 0 then ab (a.1 - b.1) + ab (a.2 - b.2) else if k = 1 then (if ab (a.2 - b.2) > ab (a.1 - b.1) then ab (a.2 - b.2) else ab (a.1 - b.1)) else ab (a.1 - b.1) * ab (a.1 - b.1) + ab (a.2 - b.2) * ab (a.2 - b.2)
/-- the steps back of each scan -/
def stK (k : Nat) : List Cell := if k = 0 then [(1, 0), (0, 1)] else [(1, 1), (1, 0), (1, -1), (0, 1)]
section
variable {k : Nat} {cs : List Cell} (p : cs.Pairwise ltc)
include p
omit p in
end
end DL
namespace DL
open PySem PySem.Spec L2
/-! ### up and down a column -/
abbrev up1 : List Cell := [(1, 0)]
section
variable {cs : List Cell} (p : cs.Pairwise ltc)
include p
end
/-- squares of distances: the least over the columns of the wider box -/
def cols (cs : List Cell) : List Int := (List.range (right cs + 1 - (left cs - 1)).toNat).map fun i : Nat => left cs - 1 + (i : Int)
def sqs (cs : List Cell) (c : Cell) : List Int := (cols cs).map fun q => f2 up1 cs (c.1, q) ^ 2 + (c.2 - q) ^ 2
def mapV (k : Nat) (cs : List Cell) (c : Cell) : Int := if k = 2 then minI (sqs cs c) else f2 (stK k) cs c
section
variable {cs : List Cell} (p : cs.Pairwise ltc)
include p
omit p in
omit p in
end
end DL
namespace DL
open PySem PySem.Spec L2
namespace C
def c_METRICS : D := (.ctp [(.str "city"), (.str "chess"), (.str "square")])
abbrev N_need_metric : List Str := ["metric"]
def s_need_metric : ES := (sIf (tP' (yOr (yNot (xBool (xIsi ["str"] (xVar 0)))) (xBool (xOp oNin (xVar 0) (xC c_METRICS))))) sNever sNext)
def F_need_metric : List D → Option D := fnP N_need_metric s_need_metric
abbrev N_far : List Str := ["one", "other", "metric", "down", "right"]
def s_far : ES := (sSeq (sPar 3 4 (msCons (mP (xCall absD (xsCons (xOp oSub (xOp ixD (xVar 0) (xC (.int 0))) (xOp ixD (xVar 1) (xC (.int 0)))) xsNil))) (msCons (mP (xCall absD (xsCons (xOp oSub (xOp ixD (xVar 0) (xC (.int 1))) (xOp ixD (xVar 1) (xC (.int 1)))) xsNil))) msNil)))
  (sSeq (sIf (tP' (xBool (xOp oEq (xVar 2) (xC (.str "city"))))) (sRet (mP (xOp oAdd (xVar 3) (xVar 4)))) sNext)
  (sRet (mP (xIf (xBool (xOp oEq (xVar 2) (xC (.str "chess")))) (xCall max2D (xsCons (xVar 3) (xsCons (xVar 4) xsNil))) (xOp oAdd (xOp oMul (xVar 3) (xVar 3)) (xOp oMul (xVar 4) (xVar 4))))))))
def F_far : List D → Option D := fnP N_far s_far
abbrev N_between : List Str := ["one", "other", "metric"]
def s_between : ES := (sSeq (sDrop (mP (xCall F_need_cell (xsCons (xVar 0) xsNil))))
  (sSeq (sDrop (mP (xCall F_need_cell (xsCons (xVar 1) xsNil))))
  (sSeq (sDrop (mP (xCall F_need_metric (xsCons (xVar 2) xsNil))))
  (sRet (mP (xCall F_far (xsCons (xVar 0) (xsCons (xVar 1) (xsCons (xVar 2) xsNil)))))))))
def F_between : List D → Option D := fnP N_between s_between
abbrev N_scanned : List Str := ["ink", "steps", "cells", "found", "cell", "some", "down", "right", "other"]
def s_scanned : ES := (sSeq (sAsg (mP (xDict [4] (xIt (xVar 0)) (putB 4) yYes (xPure (xVar 4)) (xC (.bl true)))) (put 2))
  (sSeq (sAsg (mP (xC (.dT [] []))) (put 3))
  (sSeq (sFor (iP (xIt (xPure (xVar 0)))) (put 4)
  (sSeq (sAsg (mP (xComp [6, 7] (xIt (xVar 1)) (gTupD 2 (gsCons (putB 6) (gsCons (putB 7) gsNil))) yYes (xGet2 (xVar 3) (xTup (xsCons (xOp oSub (xOp ixD (xVar 4) (xC (.int 0))) (xVar 6)) (xsCons (xOp oSub (xOp ixD (xVar 4) (xC (.int 1))) (xVar 7)) xsNil))) (xC (.int 0))))) (put 5))
  (sAsg (mP (xOp oAdd (xCall minLD (xsCons (xVar 5) xsNil)) (xC (.int 1)))) (gSub' 3 (xVar 4) setT))))
  (sSeq (sFor (iP (xRvI (xPure (xVar 0)))) (put 4)
  (sSeq (sAsg (mP (xComp [6, 7] (xIt (xVar 1)) (gTupD 2 (gsCons (putB 6) (gsCons (putB 7) gsNil))) yYes (xTup (xsCons (xOp oAdd (xOp ixD (xVar 4) (xC (.int 0))) (xVar 6)) (xsCons (xOp oAdd (xOp ixD (xVar 4) (xC (.int 1))) (xVar 7)) xsNil))))) (put 5))
  (sAsg (mP (xCall minLD (xsCons (xLst (xsCons (xPure (xOp ixD (xVar 3) (xVar 4))) (xsStar (xComp [8] (xIt (xVar 5)) (putB 8) yYes (xIf (xBool (xOp oIn (xVar 8) (xVar 2))) (xOp oAdd (xOp ixD (xVar 3) (xVar 8)) (xC (.int 1))) (xC (.int 1)))) xsNil))) xsNil))) (gSub' 3 (xVar 4) setT))))
  (sRet (mMove 3))))))
def F_scanned : List D → Option D := fnP N_scanned s_scanned
abbrev N_square_map : List Str := ["ink", "top", "left", "bottom", "right", "cells", "upright", "column", "row", "found", "some", "cell", "other"]
def s_square_map : ES := (sSeq (sAsg (mP (xCall F_box_in (xsCons (xVar 0) xsNil))) (gTupD 4 (gsCons (put 1) (gsCons (put 2) (gsCons (put 3) (gsCons (put 4) gsNil))))))
  (sSeq (sAsg (mP (xDict [11] (xIt (xVar 0)) (putB 11) yYes (xPure (xVar 11)) (xC (.bl true)))) (put 5))
  (sSeq (sAsg (mP (xC (.dT [] []))) (put 6))
  (sSeq (sFor (iP (xRng2 (xsCons (xOp oSub (xVar 2) (xC (.int 1))) (xsCons (xOp oAdd (xVar 4) (xC (.int 1))) xsNil)))) (put 7)
  (sSeq (sFor (iP (xRng2 (xsCons (xOp oSub (xVar 1) (xC (.int 1))) (xsCons (xOp oAdd (xVar 3) (xC (.int 1))) xsNil)))) (put 8)
  (sAsg (mP (xIf (xBool (xOp oIn (xTup (xsCons (xPure (xVar 8)) (xsCons (xPure (xVar 7)) xsNil))) (xVar 5))) (xOp oAdd (xGet2 (xVar 6) (xTup (xsCons (xOp oSub (xVar 8) (xC (.int 1))) (xsCons (xPure (xVar 7)) xsNil))) (xC (.int 0))) (xC (.int 1))) (xC (.int 0)))) (gSub' 6 (xTup (xsCons (xPure (xVar 8)) (xsCons (xPure (xVar 7)) xsNil))) setT)))
  (sFor (iP (xRvR2 (xOp oSub (xVar 1) (xC (.int 1))) (xOp oAdd (xVar 3) (xC (.int 1))))) (put 8)
  (sIf (tP' (xBool (xOp oIn (xTup (xsCons (xPure (xVar 8)) (xsCons (xPure (xVar 7)) xsNil))) (xVar 5)))) (sAsg (mP (xCall min2D (xsCons (xOp ixD (xVar 6) (xTup (xsCons (xPure (xVar 8)) (xsCons (xPure (xVar 7)) xsNil)))) (xsCons (xOp oAdd (xOp ixD (xVar 6) (xTup (xsCons (xOp oAdd (xVar 8) (xC (.int 1))) (xsCons (xPure (xVar 7)) xsNil)))) (xC (.int 1))) xsNil)))) (gSub' 6 (xTup (xsCons (xPure (xVar 8)) (xsCons (xPure (xVar 7)) xsNil))) setT)) sNext))))
  (sSeq (sAsg (mP (xC (.dT [] []))) (put 9))
  (sSeq (sFor (iP (xIt (xPure (xVar 0)))) (gTupD 2 (gsCons (put 8) (gsCons (put 7) gsNil)))
  (sSeq (sAsg (mP (xComp [12] (xRng2 (xsCons (xOp oSub (xVar 2) (xC (.int 1))) (xsCons (xOp oAdd (xVar 4) (xC (.int 1))) xsNil))) (putB 12) yYes (xOp oAdd (xOp oPow (xOp ixD (xVar 6) (xTup (xsCons (xPure (xVar 8)) (xsCons (xPure (xVar 12)) xsNil)))) (xC (.int 2))) (xOp oPow (xOp oSub (xVar 7) (xVar 12)) (xC (.int 2)))))) (put 10))
  (sAsg (mP (xCall minLD (xsCons (xVar 10) xsNil))) (gSub' 9 (xTup (xsCons (xPure (xVar 8)) (xsCons (xPure (xVar 7)) xsNil))) setT))))
  (sRet (mMove 9))))))))
def F_square_map : List D → Option D := fnP N_square_map s_square_map
abbrev N_map_in : List Str := ["ink", "metric"]
def s_map_in : ES := (sSeq (sIf (tP' (xBool (xOp oEq (xVar 0) (xTup xsNil)))) (sRet (mP (xC (.dT [] [])))) sNext)
  (sSeq (sIf (tP' (xBool (xOp oEq (xVar 1) (xC (.str "square"))))) (sRet (mP (xCall F_square_map (xsCons (xVar 0) xsNil)))) sNext)
  (sRet (mP (xCall F_scanned (xsCons (xVar 0) (xsCons (xIf (xBool (xOp oEq (xVar 1) (xC (.str "city")))) (xTup (xsCons (xTup (xsCons (xC (.int 1)) (xsCons (xC (.int 0)) xsNil))) (xsCons (xTup (xsCons (xC (.int 0)) (xsCons (xC (.int 1)) xsNil))) xsNil))) (xTup (xsCons (xTup (xsCons (xC (.int 1)) (xsCons (xC (.int 1)) xsNil))) (xsCons (xTup (xsCons (xC (.int 1)) (xsCons (xC (.int 0)) xsNil))) (xsCons (xTup (xsCons (xC (.int 1)) (xsCons (xNeg (xC (.int 1))) xsNil))) (xsCons (xTup (xsCons (xC (.int 0)) (xsCons (xC (.int 1)) xsNil))) xsNil)))))) xsNil)))))))
def F_map_in : List D → Option D := fnP N_map_in s_map_in
abbrev N_distance_map : List Str := ["ink", "metric", "found", "cell"]
def s_distance_map : ES := (sSeq (sDrop (mP (xCall F_need_ink (xsCons (xVar 0) xsNil))))
  (sSeq (sDrop (mP (xCall F_need_metric (xsCons (xVar 1) xsNil))))
  (sSeq (sAsg (mP (xCall F_map_in (xsCons (xVar 0) (xsCons (xVar 1) xsNil)))) (put 2))
  (sRet (mP (xCall tupleD (xsCons (xComp [3] (xIt (xVar 0)) (putB 3) yYes (xPure (xOp ixD (xVar 2) (xVar 3)))) xsNil)))))))
def F_distance_map : List D → Option D := fnP N_distance_map s_distance_map
def P_scanned1 : ES := (sAsg (mP (xDict [4] (xIt (xVar 0)) (putB 4) yYes (xPure (xVar 4)) (xC (.bl true)))) (put 2))
instance : MS P_scanned1 := by unfold P_scanned1; infer_instance
def P_scanned3b1 : ES := (sAsg (mP (xComp [6, 7] (xIt (xVar 1)) (gTupD 2 (gsCons (putB 6) (gsCons (putB 7) gsNil))) yYes (xGet2 (xVar 3) (xTup (xsCons (xOp oSub (xOp ixD (xVar 4) (xC (.int 0))) (xVar 6)) (xsCons (xOp oSub (xOp ixD (xVar 4) (xC (.int 1))) (xVar 7)) xsNil))) (xC (.int 0))))) (put 5))
instance : MS P_scanned3b1 := by unfold P_scanned3b1; infer_instance
def P_scanned3b2 : ES := (sAsg (mP (xOp oAdd (xCall minLD (xsCons (xVar 5) xsNil)) (xC (.int 1)))) (gSub' 3 (xVar 4) setT))
instance : MS P_scanned3b2 := by unfold P_scanned3b2; infer_instance
def P_scanned3b : ES := (sSeq P_scanned3b1 P_scanned3b2)
instance : MS P_scanned3b := by unfold P_scanned3b; infer_instance
def P_scanned3 : ES := (sFor (iP (xIt (xPure (xVar 0)))) (put 4) P_scanned3b)
instance : MS P_scanned3 := by unfold P_scanned3; infer_instance
def P_scanned4b1 : ES := (sAsg (mP (xComp [6, 7] (xIt (xVar 1)) (gTupD 2 (gsCons (putB 6) (gsCons (putB 7) gsNil))) yYes (xTup (xsCons (xOp oAdd (xOp ixD (xVar 4) (xC (.int 0))) (xVar 6)) (xsCons (xOp oAdd (xOp ixD (xVar 4) (xC (.int 1))) (xVar 7)) xsNil))))) (put 5))
instance : MS P_scanned4b1 := by unfold P_scanned4b1; infer_instance
def P_scanned4b2 : ES := (sAsg (mP (xCall minLD (xsCons (xLst (xsCons (xPure (xOp ixD (xVar 3) (xVar 4))) (xsStar (xComp [8] (xIt (xVar 5)) (putB 8) yYes (xIf (xBool (xOp oIn (xVar 8) (xVar 2))) (xOp oAdd (xOp ixD (xVar 3) (xVar 8)) (xC (.int 1))) (xC (.int 1)))) xsNil))) xsNil))) (gSub' 3 (xVar 4) setT))
instance : MS P_scanned4b2 := by unfold P_scanned4b2; infer_instance
def P_scanned4b : ES := (sSeq P_scanned4b1 P_scanned4b2)
instance : MS P_scanned4b := by unfold P_scanned4b; infer_instance
def P_scanned4 : ES := (sFor (iP (xRvI (xPure (xVar 0)))) (put 4) P_scanned4b)
instance : MS P_scanned4 := by unfold P_scanned4; infer_instance
def P_scanned : ES := (sSeq P_scanned1 (sSeq (sAsg (mP (xC (.dT [] []))) (put 3)) (sSeq P_scanned3 (sSeq P_scanned4 (sRet (mMove 3))))))
instance : MS P_scanned := by unfold P_scanned; infer_instance
/-! ### the three ways to measure -/
def mt : Nat → Str
  | 0 => "city"
  | 1 => "chess"
  | _ => "square"
def In60 (c : Cell) : Prop := (-60 ≤ c.1 ∧ c.1 ≤ 60) ∧ (-60 ≤ c.2 ∧ c.2 ≤ 60)
/-! ### the scans -/
section
variable {st cs : List Cell} {m : List (Cell × Int)} {c : Cell}
def stD (st : List Cell) : D := .tup (st.map cellD)
abbrev scE (st cs : List Cell) (m : List (Cell × Int)) : DL.Env := [ow (inkD cs), ow (stD st), ow (fd cs), ow (mapD D.int m), none, none, none, none, none]
end
end C
end DL
namespace DL
open PySem PySem.Spec L2
/-! ### columns, row by row, and back -/
def valA (cs : List Cell) (m : List (Cell × Int)) (c : Cell) : Int := if c ∈ cs then (aget m (c.1 - 1, c.2)).getD 0 + 1 else 0
def valB (m : List (Cell × Int)) (c : Cell) : Int := if (aget m (c.1 + 1, c.2)).getD 0 + 1 < (aget m c).getD 0 then (aget m (c.1 + 1, c.2)).getD 0 + 1 else (aget m c).getD 0
def rows (cs : List Cell) : List Int := (List.range (bot cs + 1 - (top cs - 1)).toNat).map fun i : Nat => top cs - 1 + (i : Int)
def colC (cs : List Cell) (q : Int) : List Cell := (rows cs).map fun r => (r, q)
def colA (cs : List Cell) (m : List (Cell × Int)) (q : Int) : List (Cell × Int) := (colC cs q).foldl (setF (valA cs)) m
def stB (cs : List Cell) (m : List (Cell × Int)) (c : Cell) : List (Cell × Int) := if c ∈ cs then setF valB m c else m
def colB (cs : List Cell) (m : List (Cell × Int)) (q : Int) : List (Cell × Int) := (colC cs q).reverse.foldl (stB cs) m
def colF (cs : List Cell) (m : List (Cell × Int)) (q : Int) : List (Cell × Int) := colB cs (colA cs m q) q
section
variable {cs : List Cell} (p : cs.Pairwise ltc)
include p
omit p in
omit p in
end
end DL
namespace DL
open PySem PySem.Spec L2
namespace C
def P_square_map1 : ES := (sAsg (mP (xCall F_box_in (xsCons (xVar 0) xsNil))) (gTupD 4 (gsCons (put 1) (gsCons (put 2) (gsCons (put 3) (gsCons (put 4) gsNil))))))
instance : MS P_square_map1 := by unfold P_square_map1; infer_instance
def P_square_map2 : ES := (sAsg (mP (xDict [11] (xIt (xVar 0)) (putB 11) yYes (xPure (xVar 11)) (xC (.bl true)))) (put 5))
instance : MS P_square_map2 := by unfold P_square_map2; infer_instance
def P_square_map4b1b : ES := (sAsg (mP (xIf (xBool (xOp oIn (xTup (xsCons (xPure (xVar 8)) (xsCons (xPure (xVar 7)) xsNil))) (xVar 5))) (xOp oAdd (xGet2 (xVar 6) (xTup (xsCons (xOp oSub (xVar 8) (xC (.int 1))) (xsCons (xPure (xVar 7)) xsNil))) (xC (.int 0))) (xC (.int 1))) (xC (.int 0)))) (gSub' 6 (xTup (xsCons (xPure (xVar 8)) (xsCons (xPure (xVar 7)) xsNil))) setT))
instance : MS P_square_map4b1b := by unfold P_square_map4b1b; infer_instance
def P_square_map4b1 : ES := (sFor (iP (xRng2 (xsCons (xOp oSub (xVar 1) (xC (.int 1))) (xsCons (xOp oAdd (xVar 3) (xC (.int 1))) xsNil)))) (put 8) P_square_map4b1b)
instance : MS P_square_map4b1 := by unfold P_square_map4b1; infer_instance
def P_square_map4b2bt : ES := (sAsg (mP (xCall min2D (xsCons (xOp ixD (xVar 6) (xTup (xsCons (xPure (xVar 8)) (xsCons (xPure (xVar 7)) xsNil)))) (xsCons (xOp oAdd (xOp ixD (xVar 6) (xTup (xsCons (xOp oAdd (xVar 8) (xC (.int 1))) (xsCons (xPure (xVar 7)) xsNil)))) (xC (.int 1))) xsNil)))) (gSub' 6 (xTup (xsCons (xPure (xVar 8)) (xsCons (xPure (xVar 7)) xsNil))) setT))
instance : MS P_square_map4b2bt := by unfold P_square_map4b2bt; infer_instance
def P_square_map4b2b : ES := (sIf (tP' (xBool (xOp oIn (xTup (xsCons (xPure (xVar 8)) (xsCons (xPure (xVar 7)) xsNil))) (xVar 5)))) P_square_map4b2bt sNext)
instance : MS P_square_map4b2b := by unfold P_square_map4b2b; infer_instance
def P_square_map4b2 : ES := (sFor (iP (xRvR2 (xOp oSub (xVar 1) (xC (.int 1))) (xOp oAdd (xVar 3) (xC (.int 1))))) (put 8) P_square_map4b2b)
instance : MS P_square_map4b2 := by unfold P_square_map4b2; infer_instance
def P_square_map4b : ES := (sSeq P_square_map4b1 P_square_map4b2)
instance : MS P_square_map4b := by unfold P_square_map4b; infer_instance
def P_square_map4 : ES := (sFor (iP (xRng2 (xsCons (xOp oSub (xVar 2) (xC (.int 1))) (xsCons (xOp oAdd (xVar 4) (xC (.int 1))) xsNil)))) (put 7) P_square_map4b)
instance : MS P_square_map4 := by unfold P_square_map4; infer_instance
def P_square_map6b1 : ES := (sAsg (mP (xComp [12] (xRng2 (xsCons (xOp oSub (xVar 2) (xC (.int 1))) (xsCons (xOp oAdd (xVar 4) (xC (.int 1))) xsNil))) (putB 12) yYes (xOp oAdd (xOp oPow (xOp ixD (xVar 6) (xTup (xsCons (xPure (xVar 8)) (xsCons (xPure (xVar 12)) xsNil)))) (xC (.int 2))) (xOp oPow (xOp oSub (xVar 7) (xVar 12)) (xC (.int 2)))))) (put 10))
instance : MS P_square_map6b1 := by unfold P_square_map6b1; infer_instance
def P_square_map6b2 : ES := (sAsg (mP (xCall minLD (xsCons (xVar 10) xsNil))) (gSub' 9 (xTup (xsCons (xPure (xVar 8)) (xsCons (xPure (xVar 7)) xsNil))) setT))
instance : MS P_square_map6b2 := by unfold P_square_map6b2; infer_instance
def P_square_map6b : ES := (sSeq P_square_map6b1 P_square_map6b2)
instance : MS P_square_map6b := by unfold P_square_map6b; infer_instance
def P_square_map6 : ES := (sFor (iP (xIt (xPure (xVar 0)))) (gTupD 2 (gsCons (put 8) (gsCons (put 7) gsNil))) P_square_map6b)
instance : MS P_square_map6 := by unfold P_square_map6; infer_instance
def P_square_map : ES := (sSeq P_square_map1 (sSeq P_square_map2 (sSeq (sAsg (mP (xC (.dT [] []))) (put 6)) (sSeq P_square_map4 (sSeq (sAsg (mP (xC (.dT [] []))) (put 9)) (sSeq P_square_map6 (sRet (mMove 9))))))))
instance : MS P_square_map := by unfold P_square_map; infer_instance
def P_map_in1 : ES := (sIf (tP' (xBool (xOp oEq (xVar 0) (xTup xsNil)))) (sRet (mP (xC (.dT [] [])))) sNext)
instance : MS P_map_in1 := by unfold P_map_in1; infer_instance
def P_map_in2 : ES := (sIf (tP' (xBool (xOp oEq (xVar 1) (xC (.str "square"))))) (sRet (mP (xCall F_square_map (xsCons (xVar 0) xsNil)))) sNext)
instance : MS P_map_in2 := by unfold P_map_in2; infer_instance
def P_map_in3 : ES := (sRet (mP (xCall F_scanned (xsCons (xVar 0) (xsCons (xIf (xBool (xOp oEq (xVar 1) (xC (.str "city")))) (xTup (xsCons (xTup (xsCons (xC (.int 1)) (xsCons (xC (.int 0)) xsNil))) (xsCons (xTup (xsCons (xC (.int 0)) (xsCons (xC (.int 1)) xsNil))) xsNil))) (xTup (xsCons (xTup (xsCons (xC (.int 1)) (xsCons (xC (.int 1)) xsNil))) (xsCons (xTup (xsCons (xC (.int 1)) (xsCons (xC (.int 0)) xsNil))) (xsCons (xTup (xsCons (xC (.int 1)) (xsCons (xNeg (xC (.int 1))) xsNil))) (xsCons (xTup (xsCons (xC (.int 0)) (xsCons (xC (.int 1)) xsNil))) xsNil)))))) xsNil)))))
instance : MS P_map_in3 := by unfold P_map_in3; infer_instance
def P_map_in : ES := (sSeq P_map_in1 (sSeq P_map_in2 P_map_in3))
instance : MS P_map_in := by unfold P_map_in; infer_instance
def P_distance_map1 : ES := (sDrop (mP (xCall F_need_ink (xsCons (xVar 0) xsNil))))
instance : MS P_distance_map1 := by unfold P_distance_map1; infer_instance
def P_distance_map2 : ES := (sDrop (mP (xCall F_need_metric (xsCons (xVar 1) xsNil))))
instance : MS P_distance_map2 := by unfold P_distance_map2; infer_instance
def P_distance_map3 : ES := (sAsg (mP (xCall F_map_in (xsCons (xVar 0) (xsCons (xVar 1) xsNil)))) (put 2))
instance : MS P_distance_map3 := by unfold P_distance_map3; infer_instance
def P_distance_map4 : ES := (sRet (mP (xCall tupleD (xsCons (xComp [3] (xIt (xVar 0)) (putB 3) yYes (xPure (xOp ixD (xVar 2) (xVar 3)))) xsNil))))
instance : MS P_distance_map4 := by unfold P_distance_map4; infer_instance
def P_distance_map : ES := (sSeq P_distance_map1 (sSeq P_distance_map2 (sSeq P_distance_map3 P_distance_map4)))
instance : MS P_distance_map := by unfold P_distance_map; infer_instance
section
variable {cs : List Cell}
abbrev sqE (cs : List Cell) (M : D) (x7 x8 x9 x10 : Slt) : DL.Env := [ow (inkD cs), ow (.int (top cs)), ow (.int (left cs)), ow (.int (bot cs)), ow (.int (right cs)), ow (fd cs), ow M, x7, x8, x9, x10, none, none]
def uprM (cs : List Cell) : List (Cell × Int) := (cols cs).foldl (colF cs) []
def sqM (cs : List Cell) : List (Cell × Int) := cs.foldl (setF fun _ c => minI (sqs cs c)) []
/-- the table of the distances -/
def tabV (k : Nat) (cs : List Cell) : List (Cell × Int) := if cs = [] then [] else if k = 2 then sqM cs else scan2 (stK k) cs
def mapT (k : Nat) (cs : List Cell) : List Int := cs.map (mapV k cs)
def wT (ns : List Int) : D := .tup (ns.map D.int)
end
end C
end DL
namespace DL
open PySem PySem.Spec L2
namespace C
abbrev N_law_far : List Str := ["_law_one", "_law_other", "_law_metric", "_law_down", "_law_right"]
def s_law_far : ES := (sSeq (sPar 3 4 (msCons (mP (xCall absD (xsCons (xOp oSub (xOp ixD (xVar 0) (xC (.int 0))) (xOp ixD (xVar 1) (xC (.int 0)))) xsNil))) (msCons (mP (xCall absD (xsCons (xOp oSub (xOp ixD (xVar 0) (xC (.int 1))) (xOp ixD (xVar 1) (xC (.int 1)))) xsNil))) msNil)))
  (sSeq (sIf (tP' (xBool (xOp oEq (xVar 2) (xC (.str "square"))))) (sRet (mP (xOp oAdd (xOp oMul (xVar 3) (xVar 3)) (xOp oMul (xVar 4) (xVar 4))))) sNext)
  (sRet (mP (xIf (xBool (xOp oEq (xVar 2) (xC (.str "city")))) (xOp oAdd (xVar 3) (xVar 4)) (xCall max2D (xsCons (xVar 3) (xsCons (xVar 4) xsNil))))))))
def F_law_far : List D → Option D := fnP N_law_far s_law_far
abbrev N_law_ground : List Str := ["_law_ink_here", "_law_top", "_law_left", "_law_bottom", "_law_right", "_law_found", "_law_line", "_law_column"]
def s_law_ground : ES := (sSeq (sAsg (mP (xCall F_law_box (xsCons (xVar 0) xsNil))) (gTupD 4 (gsCons (put 1) (gsCons (put 2) (gsCons (put 3) (gsCons (put 4) gsNil))))))
  (sSeq (sAsg (mP (xLst xsNil)) (put 5))
  (sSeq (sFor (iP (xRng2 (xsCons (xOp oSub (xVar 1) (xC (.int 1))) (xsCons (xOp oAdd (xVar 3) (xC (.int 1))) xsNil)))) (put 6)
  (sAsg (mP (xOp oAdd (xVar 5) (xComp [7] (xRng2 (xsCons (xOp oSub (xVar 2) (xC (.int 1))) (xsCons (xOp oAdd (xVar 4) (xC (.int 1))) xsNil))) (putB 7) (xBool (xOp oNin (xTup (xsCons (xPure (xVar 6)) (xsCons (xPure (xVar 7)) xsNil))) (xVar 0))) (xTup (xsCons (xPure (xVar 6)) (xsCons (xPure (xVar 7)) xsNil)))))) (put 5)))
  (sRet (mMove 5)))))
def F_law_ground : List D → Option D := fnP N_law_ground s_law_ground
def P_law_far1 : ES := (sPar 3 4 (msCons (mP (xCall absD (xsCons (xOp oSub (xOp ixD (xVar 0) (xC (.int 0))) (xOp ixD (xVar 1) (xC (.int 0)))) xsNil))) (msCons (mP (xCall absD (xsCons (xOp oSub (xOp ixD (xVar 0) (xC (.int 1))) (xOp ixD (xVar 1) (xC (.int 1)))) xsNil))) msNil)))
instance : MS P_law_far1 := by unfold P_law_far1; infer_instance
def P_law_far2t : ES := (sRet (mP (xOp oAdd (xOp oMul (xVar 3) (xVar 3)) (xOp oMul (xVar 4) (xVar 4)))))
instance : MS P_law_far2t := by unfold P_law_far2t; infer_instance
def P_law_far2 : ES := (sIf (tP' (xBool (xOp oEq (xVar 2) (xC (.str "square"))))) P_law_far2t sNext)
instance : MS P_law_far2 := by unfold P_law_far2; infer_instance
def P_law_far3 : ES := (sRet (mP (xIf (xBool (xOp oEq (xVar 2) (xC (.str "city")))) (xOp oAdd (xVar 3) (xVar 4)) (xCall max2D (xsCons (xVar 3) (xsCons (xVar 4) xsNil))))))
instance : MS P_law_far3 := by unfold P_law_far3; infer_instance
def P_law_far : ES := (sSeq P_law_far1 (sSeq P_law_far2 P_law_far3))
instance : MS P_law_far := by unfold P_law_far; infer_instance
def P_law_ground1 : ES := (sAsg (mP (xCall F_law_box (xsCons (xVar 0) xsNil))) (gTupD 4 (gsCons (put 1) (gsCons (put 2) (gsCons (put 3) (gsCons (put 4) gsNil))))))
instance : MS P_law_ground1 := by unfold P_law_ground1; infer_instance
def P_law_ground3b : ES := (sAsg (mP (xOp oAdd (xVar 5) (xComp [7] (xRng2 (xsCons (xOp oSub (xVar 2) (xC (.int 1))) (xsCons (xOp oAdd (xVar 4) (xC (.int 1))) xsNil))) (putB 7) (xBool (xOp oNin (xTup (xsCons (xPure (xVar 6)) (xsCons (xPure (xVar 7)) xsNil))) (xVar 0))) (xTup (xsCons (xPure (xVar 6)) (xsCons (xPure (xVar 7)) xsNil)))))) (put 5))
instance : MS P_law_ground3b := by unfold P_law_ground3b; infer_instance
def P_law_ground3 : ES := (sFor (iP (xRng2 (xsCons (xOp oSub (xVar 1) (xC (.int 1))) (xsCons (xOp oAdd (xVar 3) (xC (.int 1))) xsNil)))) (put 6) P_law_ground3b)
instance : MS P_law_ground3 := by unfold P_law_ground3; infer_instance
def P_law_ground : ES := (sSeq P_law_ground1 (sSeq (sAsg (mP (xLst xsNil)) (put 5)) (sSeq P_law_ground3 (sRet (mMove 5)))))
instance : MS P_law_ground := by unfold P_law_ground; infer_instance
end C
end DL
namespace DL
open PySem PySem.Spec L2
/-! ### sums and orders -/
/-! ### layers of ways -/
abbrev SW := List (Cell × (Int × Int))
def wOf (f : SW) (c : Cell) : Int := ((aget f c).getD (0, 0)).2
/-- one neighbor met from a cell of the rim -/
def meetC (cs : List Cell) (f : SW) (w : Int) (m : List (Cell × Int)) (b : Cell) : List (Cell × Int) := if b ∈ cs ∧ b ∉ akeys f then aset m b ((aget m b).getD 0 + w) else m
def rimC (nb : Cell → List Cell) (cs : List Cell) (f : SW) (m : List (Cell × Int)) (a : Cell) : List (Cell × Int) := (nb a).foldl (meetC cs f (wOf f a)) m
def moreC (nb : Cell → List Cell) (cs : List Cell) (f : SW) (rim : List Cell) : List (Cell × Int) := rim.foldl (rimC nb cs f) []
def putC (t : Int) (f : SW) (m : List (Cell × Int)) : SW := m.foldl (fun f p => aset f p.1 (t, p.2)) f
def sumW (nb : Cell → List Cell) (f : SW) (rim : List Cell) (c : Cell) : Int := (rim.map fun a => ((nb a).count c : Int) * wOf f a).sum
/-! ### the same layers, whatever the order -/
structure Sim (f g : SW) (r s : List Cell) : Prop where
  get : ∀ c, aget f c = aget g c
  nr : r.Nodup
  ns : s.Nodup
  mem : ∀ c, c ∈ r ↔ c ∈ s
/-- rounds -/
def rnd (nb : Cell → List Cell) (cs : List Cell) (x : SW × List Cell) (t : Nat) : SW × List Cell := (putC ((t : Int) + 1) x.1 (moreC nb cs x.1 x.2), akeys (moreC nb cs x.1 x.2))
def rnds (nb : Cell → List Cell) (cs : List Cell) (a : Cell) (n : Nat) : SW × List Cell := (List.range n).foldl (rnd nb cs) ([(a, (0, 1))], [a])
end DL
namespace DL
open PySem PySem.Spec L2
/-! ### steps within cells -/
/-- n steps from a to b within cs -/
def Rch (nb : Cell → List Cell) (cs : List Cell) : Nat → Cell → Cell → Prop
  | 0, a, b => a = b ∧ a ∈ cs
  | n + 1, a, b => ∃ c, Rch nb cs n a c ∧ b ∈ nb c ∧ b ∈ cs
section
variable {nb : Cell → List Cell} {cs : List Cell}
theorem Rch.mem : ∀ {n : Nat} {a b : Cell}, Rch nb cs n a b → a ∈ cs ∧ b ∈ cs
  | 0, a, b, ⟨e, h⟩ => ⟨h, e ▸ h⟩
  | n + 1, a, b, ⟨c, h, _, hb⟩ => ⟨h.mem.1, hb⟩
theorem Rch.front (sy : ∀ a b, b ∈ nb a → a ∈ nb b) : ∀ {n : Nat} {a b c : Cell}, c ∈ cs → a ∈ nb c → Rch nb cs n a b → Rch nb cs (n + 1) c b
  | 0, a, b, c, hc, h, ⟨e, ha⟩ => ⟨c, ⟨rfl, hc⟩, e ▸ h, e ▸ ha⟩
  | n + 1, a, b, c, hc, h, ⟨d, hd, h1, h2⟩ => ⟨d, Rch.front sy hc h hd, h1, h2⟩
theorem Rch.symm (sy : ∀ a b, b ∈ nb a → a ∈ nb b) : ∀ {n : Nat} {a b : Cell}, Rch nb cs n a b → Rch nb cs n b a
  | 0, a, b, ⟨e, h⟩ => ⟨e.symm, e ▸ h⟩
  | n + 1, a, b, ⟨c, h, h1, h2⟩ => Rch.front sy h2 (sy _ _ h1) (Rch.symm sy h)
/-- the least number of steps -/
def Far (nb : Cell → List Cell) (cs : List Cell) (a b : Cell) (n : Nat) : Prop := Rch nb cs n a b ∧ ∀ m, m < n → ¬ Rch nb cs m a b
theorem Far.uniq {a b : Cell} {n m : Nat} (h : Far nb cs a b n) (k : Far nb cs a b m) : n = m := by
  rcases Nat.lt_trichotomy n m with l | l | l
  · exact absurd h.1 (k.2 n l)
  · exact l
  · exact absurd k.1 (h.2 m l)
theorem Far.symm (sy : ∀ a b, b ∈ nb a → a ∈ nb b) {a b : Cell} {n : Nat} (h : Far nb cs a b n) : Far nb cs b a n := ⟨h.1.symm sy, fun m l k => h.2 m l (k.symm sy)⟩
theorem Far.of {a b : Cell} : ∀ {n : Nat}, Rch nb cs n a b → ∃ m, m ≤ n ∧ Far nb cs a b m := by
  intro n
  induction n using Nat.strongRecOn with
  | ind n ih =>
    intro h
    by_cases q : ∃ m, m < n ∧ Rch nb cs m a b
    · obtain ⟨m, l, k⟩ := q
      obtain ⟨j, lj, f⟩ := ih m l k
      exact ⟨j, by omega, f⟩
    · exact ⟨n, Nat.le_refl _, h, fun m l k => q ⟨m, l, k⟩⟩
/-- what has been found after n rounds -/
structure Lay (nb : Cell → List Cell) (cs : List Cell) (a : Cell) (n : Nat) (x : SW × List Cell) : Prop where
  far : ∀ c v, aget x.1 c = some v → ∃ d : Nat, v.1 = d ∧ d ≤ n ∧ Far nb cs a c d
  all : ∀ c d, d ≤ n → Far nb cs a c d → ∃ v, aget x.1 c = some v
  rim : ∀ c, c ∈ x.2 ↔ Far nb cs a c n
/-- few rounds are enough -/
theorem Far.prev {a c : Cell} {n : Nat} (f : Far nb cs a c (n + 1)) : ∃ b, c ∈ nb b ∧ Far nb cs a b n := by
  obtain ⟨⟨b, h1, h2, h3⟩, least⟩ := f
  exact ⟨b, h2, h1, fun m l k => least (m + 1) (by omega) ⟨b, k, h2, h3⟩⟩
/-- all layers -/
def layF (nb : Cell → List Cell) (cs : List Cell) (a : Cell) : SW := (rnds nb cs a cs.length).1
end
end DL
namespace DL
open PySem PySem.Spec L2
/-! ### loops over a name that is lent for the while -/
section
variable {i : Nat}
theorem ms_lend {src : IM} {gx : GX} {b : ES} [hm : MM src] [hg : MG gx] [hb : MS b] (dead : ∀ ρ : Env, ρ[i]? = some none ∨ ρ[i]? = none → src ρ = none) : MS (sLend i (sFor src gx b)) := ⟨fun {ρ ρ' o} l z => by
  have hs : MS (sFor src gx b) := inferInstance
  have dd : (ρ[i]? = some none ∨ ρ[i]? = none) → sFor src gx b ρ = none := fun h => by
    unfold sFor
    rw [dead ρ h]
    rfl
  unfold sLend at z ⊢
  rcases l.at i with ⟨q, q'⟩ | ⟨s, t, q, q', ls⟩
  · simp only [q] at z
    rw [dd (.inr q)] at z
    cases z
  · rcases ls with rfl | ⟨rfl, _⟩
    · simp only [q] at z
      simp only [q']
      cases s with
      | none =>
        have z : sFor src gx b ρ = some o := z
        rw [dd (.inl q)] at z
        cases z
      | some s =>
        obtain ⟨m, d⟩ := s
        cases m with
        | own =>
          have z : (sFor src gx b (ρ.set i (some (.bor, d)))).bind (backO i ρ) = some o := z
          show _ ∧ ∃ o', (sFor src gx b (ρ'.set i (some (.bor, d)))).bind (backO i ρ') = some o' ∧ _
          obtain ⟨o1, e1, z⟩ := obind z
          obtain ⟨_, o2, e2, l2⟩ := hs.mono (l.set' i (some (.bor, d))) e1
          rw [e2]
          exact backO_le l l2 z fun s e => by rw [q'] at e; cases e; rfl
        | bor => exact hs.mono l z
        | pin => exact hs.mono l z
    · simp only [q] at z
      have z : sFor src gx b ρ = some o := z
      rw [dd (.inl q)] at z
      cases z⟩
instance : MM (srcI i) := ⟨fun {ρ ρ' d ρ1} l z => by
  rcases l.at i with ⟨q, q'⟩ | ⟨s, t, q, q', ls⟩
  · unfold srcI at z; rw [q] at z; cases z
  · rcases ls with rfl | ⟨rfl, _⟩
    · cases s with
      | none => unfold srcI at z; rw [q] at z; cases z
      | some s =>
        obtain ⟨m, x⟩ := s
        cases m with
        | bor =>
          cases x with
          | dT ks xs =>
            unfold srcI at z ⊢
            rw [q] at z
            rw [q']
            replace z : some (pairsT ks xs, ρ) = some (d, ρ1) := z
            cases z
            exact ⟨rfl, ρ', rfl, l⟩
          | _ => unfold srcI at z; rw [q] at z; cases z
        | _ => unfold srcI at z; rw [q] at z; cases z
    · unfold srcI at z; rw [q] at z; cases z⟩
theorem srcI_dead (ρ : Env) (h : ρ[i]? = some none ∨ ρ[i]? = none) : srcI i ρ = none := by
  unfold srcI
  rcases h with h | h <;> rw [h]
instance {gx : GX} {b : ES} [hg : MG gx] [hb : MS b] : MS (sItems i gx b) := ⟨fun {ρ ρ' o} l z => by
  have hs : MS (sLend i (sFor (srcI i) gx b)) := ms_lend srcI_dead
  unfold sItems at z ⊢
  rcases l.at i with ⟨q, q'⟩ | ⟨s, t, q, q', ls⟩
  · simp only [q] at z; cases z
  · rcases ls with rfl | ⟨rfl, _⟩
    · simp only [q] at z
      simp only [q']
      cases s with
      | none => cases z
      | some s =>
        obtain ⟨m, x⟩ := s
        cases m with
        | own => exact hs.mono l z
        | bor => cases z
        | pin => cases z
    · simp only [q] at z; cases z⟩
theorem ev_back {g : ES} {ρ ρe : Env} {d : D} (q : ρ[i]? = some (some (.own, d))) (h : Ev g (ρ.set i (some (.bor, d))) (.nx ρe)) (hl : ρe.length = ρ.length) : Ev (sLend i g) ρ (.nx (backL i 0 ρ ρe)) := by
  obtain ⟨o, e, l⟩ := h
  cases o with
  | nx σ =>
    have l : Le ρe σ := l
    refine ⟨.nx (backL i 0 ρ σ), ?_, backL_le (Le.refl ρ) l fun s z _ => by rw [show i - 0 = i from rfl, q] at z; cases z; rfl⟩
    unfold sLend
    rw [q]
    show (g (ρ.set i (some (.bor, d)))).bind (backO i ρ) = _
    rw [e]
    show (if σ.length = ρ.length then some (Out.nx (backL i 0 ρ σ)) else none) = _
    rw [if_pos (by rw [← l.len, hl])]
  | _ => exact l.elim
theorem Ev.items {gx : GX} {b : ES} {ρ ρe : Env} {ks : List (List Key)} {xs : List D} (q : ρ[i]? = some (some (.own, .dT ks xs))) (h : EvF gx b (pairsT ks xs) (ρ.set i (some (.bor, .dT ks xs))) (.nx ρe)) (hl : ρe.length = ρ.length) : Ev (sItems i gx b) ρ (.nx (backL i 0 ρ ρe)) := by
  have hi := Ok.len_lt q
  have k : Ev (sFor (srcI i) gx b) (ρ.set i (some (.bor, .dT ks xs))) (.nx ρe) := Ev.for (ρ1 := ρ.set i (some (.bor, .dT ks xs))) (by unfold srcI; rw [List.getElem?_set_self hi]) h
  obtain ⟨o, e, l⟩ := ev_back q k hl
  refine ⟨o, ?_, l⟩
  unfold sItems
  rw [q]
  exact e
theorem Ev.lendB {gx : GX} {b : ES} {ρ ρe : Env} {its : List D} (q : ρ[i]? = some (some (.own, .lst its))) (h : EvF gx b its (ρ.set i (some (.bor, .lst its))) (.nx ρe)) (hl : ρe.length = ρ.length) : Ev (sLend i (sFor (srcB i) gx b)) ρ (.nx (backL i 0 ρ ρe)) := by
  have hi := Ok.len_lt q
  exact ev_back q (Ev.for (ρ1 := ρ.set i (some (.bor, .lst its))) (by unfold srcB; rw [List.getElem?_set_self hi]; rfl) h) hl
end
/-! ### the least of cells -/
def minC : List Cell → Cell
  | [] => (0, 0)
  | c :: cs => cs.foldl (fun a b => if ltc b a then b else a) c
section
variable {α : Type} {g : α → D}
end
def swD (p : Int × Int) : D := .tup [.int p.1, .int p.2]
end DL
namespace DL
open PySem PySem.Spec L2
namespace C
def c_FOUR : D := (.ctp [(.ctp [(.int (-1)), (.int 0)]), (.ctp [(.int 0), (.int (-1))]), (.ctp [(.int 0), (.int 1)]), (.ctp [(.int 1), (.int 0)])])
def c_EIGHT : D := (.ctp [(.ctp [(.int (-1)), (.int (-1))]), (.ctp [(.int (-1)), (.int 0)]), (.ctp [(.int (-1)), (.int 1)]), (.ctp [(.int 0), (.int (-1))]), (.ctp [(.int 0), (.int 1)]), (.ctp [(.int 1), (.int (-1))]), (.ctp [(.int 1), (.int 0)]), (.ctp [(.int 1), (.int 1)])])
abbrev N_need_kind : List Str := ["kind"]
def s_need_kind : ES := (sIf (tP' (yOr (yNot (xBool (xCall F_is_integer (xsCons (xVar 0) xsNil)))) (xBool (xOp oNin (xVar 0) (xTup (xsCons (xC (.int 4)) (xsCons (xC (.int 8)) xsNil))))))) sNever sNext)
def F_need_kind : List D → Option D := fnP N_need_kind s_need_kind
abbrev N_steps_of : List Str := ["kind"]
def s_steps_of : ES := (sRet (mP (xIf (xBool (xOp oEq (xVar 0) (xC (.int 4)))) (xC c_FOUR) (xC c_EIGHT))))
def F_steps_of : List D → Option D := fnP N_steps_of s_steps_of
abbrev N_near : List Str := ["cell", "kind", "down", "right"]
def s_near : ES := (sRet (mP (xComp [2, 3] (xIt (xCall F_steps_of (xsCons (xVar 1) xsNil))) (gTupD 2 (gsCons (putB 2) (gsCons (putB 3) gsNil))) yYes (xTup (xsCons (xOp oAdd (xOp ixD (xVar 0) (xC (.int 0))) (xVar 2)) (xsCons (xOp oAdd (xOp ixD (xVar 0) (xC (.int 1))) (xVar 3)) xsNil))))))
def F_near : List D → Option D := fnP N_near s_near
abbrev N_need_own : List Str := ["ink", "cell"]
def s_need_own : ES := (sIf (tP' (yOr (yNot (xBool (xCall F_is_cell (xsCons (xVar 1) xsNil)))) (xBool (xOp oNin (xVar 1) (xVar 0))))) sNever sNext)
def F_need_own : List D → Option D := fnP N_need_own s_need_own
abbrev N_layers : List Str := ["ink", "cell", "kind", "cells", "found", "rim", "steps", "more", "one", "other", "many"]
def s_layers : ES := (sSeq (sAsg (mP (xDict [8] (xIt (xVar 0)) (putB 8) yYes (xPure (xVar 8)) (xC (.bl true)))) (put 3))
  (sSeq (sPar3 4 5 6 (msCons (mDisp (msCons (mP (xPure (xVar 1))) (msCons (mP (xTup (xsCons (xC (.int 0)) (xsCons (xC (.int 1)) xsNil)))) msNil))) (msCons (mP (xLst (xsCons (xPure (xVar 1)) xsNil))) (msCons (mP (xC (.int 0))) msNil))))
  (sSeq (sWhile (tP' (xBool (xOp oNe (xVar 5) (xLst xsNil))))
  (sSeq (sPar 7 6 (msCons (mP (xC (.dT [] []))) (msCons (mP (xOp oAdd (xVar 6) (xC (.int 1)))) msNil)))
  (sSeq (sLend 5 (sFor (srcB 5) (put 8)
  (sFor (iP (xIt (xCall F_near (xsCons (xVar 8) (xsCons (xVar 2) xsNil))))) (put 9)
  (sIf (tP' (yAnd (xBool (xOp oIn (xVar 9) (xVar 3))) (xBool (xOp oNin (xVar 9) (xVar 4))))) (sAsg (mP (xOp oAdd (xGet2 (xVar 7) (xVar 9) (xC (.int 0))) (xOp ixD (xOp ixD (xVar 4) (xVar 8)) (xC (.int 1))))) (gSub' 7 (xVar 9) setT)) sNext))))
  (sSeq (sItems 7 (gTupD 2 (gsCons (put 9) (gsCons (put 10) gsNil)))
  (sAsg (mP (xTup (xsCons (xPure (xVar 6)) (xsCons (xPure (xVar 10)) xsNil)))) (gSub' 4 (xVar 9) setT)))
  (sAsg (mP (xCall listA (xsCons (xVar 7) xsNil))) (put 5))))))
  (sRet (mMove 4)))))
def F_layers : List D → Option D := fnP N_layers s_layers
abbrev N_need_ends : List Str := ["ink", "one", "other", "kind"]
def s_need_ends : ES := (sSeq (sDrop (mP (xCall F_need_ink (xsCons (xVar 0) xsNil))))
  (sSeq (sDrop (mP (xCall F_need_own (xsCons (xVar 0) (xsCons (xVar 1) xsNil)))))
  (sSeq (sDrop (mP (xCall F_need_own (xsCons (xVar 0) (xsCons (xVar 2) xsNil)))))
  (sDrop (mP (xCall F_need_kind (xsCons (xVar 3) xsNil)))))))
def F_need_ends : List D → Option D := fnP N_need_ends s_need_ends
abbrev N_steps : List Str := ["ink", "one", "other", "kind"]
def s_steps : ES := (sSeq (sDrop (mP (xCall F_need_ends (xsCons (xVar 0) (xsCons (xVar 1) (xsCons (xVar 2) (xsCons (xVar 3) xsNil)))))))
  (sRet (mP (xPure (xOp ixD (xGet2 (xCall F_layers (xsCons (xVar 0) (xsCons (xVar 1) (xsCons (xVar 3) xsNil)))) (xVar 2) (xTup (xsCons (xC .non) (xsCons (xC (.int 0)) xsNil)))) (xC (.int 0)))))))
def F_steps : List D → Option D := fnP N_steps s_steps
abbrev N_count_ways : List Str := ["ink", "one", "other", "kind"]
def s_count_ways : ES := (sSeq (sDrop (mP (xCall F_need_ends (xsCons (xVar 0) (xsCons (xVar 1) (xsCons (xVar 2) (xsCons (xVar 3) xsNil)))))))
  (sRet (mP (xPure (xOp ixD (xGet2 (xCall F_layers (xsCons (xVar 0) (xsCons (xVar 1) (xsCons (xVar 3) xsNil)))) (xVar 2) (xTup (xsCons (xC .non) (xsCons (xC (.int 0)) xsNil)))) (xC (.int 1)))))))
def F_count_ways : List D → Option D := fnP N_count_ways s_count_ways
abbrev N_least_way : List Str := ["ink", "one", "other", "kind", "table", "found", "left", "more"]
def s_least_way : ES := (sSeq (sDrop (mP (xCall F_need_ends (xsCons (xVar 0) (xsCons (xVar 1) (xsCons (xVar 2) (xsCons (xVar 3) xsNil)))))))
  (sSeq (sAsg (mP (xCall F_layers (xsCons (xVar 0) (xsCons (xVar 2) (xsCons (xVar 3) xsNil))))) (put 4))
  (sSeq (sIf (tP' (xBool (xOp oNin (xVar 1) (xVar 4)))) (sRet (mP (xC .non))) sNext)
  (sSeq (sAsg (mP (xLst (xsCons (xPure (xVar 1)) xsNil))) (put 5))
  (sSeq (sWhile (tP' (xBool (xOp oNe (xOp ixD (xVar 5) (xNeg (xC (.int 1)))) (xVar 2))))
  (sSeq (sAsg (mP (xPure (xOp ixD (xOp ixD (xVar 4) (xOp ixD (xVar 5) (xNeg (xC (.int 1))))) (xC (.int 0))))) (put 6))
  (sDrop (mMut isL appendD 5 (msCons (mP (xCall minLD (xsCons (xComp [7] (xIt (xCall F_near (xsCons (xOp ixD (xVar 5) (xNeg (xC (.int 1)))) (xsCons (xVar 3) xsNil)))) (putB 7) (yAnd (xBool (xOp oIn (xVar 7) (xVar 4))) (xBool (xOp oEq (xOp ixD (xOp ixD (xVar 4) (xVar 7)) (xC (.int 0))) (xOp oSub (xVar 6) (xC (.int 1)))))) (xPure (xVar 7))) xsNil))) msNil)))))
  (sRet (mP (xCall tupleD (xsCons (xVar 5) xsNil)))))))))
def F_least_way : List D → Option D := fnP N_least_way s_least_way
abbrev N_law_steps : List Str := ["_law_kind", "_law_four"]
def s_law_steps : ES := (sSeq (sAsg (mP (xLst (xsCons (xTup (xsCons (xNeg (xC (.int 1))) (xsCons (xC (.int 0)) xsNil))) (xsCons (xTup (xsCons (xC (.int 0)) (xsCons (xNeg (xC (.int 1))) xsNil))) (xsCons (xTup (xsCons (xC (.int 0)) (xsCons (xC (.int 1)) xsNil))) (xsCons (xTup (xsCons (xC (.int 1)) (xsCons (xC (.int 0)) xsNil))) xsNil)))))) (put 1))
  (sRet (mIf (tP' (xBool (xOp oEq (xVar 0) (xC (.int 4))))) (mMove 1) (mP (xOp oAdd (xVar 1) (xLst (xsCons (xTup (xsCons (xNeg (xC (.int 1))) (xsCons (xNeg (xC (.int 1))) xsNil))) (xsCons (xTup (xsCons (xNeg (xC (.int 1))) (xsCons (xC (.int 1)) xsNil))) (xsCons (xTup (xsCons (xC (.int 1)) (xsCons (xNeg (xC (.int 1))) xsNil))) (xsCons (xTup (xsCons (xC (.int 1)) (xsCons (xC (.int 1)) xsNil))) xsNil))))))))))
def F_law_steps : List D → Option D := fnP N_law_steps s_law_steps
abbrev N_law_near : List Str := ["_law_cell", "_law_kind", "_law_down", "_law_right"]
def s_law_near : ES := (sRet (mP (xComp [2, 3] (xIt (xCall F_law_steps (xsCons (xVar 1) xsNil))) (gTupD 2 (gsCons (putB 2) (gsCons (putB 3) gsNil))) yYes (xTup (xsCons (xOp oAdd (xOp ixD (xVar 0) (xC (.int 0))) (xVar 2)) (xsCons (xOp oAdd (xOp ixD (xVar 0) (xC (.int 1))) (xVar 3)) xsNil))))))
def F_law_near : List D → Option D := fnP N_law_near s_law_near
abbrev N_law_layers : List Str := ["_law_ink_here", "_law_cell", "_law_kind", "_law_found", "_law_rim", "_law_layer", "_law_more", "_law_one", "_law_other"]
def s_law_layers : ES := (sSeq (sPar 3 4 (msCons (mDisp (msCons (mP (xPure (xVar 1))) (msCons (mP (xTup (xsCons (xC (.int 0)) (xsCons (xC (.int 1)) xsNil)))) msNil))) (msCons (mP (xLst (xsCons (xPure (xVar 1)) xsNil))) msNil)))
  (sSeq (sFor (iP (xRng2 (xsCons (xC (.int 1)) (xsCons (xOp oAdd (xCall lenD (xsCons (xVar 0) xsNil)) (xC (.int 1))) xsNil)))) (put 5)
  (sSeq (sAsg (mP (xC (.dT [] []))) (put 6))
  (sSeq (sLend 4 (sFor (srcB 4) (put 7)
  (sFor (iP (xIt (xCall F_law_near (xsCons (xVar 7) (xsCons (xVar 2) xsNil))))) (put 8)
  (sIf (tP' (yAnd (xBool (xOp oIn (xVar 8) (xVar 0))) (xBool (xOp oNin (xVar 8) (xVar 3))))) (sAsg (mP (xOp oAdd (xGet2 (xVar 6) (xVar 8) (xC (.int 0))) (xOp ixD (xOp ixD (xVar 3) (xVar 7)) (xC (.int 1))))) (gSub' 6 (xVar 8) setT)) sNext))))
  (sSeq (sAsg (mP (xCall listA (xsCons (xVar 6) xsNil))) (put 4))
  (sLend 4 (sFor (srcB 4) (put 8)
  (sAsg (mP (xTup (xsCons (xPure (xVar 5)) (xsCons (xPure (xOp ixD (xVar 6) (xVar 8))) xsNil)))) (gSub' 3 (xVar 8) setT))))))))
  (sRet (mMove 3))))
def F_law_layers : List D → Option D := fnP N_law_layers s_law_layers
def P_need_ends1 : ES := (sDrop (mP (xCall F_need_ink (xsCons (xVar 0) xsNil))))
instance : MS P_need_ends1 := by unfold P_need_ends1; infer_instance
def P_need_ends2 : ES := (sDrop (mP (xCall F_need_own (xsCons (xVar 0) (xsCons (xVar 1) xsNil)))))
instance : MS P_need_ends2 := by unfold P_need_ends2; infer_instance
def P_need_ends3 : ES := (sDrop (mP (xCall F_need_own (xsCons (xVar 0) (xsCons (xVar 2) xsNil)))))
instance : MS P_need_ends3 := by unfold P_need_ends3; infer_instance
def P_need_ends4 : ES := (sDrop (mP (xCall F_need_kind (xsCons (xVar 3) xsNil))))
instance : MS P_need_ends4 := by unfold P_need_ends4; infer_instance
def P_need_ends : ES := (sSeq P_need_ends1 (sSeq P_need_ends2 (sSeq P_need_ends3 P_need_ends4)))
instance : MS P_need_ends := by unfold P_need_ends; infer_instance
def P_layers1 : ES := (sAsg (mP (xDict [8] (xIt (xVar 0)) (putB 8) yYes (xPure (xVar 8)) (xC (.bl true)))) (put 3))
instance : MS P_layers1 := by unfold P_layers1; infer_instance
def P_layers2 : ES := (sPar3 4 5 6 (msCons (mDisp (msCons (mP (xPure (xVar 1))) (msCons (mP (xTup (xsCons (xC (.int 0)) (xsCons (xC (.int 1)) xsNil)))) msNil))) (msCons (mP (xLst (xsCons (xPure (xVar 1)) xsNil))) (msCons (mP (xC (.int 0))) msNil))))
instance : MS P_layers2 := by unfold P_layers2; infer_instance
def P_layers3b1 : ES := (sPar 7 6 (msCons (mP (xC (.dT [] []))) (msCons (mP (xOp oAdd (xVar 6) (xC (.int 1)))) msNil)))
instance : MS P_layers3b1 := by unfold P_layers3b1; infer_instance
def P_layers3b2bbt : ES := (sAsg (mP (xOp oAdd (xGet2 (xVar 7) (xVar 9) (xC (.int 0))) (xOp ixD (xOp ixD (xVar 4) (xVar 8)) (xC (.int 1))))) (gSub' 7 (xVar 9) setT))
instance : MS P_layers3b2bbt := by unfold P_layers3b2bbt; infer_instance
def P_layers3b2bb : ES := (sIf (tP' (yAnd (xBool (xOp oIn (xVar 9) (xVar 3))) (xBool (xOp oNin (xVar 9) (xVar 4))))) P_layers3b2bbt sNext)
instance : MS P_layers3b2bb := by unfold P_layers3b2bb; infer_instance
def P_layers3b2b : ES := (sFor (iP (xIt (xCall F_near (xsCons (xVar 8) (xsCons (xVar 2) xsNil))))) (put 9) P_layers3b2bb)
instance : MS P_layers3b2b := by unfold P_layers3b2b; infer_instance
def P_layers3b2 : ES := (sLend 5 (sFor (srcB 5) (put 8) P_layers3b2b))
instance : MS P_layers3b2 := by unfold P_layers3b2; infer_instance
def P_layers3b3 : ES := (sItems 7 (gTupD 2 (gsCons (put 9) (gsCons (put 10) gsNil))) (sAsg (mP (xTup (xsCons (xPure (xVar 6)) (xsCons (xPure (xVar 10)) xsNil)))) (gSub' 4 (xVar 9) setT)))
instance : MS P_layers3b3 := by unfold P_layers3b3; infer_instance
def P_layers3b4 : ES := (sAsg (mP (xCall listA (xsCons (xVar 7) xsNil))) (put 5))
instance : MS P_layers3b4 := by unfold P_layers3b4; infer_instance
def P_layers3b : ES := (sSeq P_layers3b1 (sSeq P_layers3b2 (sSeq P_layers3b3 P_layers3b4)))
instance : MS P_layers3b := by unfold P_layers3b; infer_instance
def P_layers3 : ES := (sWhile (tP' (xBool (xOp oNe (xVar 5) (xLst xsNil)))) P_layers3b)
instance : MS P_layers3 := by unfold P_layers3; infer_instance
def P_layers : ES := (sSeq P_layers1 (sSeq P_layers2 (sSeq P_layers3 (sRet (mMove 4)))))
instance : MS P_layers := by unfold P_layers; infer_instance
def P_steps1 : ES := (sDrop (mP (xCall F_need_ends (xsCons (xVar 0) (xsCons (xVar 1) (xsCons (xVar 2) (xsCons (xVar 3) xsNil)))))))
instance : MS P_steps1 := by unfold P_steps1; infer_instance
def P_steps2 : ES := (sRet (mP (xPure (xOp ixD (xGet2 (xCall F_layers (xsCons (xVar 0) (xsCons (xVar 1) (xsCons (xVar 3) xsNil)))) (xVar 2) (xTup (xsCons (xC .non) (xsCons (xC (.int 0)) xsNil)))) (xC (.int 0))))))
instance : MS P_steps2 := by unfold P_steps2; infer_instance
def P_steps : ES := (sSeq P_steps1 P_steps2)
instance : MS P_steps := by unfold P_steps; infer_instance
def P_count_ways1 : ES := (sDrop (mP (xCall F_need_ends (xsCons (xVar 0) (xsCons (xVar 1) (xsCons (xVar 2) (xsCons (xVar 3) xsNil)))))))
instance : MS P_count_ways1 := by unfold P_count_ways1; infer_instance
def P_count_ways2 : ES := (sRet (mP (xPure (xOp ixD (xGet2 (xCall F_layers (xsCons (xVar 0) (xsCons (xVar 1) (xsCons (xVar 3) xsNil)))) (xVar 2) (xTup (xsCons (xC .non) (xsCons (xC (.int 0)) xsNil)))) (xC (.int 1))))))
instance : MS P_count_ways2 := by unfold P_count_ways2; infer_instance
def P_count_ways : ES := (sSeq P_count_ways1 P_count_ways2)
instance : MS P_count_ways := by unfold P_count_ways; infer_instance
def P_least_way1 : ES := (sDrop (mP (xCall F_need_ends (xsCons (xVar 0) (xsCons (xVar 1) (xsCons (xVar 2) (xsCons (xVar 3) xsNil)))))))
instance : MS P_least_way1 := by unfold P_least_way1; infer_instance
def P_least_way2 : ES := (sAsg (mP (xCall F_layers (xsCons (xVar 0) (xsCons (xVar 2) (xsCons (xVar 3) xsNil))))) (put 4))
instance : MS P_least_way2 := by unfold P_least_way2; infer_instance
def P_least_way3 : ES := (sIf (tP' (xBool (xOp oNin (xVar 1) (xVar 4)))) (sRet (mP (xC .non))) sNext)
instance : MS P_least_way3 := by unfold P_least_way3; infer_instance
def P_least_way4 : ES := (sAsg (mP (xLst (xsCons (xPure (xVar 1)) xsNil))) (put 5))
instance : MS P_least_way4 := by unfold P_least_way4; infer_instance
def P_least_way5b1 : ES := (sAsg (mP (xPure (xOp ixD (xOp ixD (xVar 4) (xOp ixD (xVar 5) (xNeg (xC (.int 1))))) (xC (.int 0))))) (put 6))
instance : MS P_least_way5b1 := by unfold P_least_way5b1; infer_instance
def P_least_way5b2 : ES := (sDrop (mMut isL appendD 5 (msCons (mP (xCall minLD (xsCons (xComp [7] (xIt (xCall F_near (xsCons (xOp ixD (xVar 5) (xNeg (xC (.int 1)))) (xsCons (xVar 3) xsNil)))) (putB 7) (yAnd (xBool (xOp oIn (xVar 7) (xVar 4))) (xBool (xOp oEq (xOp ixD (xOp ixD (xVar 4) (xVar 7)) (xC (.int 0))) (xOp oSub (xVar 6) (xC (.int 1)))))) (xPure (xVar 7))) xsNil))) msNil)))
instance : MS P_least_way5b2 := by unfold P_least_way5b2; infer_instance
def P_least_way5b : ES := (sSeq P_least_way5b1 P_least_way5b2)
instance : MS P_least_way5b := by unfold P_least_way5b; infer_instance
def P_least_way5 : ES := (sWhile (tP' (xBool (xOp oNe (xOp ixD (xVar 5) (xNeg (xC (.int 1)))) (xVar 2)))) P_least_way5b)
instance : MS P_least_way5 := by unfold P_least_way5; infer_instance
def P_least_way6 : ES := (sRet (mP (xCall tupleD (xsCons (xVar 5) xsNil))))
instance : MS P_least_way6 := by unfold P_least_way6; infer_instance
def P_least_way : ES := (sSeq P_least_way1 (sSeq P_least_way2 (sSeq P_least_way3 (sSeq P_least_way4 (sSeq P_least_way5 P_least_way6)))))
instance : MS P_least_way := by unfold P_least_way; infer_instance
def P_law_steps1 : ES := (sAsg (mP (xLst (xsCons (xTup (xsCons (xNeg (xC (.int 1))) (xsCons (xC (.int 0)) xsNil))) (xsCons (xTup (xsCons (xC (.int 0)) (xsCons (xNeg (xC (.int 1))) xsNil))) (xsCons (xTup (xsCons (xC (.int 0)) (xsCons (xC (.int 1)) xsNil))) (xsCons (xTup (xsCons (xC (.int 1)) (xsCons (xC (.int 0)) xsNil))) xsNil)))))) (put 1))
instance : MS P_law_steps1 := by unfold P_law_steps1; infer_instance
def P_law_steps2 : ES := (sRet (mIf (tP' (xBool (xOp oEq (xVar 0) (xC (.int 4))))) (mMove 1) (mP (xOp oAdd (xVar 1) (xLst (xsCons (xTup (xsCons (xNeg (xC (.int 1))) (xsCons (xNeg (xC (.int 1))) xsNil))) (xsCons (xTup (xsCons (xNeg (xC (.int 1))) (xsCons (xC (.int 1)) xsNil))) (xsCons (xTup (xsCons (xC (.int 1)) (xsCons (xNeg (xC (.int 1))) xsNil))) (xsCons (xTup (xsCons (xC (.int 1)) (xsCons (xC (.int 1)) xsNil))) xsNil)))))))))
instance : MS P_law_steps2 := by unfold P_law_steps2; infer_instance
def P_law_steps : ES := (sSeq P_law_steps1 P_law_steps2)
instance : MS P_law_steps := by unfold P_law_steps; infer_instance
def P_law_layers1 : ES := (sPar 3 4 (msCons (mDisp (msCons (mP (xPure (xVar 1))) (msCons (mP (xTup (xsCons (xC (.int 0)) (xsCons (xC (.int 1)) xsNil)))) msNil))) (msCons (mP (xLst (xsCons (xPure (xVar 1)) xsNil))) msNil)))
instance : MS P_law_layers1 := by unfold P_law_layers1; infer_instance
def P_law_layers2b2bbt : ES := (sAsg (mP (xOp oAdd (xGet2 (xVar 6) (xVar 8) (xC (.int 0))) (xOp ixD (xOp ixD (xVar 3) (xVar 7)) (xC (.int 1))))) (gSub' 6 (xVar 8) setT))
instance : MS P_law_layers2b2bbt := by unfold P_law_layers2b2bbt; infer_instance
def P_law_layers2b2bb : ES := (sIf (tP' (yAnd (xBool (xOp oIn (xVar 8) (xVar 0))) (xBool (xOp oNin (xVar 8) (xVar 3))))) P_law_layers2b2bbt sNext)
instance : MS P_law_layers2b2bb := by unfold P_law_layers2b2bb; infer_instance
def P_law_layers2b2b : ES := (sFor (iP (xIt (xCall F_law_near (xsCons (xVar 7) (xsCons (xVar 2) xsNil))))) (put 8) P_law_layers2b2bb)
instance : MS P_law_layers2b2b := by unfold P_law_layers2b2b; infer_instance
def P_law_layers2b2 : ES := (sLend 4 (sFor (srcB 4) (put 7) P_law_layers2b2b))
instance : MS P_law_layers2b2 := by unfold P_law_layers2b2; infer_instance
def P_law_layers2b3 : ES := (sAsg (mP (xCall listA (xsCons (xVar 6) xsNil))) (put 4))
instance : MS P_law_layers2b3 := by unfold P_law_layers2b3; infer_instance
def P_law_layers2b4b : ES := (sAsg (mP (xTup (xsCons (xPure (xVar 5)) (xsCons (xPure (xOp ixD (xVar 6) (xVar 8))) xsNil)))) (gSub' 3 (xVar 8) setT))
instance : MS P_law_layers2b4b := by unfold P_law_layers2b4b; infer_instance
def P_law_layers2b4 : ES := (sLend 4 (sFor (srcB 4) (put 8) P_law_layers2b4b))
instance : MS P_law_layers2b4 := by unfold P_law_layers2b4; infer_instance
def P_law_layers2b : ES := (sSeq (sAsg (mP (xC (.dT [] []))) (put 6)) (sSeq P_law_layers2b2 (sSeq P_law_layers2b3 P_law_layers2b4)))
instance : MS P_law_layers2b := by unfold P_law_layers2b; infer_instance
def P_law_layers2 : ES := (sFor (iP (xRng2 (xsCons (xC (.int 1)) (xsCons (xOp oAdd (xCall lenD (xsCons (xVar 0) xsNil)) (xC (.int 1))) xsNil)))) (put 5) P_law_layers2b)
instance : MS P_law_layers2 := by unfold P_law_layers2; infer_instance
def P_law_layers : ES := (sSeq P_law_layers1 (sSeq P_law_layers2 (sRet (mMove 3))))
instance : MS P_law_layers := by unfold P_law_layers; infer_instance
end C
end DL
namespace DL
open PySem PySem.Spec L2
/-! ### neighbors of a kind -/
def st4 : List Cell := [(-1, 0), (0, -1), (0, 1), (1, 0)]
def st8 : List Cell := [(-1, -1), (-1, 0), (-1, 1), (0, -1), (0, 1), (1, -1), (1, 0), (1, 1)]
def sl8 : List Cell := [(-1, 0), (0, -1), (0, 1), (1, 0), (-1, -1), (-1, 1), (1, -1), (1, 1)]
def knd (e : Bool) : Int := if e then 8 else 4
def stP (e : Bool) : List Cell := if e then st8 else st4
def stL (e : Bool) : List Cell := if e then sl8 else st4
def nbP (e : Bool) (c : Cell) : List Cell := (stP e).map (adC c)
def nbL (e : Bool) (c : Cell) : List Cell := (stL e).map (adC c)
def stcD (d : Cell) : D := .ctp [.int d.1, .int d.2]
namespace C
end C
end DL
namespace DL
open PySem PySem.Spec L2
namespace C
section
variable {cs : List Cell} {a : Cell} {e : Bool} {f : SW} {t : Int} {m : List (Cell × Int)}
abbrev lyE (cs : List Cell) (a : Cell) (e : Bool) (f : SW) (R : Slt) (t : Int) (M x8 x9 x10 : Slt) : DL.Env := [ow (inkD cs), ow (cellD a), ow (.int (knd e)), ow (fd cs), ow (mapD swD f), R, ow (.int t), M, x8, x9, x10]
end
end C
end DL
namespace DL
open PySem PySem.Spec L2
namespace C
section
variable {cs : List Cell} {a : Cell} {e : Bool} {f : SW} {t : Int} {m : List (Cell × Int)}
abbrev lyS (cs : List Cell) (a : Cell) (e : Bool) (n : Nat) : DL.Env := lyE cs a e (rnds (nbP e) cs a n).1 (ow (.lst ((rnds (nbP e) cs a n).2.map cellD))) n none none none none
end
end C
end DL
namespace DL
open PySem PySem.Spec L2
namespace C
section
variable {cs : List Cell} {a : Cell} {e : Bool} {f : SW} {t : Int} {m : List (Cell × Int)}
abbrev llE (cs : List Cell) (a : Cell) (e : Bool) (f : SW) (R T M x7 x8 : Slt) : DL.Env := [ow (inkD cs), ow (cellD a), ow (.int (knd e)), ow (mapD swD f), R, T, M, x7, x8]
abbrev llS (cs : List Cell) (a : Cell) (e : Bool) (x : SW × List Cell) : DL.Env := llE cs a e x.1 (ow (.lst (x.2.map cellD))) none none none none
end
end C
end DL
namespace DL
open PySem PySem.Spec L2
/-! ### the way back by layers -/
def dOf (f : SW) (c : Cell) : Int := ((aget f c).getD (0, 0)).1
def nearer (f : SW) (c : Cell) (d : Cell) : Bool := decide (d ∈ akeys f) && decide (dOf f d = dOf f c - 1)
def nxC (nb : Cell → List Cell) (f : SW) (c : Cell) : Cell := minC ((nb c).filter (nearer f c))
def stpC (nb : Cell → List Cell) (f : SW) (a : Cell) : Nat → Cell
  | 0 => a
  | k + 1 => nxC nb f (stpC nb f a k)
def pth (nb : Cell → List Cell) (f : SW) (a : Cell) (k : Nat) : List Cell := (List.range (k + 1)).map (stpC nb f a)
section
variable {nb : Cell → List Cell} {cs : List Cell} {b : Cell}
end
end DL
namespace DL
open PySem PySem.Spec L2
def noV : D := .tup [.non, .int 0]
def tvD (o : Option (Int × Int)) : D := (o.map swD).getD noV
def farD : Option (Int × Int) → D
  | some v => .int v.1
  | none => .non
def manyD : Option (Int × Int) → D
  | some v => .int v.2
  | none => .int 0
/-- the way that the law builds -/
def wayC (e : Bool) (cs : List Cell) (a b : Cell) (k : Nat) : List Cell := pth (nbL e) (layF (nbL e) cs b) a k
def wayD (e : Bool) (cs : List Cell) (a b : Cell) (d : Nat) : D := .tup ((wayC e cs a b d).map cellD)
namespace C
section
variable {cs : List Cell} {a b : Cell} {e : Bool}
abbrev lwE (e : Bool) (cs : List Cell) (a b : Cell) (f : SW) (R x6 x7 : Slt) : DL.Env := [ow (inkD cs), ow (cellD a), ow (cellD b), ow (.int (knd e)), ow (mapD swD f), R, x6, x7]
end
end C
end DL
namespace DL
open PySem PySem.Spec L2
/-! ### sorted pairs of a dict of cells -/
instance {f : EX} [hf : MX f] : MX (xSrtI f) := mx_bind' hf
@[simp] theorem e_srtI {f : EX} {s : Slt} {ρ : Env} : xSrtI f (s :: ρ) = (f (s :: ρ)).bind srtID := (rfl)
def pairC (p : Cell × Int) : D := .tup [cellD p.1, .int p.2]
end DL
namespace DL
open PySem PySem.Spec L2
namespace C
abbrev N_need_radius : List Str := ["radius"]
def s_need_radius : ES := (sIf (tP' (yNot (xBool (xCall F_is_in (xsCons (xVar 0) (xsCons (xC (.int 1)) (xsCons (xC (.int 400)) xsNil))))))) sNever sNext)
def F_need_radius : List D → Option D := fnP N_need_radius s_need_radius
abbrev N_disk_in : List Str := ["cell", "radius", "metric", "most", "row", "column", "some", "down", "right", "other"]
def s_disk_in : ES := (sSeq (sAsg (mP (xC (.int 0))) (put 3))
  (sSeq (sWhile (tP' (xBool (xOp oLt (xCall F_far (xsCons (xTup (xsCons (xC (.int 0)) (xsCons (xC (.int 0)) xsNil))) (xsCons (xTup (xsCons (xC (.int 0)) (xsCons (xPure (xVar 3)) xsNil))) (xsCons (xVar 2) xsNil)))) (xVar 1))))
  (sAug 3 (o2 (fun _ _ => true) fun i j => i + j) (mP (xC (.int 1)))))
  (sSeq (sAsg (mP (xPure (xVar 0))) (gTupD 2 (gsCons (put 4) (gsCons (put 5) gsNil))))
  (sSeq (sAsg (mP (xComp2 [7, 8] [8] (xRng2 (xsCons (xNeg (xVar 3)) (xsCons (xOp oAdd (xVar 3) (xC (.int 1))) xsNil))) (putB 7) yYes (xRng2 (xsCons (xNeg (xVar 3)) (xsCons (xOp oAdd (xVar 3) (xC (.int 1))) xsNil))) (putB 8) yYes (xTup (xsCons (xOp oAdd (xVar 4) (xVar 7)) (xsCons (xOp oAdd (xVar 5) (xVar 8)) xsNil))))) (put 6))
  (sRet (mP (xComp [9] (xIt (xVar 6)) (putB 9) (xBool (xOp oLt (xCall F_far (xsCons (xVar 0) (xsCons (xVar 9) (xsCons (xVar 2) xsNil)))) (xVar 1))) (xPure (xVar 9)))))))))
def F_disk_in : List D → Option D := fnP N_disk_in s_disk_in
abbrev N_disk : List Str := ["cell", "radius", "metric"]
def s_disk : ES := (sSeq (sDrop (mP (xCall F_need_cell (xsCons (xVar 0) xsNil))))
  (sSeq (sDrop (mP (xCall F_need_radius (xsCons (xVar 1) xsNil))))
  (sSeq (sDrop (mP (xCall F_need_metric (xsCons (xVar 2) xsNil))))
  (sRet (mP (xCall F_made (xsCons (xCall F_disk_in (xsCons (xVar 0) (xsCons (xVar 1) (xsCons (xVar 2) xsNil)))) xsNil)))))))
def F_disk : List D → Option D := fnP N_disk s_disk
abbrev N_core : List Str := ["ink", "radius", "metric", "cell", "own"]
def s_core : ES := (sSeq (sDrop (mP (xCall F_need_ink (xsCons (xVar 0) xsNil))))
  (sSeq (sDrop (mP (xCall F_need_radius (xsCons (xVar 1) xsNil))))
  (sSeq (sDrop (mP (xCall F_need_metric (xsCons (xVar 2) xsNil))))
  (sRet (mP (xCall tupleD (xsCons (xComp [3, 4] (xIt (xSrtI (xCall F_map_in (xsCons (xVar 0) (xsCons (xVar 2) xsNil))))) (gTupD 2 (gsCons (putB 3) (gsCons (putB 4) gsNil))) (xBool (xOp oGe (xVar 4) (xVar 1))) (xPure (xVar 3))) xsNil)))))))
def F_core : List D → Option D := fnP N_core s_core
section
variable {k : Nat} {r : Int} {c : Cell}
/-- the distance of an offset -/
def offI (k : Nat) (a b : Int) : Int := farI k (0, 0) (a, b)
/-- the cells nearer than a radius -/
def dsk (k : Nat) (m : Nat) (r : Int) (c : Cell) : List Cell := (wideC (c.1 - m) (c.2 - m) (2 * m + 1) (2 * m + 1)).filter fun x => decide (farI k c x < r)
end
end C
end DL
namespace DL
open PySem PySem.Spec L2
/-- the cells as far from the ground as a radius -/
def coreC (k : Nat) (r : Int) (cs : List Cell) : List Cell := cs.filter fun c => decide (r ≤ mapV k cs c)
namespace C
section
variable {k : Nat} {r : Int} {cs : List Cell}
end
end C
end DL
namespace DL
open PySem PySem.Spec L2
/-! ### sums of rows and columns -/
namespace C
abbrev N_need_frame : List Str := ["ink", "high", "wide", "side", "index", "row", "column"]
def s_need_frame : ES := (sSeq (sDrop (mP (xCall F_need_ink (xsCons (xVar 0) xsNil))))
  (sSeq (sFor (iP (xIt (xTup (xsCons (xPure (xVar 1)) (xsCons (xPure (xVar 2)) xsNil))))) (put 3)
  (sIf (tP' (yNot (xBool (xCall F_is_in (xsCons (xVar 3) (xsCons (xC (.int 1)) (xsCons (xC (.int 12)) xsNil))))))) sNever sNext))
  (sFor (iP (xEn (xPure (xVar 0)))) (gTupD 2 (gsCons (put 4) (gsCons (gTupD 2 (gsCons (put 5) (gsCons (put 6) gsNil))) gsNil)))
  (sIf (tP' (yOr (yNot (xBool (xChain oLe oLt (xC (.int 0)) (xVar 5) (xVar 1)))) (yNot (xBool (xChain oLe oLt (xC (.int 0)) (xVar 6) (xVar 2)))))) sNever sNext))))
def F_need_frame : List D → Option D := fnP N_need_frame s_need_frame
abbrev N_sums_in : List Str := ["ink", "high", "wide", "rows", "columns", "row", "column"]
def s_sums_in : ES := (sSeq (sPar 3 4 (msCons (mP (xOp oRep (xLst (xsCons (xC (.int 0)) xsNil)) (xVar 1))) (msCons (mP (xOp oRep (xLst (xsCons (xC (.int 0)) xsNil)) (xVar 2))) msNil)))
  (sSeq (sFor (iP (xIt (xPure (xVar 0)))) (gTupD 2 (gsCons (put 5) (gsCons (put 6) gsNil)))
  (sSeq (sAugS 3 (xVar 5) getLD (o2 (fun _ _ => true) fun i j => i + j) (xC (.int 1)) setL)
  (sAugS 4 (xVar 6) getLD (o2 (fun _ _ => true) fun i j => i + j) (xC (.int 1)) setL)))
  (sRet (mP (xTup (xsCons (xCall tupleD (xsCons (xVar 3) xsNil)) (xsCons (xCall tupleD (xsCons (xVar 4) xsNil)) xsNil)))))))
def F_sums_in : List D → Option D := fnP N_sums_in s_sums_in
abbrev N_sums : List Str := ["ink", "high", "wide"]
def s_sums : ES := (sSeq (sDrop (mP (xCall F_need_frame (xsCons (xVar 0) (xsCons (xVar 1) (xsCons (xVar 2) xsNil))))))
  (sRet (mP (xCall F_sums_in (xsCons (xVar 0) (xsCons (xVar 1) (xsCons (xVar 2) xsNil)))))))
def F_sums : List D → Option D := fnP N_sums s_sums
abbrev N_law_sums : List Str := ["_law_ink", "_law_high", "_law_wide", "_law_rows", "_law_line", "_law_cell", "_law_column"]
def s_law_sums : ES := (sSeq (sAsg (mP (xComp [4] (xRng1 (xsCons (xVar 1) xsNil)) (putB 4) yYes (xCall lenD (xsCons (xComp [5] (xIt (xVar 0)) (putB 5) (xBool (xOp oEq (xOp ixD (xVar 5) (xC (.int 0))) (xVar 4))) (xPure (xVar 5))) xsNil)))) (put 3))
  (sRet (mP (xTup (xsCons (xCall tupleD (xsCons (xVar 3) xsNil)) (xsCons (xCall tupleD (xsCons (xComp [6] (xRng1 (xsCons (xVar 2) xsNil)) (putB 6) yYes (xCall lenD (xsCons (xComp [5] (xIt (xVar 0)) (putB 5) (xBool (xOp oEq (xOp ixD (xVar 5) (xC (.int 1))) (xVar 6))) (xPure (xVar 5))) xsNil))) xsNil)) xsNil))))))
def F_law_sums : List D → Option D := fnP N_law_sums s_law_sums
section
variable {ns : List Int} {cs : List Cell} {i w : Nat}
theorem need_frame_ok (h : Framed cs i w) (h1 : 1 ≤ i ∧ i ≤ 12) (h2 : 1 ≤ w ∧ w ≤ 12) : F_need_frame [inkD cs, .int i, .int w] = some .non := by
  have p := pures_cells cs
  have g := C.need_ink_ok (h.good (Nat.le_trans (Nat.mul_le_mul h1.2 h2.2) (by decide)) (by omega) (by omega))
  unfold inkD at g
  have c1 : (1 : Int) ≤ (i : Int) := by omega
  have c2 : (i : Int) ≤ 12 := by omega
  have c3 : (1 : Int) ≤ (w : Int) := by omega
  have c4 : (w : Int) ≤ 12 := by omega
  obtain ⟨ρ', f1, x3, x4, x5, x6, p4, p5, p6, f2⟩ := for_ok (gx := gTupD 2 (gsCons (put 4) (gsCons (gTupD 2 (gsCons (put 5) (gsCons (put 6) gsNil))) gsNil))) (b := sIf (tP' (yOr (yNot (xBool (xChain oLe oLt (xC (.int 0)) (xVar 5) (xVar 1)))) (yNot (xBool (xChain oLe oLt (xC (.int 0)) (xVar 6) (xVar 2)))))) sNever sNext) (fun i : Nat => D.tup [.int (i : Int), cellD (cs[i]?.getD default)])
    (fun _ ρ => ∃ x3 x4 x5 x6, isPin x4 = false ∧ isPin x5 = false ∧ isPin x6 = false ∧ ρ = [some (.own, .tup (cs.map cellD)), some (.own, .int i), some (.own, .int w), x3, x4, x5, x6]) (List.range cs.length) [some (.own, .tup (cs.map cellD)), some (.own, .int i), some (.own, .int w), some (.own, .int w), none, none, none] ⟨_, _, _, _, rfl, rfl, rfl, rfl⟩ fun j a ρ e q => by
    obtain ⟨x3, x4, x5, x6, p4, p5, p6, rfl⟩ := q
    have ha : a < cs.length := List.mem_range.mp (List.mem_of_getElem? e)
    have ea : cs[a]? = some cs[a] := List.getElem?_eq_getElem ha
    have m : cs[a] ∈ cs := List.getElem_mem ha
    have b1 := h.row _ m
    have b2 := h.col _ m
    refine ⟨by simp [cellD], [some (.own, .tup (cs.map cellD)), some (.own, .int i), some (.own, .int w), x3, some (.own, .int a), some (.own, .int cs[a].1), some (.own, .int cs[a].2)], _, ?_, .inl ?_, x3, some (.own, .int a), some (.own, .int cs[a].1), some (.own, .int cs[a].2), rfl, rfl, rfl, rfl⟩
    · simp [-e_put, e_put', p4, p5, p6, ea, cellD]
    · simp [b1, b2]
  unfold F_need_frame s_need_frame inkD
  simp (disch := omega) [e_arg_tup p, g, if_size, forE, C.is_in_ok, c1, c2, c3, c4, p, enumF_map, f1]
def cnt (f : Cell → Int) (cs : List Cell) (k : Nat) : Int := ((cs.filter fun c => decide (f c = (k : Int))).length : Nat)
theorem cnt_app (f : Cell → Int) (cs : List Cell) (c : Cell) (k : Nat) : cnt f (cs ++ [c]) k = cnt f cs k + if f c = (k : Int) then 1 else 0 := by
  unfold cnt
  rw [List.filter_append, List.length_append]
  by_cases h : f c = (k : Int)
  · rw [List.filter_cons_of_pos (by simpa using h), if_pos h]
    rfl
  · rw [List.filter_cons_of_neg (by simpa using h), if_neg h]
    simp
theorem set_cnt {f : Nat → Int} {n r : Nat} (h : r < n) : ((List.range n).map fun k => D.int (f k)).set r (.int (f r + 1)) = (List.range n).map fun k => D.int (f k + if (r : Int) = (k : Int) then 1 else 0) := by
  apply List.ext_getElem?
  intro j
  by_cases hj : r = j
  · subst hj
    rw [List.getElem?_set_self (by simpa using h), at_rng h, if_pos rfl]
  · rw [List.getElem?_set_ne hj, List.getElem?_map, List.getElem?_map]
    by_cases h2 : j < n
    · rw [List.getElem?_range h2]
      simp only [Option.map_some]
      rw [if_neg (by omega), Int.add_zero]
    · rw [List.getElem?_eq_none (by simpa using h2)]
      rfl
abbrev cl (f : Cell → Int) (cs : List Cell) (n : Nat) : List D := (List.range n).map fun k => D.int (cnt f cs k)
theorem sums_in_ok (h : Framed cs i w) (h1 : 1 ≤ i ∧ i ≤ 12) (h2 : 1 ≤ w ∧ w ≤ 12) : F_sums_in [inkD cs, .int i, .int w] = some (.tup [.tup (cl Prod.fst cs i), .tup (cl Prod.snd cs w)]) := by
  have p := pures_cells cs
  have z : ∀ (f : Cell → Int) (n : Nat), (List.replicate n [D.int 0]).flatten = cl f [] n := fun f n => by
    have a : cl f [] n = (List.range n).map fun _ => D.int 0 := rfl
    rw [a, List.map_const', List.length_range]
    induction n with
    | zero => rfl
    | succ n ih =>
      rw [List.replicate_succ, List.flatten_cons, ih rfl, List.replicate_succ]
      rfl
  obtain ⟨ρ', f1, x5, x6, p5, p6, f2⟩ := for_ok (gx := gTupD 2 (gsCons (put 5) (gsCons (put 6) gsNil))) (b := sSeq (sAugS 3 (xVar 5) getLD (o2 (fun _ _ => true) fun i j => i + j) (xC (.int 1)) setL) (sAugS 4 (xVar 6) getLD (o2 (fun _ _ => true) fun i j => i + j) (xC (.int 1)) setL)) cellD
    (fun j ρ => ∃ x5 x6, isPin x5 = false ∧ isPin x6 = false ∧ ρ = [some (.own, .tup (cs.map cellD)), some (.own, .int i), some (.own, .int w), some (.own, .lst (cl Prod.fst (cs.take j) i)), some (.own, .lst (cl Prod.snd (cs.take j) w)), x5, x6]) cs [some (.own, .tup (cs.map cellD)), some (.own, .int i), some (.own, .int w), some (.own, .lst (cl Prod.fst [] i)), some (.own, .lst (cl Prod.snd [] w)), none, none] ⟨_, _, rfl, rfl, by rw [List.take_zero]⟩ fun j c ρ e q => by
    obtain ⟨x5, x6, p5, p6, rfl⟩ := q
    have m := List.mem_of_getElem? e
    have b1 := h.row _ m
    have b2 := h.col _ m
    obtain ⟨a, ea⟩ := Int.eq_ofNat_of_zero_le b1.1
    obtain ⟨b, eb⟩ := Int.eq_ofNat_of_zero_le b2.1
    have ha : a < i := by omega
    have hb : b < w := by omega
    have et : cs.take (j + 1) = cs.take j ++ [c] := by
      rw [List.take_add_one, e]
      rfl
    have q1 : (cl Prod.fst (cs.take j) i).set a (.int (cnt Prod.fst (cs.take j) a + 1)) = cl Prod.fst (cs.take (j + 1)) i := by
      rw [set_cnt ha, et]
      unfold cl
      refine List.map_congr_left fun k _ => ?_
      rw [cnt_app, ea]
    have q2 : (cl Prod.snd (cs.take j) w).set b (.int (cnt Prod.snd (cs.take j) b + 1)) = cl Prod.snd (cs.take (j + 1)) w := by
      rw [set_cnt hb, et]
      unfold cl
      refine List.map_congr_left fun k _ => ?_
      rw [cnt_app, eb]
    have g1 : getLD (.lst (cl Prod.fst (cs.take j) i)) (.int a) = some (.int (cnt Prod.fst (cs.take j) a)) := getLD_ok (at_rng ha)
    have g2 : getLD (.lst (cl Prod.snd (cs.take j) w)) (.int b) = some (.int (cnt Prod.snd (cs.take j) b)) := getLD_ok (at_rng hb)
    have s1 : setL (.lst (cl Prod.fst (cs.take j) i)) (.int a) (.int (cnt Prod.fst (cs.take j) a + 1)) = some (.lst (cl Prod.fst (cs.take (j + 1)) i)) := by
      rw [setL_ok pures_rng rfl (by simpa using ha), q1]
    have s2 : setL (.lst (cl Prod.snd (cs.take j) w)) (.int b) (.int (cnt Prod.snd (cs.take j) b + 1)) = some (.lst (cl Prod.snd (cs.take (j + 1)) w)) := by
      rw [setL_ok pures_rng rfl (by simpa using hb), q2]
    have o1 : ∀ x y : Int, o2 (fun _ _ => true) (fun i j => i + j) (.int x) (.int y) = some (.int (x + y)) := fun _ _ => rfl
    refine ⟨rfl, [some (.own, .tup (cs.map cellD)), some (.own, .int i), some (.own, .int w), some (.own, .lst (cl Prod.fst (cs.take j) i)), some (.own, .lst (cl Prod.snd (cs.take j) w)), some (.own, .int a), some (.own, .int b)], [some (.own, .tup (cs.map cellD)), some (.own, .int i), some (.own, .int w), some (.own, .lst (cl Prod.fst (cs.take (j + 1)) i)), some (.own, .lst (cl Prod.snd (cs.take (j + 1)) w)), some (.own, .int a), some (.own, .int b)], ?_, .inl ?_, _, _, rfl, rfl, rfl⟩
    · simp [-e_put, e_put', p5, p6, cellD, ea, eb]
    · simp [g1, o1, s1, g2, s2]
  have r1 : oRep (.lst [.int 0]) (.int i) = some (.lst (cl Prod.fst [] i)) := by
    rw [rep_ok rfl (by rw [size_eq]; simp; omega) (by omega), z]
  have r2 : oRep (.lst [.int 0]) (.int w) = some (.lst (cl Prod.snd [] w)) := by
    rw [rep_ok rfl (by rw [size_eq]; simp; omega) (by omega), z]
  rw [List.take_length] at f2
  subst f2
  have t1 : pures (cl Prod.fst cs i) = true := pures_rng
  have t2 : pures (cl Prod.snd cs w) = true := pures_rng
  unfold F_sums_in s_sums_in inkD
  simp (disch := omega) [e_arg_tup p, if_size, r1, r2, p, f1, tupleD, t1, t2]
theorem sums_ok (h : Framed cs i w) (h1 : 1 ≤ i ∧ i ≤ 12) (h2 : 1 ≤ w ∧ w ≤ 12) : F_sums [inkD cs, .int i, .int w] = some (.tup [.tup (cl Prod.fst cs i), .tup (cl Prod.snd cs w)]) := by
  have n1 := need_frame_ok h h1 h2
  have n2 := sums_in_ok h h1 h2
  have pi : pures (cs.map cellD) = true := pures_cells cs
  unfold F_sums s_sums
  simp only [e_fnP, e_seq, e_drop, e_mP, e_call, e_cons, e_var, e_nil, List.map_cons, List.map_nil, e_arg_pure (show DL.pure (inkD cs) = true from pi), e_arg_int, List.length_cons, List.length_nil]
  simp [-Int.natCast_add, n1, n2]
theorem law_sums_ok (h : Framed cs i w) (h1 : 1 ≤ i ∧ i ≤ 12) (h2 : 1 ≤ w ∧ w ≤ 12) : F_law_sums [inkD cs, .int i, .int w] = some (.tup [.tup (cl Prod.fst cs i), .tup (cl Prod.snd cs w)]) := by
  have p := pures_cells cs
  have hl : cs.length ≤ 400 := Nat.le_trans h.len (Nat.le_trans (Nat.mul_le_mul h1.2 h2.2) (by decide))
  have fl : ∀ q : Cell → Bool, (List.filter q cs).length ≤ sizeLine := fun q => by
    have := List.length_filter_le q cs
    rw [size_eq]
    omega
  have e1 : compE (putB 4) yYes (xCall lenD (xsCons (xComp [5] (xIt (xVar 0)) (putB 5) (xBool (xOp oEq (xOp ixD (xVar 5) (xC (.int 0))) (xVar 4))) (xPure (xVar 5))) xsNil)) [some (.own, .tup (cs.map cellD)), some (.own, .int i), some (.own, .int w), none, none, none, none] (rng 0 (i : Int)) = some (cl Prod.fst cs i) := by
    rw [rng_len]
    refine comp_all _ _ _ fun k hk => ⟨_, rfl, rfl, ?_⟩
    have c : compE (putB 5) (xBool (xOp oEq (xOp ixD (xVar 5) (xC (.int 0))) (xVar 4))) (xPure (xVar 5)) [some (.own, .tup (cs.map cellD)), some (.own, .int i), some (.own, .int w), none, some (.bor, .int k), none, none] (cs.map cellD) = some ((cs.filter fun c => decide (c.1 = (k : Int))).map cellD) := by
      refine comp_map _ _ _ _ fun c hc => ⟨_, rfl, ?_, fun _ => ?_⟩
      · simp (disch := omega) [cellD, v_at]
      · simp [pure_cell]
    simp [c, fl]
    rfl
  have e2 : ∀ L : Slt, compE (putB 6) yYes (xCall lenD (xsCons (xComp [5] (xIt (xVar 0)) (putB 5) (xBool (xOp oEq (xOp ixD (xVar 5) (xC (.int 1))) (xVar 6))) (xPure (xVar 5))) xsNil)) [some (.own, .tup (cs.map cellD)), some (.own, .int i), some (.own, .int w), L, none, none, none] (rng 0 (w : Int)) = some (cl Prod.snd cs w) := by
    intro L
    rw [rng_len]
    refine comp_all _ _ _ fun k hk => ⟨_, rfl, rfl, ?_⟩
    have c : compE (putB 5) (xBool (xOp oEq (xOp ixD (xVar 5) (xC (.int 1))) (xVar 6))) (xPure (xVar 5)) [some (.own, .tup (cs.map cellD)), some (.own, .int i), some (.own, .int w), L, none, none, some (.bor, .int k)] (cs.map cellD) = some ((cs.filter fun c => decide (c.2 = (k : Int))).map cellD) := by
      refine comp_map _ _ _ _ fun c hc => ⟨_, rfl, ?_, fun _ => ?_⟩
      · simp (disch := omega) [cellD, v_at]
      · simp [pure_cell]
    simp [c, fl]
    rfl
  have t1 : pures (cl Prod.fst cs i) = true := pures_rng
  have t2 : pures (cl Prod.snd cs w) = true := pures_rng
  unfold F_law_sums s_law_sums inkD
  simp (disch := omega) [e_arg_tup p, v_rng1, e1, e2, if_size, tupleD, t1, t2]
end
end C
end DL
namespace K51
open PySem PySem.Spec PyProof.Rows L2 DL
def topS (i : Nat) : Stmt := PySem.Challenge.pw_gridink_k51_whole_pictures_of_sums.main.body.getD i (.Pass ⟨0, 0, 0, 0⟩)
/-- what the top has left -/
structure Top (K : PySem.W.Frag) (mg : Str → Option Value) : Prop where
  d_law_sums : DefAt K mg "_law_sums" (topS 32) ["_law_ink", "_law_high", "_law_wide"]
  d_law_taken : DefAt K mg "_law_taken" (topS 28) ["_law_row", "_law_many"]
  d_law_pick : DefAt K mg "_law_pick" (topS 29) ["_law_row", "_law_things"]
  d_law_framed : DefAt K mg "_law_framed" (topS 31) ["_law_row", "_law_high", "_law_wide"]
  d_law_any_sums : DefAt K mg "_law_any_sums" (topS 34) ["_law_row", "_law_high", "_law_wide"]
  d_law_pictures : DefAt K mg "_law_pictures" (topS 33) ["_law_rows", "_law_columns"]
  d_is_list : DefAt K mg "is_list" (topS 3) ["value", "least", "most"]
  d_is_integer : DefAt K mg "is_integer" (topS 1) ["value"]
  d_is_in : DefAt K mg "is_in" (topS 2) ["value", "least", "most"]
  d_need_sums : DefAt K mg "need_sums" (topS 18) ["sums", "most"]
  d_need_both : DefAt K mg "need_both" (topS 19) ["rows", "columns"]
  d_first_lack : DefAt K mg "first_lack" (topS 23) ["rows", "columns"]
  d_picture_of : DefAt K mg "picture_of" (topS 24) ["rows", "columns"]
  d_law_alike : DefAt K mg "_law_alike" (topS 30) ["_law_found", "_law_due"]
  d_choices : DefAt K mg "choices" (topS 26) ["many", "size"]
  d_all_pictures : DefAt K mg "all_pictures" (topS 25) ["rows", "columns"]
  d_is_cell : DefAt K mg "is_cell" (topS 13) ["value"]
  d_need_ink : DefAt K mg "need_ink" (topS 14) ["value"]
  d_need_frame : DefAt K mg "need_frame" (topS 20) ["ink", "high", "wide"]
  d_sums_in : DefAt K mg "sums_in" (topS 21) ["ink", "high", "wide"]
  d_sums : DefAt K mg "sums" (topS 22) ["ink", "high", "wide"]
  d_law : DefAt K mg "law" (topS 35) ["_law_script"]
  n_len : mg "len" = none
  n_tuple : mg "tuple" = none
  n_range : mg "range" = none
  n_int : mg "int" = none
  n_sorted : mg "sorted" = none
  n_isinstance : mg "isinstance" = none
  n_bool : mg "bool" = none
  n_enumerate : mg "enumerate" = none
  n_sum : mg "sum" = none
  n_min : mg "min" = none
  n_list : mg "list" = none
  n_str : mg "str" = none
  n_all : mg "all" = none
  n_any : mg "any" = none
  k_MOST_SIDE : IntAt mg "MOST_SIDE" 12
  k_MOST_PICTURES : IntAt mg "MOST_PICTURES" 500
  k_MOST : IntAt mg "MOST" 60
  k_MOST_CELLS : IntAt mg "MOST_CELLS" 400
section
variable {P : Program} {w : World} {K : PySem.W.Frag} {mg : Str → Option Value} {base : Heap}
/-! _law_sums -/
abbrev st_law_sums : Stmt := topS 32
abbrev N_law_sums : List Str := ["_law_ink", "_law_high", "_law_wide", "_law_rows", "_law_line", "_law_cell", "_law_column"]
theorem sc_law_sums : FnScope N_law_sums ["_law_ink", "_law_high", "_law_wide"] (defScope st_law_sums) := ⟨rfl, rfl, rfl, by decide +kernel, rfl, by decide +kernel, by decide +kernel⟩
def s_law_sums : ES := (sSeq (sAsg (mP (xComp [4] (xRng1 (xsCons (xVar 1) xsNil)) (putB 4) yYes (xCall lenD (xsCons (xComp [5] (xIt (xVar 0)) (putB 5) (xBool (xOp oEq (xOp ixD (xVar 5) (xC (.int 0))) (xVar 4))) (xPure (xVar 5))) xsNil)))) (put 3))
  (sRet (mP (xTup (xsCons (xCall tupleD (xsCons (xVar 3) xsNil)) (xsCons (xCall tupleD (xsCons (xComp [6] (xRng1 (xsCons (xVar 2) xsNil)) (putB 6) yYes (xCall lenD (xsCons (xComp [5] (xIt (xVar 0)) (putB 5) (xBool (xOp oEq (xOp ixD (xVar 5) (xC (.int 1))) (xVar 6))) (xPure (xVar 5))) xsNil))) xsNil)) xsNil))))))
def F_law_sums : List D → Option D := fnP N_law_sums s_law_sums
theorem ok_law_sums (T : Top K mg) : FnAt P w K mg base 1 "_law_sums" ["_law_ink", "_law_high", "_law_wide"] (spP K 3 F_law_sums) := by
  exact at_p T.d_law_sums sc_law_sums fun f cdv A outer s H E hr => (s_cons (s_setLc (i := 3) (own := [("_law_line", 4)]) rfl sc_law_sums.nd rfl rfl (sw_true rfl rfl rfl (by decide +kernel)) (i_rng1 (by rfl) T.n_range (a_cons (b_var (pv 1)) a_nil)) (blkOk_by (own := [("_law_line", 4)]) (N := N_law_sums) (sc := defScope st_law_sums) (by decide +kernel)) (fun _ _ _ _ _ => (gp_name (pg_name (i := 4) sc_law_sums.nd rfl (by first | exact Or.inl rfl | exact Or.inr rfl)) (by simp))) (fun _ _ _ _ _ => qs_nil) (fun _ _ _ _ _ => (p_callB c_len d_len (by rfl) T.n_len (by decide +kernel) (a_cons (p_b (p_lc (own := [("_law_cell", 5)]) rfl sc_law_sums.nd  (i_seq (b_var (pv 0))) (blkOk_in (N := N_law_sums) rfl (by decide +kernel)) (fun _ _ _ _ _ => (gp_name (pg_name (i := 5) sc_law_sums.nd rfl (by first | exact Or.inl rfl | exact Or.inr rfl)) (by simp))) (fun _ _ _ _ _ => (qs_one (q_cmp (r_eq hr) d_eq (b_ix hr (b_var (pv 5)) (p_b p_int) (fun _ _ => rfl)) (b_var (pv 4)) (nomark _)))) (fun _ _ _ _ _ => (p_var (pv 5))))) a_nil))))
    (s_one (s_ret (m_p (p_tup (a_cons (p_callTy call_tuple_of d_tuple (by rfl) T.n_tuple (by decide +kernel) (a_cons (b_var (pv 3)) a_nil)) (a_cons (p_callTy call_tuple_of d_tuple (by rfl) T.n_tuple (by decide +kernel) (a_cons (p_b (p_lc (own := [("_law_column", 6)]) rfl sc_law_sums.nd  (i_rng1 (by rfl) T.n_range (a_cons (b_var (pv 2)) a_nil)) (blkOk_by (own := [("_law_column", 6)]) (N := N_law_sums) (sc := defScope st_law_sums) (by decide +kernel)) (fun _ _ _ _ _ => (gp_name (pg_name (i := 6) sc_law_sums.nd rfl (by first | exact Or.inl rfl | exact Or.inr rfl)) (by simp))) (fun _ _ _ _ _ => qs_nil) (fun _ _ _ _ _ => (p_callB c_len d_len (by rfl) T.n_len (by decide +kernel) (a_cons (p_b (p_lc (own := [("_law_cell", 5)]) rfl sc_law_sums.nd  (i_seq (b_var (pv 0))) (blkOk_in (N := N_law_sums) rfl (by decide +kernel)) (fun _ _ _ _ _ => (gp_name (pg_name (i := 5) sc_law_sums.nd rfl (by first | exact Or.inl rfl | exact Or.inr rfl)) (by simp))) (fun _ _ _ _ _ => (qs_one (q_cmp (r_eq hr) d_eq (b_ix hr (b_var (pv 5)) (p_b p_int) (fun _ _ => rfl)) (b_var (pv 6)) (nomark _)))) (fun _ _ _ _ _ => (p_var (pv 5))))) a_nil))))) a_nil)) a_nil)))))))
/-! _law_taken -/
abbrev st_law_taken : Stmt := topS 28
abbrev N_law_taken : List Str := ["_law_row", "_law_many", "_law_found", "_law_cell"]
theorem sc_law_taken : FnScope N_law_taken ["_law_row", "_law_many"] (defScope st_law_taken) := ⟨rfl, rfl, rfl, by decide +kernel, rfl, by decide +kernel, by decide +kernel⟩
def s_law_taken : ES := (sSeq (sIf (tP' (xBool (xOp oGt (xOp ixD (xVar 0) (xC (.int 3))) (xC (.int 0))))) (sSeq (sAsg (mP (xOp oMod (xCall intD (xsCons (xOp ixD (xVar 0) (xC (.int 3))) xsNil)) (xVar 1))) (put 2))
  (sSeq (sAsg (mP (xOp oFdiv (xOp ixD (xVar 0) (xC (.int 3))) (xVar 1))) (gSub' 0 (xC (.int 3)) setL))
  (sRet (mP (xPure (xVar 2)))))) sNext)
  (sSeq (sAsg (mP (xOp oAdd (xOp ixD (xVar 0) (xC (.int 1))) (xC (.int 1)))) (gSub' 0 (xC (.int 1)) setL))
  (sSeq (sIf (tP' (xBool (xOp oGt (xOp ixD (xVar 0) (xC (.int 1))) (xCall lenD (xsCons (xOp ixD (xVar 0) (xC (.int 0))) xsNil))))) (sSeq (sAsg (mP (xOp oMod (xCall intD (xsCons (xOp oAdd (xOp oMul (xOp ixD (xVar 0) (xC (.int 2))) (xC (.int 48271))) (xC (.int 11))) xsNil)) (xC (.int 2147483647)))) (gSub' 0 (xC (.int 2)) setL))
  (sRet (mP (xOp oMod (xCall intD (xsCons (xOp oFdiv (xOp ixD (xVar 0) (xC (.int 2))) (xC (.int 7))) xsNil)) (xVar 1))))) sNext)
  (sSeq (sAsg (mP (xPure (xOp ixD (xOp ixD (xVar 0) (xC (.int 0))) (xOp oSub (xOp ixD (xVar 0) (xC (.int 1))) (xC (.int 1)))))) (put 3))
  (sSeq (sAsg (mP (xOp oMod (xCall intD (xsCons (xOp oAdd (xOp oAdd (xOp oMul (xOp ixD (xVar 0) (xC (.int 2))) (xC (.int 48271))) (xVar 3)) (xC (.int 11))) xsNil)) (xC (.int 2147483647)))) (gSub' 0 (xC (.int 2)) setL))
  (sSeq (sIf (tP' (xBool (xOp oGe (xVar 3) (xOp oPow (xC (.int 10)) (xC (.int 18)))))) (sAsg (mP (xOp oFdiv (xVar 3) (xVar 1))) (gSub' 0 (xC (.int 3)) setL)) sNext)
  (sRet (mP (xOp oMod (xCall intD (xsCons (xVar 3) xsNil)) (xVar 1))))))))))
def F_law_taken : D → List D → Option (D × D) := fnR N_law_taken s_law_taken
theorem ok_law_taken (T : Top K mg) : FnAt P w K mg base 1 "_law_taken" ["_law_row", "_law_many"] (spR K 1 F_law_taken) := by
  exact at_r T.d_law_taken sc_law_taken rfl fun f cdv A outer s H E hr => (s_cons (s_if (t_p (q_cmp (r_gt hr) d_ord (b_ix hr (b_var (pv 0)) (p_b p_int) (fun _ _ => rfl)) (p_b p_int) (nomark _))) (s_cons (s_set (i := 2) sc_law_taken.nd rfl (by first | exact Or.inl rfl | exact Or.inr rfl) (m_p (p_op op_modN d_mod (p_b (p_callTy call_int1 d_int (by rfl) T.n_int (by decide +kernel) (a_cons (b_ix hr (b_var (pv 0)) (p_b p_int) (fun _ _ => rfl)) a_nil))) (b_var (pv 1)))))
    (s_cons (s_asg (m_p (p_op op_fdivN d_fdiv (b_ix hr (b_var (pv 0)) (p_b p_int) (fun _ _ => rfl)) (b_var (pv 1)))) (g_sub (pv 0) (p_b p_int) set_list st_list))
    (s_one (s_ret (m_p (p_var (pv 2))))))) s_nil)
    (s_cons (s_asg (m_p (p_op r_add d_add (b_ix hr (b_var (pv 0)) (p_b p_int) (fun _ _ => rfl)) (p_b p_int))) (g_sub (pv 0) (p_b p_int) set_list st_list))
    (s_cons (s_if (t_p (q_cmp (r_gt hr) d_ord (b_ix hr (b_var (pv 0)) (p_b p_int) (fun _ _ => rfl)) (p_b (p_callB c_len d_len (by rfl) T.n_len (by decide +kernel) (a_cons (b_ix hr (b_var (pv 0)) (p_b p_int) (fun _ _ => rfl)) a_nil))) (nomark _))) (s_cons (s_asg (m_p (p_op op_modN d_mod (p_b (p_callTy call_int1 d_int (by rfl) T.n_int (by decide +kernel) (a_cons (p_b (p_op r_add d_add (p_b (p_op op_mul d_mul (b_ix hr (b_var (pv 0)) (p_b p_int) (fun _ _ => rfl)) (p_b p_int))) (p_b p_int))) a_nil))) (p_b p_int))) (g_sub (pv 0) (p_b p_int) set_list st_list))
    (s_one (s_ret (m_p (p_op op_modN d_mod (p_b (p_callTy call_int1 d_int (by rfl) T.n_int (by decide +kernel) (a_cons (p_b (p_op op_fdivN d_fdiv (b_ix hr (b_var (pv 0)) (p_b p_int) (fun _ _ => rfl)) (p_b p_int))) a_nil))) (b_var (pv 1))))))) s_nil)
    (s_cons (s_set (i := 3) sc_law_taken.nd rfl (by first | exact Or.inl rfl | exact Or.inr rfl) (m_p (p_pure (b_ix hr (b_ix hr (b_var (pv 0)) (p_b p_int) (fun _ _ => rfl)) (p_b (p_op op_sub d_sub (b_ix hr (b_var (pv 0)) (p_b p_int) (fun _ _ => rfl)) (p_b p_int))) (fun _ _ => rfl)))))
    (s_cons (s_asg (m_p (p_op op_modN d_mod (p_b (p_callTy call_int1 d_int (by rfl) T.n_int (by decide +kernel) (a_cons (p_b (p_op r_add d_add (p_b (p_op r_add d_add (p_b (p_op op_mul d_mul (b_ix hr (b_var (pv 0)) (p_b p_int) (fun _ _ => rfl)) (p_b p_int))) (b_var (pv 3)))) (p_b p_int))) a_nil))) (p_b p_int))) (g_sub (pv 0) (p_b p_int) set_list st_list))
    (s_cons (s_if (t_p (q_cmp (r_ge hr) d_ord (b_var (pv 3)) (p_b (p_op op_pow d_pow (p_b p_int) (p_b p_int))) (nomark _))) (s_one (s_asg (m_p (p_op op_fdivN d_fdiv (b_var (pv 3)) (b_var (pv 1)))) (g_sub (pv 0) (p_b p_int) set_list st_list))) s_nil)
    (s_one (s_ret (m_p (p_op op_modN d_mod (p_b (p_callTy call_int1 d_int (by rfl) T.n_int (by decide +kernel) (a_cons (b_var (pv 3)) a_nil))) (b_var (pv 1))))))))))))
/-! _law_pick -/
abbrev st_law_pick : Stmt := topS 29
abbrev N_law_pick : List Str := ["_law_row", "_law_things"]
theorem sc_law_pick : FnScope N_law_pick ["_law_row", "_law_things"] (defScope st_law_pick) := ⟨rfl, rfl, rfl, by decide +kernel, rfl, by decide +kernel, by decide +kernel⟩
def s_law_pick : ES := (sRet (mIxV 1 (mCallR F_law_taken 0 (msCons (mP (xCall lenD (xsCons (xVar 1) xsNil))) msNil))))
def F_law_pick : D → List D → Option (D × D) := fnR N_law_pick s_law_pick
theorem ok_law_pick (T : Top K mg) : FnAt P w K mg base 2 "_law_pick" ["_law_row", "_law_things"] (spR K 1 F_law_pick) := by
  have G_law_taken := (ok_law_taken (P := P) (w := w) (base := base) T).mono (show 1 ≤ 1 by decide)
  exact at_r T.d_law_pick sc_law_pick rfl fun f cdv A outer s H E hr => (s_one (s_ret (m_ixV hr (pv 1) (m_atR G_law_taken hr (by rfl) (pv 0) (ms_cons (m_p (p_callB c_len d_len (by rfl) T.n_len (by decide +kernel) (a_cons (b_var (pv 1)) a_nil))) ms_nil) (msn_cons msn_nil)) (fun _ _ => rfl))))
/-! _law_framed -/
abbrev st_law_framed : Stmt := topS 31
abbrev N_law_framed : List Str := ["_law_row", "_law_high", "_law_wide", "_law_found", "_law_dense", "_law_line", "_law_column"]
theorem sc_law_framed : FnScope N_law_framed ["_law_row", "_law_high", "_law_wide"] (defScope st_law_framed) := ⟨rfl, rfl, rfl, by decide +kernel, rfl, by decide +kernel, by decide +kernel⟩
def s_law_framed : ES := (sSeq (sAsg (mTup (msCons (mP (xLst xsNil)) (msCons (mCallR F_law_pick 0 (msCons (mP (xLst (xsCons (xC (.int 2)) (xsCons (xC (.int 2)) (xsCons (xC (.int 3)) (xsCons (xC (.int 4)) xsNil)))))) msNil)) msNil))) (gTupD 2 (gsCons (put 3) (gsCons (put 4) gsNil))))
  (sSeq (sFor (iP (xRng1 (xsCons (xVar 1) xsNil))) (put 5)
  (sAsg (mOpV oAdd 3 (mComp [6] (iP (xRng1 (xsCons (xVar 2) xsNil))) (put 6) (mBool (mOp oEq (mCallR F_law_taken 0 (msCons (mP (xPure (xVar 4))) msNil)) (mP (xC (.int 0))))) (mP (xTup (xsCons (xPure (xVar 5)) (xsCons (xPure (xVar 6)) xsNil)))))) (put 3)))
  (sRet (mP (xCall tupleD (xsCons (xVar 3) xsNil))))))
def F_law_framed : D → List D → Option (D × D) := fnR N_law_framed s_law_framed
theorem ok_law_framed (T : Top K mg) : FnAt P w K mg base 3 "_law_framed" ["_law_row", "_law_high", "_law_wide"] (spR K 2 F_law_framed) := by
  have G_law_pick := (ok_law_pick (P := P) (w := w) (base := base) T).mono (show 2 ≤ 2 by decide)
  have G_law_taken := (ok_law_taken (P := P) (w := w) (base := base) T).mono (show 1 ≤ 2 by decide)
  exact at_r T.d_law_framed sc_law_framed rfl fun f cdv A outer s H E hr => (s_cons (s_asg (m_tup (ms_cons (m_p (p_lst a_nil)) (ms_cons (m_atR G_law_pick hr (by rfl) (pv 0) (ms_cons (m_p (p_lst (a_cons p_int (a_cons p_int (a_cons p_int (a_cons p_int a_nil)))))) ms_nil) (msn_cons msn_nil)) ms_nil))) (g_tup rfl (gs_cons (g_name (pg_name (i := 3) sc_law_framed.nd rfl (by first | exact Or.inl rfl | exact Or.inr rfl))) (gs_cons (g_name (pg_name (i := 4) sc_law_framed.nd rfl (by first | exact Or.inl rfl | exact Or.inr rfl))) gs_nil))))
    (s_cons (s_for PassesOwn.never rfl (i_p (i_rng1 (by rfl) T.n_range (a_cons (b_var (pv 1)) a_nil))) (g_name (pg_name (i := 5) sc_law_framed.nd rfl (by first | exact Or.inl rfl | exact Or.inr rfl)))
    (s_one (s_set (i := 3) sc_law_framed.nd rfl (by first | exact Or.inl rfl | exact Or.inr rfl) (m_opV r_add d_add (pv 3) (m_lc (own := [("_law_column", 6)]) rfl sc_law_framed.nd  (i_p (i_rng1 (by rfl) T.n_range (a_cons (b_var (pv 2)) a_nil))) (blkOk_by (own := [("_law_column", 6)]) (N := N_law_framed) (sc := defScope st_law_framed) (by decide +kernel)) (fun _ _ _ _ _ => (gm_name (pg_name (i := 6) sc_law_framed.nd rfl (by first | exact Or.inl rfl | exact Or.inr rfl)) (by simp))) (fun _ _ _ _ _ => (qm_one (t_cmp (r_eq hr) d_eq (m_atR G_law_taken hr (by rfl) (pv 0) (ms_cons (m_p (p_var (pv 4))) ms_nil) (msn_cons msn_nil)) (m_p p_int) (nomark _)))) (fun _ _ _ _ _ => (m_p (p_tup (a_cons (p_var (pv 5)) (a_cons (p_var (pv 6)) a_nil))))))))))
    (s_one (s_ret (m_p (p_callTy call_tuple_of d_tuple (by rfl) T.n_tuple (by decide +kernel) (a_cons (b_var (pv 3)) a_nil)))))))
/-! _law_any_sums -/
abbrev st_law_any_sums : Stmt := topS 34
abbrev N_law_any_sums : List Str := ["_law_row", "_law_high", "_law_wide", "_law_rows", "_law_columns", "_law_way", "_law_line", "_law_column"]
theorem sc_law_any_sums : FnScope N_law_any_sums ["_law_row", "_law_high", "_law_wide"] (defScope st_law_any_sums) := ⟨rfl, rfl, rfl, by decide +kernel, rfl, by decide +kernel, by decide +kernel⟩
def s_law_any_sums : ES := (sSeq (sAsg (mCall F_law_sums (msCons (mCallR F_law_framed 0 (msCons (mP (xPure (xVar 1))) (msCons (mP (xPure (xVar 2))) msNil))) (msCons (mP (xPure (xVar 1))) (msCons (mP (xPure (xVar 2))) msNil)))) (gTupD 2 (gsCons (put 3) (gsCons (put 4) gsNil))))
  (sSeq (sAsg (mCallR F_law_taken 0 (msCons (mP (xC (.int 3))) msNil)) (put 5))
  (sSeq (sIf (tP' (xBool (xOp oEq (xVar 5) (xC (.int 1))))) (sSeq (sPar 6 7 (msCons (mCallR F_law_taken 0 (msCons (mP (xPure (xVar 1))) msNil)) (msCons (mCallR F_law_taken 0 (msCons (mP (xPure (xVar 2))) msNil)) msNil)))
  (sSeq (sAsg (mP (xOp oAdd (xOp oAdd (xCut (xVar 3) none (some (xVar 6))) (xTup (xsCons (xOp oAdd (xOp ixD (xVar 3) (xVar 6)) (xC (.int 1))) xsNil))) (xCut (xVar 3) (some (xOp oAdd (xVar 6) (xC (.int 1)))) none))) (put 3))
  (sAsg (mP (xOp oAdd (xOp oAdd (xCut (xVar 4) none (some (xVar 7))) (xTup (xsCons (xOp oAdd (xOp ixD (xVar 4) (xVar 7)) (xC (.int 1))) xsNil))) (xCut (xVar 4) (some (xOp oAdd (xVar 7) (xC (.int 1)))) none))) (put 4)))) sNext)
  (sSeq (sIf (tP' (xBool (xOp oEq (xVar 5) (xC (.int 2))))) (sAsg (mCall tupleD (msCons (mComp [6] (iP (xRng1 (xsCons (xVar 1) xsNil))) (put 6) (tP' yYes) (mCallR F_law_taken 0 (msCons (mP (xOp oAdd (xVar 2) (xC (.int 1)))) msNil))) msNil)) (put 3)) sNext)
  (sRet (mP (xTup (xsCons (xPure (xVar 3)) (xsCons (xPure (xVar 4)) xsNil)))))))))
def F_law_any_sums : D → List D → Option (D × D) := fnR N_law_any_sums s_law_any_sums
theorem ok_law_any_sums (T : Top K mg) : FnAt P w K mg base 4 "_law_any_sums" ["_law_row", "_law_high", "_law_wide"] (spR K 2 F_law_any_sums) := by
  have G_law_sums := (ok_law_sums (P := P) (w := w) (base := base) T).mono (show 1 ≤ 3 by decide)
  have G_law_taken := (ok_law_taken (P := P) (w := w) (base := base) T).mono (show 1 ≤ 3 by decide)
  have G_law_framed := (ok_law_framed (P := P) (w := w) (base := base) T).mono (show 3 ≤ 3 by decide)
  exact at_r T.d_law_any_sums sc_law_any_sums rfl fun f cdv A outer s H E hr => (s_cons (s_asg (m_at G_law_sums hr (by rfl) (ms_cons (m_atR G_law_framed hr (by rfl) (pv 0) (ms_cons (m_p (p_var (pv 1))) (ms_cons (m_p (p_var (pv 2))) ms_nil)) (msn_cons (msn_cons msn_nil))) (ms_cons (m_p (p_var (pv 1))) (ms_cons (m_p (p_var (pv 2))) ms_nil))) (msn_cons (msn_cons (msn_cons msn_nil)))) (g_tup rfl (gs_cons (g_name (pg_name (i := 3) sc_law_any_sums.nd rfl (by first | exact Or.inl rfl | exact Or.inr rfl))) (gs_cons (g_name (pg_name (i := 4) sc_law_any_sums.nd rfl (by first | exact Or.inl rfl | exact Or.inr rfl))) gs_nil))))
    (s_cons (s_set (i := 5) sc_law_any_sums.nd rfl (by first | exact Or.inl rfl | exact Or.inr rfl) (m_atR G_law_taken hr (by rfl) (pv 0) (ms_cons (m_p p_int) ms_nil) (msn_cons msn_nil)))
    (s_cons (s_if (t_p (q_cmp (r_eq hr) d_eq (b_var (pv 5)) (p_b p_int) (nomark _))) (s_cons (s_par (i := 6) (j := 7) rfl sc_law_any_sums.nd rfl rfl (by decide) rfl rfl (ms_cons (m_atR G_law_taken hr (by rfl) (pv 0) (ms_cons (m_p (p_var (pv 1))) ms_nil) (msn_cons msn_nil)) (ms_cons (m_atR G_law_taken hr (by rfl) (pv 0) (ms_cons (m_p (p_var (pv 2))) ms_nil) (msn_cons msn_nil)) ms_nil)) (by rfl))
    (s_cons (s_set (i := 3) sc_law_any_sums.nd rfl (by first | exact Or.inl rfl | exact Or.inr rfl) (m_p (p_op r_add d_add (p_b (p_op r_add d_add (p_b (p_cut (b_var (pv 3)) o_none (o_some (b_var (pv 6))))) (p_b (p_tup (a_cons (p_op r_add d_add (b_ix hr (b_var (pv 3)) (b_var (pv 6)) (fun _ _ => rfl)) (p_b p_int)) a_nil))))) (p_b (p_cut (b_var (pv 3)) (o_some (p_b (p_op r_add d_add (b_var (pv 6)) (p_b p_int)))) o_none)))))
    (s_one (s_set (i := 4) sc_law_any_sums.nd rfl (by first | exact Or.inl rfl | exact Or.inr rfl) (m_p (p_op r_add d_add (p_b (p_op r_add d_add (p_b (p_cut (b_var (pv 4)) o_none (o_some (b_var (pv 7))))) (p_b (p_tup (a_cons (p_op r_add d_add (b_ix hr (b_var (pv 4)) (b_var (pv 7)) (fun _ _ => rfl)) (p_b p_int)) a_nil))))) (p_b (p_cut (b_var (pv 4)) (o_some (p_b (p_op r_add d_add (b_var (pv 7)) (p_b p_int)))) o_none)))))))) s_nil)
    (s_cons (s_if (t_p (q_cmp (r_eq hr) d_eq (b_var (pv 5)) (p_b p_int) (nomark _))) (s_one (s_set (i := 3) sc_law_any_sums.nd rfl (by first | exact Or.inl rfl | exact Or.inr rfl) (m_callTy call_tuple_of d_tuple (by rfl) T.n_tuple (by decide +kernel) (ms_cons (m_lc (own := [("_law_line", 6)]) rfl sc_law_any_sums.nd  (i_p (i_rng1 (by rfl) T.n_range (a_cons (b_var (pv 1)) a_nil))) (blkOk_by (own := [("_law_line", 6)]) (N := N_law_any_sums) (sc := defScope st_law_any_sums) (by decide +kernel)) (fun _ _ _ _ _ => (gm_name (pg_name (i := 6) sc_law_any_sums.nd rfl (by first | exact Or.inl rfl | exact Or.inr rfl)) (by simp))) (fun _ _ _ _ _ => qm_nil) (fun _ _ _ _ _ => (m_atR G_law_taken hr (by rfl) (pv 0) (ms_cons (m_p (p_op r_add d_add (b_var (pv 2)) (p_b p_int))) ms_nil) (msn_cons msn_nil)))) ms_nil)))) s_nil)
    (s_one (s_ret (m_p (p_tup (a_cons (p_var (pv 3)) (a_cons (p_var (pv 4)) a_nil))))))))))
/-! _law_pictures -/
abbrev st_law_pictures : Stmt := topS 33
abbrev N_law_pictures : List Str := ["_law_rows", "_law_columns", "_law_found", "_law_line", "_law_more", "_law_number", "_law_cells", "_law_ink", "_law_whole", "_law_column", "_law_cell"]
theorem sc_law_pictures : FnScope N_law_pictures ["_law_rows", "_law_columns"] (defScope st_law_pictures) := ⟨rfl, rfl, rfl, by decide +kernel, rfl, by decide +kernel, by decide +kernel⟩
def s_law_pictures : ES := (sSeq (sAsg (mP (xLst (xsCons (xTup xsNil) xsNil))) (put 2))
  (sSeq (sFor (iP (xRng1 (xsCons (xCall lenD (xsCons (xVar 0) xsNil)) xsNil))) (put 3)
  (sSeq (sAsg (mP (xLst xsNil)) (put 4))
  (sSeq (sFor (iP (xRng1 (xsCons (xOp oShl (xC (.int 1)) (xCall lenD (xsCons (xVar 1) xsNil))) xsNil))) (put 5)
  (sSeq (sAsg (mP (xCall tupleD (xsCons (xComp [9] (xRng1 (xsCons (xCall lenD (xsCons (xVar 1) xsNil)) xsNil)) (putB 9) (xBool (xOp oEq (xOp oMod (xCall intD (xsCons (xOp oShr (xVar 5) (xVar 9)) xsNil)) (xC (.int 2))) (xC (.int 1)))) (xTup (xsCons (xPure (xVar 3)) (xsCons (xPure (xVar 9)) xsNil)))) xsNil))) (put 6))
  (sIf (tP' (xBool (xOp oEq (xCall lenD (xsCons (xVar 6) xsNil)) (xOp ixD (xVar 0) (xVar 3))))) (sLend 2 (sFor (srcB 2) (put 7)
  (sSeq (sAsg (mP (xOp oAdd (xVar 7) (xVar 6))) (put 8))
  (sIf (tP' (xBool (xOp oEq (xComp [9] (xRng1 (xsCons (xCall lenD (xsCons (xVar 1) xsNil)) xsNil)) (putB 9) (xBool (xOp oGt (xCall lenD (xsCons (xComp [10] (xIt (xVar 8)) (putB 10) (xBool (xOp oEq (xOp ixD (xVar 10) (xC (.int 1))) (xVar 9))) (xPure (xVar 10))) xsNil)) (xOp ixD (xVar 1) (xVar 9)))) (xPure (xVar 9))) (xLst xsNil)))) (sDrop (mMut isL appendD 4 (msCons (mP (xPure (xVar 8))) msNil))) sNext)))) sNext)))
  (sAsg (mMove 4) (put 2)))))
  (sRet (mP (xCall sortedB (xsCons (xComp [7] (xIt (xVar 2)) (putB 7) (xBool (xOp oEq (xCall F_law_sums (xsCons (xVar 7) (xsCons (xCall lenD (xsCons (xVar 0) xsNil)) (xsCons (xCall lenD (xsCons (xVar 1) xsNil)) xsNil)))) (xTup (xsCons (xCall tupleD (xsCons (xVar 0) xsNil)) (xsCons (xCall tupleD (xsCons (xVar 1) xsNil)) xsNil))))) (xPure (xVar 7))) xsNil))))))
def F_law_pictures : List D → Option D := fnP N_law_pictures s_law_pictures
theorem ok_law_pictures (T : Top K mg) : FnAt P w K mg base 2 "_law_pictures" ["_law_rows", "_law_columns"] (spP K 2 F_law_pictures) := by
  have G_law_sums := (ok_law_sums (P := P) (w := w) (base := base) T).mono (show 1 ≤ 1 by decide)
  exact at_p T.d_law_pictures sc_law_pictures fun f cdv A outer s H E hr => (s_cons (s_set (i := 2) sc_law_pictures.nd rfl (by first | exact Or.inl rfl | exact Or.inr rfl) (m_p (p_lst (a_cons (p_tup a_nil) a_nil))))
    (s_cons (s_for PassesOwn.never rfl (i_p (i_rng1 (by rfl) T.n_range (a_cons (p_b (p_callB c_len d_len (by rfl) T.n_len (by decide +kernel) (a_cons (b_var (pv 0)) a_nil))) a_nil))) (g_name (pg_name (i := 3) sc_law_pictures.nd rfl (by first | exact Or.inl rfl | exact Or.inr rfl)))
    (s_cons (s_set (i := 4) sc_law_pictures.nd rfl (by first | exact Or.inl rfl | exact Or.inr rfl) (m_p (p_lst a_nil)))
    (s_cons (s_for PassesOwn.never rfl (i_p (i_rng1 (by rfl) T.n_range (a_cons (p_b (p_op op_shl d_shl (p_b p_int) (p_b (p_callB c_len d_len (by rfl) T.n_len (by decide +kernel) (a_cons (b_var (pv 1)) a_nil))))) a_nil))) (g_name (pg_name (i := 5) sc_law_pictures.nd rfl (by first | exact Or.inl rfl | exact Or.inr rfl)))
    (s_cons (s_set (i := 6) sc_law_pictures.nd rfl (by first | exact Or.inl rfl | exact Or.inr rfl) (m_p (p_callTy call_tuple_of d_tuple (by rfl) T.n_tuple (by decide +kernel) (a_cons (p_b (p_lc (own := [("_law_column", 9)]) rfl sc_law_pictures.nd  (i_rng1 (by rfl) T.n_range (a_cons (p_b (p_callB c_len d_len (by rfl) T.n_len (by decide +kernel) (a_cons (b_var (pv 1)) a_nil))) a_nil)) (blkOk_by (own := [("_law_column", 9)]) (N := N_law_pictures) (sc := defScope st_law_pictures) (by decide +kernel)) (fun _ _ _ _ _ => (gp_name (pg_name (i := 9) sc_law_pictures.nd rfl (by first | exact Or.inl rfl | exact Or.inr rfl)) (by simp))) (fun _ _ _ _ _ => (qs_one (q_cmp (r_eq hr) d_eq (p_b (p_op op_modN d_mod (p_b (p_callTy call_int1 d_int (by rfl) T.n_int (by decide +kernel) (a_cons (p_b (p_op op_shr d_shr (b_var (pv 5)) (b_var (pv 9)))) a_nil))) (p_b p_int))) (p_b p_int) (nomark _)))) (fun _ _ _ _ _ => (p_tup (a_cons (p_var (pv 3)) (a_cons (p_var (pv 9)) a_nil)))))) a_nil))))
    (s_one (s_if (t_p (q_cmp (r_eq hr) d_eq (p_b (p_callB c_len d_len (by rfl) T.n_len (by decide +kernel) (a_cons (b_var (pv 6)) a_nil))) (b_ix hr (b_var (pv 0)) (b_var (pv 3)) (fun _ _ => rfl)) (nomark _))) (s_one (s_lend (i := 2) (s_for PassesOwn.never rfl (i_varB (pv 2)) (g_name (pg_name (i := 7) sc_law_pictures.nd rfl (by first | exact Or.inl rfl | exact Or.inr rfl)))
    (s_cons (s_set (i := 8) sc_law_pictures.nd rfl (by first | exact Or.inl rfl | exact Or.inr rfl) (m_p (p_op r_add d_add (b_var (pv 7)) (b_var (pv 6)))))
    (s_one (s_if (t_p (q_cmp (r_eq hr) d_eq (p_b (p_lc (own := [("_law_column", 9)]) rfl sc_law_pictures.nd  (i_rng1 (by rfl) T.n_range (a_cons (p_b (p_callB c_len d_len (by rfl) T.n_len (by decide +kernel) (a_cons (b_var (pv 1)) a_nil))) a_nil)) (blkOk_by (own := [("_law_column", 9)]) (N := N_law_pictures) (sc := defScope st_law_pictures) (by decide +kernel)) (fun _ _ _ _ _ => (gp_name (pg_name (i := 9) sc_law_pictures.nd rfl (by first | exact Or.inl rfl | exact Or.inr rfl)) (by simp))) (fun _ _ _ _ _ => (qs_one (q_cmp (r_gt hr) d_ord (p_b (p_callB c_len d_len (by rfl) T.n_len (by decide +kernel) (a_cons (p_b (p_lc (own := [("_law_cell", 10)]) rfl sc_law_pictures.nd  (i_seq (b_var (pv 8))) (blkOk_in (N := N_law_pictures) rfl (by decide +kernel)) (fun _ _ _ _ _ => (gp_name (pg_name (i := 10) sc_law_pictures.nd rfl (by first | exact Or.inl rfl | exact Or.inr rfl)) (by simp))) (fun _ _ _ _ _ => (qs_one (q_cmp (r_eq hr) d_eq (b_ix hr (b_var (pv 10)) (p_b p_int) (fun _ _ => rfl)) (b_var (pv 9)) (nomark _)))) (fun _ _ _ _ _ => (p_var (pv 10))))) a_nil))) (b_ix hr (b_var (pv 1)) (b_var (pv 9)) (fun _ _ => rfl)) (nomark _)))) (fun _ _ _ _ _ => (p_var (pv 9))))) (p_b (p_lst a_nil)) (nomark _))) (s_one (s_expr (m_mut PySem.F.plainAttrs_list PySem.F.slot_list_append PySem.F.type_list_append mt_append ty_list mu_append (pv 4) (ms_cons (m_p (p_var (pv 8))) ms_nil)))) s_nil)))))) s_nil))))
    (s_one (s_set (i := 2) sc_law_pictures.nd rfl (by first | exact Or.inl rfl | exact Or.inr rfl) (m_move (pv 4)))))))
    (s_one (s_ret (m_p (p_callB (c_sortedB rfl hr) d_sortedB (by rfl) T.n_sorted (by decide +kernel) (a_cons (p_b (p_lc (own := [("_law_ink", 7)]) rfl sc_law_pictures.nd  (i_seq (b_var (pv 2))) (blkOk_by (own := [("_law_ink", 7)]) (N := N_law_pictures) (sc := defScope st_law_pictures) (by decide +kernel)) (fun _ _ _ _ _ => (gp_name (pg_name (i := 7) sc_law_pictures.nd rfl (by first | exact Or.inl rfl | exact Or.inr rfl)) (by simp))) (fun _ _ _ _ _ => (qs_one (q_cmp (r_eq hr) d_eq (p_b (p_at G_law_sums hr (by rfl) (a_cons (b_var (pv 7)) (a_cons (p_b (p_callB c_len d_len (by rfl) T.n_len (by decide +kernel) (a_cons (b_var (pv 0)) a_nil))) (a_cons (p_b (p_callB c_len d_len (by rfl) T.n_len (by decide +kernel) (a_cons (b_var (pv 1)) a_nil))) a_nil))) (len_cons (len_cons (len_cons len_nil))))) (p_b (p_tup (a_cons (p_callTy call_tuple_of d_tuple (by rfl) T.n_tuple (by decide +kernel) (a_cons (b_var (pv 0)) a_nil)) (a_cons (p_callTy call_tuple_of d_tuple (by rfl) T.n_tuple (by decide +kernel) (a_cons (b_var (pv 1)) a_nil)) a_nil)))) (nomark _)))) (fun _ _ _ _ _ => (p_var (pv 7))))) a_nil)))))))
/-! is_list -/
abbrev st_is_list : Stmt := topS 3
abbrev N_is_list : List Str := ["value", "least", "most"]
theorem sc_is_list : FnScope N_is_list ["value", "least", "most"] (defScope st_is_list) := ⟨rfl, rfl, rfl, by decide +kernel, rfl, by decide +kernel, by decide +kernel⟩
def s_is_list : ES := (sRet (mP (xAnd (xIsi ["tuple"] (xVar 0)) (xChain oLe oLe (xVar 1) (xCall lenD (xsCons (xVar 0) xsNil)) (xVar 2)))))
def F_is_list : List D → Option D := fnP N_is_list s_is_list
theorem ok_is_list (T : Top K mg) : FnAt P w K mg base 1 "is_list" ["value", "least", "most"] (spP K 3 F_is_list) := by
  exact at_p T.d_is_list sc_is_list fun f cdv A outer s H E hr => (s_one (s_ret (m_p (p_and (p_b (p_isi (by rfl) T.n_isinstance (by rfl) T.n_tuple (by decide +kernel) (by decide) (b_var (pv 0)))) (p_one (p_chain (r_le hr) d_ord (r_le hr) d_ord (b_var (pv 1)) (p_b (p_callB c_len d_len (by rfl) T.n_len (by decide +kernel) (a_cons (b_var (pv 0)) a_nil))) (b_var (pv 2))))))))
/-! is_integer -/
abbrev st_is_integer : Stmt := topS 1
abbrev N_is_integer : List Str := ["value"]
theorem sc_is_integer : FnScope N_is_integer ["value"] (defScope st_is_integer) := ⟨rfl, rfl, rfl, by decide +kernel, rfl, by decide +kernel, by decide +kernel⟩
def s_is_integer : ES := (sRet (mP (xAnd (xIsi ["int"] (xVar 0)) (xNot (xIsi ["bool"] (xVar 0))))))
def F_is_integer : List D → Option D := fnP N_is_integer s_is_integer
theorem ok_is_integer (T : Top K mg) : FnAt P w K mg base 1 "is_integer" ["value"] (spP K 1 F_is_integer) := by
  exact at_p T.d_is_integer sc_is_integer fun f cdv A outer s H E hr => (s_one (s_ret (m_p (p_and (p_b (p_isi (by rfl) T.n_isinstance (by rfl) T.n_int (by decide +kernel) (by decide) (b_var (pv 0)))) (p_one (p_not (p_b (p_isi (by rfl) T.n_isinstance (by rfl) T.n_bool (by decide +kernel) (by decide) (b_var (pv 0))))))))))
/-! is_in -/
abbrev st_is_in : Stmt := topS 2
abbrev N_is_in : List Str := ["value", "least", "most"]
theorem sc_is_in : FnScope N_is_in ["value", "least", "most"] (defScope st_is_in) := ⟨rfl, rfl, rfl, by decide +kernel, rfl, by decide +kernel, by decide +kernel⟩
def s_is_in : ES := (sRet (mP (xAnd (xCall F_is_integer (xsCons (xVar 0) xsNil)) (xChain oLe oLe (xVar 1) (xVar 0) (xVar 2)))))
def F_is_in : List D → Option D := fnP N_is_in s_is_in
theorem ok_is_in (T : Top K mg) : FnAt P w K mg base 2 "is_in" ["value", "least", "most"] (spP K 3 F_is_in) := by
  have G_is_integer := (ok_is_integer (P := P) (w := w) (base := base) T).mono (show 1 ≤ 1 by decide)
  exact at_p T.d_is_in sc_is_in fun f cdv A outer s H E hr => (s_one (s_ret (m_p (p_and (p_b (p_at G_is_integer hr (by rfl) (a_cons (b_var (pv 0)) a_nil) (len_cons len_nil))) (p_one (p_chain (r_le hr) d_ord (r_le hr) d_ord (b_var (pv 1)) (b_var (pv 0)) (b_var (pv 2))))))))
/-! need_sums -/
abbrev st_need_sums : Stmt := topS 18
abbrev N_need_sums : List Str := ["sums", "most", "index", "one"]
theorem sc_need_sums : FnScope N_need_sums ["sums", "most"] (defScope st_need_sums) := ⟨rfl, rfl, rfl, by decide +kernel, rfl, by decide +kernel, by decide +kernel⟩
def s_need_sums : ES := (sSeq (sIf (tP' (yNot (xBool (xCall F_is_list (xsCons (xVar 0) (xsCons (xC (.int 1)) (xsCons (xC (.int 12)) xsNil))))))) sNever sNext)
  (sFor (iP (xEn (xPure (xVar 0)))) (gTupD 2 (gsCons (put 2) (gsCons (put 3) gsNil)))
  (sIf (tP' (yNot (xBool (xCall F_is_in (xsCons (xVar 3) (xsCons (xC (.int 0)) (xsCons (xVar 1) xsNil))))))) sNever sNext)))
def F_need_sums : List D → Option D := fnP N_need_sums s_need_sums
theorem ok_need_sums (T : Top K mg) : FnAt P w K mg base 3 "need_sums" ["sums", "most"] (spP K 2 F_need_sums) := by
  have G_is_list := (ok_is_list (P := P) (w := w) (base := base) T).mono (show 1 ≤ 2 by decide)
  have G_is_in := (ok_is_in (P := P) (w := w) (base := base) T).mono (show 2 ≤ 2 by decide)
  exact at_p T.d_need_sums sc_need_sums fun f cdv A outer s H E hr => (s_cons (s_if (t_p (q_not (q_val (p_b (p_at G_is_list hr (by rfl) (a_cons (b_var (pv 0)) (a_cons (p_b p_int) (a_cons (p_b (p_gI (by rfl) T.k_MOST_SIDE)) a_nil))) (len_cons (len_cons (len_cons len_nil)))))))) (s_one s_never) s_nil)
    (s_one (s_for PassesOwn.never rfl (i_p (i_enum (by rfl) T.n_enumerate (p_var (pv 0)))) (g_tup rfl (gs_cons (g_name (pg_name (i := 2) sc_need_sums.nd rfl (by first | exact Or.inl rfl | exact Or.inr rfl))) (gs_cons (g_name (pg_name (i := 3) sc_need_sums.nd rfl (by first | exact Or.inl rfl | exact Or.inr rfl))) gs_nil)))
    (s_one (s_if (t_p (q_not (q_val (p_b (p_at G_is_in hr (by rfl) (a_cons (b_var (pv 3)) (a_cons (p_b p_int) (a_cons (b_var (pv 1)) a_nil))) (len_cons (len_cons (len_cons len_nil)))))))) (s_one s_never) s_nil)))))
/-! need_both -/
abbrev st_need_both : Stmt := topS 19
abbrev N_need_both : List Str := ["rows", "columns"]
theorem sc_need_both : FnScope N_need_both ["rows", "columns"] (defScope st_need_both) := ⟨rfl, rfl, rfl, by decide +kernel, rfl, by decide +kernel, by decide +kernel⟩
def s_need_both : ES := (sSeq (sDrop (mP (xCall F_need_sums (xsCons (xVar 0) (xsCons (xC (.int 12)) xsNil)))))
  (sDrop (mP (xCall F_need_sums (xsCons (xVar 1) (xsCons (xC (.int 12)) xsNil))))))
def F_need_both : List D → Option D := fnP N_need_both s_need_both
theorem ok_need_both (T : Top K mg) : FnAt P w K mg base 4 "need_both" ["rows", "columns"] (spP K 2 F_need_both) := by
  have G_need_sums := (ok_need_sums (P := P) (w := w) (base := base) T).mono (show 3 ≤ 3 by decide)
  exact at_p T.d_need_both sc_need_both fun f cdv A outer s H E hr => (s_cons (s_expr (m_p (p_at G_need_sums hr (by rfl) (a_cons (b_var (pv 0)) (a_cons (p_b (p_gI (by rfl) T.k_MOST_SIDE)) a_nil)) (len_cons (len_cons len_nil)))))
    (s_one (s_expr (m_p (p_at G_need_sums hr (by rfl) (a_cons (b_var (pv 1)) (a_cons (p_b (p_gI (by rfl) T.k_MOST_SIDE)) a_nil)) (len_cons (len_cons len_nil)))))))
/-! first_lack -/
abbrev st_first_lack : Stmt := topS 23
abbrev N_first_lack : List Str := ["rows", "columns", "line", "many", "column"]
theorem sc_first_lack : FnScope N_first_lack ["rows", "columns"] (defScope st_first_lack) := ⟨rfl, rfl, rfl, by decide +kernel, rfl, by decide +kernel, by decide +kernel⟩
def s_first_lack : ES := (sSeq (sDrop (mP (xCall F_need_both (xsCons (xVar 0) (xsCons (xVar 1) xsNil)))))
  (sSeq (sIf (tP' (xBool (xOp oNe (xCall sumX (xsCons (xVar 0) xsNil)) (xCall sumX (xsCons (xVar 1) xsNil))))) (sRet (mP (xC (.int 0)))) sNext)
  (sSeq (sAsg (mP (xRev (xCall sortedC (xsCons (xVar 0) xsNil)))) (put 2))
  (sSeq (sFor (iP (xRng2 (xsCons (xC (.int 1)) (xsCons (xOp oAdd (xCall lenD (xsCons (xVar 2) xsNil)) (xC (.int 1))) xsNil)))) (put 3)
  (sIf (tP' (xBool (xOp oGt (xCall sumX (xsCons (xCut (xVar 2) none (some (xVar 3))) xsNil)) (xCall sumD (xsCons (xComp [4] (xIt (xVar 1)) (putB 4) yYes (xCall min2D (xsCons (xVar 3) (xsCons (xVar 4) xsNil)))) xsNil))))) (sRet (mP (xPure (xVar 3)))) sNext))
  (sRet (mP (xC .non)))))))
def F_first_lack : List D → Option D := fnP N_first_lack s_first_lack
theorem ok_first_lack (T : Top K mg) : FnAt P w K mg base 5 "first_lack" ["rows", "columns"] (spP K 2 F_first_lack) := by
  have G_need_both := (ok_need_both (P := P) (w := w) (base := base) T).mono (show 4 ≤ 4 by decide)
  exact at_p T.d_first_lack sc_first_lack fun f cdv A outer s H E hr => (s_cons (s_expr (m_p (p_at G_need_both hr (by rfl) (a_cons (b_var (pv 0)) (a_cons (b_var (pv 1)) a_nil)) (len_cons (len_cons len_nil)))))
    (s_cons (s_if (t_p (q_cmp (r_ne hr) d_ne (p_b (p_callB (cr_sumX rfl) d_sumX (by rfl) T.n_sum (by decide +kernel) (a_cons (b_var (pv 0)) a_nil))) (p_b (p_callB (cr_sumX rfl) d_sumX (by rfl) T.n_sum (by decide +kernel) (a_cons (b_var (pv 1)) a_nil))) (nomark _))) (s_one (s_ret (m_p p_int))) s_nil)
    (s_cons (s_set (i := 2) sc_first_lack.nd rfl (by first | exact Or.inl rfl | exact Or.inr rfl) (m_p (p_rev (p_b (p_callB (c_sortedC rfl hr) d_sortedC (by rfl) T.n_sorted (by decide +kernel) (a_cons (b_var (pv 0)) a_nil))) (p_neg1 p_int))))
    (s_cons (s_for PassesOwn.never rfl (i_p (i_rng2 (by rfl) T.n_range (a_cons (p_b p_int) (a_cons (p_b (p_op r_add d_add (p_b (p_callB c_len d_len (by rfl) T.n_len (by decide +kernel) (a_cons (b_var (pv 2)) a_nil))) (p_b p_int))) a_nil)))) (g_name (pg_name (i := 3) sc_first_lack.nd rfl (by first | exact Or.inl rfl | exact Or.inr rfl)))
    (s_one (s_if (t_p (q_cmp (r_gt hr) d_ord (p_b (p_callB (cr_sumX rfl) d_sumX (by rfl) T.n_sum (by decide +kernel) (a_cons (p_b (p_cut (b_var (pv 2)) o_none (o_some (b_var (pv 3))))) a_nil))) (p_b (p_callB (cr_sum rfl) d_sum (by rfl) T.n_sum (by decide +kernel) (a_cons (p_b (p_lc (own := [("column", 4)]) rfl sc_first_lack.nd  (i_seq (b_var (pv 1))) (blkOk_by (own := [("column", 4)]) (N := N_first_lack) (sc := defScope st_first_lack) (by decide +kernel)) (fun _ _ _ _ _ => (gp_name (pg_name (i := 4) sc_first_lack.nd rfl (by first | exact Or.inl rfl | exact Or.inr rfl)) (by simp))) (fun _ _ _ _ _ => qs_nil) (fun _ _ _ _ _ => (p_callB (call_min2 rfl) d_min2 (by rfl) T.n_min (by decide +kernel) (a_cons (b_var (pv 3)) (a_cons (b_var (pv 4)) a_nil)))))) a_nil))) (nomark _))) (s_one (s_ret (m_p (p_var (pv 3))))) s_nil)))
    (s_one (s_ret (m_p p_non)))))))
/-! picture_of -/
abbrev st_picture_of : Stmt := topS 24
abbrev N_picture_of : List Str := ["rows", "columns", "left", "found", "size", "row", "order", "many", "column"]
theorem sc_picture_of : FnScope N_picture_of ["rows", "columns"] (defScope st_picture_of) := ⟨rfl, rfl, rfl, by decide +kernel, rfl, by decide +kernel, by decide +kernel⟩
def s_picture_of : ES := (sSeq (sIf (tP' (xBool (xOp oNotN (xCall F_first_lack (xsCons (xVar 0) (xsCons (xVar 1) xsNil))) (xC .non)))) (sRet (mP (xC .non))) sNext)
  (sSeq (sAsg (mP (xTup (xsCons (xCall listA (xsCons (xVar 1) xsNil)) (xsCons (xLst xsNil) xsNil)))) (gTupD 2 (gsCons (put 2) (gsCons (put 3) gsNil))))
  (sSeq (sFor (iP (xIt (xCall sortedB (xsCons (xComp [5, 4] (xEn (xVar 0)) (gTupD 2 (gsCons (putB 5) (gsCons (putB 4) gsNil))) yYes (xTup (xsCons (xNeg (xVar 4)) (xsCons (xPure (xVar 5)) xsNil)))) xsNil)))) (gTupD 2 (gsCons (put 4) (gsCons (put 5) gsNil)))
  (sSeq (sAsg (mP (xCall sortedB (xsCons (xComp [8] (xRng1 (xsCons (xCall lenD (xsCons (xVar 2) xsNil)) xsNil)) (putB 8) yYes (xTup (xsCons (xNeg (xOp ixD (xVar 2) (xVar 8))) (xsCons (xPure (xVar 8)) xsNil)))) xsNil))) (put 6))
  (sFor (iP (xIt (xCut (xVar 6) none (some (xNeg (xVar 4)))))) (gTupD 2 (gsCons (put 7) (gsCons (put 8) gsNil)))
  (sSeq (sAugS 2 (xVar 8) getLD (o2 (fun _ _ => true) fun i j => i - j) (xC (.int 1)) setL)
  (sDrop (mMut isL appendD 3 (msCons (mP (xTup (xsCons (xPure (xVar 5)) (xsCons (xPure (xVar 8)) xsNil)))) msNil)))))))
  (sRet (mP (xCall tupleD (xsCons (xCall sortedB (xsCons (xVar 3) xsNil)) xsNil)))))))
def F_picture_of : List D → Option D := fnP N_picture_of s_picture_of
theorem ok_picture_of (T : Top K mg) : FnAt P w K mg base 6 "picture_of" ["rows", "columns"] (spP K 2 F_picture_of) := by
  have G_first_lack := (ok_first_lack (P := P) (w := w) (base := base) T).mono (show 5 ≤ 5 by decide)
  exact at_p T.d_picture_of sc_picture_of fun f cdv A outer s H E hr => (s_cons (s_if (t_p (q_cmp op_notN d_notN (p_b (p_at G_first_lack hr (by rfl) (a_cons (b_var (pv 0)) (a_cons (b_var (pv 1)) a_nil)) (len_cons (len_cons len_nil)))) (p_b p_non) (nomark _))) (s_one (s_ret (m_p p_non))) s_nil)
    (s_cons (s_asg (m_p (p_tup (a_cons (p_callTy (c_listA rfl) d_listA (by rfl) T.n_list (by decide +kernel) (a_cons (b_var (pv 1)) a_nil)) (a_cons (p_lst a_nil) a_nil)))) (g_tup rfl (gs_cons (g_name (pg_name (i := 2) sc_picture_of.nd rfl (by first | exact Or.inl rfl | exact Or.inr rfl))) (gs_cons (g_name (pg_name (i := 3) sc_picture_of.nd rfl (by first | exact Or.inl rfl | exact Or.inr rfl))) gs_nil))))
    (s_cons (s_for PassesOwn.never rfl (i_p (i_seq (p_callB (c_sortedB rfl hr) d_sortedB (by rfl) T.n_sorted (by decide +kernel) (a_cons (p_b (p_lc (own := [("row", 5), ("size", 4)]) rfl sc_picture_of.nd  (i_enum (by rfl) T.n_enumerate (b_var (pv 0))) (blkOk_by (own := [("row", 5), ("size", 4)]) (N := N_picture_of) (sc := defScope st_picture_of) (by decide +kernel)) (fun _ _ _ _ _ => (gp_tup rfl (gps_cons (gp_name (pg_name (i := 5) sc_picture_of.nd rfl (by first | exact Or.inl rfl | exact Or.inr rfl)) (by simp)) (gps_cons (gp_name (pg_name (i := 4) sc_picture_of.nd rfl (by first | exact Or.inl rfl | exact Or.inr rfl)) (by simp)) gps_nil)))) (fun _ _ _ _ _ => qs_nil) (fun _ _ _ _ _ => (p_tup (a_cons (p_neg' (b_var (pv 4))) (a_cons (p_var (pv 5)) a_nil)))))) a_nil)))) (g_tup rfl (gs_cons (g_name (pg_name (i := 4) sc_picture_of.nd rfl (by first | exact Or.inl rfl | exact Or.inr rfl))) (gs_cons (g_name (pg_name (i := 5) sc_picture_of.nd rfl (by first | exact Or.inl rfl | exact Or.inr rfl))) gs_nil)))
    (s_cons (s_set (i := 6) sc_picture_of.nd rfl (by first | exact Or.inl rfl | exact Or.inr rfl) (m_p (p_callB (c_sortedB rfl hr) d_sortedB (by rfl) T.n_sorted (by decide +kernel) (a_cons (p_b (p_lc (own := [("column", 8)]) rfl sc_picture_of.nd  (i_rng1 (by rfl) T.n_range (a_cons (p_b (p_callB c_len d_len (by rfl) T.n_len (by decide +kernel) (a_cons (b_var (pv 2)) a_nil))) a_nil)) (blkOk_by (own := [("column", 8)]) (N := N_picture_of) (sc := defScope st_picture_of) (by decide +kernel)) (fun _ _ _ _ _ => (gp_name (pg_name (i := 8) sc_picture_of.nd rfl (by first | exact Or.inl rfl | exact Or.inr rfl)) (by simp))) (fun _ _ _ _ _ => qs_nil) (fun _ _ _ _ _ => (p_tup (a_cons (p_neg' (b_ix hr (b_var (pv 2)) (b_var (pv 8)) (fun _ _ => rfl))) (a_cons (p_var (pv 8)) a_nil)))))) a_nil))))
    (s_one (s_for PassesOwn.never rfl (i_p (i_seq (p_cut (b_var (pv 6)) o_none (o_some (p_b (p_neg' (b_var (pv 4)))))))) (g_tup rfl (gs_cons (g_name (pg_name (i := 7) sc_picture_of.nd rfl (by first | exact Or.inl rfl | exact Or.inr rfl))) (gs_cons (g_name (pg_name (i := 8) sc_picture_of.nd rfl (by first | exact Or.inl rfl | exact Or.inr rfl))) gs_nil)))
    (s_cons (s_augS (pv 2) (b_var (pv 8)) get_list d_getL (p_b p_int) ip_sub ip_20 set_list st_list)
    (s_one (s_expr (m_mut PySem.F.plainAttrs_list PySem.F.slot_list_append PySem.F.type_list_append mt_append ty_list mu_append (pv 3) (ms_cons (m_p (p_tup (a_cons (p_var (pv 5)) (a_cons (p_var (pv 8)) a_nil)))) ms_nil)))))))))
    (s_one (s_ret (m_p (p_callTy call_tuple_of d_tuple (by rfl) T.n_tuple (by decide +kernel) (a_cons (p_b (p_callB (c_sortedB rfl hr) d_sortedB (by rfl) T.n_sorted (by decide +kernel) (a_cons (b_var (pv 3)) a_nil))) a_nil))))))))
/-! _law_alike -/
abbrev st_law_alike : Stmt := topS 30
abbrev N_law_alike : List Str := ["_law_found", "_law_due", "_law_k"]
theorem sc_law_alike : FnScope N_law_alike ["_law_found", "_law_due"] (defScope st_law_alike) := ⟨rfl, rfl, rfl, by decide +kernel, rfl, by decide +kernel, by decide +kernel⟩
def s_law_alike (F : List D → Option D) : ES := (sSeq (sIf (tP' (xBool (xIsi ["tuple", "list"] (xVar 1)))) (sSeq (sIf (tP' (yOr (yNot (xBool (xIsi ["tuple", "list"] (xVar 0)))) (xBool (xOp oNe (xIsi ["list"] (xVar 0)) (xIsi ["list"] (xVar 1)))))) (sRet (mP (xC (.bl false)))) sNext)
  (sSeq (sIf (tP' (xBool (xOp oNe (xCall lenD (xsCons (xVar 0) xsNil)) (xCall lenD (xsCons (xVar 1) xsNil))))) (sRet (mP (xC (.bl false)))) sNext)
  (sRet (mP (xOp oEq (xComp [2] (xRng1 (xsCons (xCall lenD (xsCons (xVar 1) xsNil)) xsNil)) (putB 2) (yNot (xBool (xCall F (xsCons (xOp ixD (xVar 0) (xVar 2)) (xsCons (xOp ixD (xVar 1) (xVar 2)) xsNil))))) (xPure (xVar 2))) (xLst xsNil)))))) sNext)
  (sSeq (sIf (tP' (yOr (xBool (xOp oIsN (xVar 1) (xC .non))) (xBool (xIsi ["str"] (xVar 1))))) (sRet (mP (xAnd (xOp oEq (xVar 0) (xVar 1)) (xOp oEq (xIsi ["str"] (xVar 0)) (xIsi ["str"] (xVar 1)))))) sNext)
  (sRet (mP (xAnd (xIsi ["int"] (xVar 0)) (xAnd (xOp oEq (xIsi ["bool"] (xVar 0)) (xIsi ["bool"] (xVar 1))) (xOp oEq (xVar 0) (xVar 1))))))))
def R_law_alike : Nat → List D → Option D
  | 0 => fun _ => none
  | n + 1 => fnP N_law_alike (s_law_alike (R_law_alike n))
def F_law_alike : List D → Option D := R_law_alike 8
theorem ok_law_alike (T : Top K mg) : ∀ n : Nat, FnAt P w K mg base (0 + n) "_law_alike" ["_law_found", "_law_due"] (spP K 2 (R_law_alike n))
  | 0 => at_none T.d_law_alike rfl
  | n + 1 => by
    have ih := ok_law_alike T n
    exact at_p T.d_law_alike sc_law_alike fun f cdv A outer s H E hr => (s_cons (s_if (t_p (q_val (p_b (p_isi2 (by rfl) T.n_isinstance (by rfl) T.n_tuple (by decide +kernel) (by decide) (by rfl) T.n_list (by decide +kernel) (by decide) (b_var (pv 1)))))) (s_cons (s_if (t_p (PW.pt (w_or (q_not (q_val (p_b (p_isi2 (by rfl) T.n_isinstance (by rfl) T.n_tuple (by decide +kernel) (by decide) (by rfl) T.n_list (by decide +kernel) (by decide) (b_var (pv 0)))))) (w_or1 (q_cmp (r_ne hr) d_ne (p_b (p_isi (by rfl) T.n_isinstance (by rfl) T.n_list (by decide +kernel) (by decide) (b_var (pv 0)))) (p_b (p_isi (by rfl) T.n_isinstance (by rfl) T.n_list (by decide +kernel) (by decide) (b_var (pv 1)))) (nomark _)))))) (s_one (s_ret (m_p p_bl))) s_nil)
    (s_cons (s_if (t_p (q_cmp (r_ne hr) d_ne (p_b (p_callB c_len d_len (by rfl) T.n_len (by decide +kernel) (a_cons (b_var (pv 0)) a_nil))) (p_b (p_callB c_len d_len (by rfl) T.n_len (by decide +kernel) (a_cons (b_var (pv 1)) a_nil))) (nomark _))) (s_one (s_ret (m_p p_bl))) s_nil)
    (s_one (s_ret (m_p (p_cmp (r_eq hr) d_eq (p_b (p_lc (own := [("_law_k", 2)]) rfl sc_law_alike.nd  (i_rng1 (by rfl) T.n_range (a_cons (p_b (p_callB c_len d_len (by rfl) T.n_len (by decide +kernel) (a_cons (b_var (pv 1)) a_nil))) a_nil)) (blkOk_by (own := [("_law_k", 2)]) (N := N_law_alike) (sc := defScope st_law_alike) (by decide +kernel)) (fun _ _ _ _ _ => (gp_name (pg_name (i := 2) sc_law_alike.nd rfl (by first | exact Or.inl rfl | exact Or.inr rfl)) (by simp))) (fun _ _ _ _ _ => (qs_one (q_not (q_val (p_b (p_at ih hr (by rfl) (a_cons (b_ix hr (b_var (pv 0)) (b_var (pv 2)) (fun _ _ => rfl)) (a_cons (b_ix hr (b_var (pv 1)) (b_var (pv 2)) (fun _ _ => rfl)) a_nil)) (len_cons (len_cons len_nil)))))))) (fun _ _ _ _ _ => (p_var (pv 2))))) (p_b (p_lst a_nil)) (nomark _))))))) s_nil)
    (s_cons (s_if (t_p (PW.pt (w_or (q_cmp op_isN d_isN (b_var (pv 1)) (p_b p_non) (nomark _)) (w_or1 (q_val (p_b (p_isi (by rfl) T.n_isinstance (by rfl) T.n_str (by decide +kernel) (by decide) (b_var (pv 1))))))))) (s_one (s_ret (m_p (p_and (p_b (p_cmp (r_eq hr) d_eq (b_var (pv 0)) (b_var (pv 1)) (nomark _))) (p_one (p_cmp (r_eq hr) d_eq (p_b (p_isi (by rfl) T.n_isinstance (by rfl) T.n_str (by decide +kernel) (by decide) (b_var (pv 0)))) (p_b (p_isi (by rfl) T.n_isinstance (by rfl) T.n_str (by decide +kernel) (by decide) (b_var (pv 1)))) (nomark _))))))) s_nil)
    (s_one (s_ret (m_p (p_and (p_b (p_isi (by rfl) T.n_isinstance (by rfl) T.n_int (by decide +kernel) (by decide) (b_var (pv 0)))) (p_and (p_b (p_cmp (r_eq hr) d_eq (p_b (p_isi (by rfl) T.n_isinstance (by rfl) T.n_bool (by decide +kernel) (by decide) (b_var (pv 0)))) (p_b (p_isi (by rfl) T.n_isinstance (by rfl) T.n_bool (by decide +kernel) (by decide) (b_var (pv 1)))) (nomark _))) (p_one (p_cmp (r_eq hr) d_eq (b_var (pv 0)) (b_var (pv 1)) (nomark _))))))))))
/-! choices -/
abbrev st_choices : Stmt := topS 26
abbrev N_choices : List Str := ["many", "size", "found", "turn", "one", "at"]
theorem sc_choices : FnScope N_choices ["many", "size"] (defScope st_choices) := ⟨rfl, rfl, rfl, by decide +kernel, rfl, by decide +kernel, by decide +kernel⟩
def s_choices : ES := (sSeq (sAsg (mP (xLst (xsCons (xTup xsNil) xsNil))) (put 2))
  (sSeq (sFor (iP (xRng1 (xsCons (xVar 1) xsNil))) (put 3)
  (sAsg (mP (xComp2 [4, 5] [5] (xIt (xVar 2)) (putB 4) yYes (xRng2 (xsCons (xIf (xBool (xOp oNe (xVar 4) (xTup xsNil))) (xOp oAdd (xOp ixD (xVar 4) (xNeg (xC (.int 1)))) (xC (.int 1))) (xC (.int 0))) (xsCons (xVar 0) xsNil))) (putB 5) yYes (xTup (xsStar (xVar 4) (xsCons (xPure (xVar 5)) xsNil))))) (put 2)))
  (sRet (mMove 2))))
def F_choices : List D → Option D := fnP N_choices s_choices
theorem ok_choices (T : Top K mg) : FnAt P w K mg base 1 "choices" ["many", "size"] (spP K 2 F_choices) := by
  exact at_p T.d_choices sc_choices fun f cdv A outer s H E hr => (s_cons (s_set (i := 2) sc_choices.nd rfl (by first | exact Or.inl rfl | exact Or.inr rfl) (m_p (p_lst (a_cons (p_tup a_nil) a_nil))))
    (s_cons (s_for PassesOwn.never rfl (i_p (i_rng1 (by rfl) T.n_range (a_cons (b_var (pv 1)) a_nil))) (g_name (pg_name (i := 3) sc_choices.nd rfl (by first | exact Or.inl rfl | exact Or.inr rfl)))
    (s_one (s_setLc2 (i := 2) (own := [("one", 4), ("at", 5)]) rfl sc_choices.nd rfl rfl (sw_true rfl rfl rfl (by decide +kernel)) (i_seq (b_var (pv 2))) (blkOk_by (own := [("one", 4), ("at", 5)]) (N := N_choices) (sc := defScope st_choices) (by decide +kernel)) (by decide) (go_put (by simp)) (fun _ _ _ _ _ => (gp_name (pg_name (i := 4) sc_choices.nd rfl (by first | exact Or.inl rfl | exact Or.inr rfl)) (by simp))) (fun _ _ _ _ _ => qs_nil) (fun _ _ _ _ _ => (i_rng2 (by rfl) T.n_range (a_cons (p_b (p_if (q_cmp (r_ne hr) d_ne (b_var (pv 4)) (p_b (p_tup a_nil)) (nomark _)) (p_op r_add d_add (b_ix hr (b_var (pv 4)) (p_b (p_neg' (p_b p_int))) (fun _ _ => rfl)) (p_b p_int)) p_int)) (a_cons (b_var (pv 0)) a_nil)))) (fun _ _ _ _ _ => (gp_name (pg_name (i := 5) sc_choices.nd rfl (by first | exact Or.inl rfl | exact Or.inr rfl)) (by simp))) (fun _ _ _ _ _ => qs_nil) (fun _ _ _ _ _ => (p_tup (a_star (b_var (pv 4)) (a_cons (p_var (pv 5)) a_nil)))))))
    (s_one (s_ret (m_move (pv 2))))))
/-! all_pictures -/
abbrev st_all_pictures : Stmt := topS 25
abbrev N_all_pictures : List Str := ["rows", "columns", "found", "row", "size", "more", "ink", "left", "part", "less", "done", "column", "many"]
theorem sc_all_pictures : FnScope N_all_pictures ["rows", "columns"] (defScope st_all_pictures) := ⟨rfl, rfl, rfl, by decide +kernel, rfl, by decide +kernel, by decide +kernel⟩
def s_all_pictures : ES := (sSeq (sDrop (mP (xCall F_need_both (xsCons (xVar 0) (xsCons (xVar 1) xsNil)))))
  (sSeq (sAsg (mP (xLst (xsCons (xTup (xsCons (xTup xsNil) (xsCons (xPure (xVar 1)) xsNil))) xsNil))) (put 2))
  (sSeq (sFor (iP (xEn (xPure (xVar 0)))) (gTupD 2 (gsCons (put 3) (gsCons (put 4) gsNil)))
  (sSeq (sAsg (mP (xLst xsNil)) (put 5))
  (sSeq (sLend 2 (sFor (srcB 2) (gTupD 2 (gsCons (put 6) (gsCons (put 7) gsNil)))
  (sFor (iP (xIt (xCall F_choices (xsCons (xCall lenD (xsCons (xVar 1) xsNil)) (xsCons (xVar 4) xsNil))))) (put 8)
  (sIf (tP' (xBool (xCall allD (xsCons (xComp [11] (xIt (xVar 8)) (putB 11) yYes (xOp oGt (xOp ixD (xVar 7) (xVar 11)) (xC (.int 0)))) xsNil)))) (sSeq (sAsg (mP (xCall tupleD (xsCons (xComp [11, 12] (xEn (xVar 7)) (gTupD 2 (gsCons (putB 11) (gsCons (putB 12) gsNil))) yYes (xOp oSub (xVar 12) (xCall intD (xsCons (xOp oIn (xVar 11) (xVar 8)) xsNil)))) xsNil))) (put 9))
  (sIf (tP' (xBool (xCall allD (xsCons (xComp [12] (xIt (xVar 9)) (putB 12) yYes (xOp oLt (xVar 12) (xOp oSub (xCall lenD (xsCons (xVar 0) xsNil)) (xVar 3)))) xsNil)))) (sDrop (mMut isL appendD 5 (msCons (mP (xTup (xsCons (xOp oAdd (xVar 6) (xCall tupleD (xsCons (xComp [11] (xIt (xVar 8)) (putB 11) yYes (xTup (xsCons (xPure (xVar 3)) (xsCons (xPure (xVar 11)) xsNil)))) xsNil))) (xsCons (xPure (xVar 9)) xsNil)))) msNil))) sNext)) sNext))))
  (sSeq (sAsg (mMove 5) (put 2))
  (sIf (tP' (xBool (xOp oGt (xCall lenD (xsCons (xVar 2) xsNil)) (xOp oMul (xC (.int 500)) (xC (.int 12)))))) sNever sNext)))))
  (sSeq (sAsg (mP (xCall sortedB (xsCons (xComp [6, 7] (xIt (xVar 2)) (gTupD 2 (gsCons (putB 6) (gsCons (putB 7) gsNil))) (yNot (xBool (xCall anyA (xsCons (xVar 7) xsNil)))) (xPure (xVar 6))) xsNil))) (put 10))
  (sSeq (sIf (tP' (xBool (xOp oGt (xCall lenD (xsCons (xVar 10) xsNil)) (xC (.int 500))))) sNever sNext)
  (sRet (mMove 10)))))))
def F_all_pictures : List D → Option D := fnP N_all_pictures s_all_pictures
theorem ok_all_pictures (T : Top K mg) : FnAt P w K mg base 5 "all_pictures" ["rows", "columns"] (spP K 2 F_all_pictures) := by
  have G_need_both := (ok_need_both (P := P) (w := w) (base := base) T).mono (show 4 ≤ 4 by decide)
  have G_choices := (ok_choices (P := P) (w := w) (base := base) T).mono (show 1 ≤ 4 by decide)
  exact at_p T.d_all_pictures sc_all_pictures fun f cdv A outer s H E hr => (s_cons (s_expr (m_p (p_at G_need_both hr (by rfl) (a_cons (b_var (pv 0)) (a_cons (b_var (pv 1)) a_nil)) (len_cons (len_cons len_nil)))))
    (s_cons (s_set (i := 2) sc_all_pictures.nd rfl (by first | exact Or.inl rfl | exact Or.inr rfl) (m_p (p_lst (a_cons (p_tup (a_cons (p_tup a_nil) (a_cons (p_var (pv 1)) a_nil))) a_nil))))
    (s_cons (s_for PassesOwn.never rfl (i_p (i_enum (by rfl) T.n_enumerate (p_var (pv 0)))) (g_tup rfl (gs_cons (g_name (pg_name (i := 3) sc_all_pictures.nd rfl (by first | exact Or.inl rfl | exact Or.inr rfl))) (gs_cons (g_name (pg_name (i := 4) sc_all_pictures.nd rfl (by first | exact Or.inl rfl | exact Or.inr rfl))) gs_nil)))
    (s_cons (s_set (i := 5) sc_all_pictures.nd rfl (by first | exact Or.inl rfl | exact Or.inr rfl) (m_p (p_lst a_nil)))
    (s_cons (s_lend (i := 2) (s_for PassesOwn.never rfl (i_varB (pv 2)) (g_tup rfl (gs_cons (g_name (pg_name (i := 6) sc_all_pictures.nd rfl (by first | exact Or.inl rfl | exact Or.inr rfl))) (gs_cons (g_name (pg_name (i := 7) sc_all_pictures.nd rfl (by first | exact Or.inl rfl | exact Or.inr rfl))) gs_nil)))
    (s_one (s_for PassesOwn.never rfl (i_p (i_seq (p_at G_choices hr (by rfl) (a_cons (p_b (p_callB c_len d_len (by rfl) T.n_len (by decide +kernel) (a_cons (b_var (pv 1)) a_nil))) (a_cons (b_var (pv 4)) a_nil)) (len_cons (len_cons len_nil))))) (g_name (pg_name (i := 8) sc_all_pictures.nd rfl (by first | exact Or.inl rfl | exact Or.inr rfl)))
    (s_one (s_if (t_p (q_val (p_b (p_callB (cr_all rfl) d_all (by rfl) T.n_all (by decide +kernel) (a_cons (p_b (p_lc (own := [("column", 11)]) rfl sc_all_pictures.nd  (i_seq (b_var (pv 8))) (blkOk_by (own := [("column", 11)]) (N := N_all_pictures) (sc := defScope st_all_pictures) (by decide +kernel)) (fun _ _ _ _ _ => (gp_name (pg_name (i := 11) sc_all_pictures.nd rfl (by first | exact Or.inl rfl | exact Or.inr rfl)) (by simp))) (fun _ _ _ _ _ => qs_nil) (fun _ _ _ _ _ => (p_cmp (r_gt hr) d_ord (b_ix hr (b_var (pv 7)) (b_var (pv 11)) (fun _ _ => rfl)) (p_b p_int) (nomark _))))) a_nil))))) (s_cons (s_set (i := 9) sc_all_pictures.nd rfl (by first | exact Or.inl rfl | exact Or.inr rfl) (m_p (p_callTy call_tuple_of d_tuple (by rfl) T.n_tuple (by decide +kernel) (a_cons (p_b (p_lc (own := [("column", 11), ("many", 12)]) rfl sc_all_pictures.nd  (i_enum (by rfl) T.n_enumerate (b_var (pv 7))) (blkOk_by (own := [("column", 11), ("many", 12)]) (N := N_all_pictures) (sc := defScope st_all_pictures) (by decide +kernel)) (fun _ _ _ _ _ => (gp_tup rfl (gps_cons (gp_name (pg_name (i := 11) sc_all_pictures.nd rfl (by first | exact Or.inl rfl | exact Or.inr rfl)) (by simp)) (gps_cons (gp_name (pg_name (i := 12) sc_all_pictures.nd rfl (by first | exact Or.inl rfl | exact Or.inr rfl)) (by simp)) gps_nil)))) (fun _ _ _ _ _ => qs_nil) (fun _ _ _ _ _ => (p_op op_sub d_sub (b_var (pv 12)) (p_b (p_callTy call_int1 d_int (by rfl) T.n_int (by decide +kernel) (a_cons (p_b (p_cmp (r_in hr) d_in' (b_var (pv 11)) (b_var (pv 8)) (by rfl))) a_nil))))))) a_nil))))
    (s_one (s_if (t_p (q_val (p_b (p_callB (cr_all rfl) d_all (by rfl) T.n_all (by decide +kernel) (a_cons (p_b (p_lc (own := [("many", 12)]) rfl sc_all_pictures.nd  (i_seq (b_var (pv 9))) (blkOk_by (own := [("many", 12)]) (N := N_all_pictures) (sc := defScope st_all_pictures) (by decide +kernel)) (fun _ _ _ _ _ => (gp_name (pg_name (i := 12) sc_all_pictures.nd rfl (by first | exact Or.inl rfl | exact Or.inr rfl)) (by simp))) (fun _ _ _ _ _ => qs_nil) (fun _ _ _ _ _ => (p_cmp (r_lt hr) d_ord (b_var (pv 12)) (p_b (p_op op_sub d_sub (p_b (p_callB c_len d_len (by rfl) T.n_len (by decide +kernel) (a_cons (b_var (pv 0)) a_nil))) (b_var (pv 3)))) (nomark _))))) a_nil))))) (s_one (s_expr (m_mut PySem.F.plainAttrs_list PySem.F.slot_list_append PySem.F.type_list_append mt_append ty_list mu_append (pv 5) (ms_cons (m_p (p_tup (a_cons (p_op r_add d_add (b_var (pv 6)) (p_b (p_callTy call_tuple_of d_tuple (by rfl) T.n_tuple (by decide +kernel) (a_cons (p_b (p_lc (own := [("column", 11)]) rfl sc_all_pictures.nd  (i_seq (b_var (pv 8))) (blkOk_by (own := [("column", 11)]) (N := N_all_pictures) (sc := defScope st_all_pictures) (by decide +kernel)) (fun _ _ _ _ _ => (gp_name (pg_name (i := 11) sc_all_pictures.nd rfl (by first | exact Or.inl rfl | exact Or.inr rfl)) (by simp))) (fun _ _ _ _ _ => qs_nil) (fun _ _ _ _ _ => (p_tup (a_cons (p_var (pv 3)) (a_cons (p_var (pv 11)) a_nil)))))) a_nil)))) (a_cons (p_var (pv 9)) a_nil)))) ms_nil)))) s_nil))) s_nil))))))
    (s_cons (s_set (i := 2) sc_all_pictures.nd rfl (by first | exact Or.inl rfl | exact Or.inr rfl) (m_move (pv 5)))
    (s_one (s_if (t_p (q_cmp (r_gt hr) d_ord (p_b (p_callB c_len d_len (by rfl) T.n_len (by decide +kernel) (a_cons (b_var (pv 2)) a_nil))) (p_b (p_op op_mul d_mul (p_b (p_gI (by rfl) T.k_MOST_PICTURES)) (p_b (p_gI (by rfl) T.k_MOST_SIDE)))) (nomark _))) (s_one s_never) s_nil))))))
    (s_cons (s_set (i := 10) sc_all_pictures.nd rfl (by first | exact Or.inl rfl | exact Or.inr rfl) (m_p (p_callB (c_sortedB rfl hr) d_sortedB (by rfl) T.n_sorted (by decide +kernel) (a_cons (p_b (p_lc (own := [("ink", 6), ("left", 7)]) rfl sc_all_pictures.nd  (i_seq (b_var (pv 2))) (blkOk_by (own := [("ink", 6), ("left", 7)]) (N := N_all_pictures) (sc := defScope st_all_pictures) (by decide +kernel)) (fun _ _ _ _ _ => (gp_tup rfl (gps_cons (gp_name (pg_name (i := 6) sc_all_pictures.nd rfl (by first | exact Or.inl rfl | exact Or.inr rfl)) (by simp)) (gps_cons (gp_name (pg_name (i := 7) sc_all_pictures.nd rfl (by first | exact Or.inl rfl | exact Or.inr rfl)) (by simp)) gps_nil)))) (fun _ _ _ _ _ => (qs_one (q_not (q_val (p_b (p_callB (c_anyA rfl) d_anyA (by rfl) T.n_any (by decide +kernel) (a_cons (b_var (pv 7)) a_nil))))))) (fun _ _ _ _ _ => (p_var (pv 6))))) a_nil))))
    (s_cons (s_if (t_p (q_cmp (r_gt hr) d_ord (p_b (p_callB c_len d_len (by rfl) T.n_len (by decide +kernel) (a_cons (b_var (pv 10)) a_nil))) (p_b (p_gI (by rfl) T.k_MOST_PICTURES)) (nomark _))) (s_one s_never) s_nil)
    (s_one (s_ret (m_move (pv 10)))))))))
/-! is_cell -/
abbrev st_is_cell : Stmt := topS 13
abbrev N_is_cell : List Str := ["value"]
theorem sc_is_cell : FnScope N_is_cell ["value"] (defScope st_is_cell) := ⟨rfl, rfl, rfl, by decide +kernel, rfl, by decide +kernel, by decide +kernel⟩
def s_is_cell : ES := (sRet (mP (xAnd (xCall F_is_list (xsCons (xVar 0) (xsCons (xC (.int 2)) (xsCons (xC (.int 2)) xsNil)))) (xAnd (xCall F_is_in (xsCons (xOp ixD (xVar 0) (xC (.int 0))) (xsCons (xNeg (xC (.int 60))) (xsCons (xC (.int 60)) xsNil)))) (xCall F_is_in (xsCons (xOp ixD (xVar 0) (xC (.int 1))) (xsCons (xNeg (xC (.int 60))) (xsCons (xC (.int 60)) xsNil))))))))
def F_is_cell : List D → Option D := fnP N_is_cell s_is_cell
theorem ok_is_cell (T : Top K mg) : FnAt P w K mg base 3 "is_cell" ["value"] (spP K 1 F_is_cell) := by
  have G_is_list := (ok_is_list (P := P) (w := w) (base := base) T).mono (show 1 ≤ 2 by decide)
  have G_is_in := (ok_is_in (P := P) (w := w) (base := base) T).mono (show 2 ≤ 2 by decide)
  exact at_p T.d_is_cell sc_is_cell fun f cdv A outer s H E hr => (s_one (s_ret (m_p (p_and (p_b (p_at G_is_list hr (by rfl) (a_cons (b_var (pv 0)) (a_cons (p_b p_int) (a_cons (p_b p_int) a_nil))) (len_cons (len_cons (len_cons len_nil))))) (p_and (p_b (p_at G_is_in hr (by rfl) (a_cons (b_ix hr (b_var (pv 0)) (p_b p_int) (fun _ _ => rfl)) (a_cons (p_b (p_neg' (p_b (p_gI (by rfl) T.k_MOST)))) (a_cons (p_b (p_gI (by rfl) T.k_MOST)) a_nil))) (len_cons (len_cons (len_cons len_nil))))) (p_one (p_at G_is_in hr (by rfl) (a_cons (b_ix hr (b_var (pv 0)) (p_b p_int) (fun _ _ => rfl)) (a_cons (p_b (p_neg' (p_b (p_gI (by rfl) T.k_MOST)))) (a_cons (p_b (p_gI (by rfl) T.k_MOST)) a_nil))) (len_cons (len_cons (len_cons len_nil))))))))))
/-! need_ink -/
abbrev st_need_ink : Stmt := topS 14
abbrev N_need_ink : List Str := ["value", "index", "cell"]
theorem sc_need_ink : FnScope N_need_ink ["value"] (defScope st_need_ink) := ⟨rfl, rfl, rfl, by decide +kernel, rfl, by decide +kernel, by decide +kernel⟩
def s_need_ink : ES := (sSeq (sIf (tP' (yNot (xBool (xCall F_is_list (xsCons (xVar 0) (xsCons (xC (.int 0)) (xsCons (xC (.int 400)) xsNil))))))) sNever sNext)
  (sFor (iP (xEn (xPure (xVar 0)))) (gTupD 2 (gsCons (put 1) (gsCons (put 2) gsNil)))
  (sIf (tP' (yOr (yNot (xBool (xCall F_is_cell (xsCons (xVar 2) xsNil)))) (yAnd (xBool (xOp oGt (xVar 1) (xC (.int 0)))) (xBool (xOp oLe (xVar 2) (xOp ixD (xVar 0) (xOp oSub (xVar 1) (xC (.int 1))))))))) sNever sNext)))
def F_need_ink : List D → Option D := fnP N_need_ink s_need_ink
theorem ok_need_ink (T : Top K mg) : FnAt P w K mg base 4 "need_ink" ["value"] (spP K 1 F_need_ink) := by
  have G_is_list := (ok_is_list (P := P) (w := w) (base := base) T).mono (show 1 ≤ 3 by decide)
  have G_is_cell := (ok_is_cell (P := P) (w := w) (base := base) T).mono (show 3 ≤ 3 by decide)
  exact at_p T.d_need_ink sc_need_ink fun f cdv A outer s H E hr => (s_cons (s_if (t_p (q_not (q_val (p_b (p_at G_is_list hr (by rfl) (a_cons (b_var (pv 0)) (a_cons (p_b p_int) (a_cons (p_b (p_gI (by rfl) T.k_MOST_CELLS)) a_nil))) (len_cons (len_cons (len_cons len_nil)))))))) (s_one s_never) s_nil)
    (s_one (s_for PassesOwn.never rfl (i_p (i_enum (by rfl) T.n_enumerate (p_var (pv 0)))) (g_tup rfl (gs_cons (g_name (pg_name (i := 1) sc_need_ink.nd rfl (by first | exact Or.inl rfl | exact Or.inr rfl))) (gs_cons (g_name (pg_name (i := 2) sc_need_ink.nd rfl (by first | exact Or.inl rfl | exact Or.inr rfl))) gs_nil)))
    (s_one (s_if (t_p (PW.pt (w_or (q_not (q_val (p_b (p_at G_is_cell hr (by rfl) (a_cons (b_var (pv 2)) a_nil) (len_cons len_nil))))) (w_or1 (PW.pt (w_and (q_cmp (r_gt hr) d_ord (b_var (pv 1)) (p_b p_int) (nomark _)) (w_and1 (q_cmp (r_le hr) d_ord (b_var (pv 2)) (b_ix hr (b_var (pv 0)) (p_b (p_op op_sub d_sub (b_var (pv 1)) (p_b p_int))) (fun _ _ => rfl)) (nomark _))))))))) (s_one s_never) s_nil)))))
/-! need_frame -/
abbrev st_need_frame : Stmt := topS 20
abbrev N_need_frame : List Str := ["ink", "high", "wide", "side", "index", "row", "column"]
theorem sc_need_frame : FnScope N_need_frame ["ink", "high", "wide"] (defScope st_need_frame) := ⟨rfl, rfl, rfl, by decide +kernel, rfl, by decide +kernel, by decide +kernel⟩
def s_need_frame : ES := (sSeq (sDrop (mP (xCall F_need_ink (xsCons (xVar 0) xsNil))))
  (sSeq (sFor (iP (xIt (xTup (xsCons (xPure (xVar 1)) (xsCons (xPure (xVar 2)) xsNil))))) (put 3)
  (sIf (tP' (yNot (xBool (xCall F_is_in (xsCons (xVar 3) (xsCons (xC (.int 1)) (xsCons (xC (.int 12)) xsNil))))))) sNever sNext))
  (sFor (iP (xEn (xPure (xVar 0)))) (gTupD 2 (gsCons (put 4) (gsCons (gTupD 2 (gsCons (put 5) (gsCons (put 6) gsNil))) gsNil)))
  (sIf (tP' (yOr (yNot (xBool (xChain oLe oLt (xC (.int 0)) (xVar 5) (xVar 1)))) (yNot (xBool (xChain oLe oLt (xC (.int 0)) (xVar 6) (xVar 2)))))) sNever sNext))))
def F_need_frame : List D → Option D := fnP N_need_frame s_need_frame
theorem ok_need_frame (T : Top K mg) : FnAt P w K mg base 5 "need_frame" ["ink", "high", "wide"] (spP K 3 F_need_frame) := by
  have G_need_ink := (ok_need_ink (P := P) (w := w) (base := base) T).mono (show 4 ≤ 4 by decide)
  have G_is_in := (ok_is_in (P := P) (w := w) (base := base) T).mono (show 2 ≤ 4 by decide)
  exact at_p T.d_need_frame sc_need_frame fun f cdv A outer s H E hr => (s_cons (s_expr (m_p (p_at G_need_ink hr (by rfl) (a_cons (b_var (pv 0)) a_nil) (len_cons len_nil))))
    (s_cons (s_for PassesOwn.never rfl (i_p (i_seq (p_tup (a_cons (p_var (pv 1)) (a_cons (p_var (pv 2)) a_nil))))) (g_name (pg_name (i := 3) sc_need_frame.nd rfl (by first | exact Or.inl rfl | exact Or.inr rfl)))
    (s_one (s_if (t_p (q_not (q_val (p_b (p_at G_is_in hr (by rfl) (a_cons (b_var (pv 3)) (a_cons (p_b p_int) (a_cons (p_b (p_gI (by rfl) T.k_MOST_SIDE)) a_nil))) (len_cons (len_cons (len_cons len_nil)))))))) (s_one s_never) s_nil)))
    (s_one (s_for PassesOwn.never rfl (i_p (i_enum (by rfl) T.n_enumerate (p_var (pv 0)))) (g_tup rfl (gs_cons (g_name (pg_name (i := 4) sc_need_frame.nd rfl (by first | exact Or.inl rfl | exact Or.inr rfl))) (gs_cons (g_tup rfl (gs_cons (g_name (pg_name (i := 5) sc_need_frame.nd rfl (by first | exact Or.inl rfl | exact Or.inr rfl))) (gs_cons (g_name (pg_name (i := 6) sc_need_frame.nd rfl (by first | exact Or.inl rfl | exact Or.inr rfl))) gs_nil))) gs_nil)))
    (s_one (s_if (t_p (PW.pt (w_or (q_not (q_chain (r_le hr) d_ord (r_lt hr) d_ord (p_b p_int) (b_var (pv 5)) (b_var (pv 1)))) (w_or1 (q_not (q_chain (r_le hr) d_ord (r_lt hr) d_ord (p_b p_int) (b_var (pv 6)) (b_var (pv 2)))))))) (s_one s_never) s_nil))))))
/-! sums_in -/
abbrev st_sums_in : Stmt := topS 21
abbrev N_sums_in : List Str := ["ink", "high", "wide", "rows", "columns", "row", "column"]
theorem sc_sums_in : FnScope N_sums_in ["ink", "high", "wide"] (defScope st_sums_in) := ⟨rfl, rfl, rfl, by decide +kernel, rfl, by decide +kernel, by decide +kernel⟩
def s_sums_in : ES := (sSeq (sPar 3 4 (msCons (mP (xOp oRep (xLst (xsCons (xC (.int 0)) xsNil)) (xVar 1))) (msCons (mP (xOp oRep (xLst (xsCons (xC (.int 0)) xsNil)) (xVar 2))) msNil)))
  (sSeq (sFor (iP (xIt (xPure (xVar 0)))) (gTupD 2 (gsCons (put 5) (gsCons (put 6) gsNil)))
  (sSeq (sAugS 3 (xVar 5) getLD (o2 (fun _ _ => true) fun i j => i + j) (xC (.int 1)) setL)
  (sAugS 4 (xVar 6) getLD (o2 (fun _ _ => true) fun i j => i + j) (xC (.int 1)) setL)))
  (sRet (mP (xTup (xsCons (xCall tupleD (xsCons (xVar 3) xsNil)) (xsCons (xCall tupleD (xsCons (xVar 4) xsNil)) xsNil)))))))
def F_sums_in : List D → Option D := fnP N_sums_in s_sums_in
theorem ok_sums_in (T : Top K mg) : FnAt P w K mg base 1 "sums_in" ["ink", "high", "wide"] (spP K 3 F_sums_in) := by
  exact at_p T.d_sums_in sc_sums_in fun f cdv A outer s H E hr => (s_cons (s_par (i := 3) (j := 4) rfl sc_sums_in.nd rfl rfl (by decide) rfl rfl (ms_cons (m_p (p_rep (p_lst (a_cons p_int a_nil)) (b_var (pv 1)))) (ms_cons (m_p (p_rep (p_lst (a_cons p_int a_nil)) (b_var (pv 2)))) ms_nil)) (by rfl))
    (s_cons (s_for PassesOwn.never rfl (i_p (i_seq (p_var (pv 0)))) (g_tup rfl (gs_cons (g_name (pg_name (i := 5) sc_sums_in.nd rfl (by first | exact Or.inl rfl | exact Or.inr rfl))) (gs_cons (g_name (pg_name (i := 6) sc_sums_in.nd rfl (by first | exact Or.inl rfl | exact Or.inr rfl))) gs_nil)))
    (s_cons (s_augS (pv 3) (b_var (pv 5)) get_list d_getL (p_b p_int) ip_add ip_20 set_list st_list)
    (s_one (s_augS (pv 4) (b_var (pv 6)) get_list d_getL (p_b p_int) ip_add ip_20 set_list st_list))))
    (s_one (s_ret (m_p (p_tup (a_cons (p_callTy call_tuple_of d_tuple (by rfl) T.n_tuple (by decide +kernel) (a_cons (b_var (pv 3)) a_nil)) (a_cons (p_callTy call_tuple_of d_tuple (by rfl) T.n_tuple (by decide +kernel) (a_cons (b_var (pv 4)) a_nil)) a_nil))))))))
/-! sums -/
abbrev st_sums : Stmt := topS 22
abbrev N_sums : List Str := ["ink", "high", "wide"]
theorem sc_sums : FnScope N_sums ["ink", "high", "wide"] (defScope st_sums) := ⟨rfl, rfl, rfl, by decide +kernel, rfl, by decide +kernel, by decide +kernel⟩
def s_sums : ES := (sSeq (sDrop (mP (xCall F_need_frame (xsCons (xVar 0) (xsCons (xVar 1) (xsCons (xVar 2) xsNil))))))
  (sRet (mP (xCall F_sums_in (xsCons (xVar 0) (xsCons (xVar 1) (xsCons (xVar 2) xsNil)))))))
def F_sums : List D → Option D := fnP N_sums s_sums
theorem ok_sums (T : Top K mg) : FnAt P w K mg base 6 "sums" ["ink", "high", "wide"] (spP K 3 F_sums) := by
  have G_need_frame := (ok_need_frame (P := P) (w := w) (base := base) T).mono (show 5 ≤ 5 by decide)
  have G_sums_in := (ok_sums_in (P := P) (w := w) (base := base) T).mono (show 1 ≤ 5 by decide)
  exact at_p T.d_sums sc_sums fun f cdv A outer s H E hr => (s_cons (s_expr (m_p (p_at G_need_frame hr (by rfl) (a_cons (b_var (pv 0)) (a_cons (b_var (pv 1)) (a_cons (b_var (pv 2)) a_nil))) (len_cons (len_cons (len_cons len_nil))))))
    (s_one (s_ret (m_p (p_at G_sums_in hr (by rfl) (a_cons (b_var (pv 0)) (a_cons (b_var (pv 1)) (a_cons (b_var (pv 2)) a_nil))) (len_cons (len_cons (len_cons len_nil))))))))
/-! law -/
abbrev st_law : Stmt := topS 35
abbrev N_law : List Str := ["_law_script", "_law_row", "_law_turn", "_law_high", "_law_wide", "_law_rows", "_law_columns", "_law_due", "_law_found", "_law_lack", "_law_line", "_law_told", "_law_many", "_law_column"]
theorem sc_law : FnScope N_law ["_law_script"] (defScope st_law) := ⟨rfl, rfl, rfl, by decide +kernel, rfl, by decide +kernel, by decide +kernel⟩
def s_law : ES := (sSeq (sAsg (mP (xLst (xsCons (xPure (xVar 0)) (xsCons (xC (.int 0)) (xsCons (xC (.int 3751)) (xsCons (xC (.int 0)) xsNil)))))) (put 1))
  (sSeq (sFor (iP (xRng1 (xsCons (xC (.int 2)) xsNil))) (put 2)
  (sSeq (sPar 3 4 (msCons (mOp oAdd (mP (xC (.int 1))) (mCallR F_law_taken 1 (msCons (mP (xC (.int 4))) msNil))) (msCons (mOp oAdd (mP (xC (.int 1))) (mCallR F_law_taken 1 (msCons (mP (xC (.int 4))) msNil))) msNil)))
  (sSeq (sAsg (mCallR F_law_any_sums 1 (msCons (mP (xPure (xVar 3))) (msCons (mP (xPure (xVar 4))) msNil))) (gTupD 2 (gsCons (put 5) (gsCons (put 6) gsNil))))
  (sSeq (sAsg (mP (xCall F_law_pictures (xsCons (xVar 5) (xsCons (xVar 6) xsNil)))) (put 7))
  (sSeq (sPar 8 9 (msCons (mP (xCall F_picture_of (xsCons (xVar 5) (xsCons (xVar 6) xsNil)))) (msCons (mP (xCall F_first_lack (xsCons (xVar 5) (xsCons (xVar 6) xsNil)))) msNil)))
  (sSeq (sIf (tP' (yOr (xBool (xOp oNe (xOp oIsN (xVar 8) (xC .non)) (xOp oEq (xVar 7) (xLst xsNil)))) (xBool (xOp oNe (xOp oIsN (xVar 9) (xC .non)) (xOp oNe (xVar 7) (xLst xsNil)))))) (sRet (mP (xC (.bl false)))) sNext)
  (sSeq (sIf (tP' (yAnd (xBool (xOp oNotN (xVar 8) (xC .non))) (yOr (xBool (xOp oNin (xVar 8) (xVar 7))) (xBool (xOp oNe (xCall F_sums (xsCons (xVar 8) (xsCons (xVar 3) (xsCons (xVar 4) xsNil)))) (xTup (xsCons (xPure (xVar 5)) (xsCons (xPure (xVar 6)) xsNil)))))))) (sRet (mP (xC (.bl false)))) sNext)
  (sSeq (sIf (tP' (xBool (xOp oNotN (xVar 9) (xC .non)))) (sSeq (sPar 10 11 (msCons (mP (xRev (xCall sortedC (xsCons (xVar 5) xsNil)))) (msCons (mP (xLst xsNil)) msNil)))
  (sSeq (sFor (iP (xRng2 (xsCons (xC (.int 1)) (xsCons (xOp oAdd (xVar 3) (xC (.int 1))) xsNil)))) (put 12)
  (sIf (tP' (xBool (xOp oGt (xCall sumX (xsCons (xCut (xVar 10) none (some (xVar 12))) xsNil)) (xCall sumD (xsCons (xComp [13] (xIt (xVar 6)) (putB 13) yYes (xCall min2D (xsCons (xVar 12) (xsCons (xVar 13) xsNil)))) xsNil))))) (sDrop (mMut isL appendD 11 (msCons (mP (xPure (xVar 12))) msNil))) sNext))
  (sIf (tP' (yNot (xBool (xCall F_law_alike (xsCons (xVar 9) (xsCons (xIf (xBool (xOp oNe (xCall sumX (xsCons (xVar 5) xsNil)) (xCall sumX (xsCons (xVar 6) xsNil)))) (xC (.int 0)) (xPure (xOp ixD (xVar 11) (xC (.int 0))))) xsNil)))))) (sRet (mP (xC (.bl false)))) sNext))) sNext)
  (sIf (tP' (yNot (xBool (xCall F_law_alike (xsCons (xCall F_all_pictures (xsCons (xVar 5) (xsCons (xVar 6) xsNil))) (xsCons (xVar 7) xsNil)))))) (sRet (mP (xC (.bl false)))) sNext)))))))))
  (sRet (mP (xC (.bl true))))))
def F_law : List D → Option D := fnP N_law s_law
theorem ok_law (T : Top K mg) {fa : Addr} (hfa : mg "law" = some (.ref fa)) : FnTop P w K mg 9 fa "_law_script" (spP K 1 F_law) := by
  refine at_law T.d_law hfa sc_law (fun _ _ _ _ _ _ _ => rfl) fun base f cdv A outer s H E hr => ?_
  have G_law_any_sums := (ok_law_any_sums (P := P) (w := w) (base := base) T).mono (show 4 ≤ 8 by decide)
  have G_law_pictures := (ok_law_pictures (P := P) (w := w) (base := base) T).mono (show 2 ≤ 8 by decide)
  have G_picture_of := (ok_picture_of (P := P) (w := w) (base := base) T).mono (show 6 ≤ 8 by decide)
  have G_first_lack := (ok_first_lack (P := P) (w := w) (base := base) T).mono (show 5 ≤ 8 by decide)
  have G_law_alike := (ok_law_alike (P := P) (w := w) (base := base) T 8).mono (show 8 ≤ 8 by decide)
  have G_law_taken := (ok_law_taken (P := P) (w := w) (base := base) T).mono (show 1 ≤ 8 by decide)
  have G_all_pictures := (ok_all_pictures (P := P) (w := w) (base := base) T).mono (show 5 ≤ 8 by decide)
  have G_sums := (ok_sums (P := P) (w := w) (base := base) T).mono (show 6 ≤ 8 by decide)
  exact (s_cons (s_set (i := 1) sc_law.nd rfl (by first | exact Or.inl rfl | exact Or.inr rfl) (m_p (p_lst (a_cons (p_var (pv 0)) (a_cons p_int (a_cons p_int (a_cons p_int a_nil)))))))
    (s_cons (s_for PassesOwn.never rfl (i_p (i_rng1 (by rfl) T.n_range (a_cons (p_b p_int) a_nil))) (g_name (pg_name (i := 2) sc_law.nd rfl (by first | exact Or.inl rfl | exact Or.inr rfl)))
    (s_cons (s_par (i := 3) (j := 4) rfl sc_law.nd rfl rfl (by decide) rfl rfl (ms_cons (m_op r_add d_add (m_p p_int) (m_atR G_law_taken hr (by rfl) (pv 1) (ms_cons (m_p p_int) ms_nil) (msn_cons msn_nil))) (ms_cons (m_op r_add d_add (m_p p_int) (m_atR G_law_taken hr (by rfl) (pv 1) (ms_cons (m_p p_int) ms_nil) (msn_cons msn_nil))) ms_nil)) (by rfl))
    (s_cons (s_asg (m_atR G_law_any_sums hr (by rfl) (pv 1) (ms_cons (m_p (p_var (pv 3))) (ms_cons (m_p (p_var (pv 4))) ms_nil)) (msn_cons (msn_cons msn_nil))) (g_tup rfl (gs_cons (g_name (pg_name (i := 5) sc_law.nd rfl (by first | exact Or.inl rfl | exact Or.inr rfl))) (gs_cons (g_name (pg_name (i := 6) sc_law.nd rfl (by first | exact Or.inl rfl | exact Or.inr rfl))) gs_nil))))
    (s_cons (s_set (i := 7) sc_law.nd rfl (by first | exact Or.inl rfl | exact Or.inr rfl) (m_p (p_at G_law_pictures hr (by rfl) (a_cons (b_var (pv 5)) (a_cons (b_var (pv 6)) a_nil)) (len_cons (len_cons len_nil)))))
    (s_cons (s_par (i := 8) (j := 9) rfl sc_law.nd rfl rfl (by decide) rfl rfl (ms_cons (m_p (p_at G_picture_of hr (by rfl) (a_cons (b_var (pv 5)) (a_cons (b_var (pv 6)) a_nil)) (len_cons (len_cons len_nil)))) (ms_cons (m_p (p_at G_first_lack hr (by rfl) (a_cons (b_var (pv 5)) (a_cons (b_var (pv 6)) a_nil)) (len_cons (len_cons len_nil)))) ms_nil)) (by rfl))
    (s_cons (s_if (t_p (PW.pt (w_or (q_cmp (r_ne hr) d_ne (p_b (p_cmp op_isN d_isN (b_var (pv 8)) (p_b p_non) (nomark _))) (p_b (p_cmp (r_eq hr) d_eq (b_var (pv 7)) (p_b (p_lst a_nil)) (nomark _))) (nomark _)) (w_or1 (q_cmp (r_ne hr) d_ne (p_b (p_cmp op_isN d_isN (b_var (pv 9)) (p_b p_non) (nomark _))) (p_b (p_cmp (r_ne hr) d_ne (b_var (pv 7)) (p_b (p_lst a_nil)) (nomark _))) (nomark _)))))) (s_one (s_ret (m_p p_bl))) s_nil)
    (s_cons (s_if (t_p (PW.pt (w_and (q_cmp op_notN d_notN (b_var (pv 8)) (p_b p_non) (nomark _)) (w_and1 (PW.pt (w_or (q_cmp (r_nin hr) d_nin' (b_var (pv 8)) (b_var (pv 7)) (by rfl)) (w_or1 (q_cmp (r_ne hr) d_ne (p_b (p_at G_sums hr (by rfl) (a_cons (b_var (pv 8)) (a_cons (b_var (pv 3)) (a_cons (b_var (pv 4)) a_nil))) (len_cons (len_cons (len_cons len_nil))))) (p_b (p_tup (a_cons (p_var (pv 5)) (a_cons (p_var (pv 6)) a_nil)))) (nomark _))))))))) (s_one (s_ret (m_p p_bl))) s_nil)
    (s_cons (s_if (t_p (q_cmp op_notN d_notN (b_var (pv 9)) (p_b p_non) (nomark _))) (s_cons (s_par (i := 10) (j := 11) rfl sc_law.nd rfl rfl (by decide) rfl rfl (ms_cons (m_p (p_rev (p_b (p_callB (c_sortedC rfl hr) d_sortedC (by rfl) T.n_sorted (by decide +kernel) (a_cons (b_var (pv 5)) a_nil))) (p_neg1 p_int))) (ms_cons (m_p (p_lst a_nil)) ms_nil)) (by rfl))
    (s_cons (s_for PassesOwn.never rfl (i_p (i_rng2 (by rfl) T.n_range (a_cons (p_b p_int) (a_cons (p_b (p_op r_add d_add (b_var (pv 3)) (p_b p_int))) a_nil)))) (g_name (pg_name (i := 12) sc_law.nd rfl (by first | exact Or.inl rfl | exact Or.inr rfl)))
    (s_one (s_if (t_p (q_cmp (r_gt hr) d_ord (p_b (p_callB (cr_sumX rfl) d_sumX (by rfl) T.n_sum (by decide +kernel) (a_cons (p_b (p_cut (b_var (pv 10)) o_none (o_some (b_var (pv 12))))) a_nil))) (p_b (p_callB (cr_sum rfl) d_sum (by rfl) T.n_sum (by decide +kernel) (a_cons (p_b (p_lc (own := [("_law_column", 13)]) rfl sc_law.nd  (i_seq (b_var (pv 6))) (blkOk_by (own := [("_law_column", 13)]) (N := N_law) (sc := defScope st_law) (by decide +kernel)) (fun _ _ _ _ _ => (gp_name (pg_name (i := 13) sc_law.nd rfl (by first | exact Or.inl rfl | exact Or.inr rfl)) (by simp))) (fun _ _ _ _ _ => qs_nil) (fun _ _ _ _ _ => (p_callB (call_min2 rfl) d_min2 (by rfl) T.n_min (by decide +kernel) (a_cons (b_var (pv 12)) (a_cons (b_var (pv 13)) a_nil)))))) a_nil))) (nomark _))) (s_one (s_expr (m_mut PySem.F.plainAttrs_list PySem.F.slot_list_append PySem.F.type_list_append mt_append ty_list mu_append (pv 11) (ms_cons (m_p (p_var (pv 12))) ms_nil)))) s_nil)))
    (s_one (s_if (t_p (q_not (q_val (p_b (p_at G_law_alike hr (by rfl) (a_cons (b_var (pv 9)) (a_cons (p_b (p_if (q_cmp (r_ne hr) d_ne (p_b (p_callB (cr_sumX rfl) d_sumX (by rfl) T.n_sum (by decide +kernel) (a_cons (b_var (pv 5)) a_nil))) (p_b (p_callB (cr_sumX rfl) d_sumX (by rfl) T.n_sum (by decide +kernel) (a_cons (b_var (pv 6)) a_nil))) (nomark _)) p_int (p_pure (b_ix hr (b_var (pv 11)) (p_b p_int) (fun _ _ => rfl))))) a_nil)) (len_cons (len_cons len_nil))))))) (s_one (s_ret (m_p p_bl))) s_nil)))) s_nil)
    (s_one (s_if (t_p (q_not (q_val (p_b (p_at G_law_alike hr (by rfl) (a_cons (p_b (p_at G_all_pictures hr (by rfl) (a_cons (b_var (pv 5)) (a_cons (b_var (pv 6)) a_nil)) (len_cons (len_cons len_nil)))) (a_cons (b_var (pv 7)) a_nil)) (len_cons (len_cons len_nil))))))) (s_one (s_ret (m_p p_bl))) s_nil))))))))))
    (s_one (s_ret (m_p p_bl)))))
end
end K51
namespace DL
/-! ### rows and columns: few sizes are looked through -/
/-- the columns by what they have left, the most first -/
def leG (a b : Nat × Nat) : Bool := decide (b.1 < a.1) || (decide (a.1 = b.1) && decide (a.2 ≤ b.2))
def insG (x : Nat × Nat) : List (Nat × Nat) → List (Nat × Nat)
  | [] => [x]
  | y :: l => if leG x y then x :: y :: l else y :: insG x l
def srtG : List (Nat × Nat) → List (Nat × Nat)
  | [] => []
  | x :: l => insG x (srtG l)
def idxG : Nat → List Nat → List (Nat × Nat)
  | _, [] => []
  | i, x :: l => (x, i) :: idxG (i + 1) l
def pickG (left : List Nat) (r : Nat) : List Nat := ((srtG (idxG 0 left)).take r).map (·.2)
def lessG (ps : List Nat) (left : List Nat) : List Nat := (idxG 0 left).map fun p => if ps.contains p.2 then p.1 - 1 else p.1
/-- one row after another; each picked column has something left, and there are enough of them -/
def runG : List Nat → List Nat → Bool
  | [], left => left.all (· == 0)
  | r :: rs, left => decide (r ≤ left.length) && ((pickG left r).all fun c => decide (0 < left.getD c 0)) && runG rs (lessG (pickG left r) left)
def condG (rs cs : List Nat) : Bool := decide (rs.sum = cs.sum) && (List.range (rs.length + 1)).all fun k => decide ((rs.take k).sum ≤ (cs.map fun c => min k c).sum)
/-- lists that go down, entries at most m -/
def downs (m : Nat) : Nat → List (List Nat)
  | 0 => [[]]
  | n + 1 => (List.range (m + 1)).flatMap fun a => (downs a n).map (a :: ·)
def alls (m : Nat) : Nat → List (List Nat)
  | 0 => [[]]
  | n + 1 => (List.range (m + 1)).flatMap fun a => (alls m n).map (a :: ·)
def okG (h w : Nat) : Bool := (downs w h).all fun rs => (alls h w).all fun cs => !condG rs cs || runG rs cs
theorem gr_all : ((List.range 4).all fun h => (List.range 4).all fun w => okG (h + 1) (w + 1)) = true := by decide +kernel
theorem gr_ok {h w : Nat} (h1 : 1 ≤ h ∧ h ≤ 4) (w1 : 1 ≤ w ∧ w ≤ 4) : okG h w = true := by
  have g := gr_all
  rw [List.all_eq_true] at g
  have g1 := g (h - 1) (List.mem_range.mpr (by omega))
  rw [List.all_eq_true] at g1
  have g2 := g1 (w - 1) (List.mem_range.mpr (by omega))
  rw [show h - 1 + 1 = h by omega, show w - 1 + 1 = w by omega] at g2
  exact g2
theorem mem_downs {m : Nat} : ∀ {n : Nat} {l : List Nat}, l.length = n → (∀ x ∈ l, x ≤ m) → l.Pairwise (fun a b => b ≤ a) → l ∈ downs m n := by
  intro n
  induction n generalizing m with
  | zero =>
    intro l e _ _
    rw [List.length_eq_zero_iff.mp e]
    exact List.mem_cons_self ..
  | succ n ih =>
    intro l e hm hp
    cases l with
    | nil => cases e
    | cons a l =>
      obtain ⟨p1, p2⟩ := List.pairwise_cons.mp hp
      refine List.mem_flatMap.mpr ⟨a, List.mem_range.mpr (by have := hm a (List.mem_cons_self ..); omega), List.mem_map.mpr ⟨l, ih (by simpa using e) p1 p2, rfl⟩⟩
theorem mem_alls {m : Nat} : ∀ {n : Nat} {l : List Nat}, l.length = n → (∀ x ∈ l, x ≤ m) → l ∈ alls m n := by
  intro n
  induction n with
  | zero =>
    intro l e _
    rw [List.length_eq_zero_iff.mp e]
    exact List.mem_cons_self ..
  | succ n ih =>
    intro l e hm
    cases l with
    | nil => cases e
    | cons a l => exact List.mem_flatMap.mpr ⟨a, List.mem_range.mpr (by have := hm a (List.mem_cons_self ..); omega), List.mem_map.mpr ⟨l, ih (by simpa using e) fun x hx => hm x (List.mem_cons_of_mem _ hx), rfl⟩⟩
/-- where the sizes fit, the way by the most first goes through -/
theorem run_ok {rs cs : List Nat} (h1 : 1 ≤ rs.length ∧ rs.length ≤ 4) (w1 : 1 ≤ cs.length ∧ cs.length ≤ 4) (hr : ∀ x ∈ rs, x ≤ cs.length) (hd : rs.Pairwise fun a b => b ≤ a) (hc : ∀ x ∈ cs, x ≤ rs.length) (c : condG rs cs = true) : runG rs cs = true := by
  have g := gr_ok h1 w1
  unfold okG at g
  rw [List.all_eq_true] at g
  have g1 := g rs (mem_downs rfl hr hd)
  rw [List.all_eq_true] at g1
  have g2 := g1 cs (mem_alls rfl hc)
  rw [c] at g2
  simpa using g2
end DL
namespace DL
/-! ### rows as bits, rows as choices -/
def bit (n k : Nat) : Bool := decide (n / 2 ^ k % 2 = 1)
theorem bits4 : ∀ (w : Fin 5) (b0 b1 b2 b3 : Bool), ∃ n : Fin 16, n.1 < 2 ^ w.1 ∧ ∀ k : Fin 4, k.1 < w.1 → bit n.1 k.1 = [b0, b1, b2, b3].getD k.1 false := by decide +kernel
theorem bits_ex {w : Nat} (hw : w ≤ 4) (p : Nat → Bool) : ∃ n, n < 2 ^ w ∧ ∀ k, k < w → bit n k = p k := by
  obtain ⟨n, h1, h2⟩ := bits4 ⟨w, by omega⟩ (p 0) (p 1) (p 2) (p 3)
  refine ⟨n.1, h1, fun k hk => ?_⟩
  have := h2 ⟨k, by omega⟩ hk
  rw [this]
  rcases (by omega : k = 0 ∨ k = 1 ∨ k = 2 ∨ k = 3) with rfl | rfl | rfl | rfl <;> rfl
theorem bits_inj4 : ∀ (w : Fin 5) (n m : Fin 16), n.1 < 2 ^ w.1 → m.1 < 2 ^ w.1 → (∀ k : Fin 4, k.1 < w.1 → bit n.1 k.1 = bit m.1 k.1) → n = m := by decide +kernel
theorem bits_inj {w n m : Nat} (hw : w ≤ 4) (hn : n < 2 ^ w) (hm : m < 2 ^ w) (h : ∀ k, k < w → bit n k = bit m k) : n = m := by
  have le : 2 ^ w ≤ 2 ^ 4 := Nat.pow_le_pow_right (by omega) hw
  have := bits_inj4 ⟨w, by omega⟩ ⟨n, by omega⟩ ⟨m, by omega⟩ hn hm fun k hk => h k.1 hk
  exact congrArg Fin.val this
/-- the cells of a row told by a number -/
def bitsC (i : Int) (w n : Nat) : List Cell := ((List.range w).filter (bit n)).map fun k : Nat => ((i, (k : Int)) : Cell)
theorem mem_bitsC {i : Int} {w n : Nat} {c : Cell} : c ∈ bitsC i w n ↔ c.1 = i ∧ ∃ k : Nat, k < w ∧ c.2 = k ∧ bit n k = true := by
  unfold bitsC
  rw [List.mem_map]
  constructor
  · rintro ⟨k, hk, rfl⟩
    obtain ⟨h1, h2⟩ := List.mem_filter.mp hk
    exact ⟨rfl, k, List.mem_range.mp h1, rfl, h2⟩
  · rintro ⟨h1, k, h2, h3, h4⟩
    exact ⟨k, List.mem_filter.mpr ⟨List.mem_range.mpr h2, h4⟩, Prod.ext h1.symm h3.symm⟩
theorem bitsC_pair (i : Int) (w n : Nat) : (bitsC i w n).Pairwise ltc := by
  unfold bitsC
  refine List.pairwise_map.mpr ((List.Pairwise.filter _ List.pairwise_lt_range).imp fun {a b} (h : a < b) => ?_)
  rw [ltc_iff]
  right
  exact ⟨rfl, Int.ofNat_lt.mpr h⟩
/-- ascending choices of so many of the numbers below another one -/
def loC (o : List Nat) : Nat := match o.getLast? with
  | some x => x + 1
  | none => 0
def chs (n : Nat) : Nat → List (List Nat)
  | 0 => [[]]
  | s + 1 => (chs n s).flatMap fun o => (List.range (n - loC o)).map fun j => o ++ [loC o + j]
theorem loC_app (o : List Nat) (x : Nat) : loC (o ++ [x]) = x + 1 := by
  unfold loC
  rw [List.getLast?_append]
  rfl
theorem loC_le {o : List Nat} (h : o.Pairwise (· < ·)) : ∀ x ∈ o, x < loC o := by
  intro x hx
  rcases List.eq_nil_or_concat o with rfl | ⟨l, y, rfl⟩
  · cases hx
  · rw [List.concat_eq_append] at *
    rw [loC_app]
    rw [List.pairwise_append] at h
    rcases List.mem_append.mp hx with hx | hx
    · have := h.2.2 x hx y (List.mem_singleton.mpr rfl)
      omega
    · rw [List.mem_singleton.mp hx]; omega
theorem mem_chs {n : Nat} : ∀ {s : Nat} {l : List Nat}, l ∈ chs n s ↔ l.length = s ∧ l.Pairwise (· < ·) ∧ ∀ x ∈ l, x < n := by
  intro s
  induction s with
  | zero =>
    intro l
    constructor
    · intro h
      rw [List.mem_singleton.mp h]
      exact ⟨rfl, .nil, fun _ z => by cases z⟩
    · rintro ⟨h, _⟩
      rw [List.length_eq_zero_iff.mp h]
      exact List.mem_cons_self ..
  | succ s ih =>
    intro l
    constructor
    · intro h
      obtain ⟨o, ho, h⟩ := List.mem_flatMap.mp h
      obtain ⟨j, hj, rfl⟩ := List.mem_map.mp h
      have hj := List.mem_range.mp hj
      obtain ⟨h1, h2, h3⟩ := ih.mp ho
      have lo := loC_le h2
      refine ⟨by rw [List.length_append, h1]; rfl, List.pairwise_append.mpr ⟨h2, List.pairwise_singleton .., fun a ha b hb => ?_⟩, fun x hx => ?_⟩
      · rw [List.mem_singleton.mp hb]
        have := lo a ha
        omega
      · rcases List.mem_append.mp hx with hx | hx
        · exact h3 x hx
        · rw [List.mem_singleton.mp hx]; omega
    · rintro ⟨h1, h2, h3⟩
      rcases List.eq_nil_or_concat l with rfl | ⟨o, y, rfl⟩
      · cases h1
      · rw [List.concat_eq_append] at *
        rw [List.length_append] at h1
        have h1 : o.length + 1 = s + 1 := h1
        obtain ⟨p1, _, p3⟩ := List.pairwise_append.mp h2
        have hy := h3 y (List.mem_append.mpr (.inr (List.mem_singleton.mpr rfl)))
        refine List.mem_flatMap.mpr ⟨o, ih.mpr ⟨by omega, p1, fun x hx => h3 x (List.mem_append.mpr (.inl hx))⟩, List.mem_map.mpr ⟨y - loC o, ?_, ?_⟩⟩
        · have : loC o ≤ y := by
            rcases List.eq_nil_or_concat o with rfl | ⟨q, z, rfl⟩
            · exact Nat.zero_le _
            · rw [List.concat_eq_append] at *
              rw [loC_app]
              exact p3 z (List.mem_append.mpr (.inr (List.mem_singleton.mpr rfl))) y (List.mem_singleton.mpr rfl)
          exact List.mem_range.mpr (by omega)
        · have : loC o ≤ y := by
            rcases List.eq_nil_or_concat o with rfl | ⟨q, z, rfl⟩
            · exact Nat.zero_le _
            · rw [List.concat_eq_append] at *
              rw [loC_app]
              exact p3 z (List.mem_append.mpr (.inr (List.mem_singleton.mpr rfl))) y (List.mem_singleton.mpr rfl)
          rw [Nat.add_sub_cancel' this]
end DL
namespace DL
/-! ### pictures row by row -/
def below (i : Int) (cs : List Cell) : List Cell := cs.filter fun c => decide (c.1 < i)
def inRow (i : Int) (cs : List Cell) : List Cell := cs.filter fun c => decide (c.1 = i)
def colN (k : Int) (cs : List Cell) : Nat := (cs.filter fun c => decide (c.2 = k)).length
/-- a sorted picture is what lies above its last row, and that row -/
theorem split_row {i : Int} {cs : List Cell} (p : cs.Pairwise ltc) (h : ∀ c ∈ cs, c.1 < i + 1) : cs = below i cs ++ inRow i cs := by
  refine srt_ext p (List.pairwise_append.mpr ⟨List.Pairwise.filter _ p, List.Pairwise.filter _ p, fun a ha b hb => ?_⟩) fun c => ?_
  · have h1 := of_decide_eq_true (List.mem_filter.mp ha).2
    have h2 := of_decide_eq_true (List.mem_filter.mp hb).2
    rw [ltc_iff]
    omega
  · unfold below inRow
    rw [List.mem_append, List.mem_filter, List.mem_filter, decide_eq_true_eq, decide_eq_true_eq]
    constructor
    · intro hc
      have := h c hc
      rcases (by omega : c.1 < i ∨ c.1 = i) with q | q
      · exact .inl ⟨hc, q⟩
      · exact .inr ⟨hc, q⟩
    · rintro (⟨hc, _⟩ | ⟨hc, _⟩) <;> exact hc
theorem colN_app (k : Int) (as bs : List Cell) : colN k (as ++ bs) = colN k as + colN k bs := by
  unfold colN
  rw [List.filter_append, List.length_append]
/-- a row of a picture is told by a number -/
theorem row_bits {w : Nat} (hw : w ≤ 4) {i : Int} {cs : List Cell} (p : cs.Pairwise ltc) (h : ∀ c ∈ cs, 0 ≤ c.2 ∧ c.2 < w) : ∃ n, n < 2 ^ w ∧ inRow i cs = bitsC i w n := by
  obtain ⟨n, h1, h2⟩ := bits_ex hw fun k => decide (((i, (k : Int)) : Cell) ∈ cs)
  refine ⟨n, h1, srt_ext (List.Pairwise.filter _ p) (bitsC_pair i w n) fun c => ?_⟩
  unfold inRow
  rw [List.mem_filter, decide_eq_true_eq, mem_bitsC]
  constructor
  · rintro ⟨hc, e⟩
    have b := h c hc
    refine ⟨e, c.2.toNat, by omega, by omega, ?_⟩
    rw [h2 _ (by omega), decide_eq_true_eq, show (c.2.toNat : Int) = c.2 by omega, ← e]
    exact hc
  · rintro ⟨e, k, hk, e2, hb⟩
    rw [h2 k hk, decide_eq_true_eq] at hb
    refine ⟨?_, e⟩
    rw [show c = (i, (k : Int)) from Prod.ext e e2]
    exact hb
end DL
namespace DL
/-! ### the law's own list of pictures -/
structure Pre (w : Nat) (R C : List Nat) (i : Nat) (cs : List Cell) : Prop where
  srt : cs.Pairwise ltc
  row : ∀ c ∈ cs, 0 ≤ c.1 ∧ c.1 < (i : Int)
  col : ∀ c ∈ cs, 0 ≤ c.2 ∧ c.2 < (w : Int)
  rows : ∀ j : Nat, j < i → (inRow j cs).length = R.getD j 0
  cols : ∀ k : Nat, k < w → colN k cs ≤ C.getD k 0
theorem inRow_app (i : Int) (as bs : List Cell) : inRow i (as ++ bs) = inRow i as ++ inRow i bs := List.filter_append ..
theorem inRow_none {i : Int} {cs : List Cell} (h : ∀ c ∈ cs, c.1 ≠ i) : inRow i cs = [] := List.filter_eq_nil_iff.mpr fun c hc z => h c hc (of_decide_eq_true z)
theorem inRow_all {i : Int} {cs : List Cell} (h : ∀ c ∈ cs, c.1 = i) : inRow i cs = cs := List.filter_eq_self.mpr fun c hc => decide_eq_true (h c hc)
/-- one more row -/
theorem Pre.next {w : Nat} {R C : List Nat} {i : Nat} {y b : List Cell} (h : Pre w R C i y) (hb : b.Pairwise ltc) (hr : ∀ c ∈ b, c.1 = (i : Int)) (hc : ∀ c ∈ b, 0 ≤ c.2 ∧ c.2 < (w : Int)) (hl : b.length = R.getD i 0) (ho : ∀ k : Nat, k < w → colN k (y ++ b) ≤ C.getD k 0) : Pre w R C (i + 1) (y ++ b) := by
  refine ⟨List.pairwise_append.mpr ⟨h.srt, hb, fun a ha c hc => ?_⟩, fun c hm => ?_, fun c hm => ?_, fun j hj => ?_, ho⟩
  · have h1 := h.row a ha
    have h2 := hr c hc
    rw [ltc_iff]
    omega
  · rcases List.mem_append.mp hm with hm | hm
    · have := h.row c hm; omega
    · have := hr c hm; omega
  · rcases List.mem_append.mp hm with hm | hm
    · exact h.col c hm
    · exact hc c hm
  · rw [inRow_app, List.length_append]
    rcases (by omega : j < i ∨ j = i) with q | q
    · rw [h.rows j q, inRow_none (cs := b) fun c hm z => by have := hr c hm; omega]
      rfl
    · subst q
      rw [inRow_none (cs := y) fun c hm z => by have := h.row c hm; omega, inRow_all hr, ← hl]
      exact Nat.zero_add _
/-- without the last row -/
theorem Pre.prev {w : Nat} {R C : List Nat} {i : Nat} {x : List Cell} (h : Pre w R C (i + 1) x) : Pre w R C i (below i x) ∧ x = below i x ++ inRow i x ∧ (inRow i x).length = R.getD i 0 := by
  have sp := split_row (i := (i : Int)) h.srt fun c hc => by have := h.row c hc; omega
  refine ⟨⟨List.Pairwise.filter _ h.srt, fun c hc => ?_, fun c hc => h.col c (List.mem_filter.mp hc).1, fun j hj => ?_, fun k hk => ?_⟩, sp, h.rows i (by omega)⟩
  · obtain ⟨h1, h2⟩ := List.mem_filter.mp hc
    have := h.row c h1
    exact ⟨this.1, of_decide_eq_true h2⟩
  · have e := h.rows j (by omega)
    rw [sp, inRow_app, List.length_append, inRow_none (cs := inRow i x) fun c hm z => by
      have := of_decide_eq_true (List.mem_filter.mp hm).2
      omega] at e
    exact e
  · have e := h.cols k hk
    rw [sp, colN_app] at e
    omega
def nextL (w r : Nat) (C : List Nat) (i : Nat) (L : List (List Cell)) : List (List Cell) := (List.range (2 ^ w)).flatMap fun n => if (bitsC i w n).length = r then (L.map fun x => x ++ bitsC i w n).filter fun x => (List.range w).all fun k => decide (colN (k : Int) x ≤ C.getD k 0) else []
def lawL (w : Nat) (R C : List Nat) : Nat → List (List Cell)
  | 0 => [[]]
  | i + 1 => nextL w (R.getD i 0) C i (lawL w R C i)
theorem mem_lawL {w : Nat} (hw : w ≤ 4) {R C : List Nat} : ∀ {i : Nat} {x : List Cell}, x ∈ lawL w R C i ↔ Pre w R C i x := by
  intro i
  induction i with
  | zero =>
    intro x
    constructor
    · intro h
      rw [List.mem_singleton.mp h]
      exact ⟨.nil, fun _ z => (by cases z), fun _ z => (by cases z), fun _ z => (by omega), fun _ _ => Nat.zero_le _⟩
    · intro h
      have e : x = [] := List.eq_nil_iff_forall_not_mem.mpr fun c hc => by have := h.row c hc; omega
      rw [e]
      exact List.mem_cons_self ..
  | succ i ih =>
    intro x
    constructor
    · intro h
      obtain ⟨n, hn, h⟩ := List.mem_flatMap.mp h
      split at h
      · rename_i hl
        obtain ⟨h1, h2⟩ := List.mem_filter.mp h
        obtain ⟨y, hy, rfl⟩ := List.mem_map.mp h1
        rw [List.all_eq_true] at h2
        refine (ih.mp hy).next (bitsC_pair _ _ _) (fun c hc => (mem_bitsC.mp hc).1) (fun c hc => ?_) hl fun k hk => of_decide_eq_true (h2 k (List.mem_range.mpr hk))
        obtain ⟨_, k, hk, e, _⟩ := mem_bitsC.mp hc
        omega
      · cases h
    · intro h
      obtain ⟨h1, h2, h3⟩ := h.prev
      obtain ⟨n, hn, e⟩ := row_bits hw (i := (i : Int)) h.srt h.col
      refine List.mem_flatMap.mpr ⟨n, List.mem_range.mpr hn, ?_⟩
      rw [← e, if_pos h3]
      refine List.mem_filter.mpr ⟨List.mem_map.mpr ⟨_, ih.mpr h1, h2.symm⟩, ?_⟩
      rw [List.all_eq_true]
      exact fun k hk => decide_eq_true (h.cols k (List.mem_range.mp hk))
end DL
namespace DL
/-! ### no picture twice -/
theorem bitsC_inj {w : Nat} (hw : w ≤ 4) {i : Int} {n m : Nat} (hn : n < 2 ^ w) (hm : m < 2 ^ w) (e : bitsC i w n = bitsC i w m) : n = m := by
  refine bits_inj hw hn hm fun k hk => ?_
  have h : ∀ {n : Nat}, ((i, (k : Int)) : Cell) ∈ bitsC i w n ↔ bit n k = true := fun {n} => by
    rw [mem_bitsC]
    constructor
    · rintro ⟨_, k', _, e, hb⟩
      have : k = k' := Int.ofNat.inj e
      subst this
      exact hb
    · intro hb
      exact ⟨rfl, k, hk, rfl, hb⟩
  have := h (n := n)
  rw [e, h] at this
  rw [Bool.eq_iff_iff]
  exact this.symm
theorem lawL_nodup {w : Nat} (hw : w ≤ 4) {R C : List Nat} : ∀ i : Nat, (lawL w R C i).Nodup
  | 0 => List.nodup_cons.mpr ⟨by simp, List.nodup_nil⟩
  | i + 1 => by
    show (nextL w (R.getD i 0) C i (lawL w R C i)).Nodup
    unfold nextL
    have nb : ∀ n : Nat, ∀ c ∈ bitsC (i : Int) w n, c.1 = (i : Int) := fun n c hc => (mem_bitsC.mp hc).1
    have last : ∀ {x : List Cell} {n : Nat}, x ∈ lawL w R C i → inRow i (x ++ bitsC i w n) = bitsC i w n := fun {x n} hx => by
      rw [inRow_app, inRow_none (cs := x) fun c hc z => by have := ((mem_lawL hw).mp hx).row c hc; omega, inRow_all (nb n)]
      rfl
    refine List.pairwise_flatMap.mpr ⟨fun n _ => ?_, ?_⟩
    · split
      · refine List.Pairwise.filter _ (List.pairwise_map.mpr ((lawL_nodup hw i).imp fun {a b} ne e => ne (List.append_cancel_right e)))
      · exact List.Pairwise.nil
    · refine (List.nodup_range (n := 2 ^ w)).imp_of_mem fun {n m} hn hm ne => ?_
      intro x hx y hy e
      subst e
      split at hx
      · split at hy
        · obtain ⟨a, ha, e1⟩ := List.mem_map.mp (List.mem_filter.mp hx).1
          obtain ⟨b, hb, e2⟩ := List.mem_map.mp (List.mem_filter.mp hy).1
          have h1 := last (n := n) ha
          have h2 := last (n := m) hb
          rw [e1] at h1
          rw [e2, h1] at h2
          exact ne (bitsC_inj hw (List.mem_range.mp hn) (List.mem_range.mp hm) h2)
        · cases hy
      · cases hx
end DL
namespace DL
/-! ### the cells of a choice -/
def partC (i : Int) (part : List Nat) : List Cell := part.map fun k : Nat => ((i, (k : Int)) : Cell)
theorem partC_pair {i : Int} {part : List Nat} (h : part.Pairwise (· < ·)) : (partC i part).Pairwise ltc := by
  unfold partC
  refine List.pairwise_map.mpr (h.imp fun {a b} (l : a < b) => ?_)
  rw [ltc_iff]
  right
  exact ⟨rfl, Int.ofNat_lt.mpr l⟩
theorem mem_partC {i : Int} {part : List Nat} {c : Cell} : c ∈ partC i part ↔ c.1 = i ∧ ∃ k : Nat, k ∈ part ∧ c.2 = k := by
  unfold partC
  rw [List.mem_map]
  constructor
  · rintro ⟨k, hk, rfl⟩; exact ⟨rfl, k, hk, rfl⟩
  · rintro ⟨h1, k, h2, h3⟩; exact ⟨k, h2, Prod.ext h1.symm h3.symm⟩
/-- a row of a picture is a choice -/
theorem row_part {w : Nat} {i : Int} {cs : List Cell} (p : cs.Pairwise ltc) (h : ∀ c ∈ cs, 0 ≤ c.2 ∧ c.2 < w) : ∃ part, part ∈ chs w (inRow i cs).length ∧ inRow i cs = partC i part := by
  have e : inRow i cs = partC i ((List.range w).filter fun k => decide (((i, (k : Int)) : Cell) ∈ cs)) := by
    refine srt_ext (List.Pairwise.filter _ p) (partC_pair (List.Pairwise.filter _ List.pairwise_lt_range)) fun c => ?_
    unfold inRow
    rw [List.mem_filter, decide_eq_true_eq, mem_partC]
    constructor
    · rintro ⟨hc, e⟩
      have b := h c hc
      refine ⟨e, c.2.toNat, List.mem_filter.mpr ⟨List.mem_range.mpr (by omega), ?_⟩, by omega⟩
      rw [decide_eq_true_eq, show (c.2.toNat : Int) = c.2 by omega, ← e]
      exact hc
    · rintro ⟨e, k, hk, e2⟩
      have := of_decide_eq_true (List.mem_filter.mp hk).2
      refine ⟨?_, e⟩
      rw [show c = (i, (k : Int)) from Prod.ext e e2]
      exact this
  refine ⟨_, ?_, e⟩
  rw [mem_chs]
  refine ⟨?_, List.Pairwise.filter _ List.pairwise_lt_range, fun x hx => List.mem_range.mp (List.mem_filter.mp hx).1⟩
  rw [e]
  unfold partC
  rw [List.length_map]
/-- a row has a column once at most -/
theorem colN_row {i k : Int} {cs : List Cell} (p : cs.Pairwise ltc) : colN k (inRow i cs) ≤ 1 := by
  unfold colN inRow
  have q : ((cs.filter fun c => decide (c.1 = i)).filter fun c => decide (c.2 = k)).Pairwise ltc := List.Pairwise.filter _ (List.Pairwise.filter _ p)
  have m : ∀ c ∈ (cs.filter fun c => decide (c.1 = i)).filter (fun c => decide (c.2 = k)), c = (i, k) := fun c hc => by
    obtain ⟨h1, h2⟩ := List.mem_filter.mp hc
    exact Prod.ext (of_decide_eq_true (List.mem_filter.mp h1).2) (of_decide_eq_true h2)
  generalize (cs.filter fun c => decide (c.1 = i)).filter (fun c => decide (c.2 = k)) = l at *
  match l, q, m with
  | [], _, _ => exact Nat.zero_le _
  | [_], _, _ => exact Nat.le_refl _
  | a :: b :: l, q, m =>
    have h1 := (List.pairwise_cons.mp q).1 b (List.mem_cons_self ..)
    rw [m a (List.mem_cons_self ..), m b (List.mem_cons_of_mem _ (List.mem_cons_self ..))] at h1
    exact absurd h1 (ltc_irrefl _)
end DL
namespace DL
/-! ### the program's own list of pictures -/
def okP (w h : Nat) (C : List Nat) (i : Nat) (x : List Cell) (part : List Nat) : Bool := (part.all fun k => decide (colN (k : Int) x < C.getD k 0)) && (List.range w).all fun k => decide (C.getD k 0 + (i + 1) ≤ colN (k : Int) (x ++ partC i part) + h)
def nextP (w h r : Nat) (C : List Nat) (i : Nat) (L : List (List Cell)) : List (List Cell) := L.flatMap fun x => ((chs w r).filter (okP w h C i x)).map fun part => x ++ partC i part
def progL (w h : Nat) (R C : List Nat) : Nat → List (List Cell)
  | 0 => [[]]
  | i + 1 => nextP w h (R.getD i 0) C i (progL w h R C i)
theorem colN_part {i : Int} {k : Nat} {part : List Nat} (h : part.Pairwise (· < ·)) : colN (k : Int) (partC i part) = if k ∈ part then 1 else 0 := by
  have hp := partC_pair (i := i) h
  have ha := inRow_all (i := i) (cs := partC i part) fun c hc => (mem_partC.mp hc).1
  have le := colN_row (i := i) (k := (k : Int)) hp
  rw [ha] at le
  by_cases q : k ∈ part
  · rw [if_pos q]
    have : 0 < colN (k : Int) (partC i part) := List.length_pos_of_mem (List.mem_filter.mpr ⟨mem_partC.mpr ⟨rfl, k, q, rfl⟩, by simp⟩ : ((i, (k : Int)) : Cell) ∈ _)
    omega
  · rw [if_neg q]
    unfold colN
    rw [List.length_eq_zero_iff, List.filter_eq_nil_iff]
    intro c hc z
    obtain ⟨_, k', hk, e⟩ := mem_partC.mp hc
    have := of_decide_eq_true z
    rw [e] at this
    exact q (by rw [← Int.ofNat.inj this]; exact hk)
theorem mem_progL {w h : Nat} {R C : List Nat} : ∀ {i : Nat} {x : List Cell}, x ∈ progL w h R C i ↔ Pre w R C i x ∧ (1 ≤ i → ∀ k : Nat, k < w → C.getD k 0 + i ≤ colN (k : Int) x + h) := by
  intro i
  induction i with
  | zero =>
    intro x
    constructor
    · intro hm
      rw [List.mem_singleton.mp hm]
      exact ⟨⟨.nil, fun _ z => (by cases z), fun _ z => (by cases z), fun _ z => (by omega), fun _ _ => Nat.zero_le _⟩, fun z => by omega⟩
    · rintro ⟨hp, _⟩
      have e : x = [] := List.eq_nil_iff_forall_not_mem.mpr fun c hc => by have := hp.row c hc; omega
      rw [e]
      exact List.mem_cons_self ..
  | succ i ih =>
    intro x
    constructor
    · intro hm
      obtain ⟨y, hy, hm⟩ := List.mem_flatMap.mp hm
      obtain ⟨part, hpart, rfl⟩ := List.mem_map.mp hm
      obtain ⟨h1, h2⟩ := List.mem_filter.mp hpart
      obtain ⟨c1, c2, c3⟩ := mem_chs.mp h1
      unfold okP at h2
      rw [Bool.and_eq_true, List.all_eq_true, List.all_eq_true] at h2
      have py := (ih.mp hy).1
      refine ⟨py.next (partC_pair c2) (fun c hc => (mem_partC.mp hc).1) (fun c hc => ?_) (by unfold partC; rw [List.length_map]; exact c1) fun k hk => ?_, fun _ k hk => of_decide_eq_true (h2.2 k (List.mem_range.mpr hk))⟩
      · obtain ⟨_, k, hk, e⟩ := mem_partC.mp hc
        have := c3 k hk
        omega
      · rw [colN_app, colN_part c2]
        by_cases q : k ∈ part
        · rw [if_pos q]
          have := of_decide_eq_true (h2.1 k q)
          omega
        · rw [if_neg q]
          exact py.cols k hk
    · rintro ⟨hp, hl⟩
      obtain ⟨h1, h2, h3⟩ := hp.prev
      obtain ⟨part, hc, e⟩ := row_part (i := (i : Int)) hp.srt hp.col
      rw [h3] at hc
      obtain ⟨c1, c2, c3⟩ := mem_chs.mp hc
      refine List.mem_flatMap.mpr ⟨below i x, ih.mpr ⟨h1, fun _ k hk => ?_⟩, List.mem_map.mpr ⟨part, List.mem_filter.mpr ⟨hc, ?_⟩, by rw [← e]; exact h2.symm⟩⟩
      · have a := hl (by omega) k hk
        rw [h2, colN_app] at a
        have := colN_row (i := (i : Int)) (k := (k : Int)) hp.srt
        omega
      · unfold okP
        rw [Bool.and_eq_true, List.all_eq_true, List.all_eq_true]
        constructor
        · intro k hk
          have a := hp.cols k (c3 k hk)
          rw [h2, colN_app, e, colN_part c2, if_pos hk] at a
          exact decide_eq_true (by omega)
        · intro k hk
          rw [← e, ← h2]
          exact decide_eq_true (hl (by omega) k (List.mem_range.mp hk))
end DL
namespace DL
open PySem PySem.Spec L2
/-! ### inks in order -/
def leK (as bs : List Cell) : Bool := !ltK bs as
theorem leD_ink (as bs : List Cell) : leD (inkD as) (inkD bs) = leK as bs := rfl
def srtK (L : List (List Cell)) : List (List Cell) := L.mergeSort leK
theorem sortD_inks (L : List (List Cell)) : sortD (L.map inkD) = (srtK L).map inkD := (PySem.W.sort_maps inkD fun a _ b _ => (leD_ink a b).symm).symm
theorem leK_trans (a b c : List Cell) (h1 : leK a b = true) (h2 : leK b c = true) : leK a c = true := by
  unfold leK at *
  cases h : ltK c a with
  | false => rfl
  | true =>
    rcases ltK_neg (bs := b) h with z | z
    · rw [z] at h2; cases h2
    · rw [z] at h1; cases h1
theorem leK_total (a b : List Cell) : (leK a b || leK b a) = true := by
  unfold leK
  cases h : ltK b a with
  | false => rfl
  | true =>
    cases h2 : ltK a b with
    | false => rfl
    | true =>
      have := ltK_trans h h2
      rw [ltK_irr] at this
      cases this
theorem leK_anti {a b : List Cell} (h1 : leK a b = true) (h2 : leK b a = true) : a = b := by
  unfold leK at *
  rw [Bool.not_eq_true'] at h1 h2
  exact ltK_total h2 h1
theorem srtK_mem {L : List (List Cell)} {x : List Cell} : x ∈ srtK L ↔ x ∈ L := List.mem_mergeSort
theorem srtK_len {L : List (List Cell)} : (srtK L).length = L.length := List.length_mergeSort ..
theorem permN {α : Type} [DecidableEq α] : ∀ {L M : List α}, L.Nodup → M.Nodup → (∀ x, x ∈ L ↔ x ∈ M) → L.Perm M
  | [], [], _, _, _ => .nil
  | [], b :: M, _, _, h => by have := (h b).mpr (List.mem_cons_self ..); cases this
  | a :: L, M, hL, hM, h => by
    have ma : a ∈ M := (h a).mp (List.mem_cons_self ..)
    rw [List.nodup_cons] at hL
    refine (List.Perm.cons a (permN hL.2 (hM.erase a) fun x => ?_)).trans (List.perm_cons_erase ma).symm
    rw [hM.mem_erase_iff]
    constructor
    · intro hx
      exact ⟨fun e => hL.1 (e ▸ hx), (h x).mp (List.mem_cons_of_mem _ hx)⟩
    · rintro ⟨ne, hx⟩
      exact (List.mem_cons.mp ((h x).mpr hx)).resolve_left ne
theorem sorted_perm {α : Type} {r : α → α → Prop} (anti : ∀ a b, r a b → r b a → a = b) : ∀ {L M : List α}, L.Pairwise r → M.Pairwise r → L.Perm M → L = M
  | [], M, _, _, p => by rw [List.nil_perm.mp p]
  | a :: L, [], _, _, p => by have := p.length_eq; cases this
  | a :: L, b :: M, hL, hM, p => by
    rw [List.pairwise_cons] at hL hM
    have e : a = b := by
      rcases List.mem_cons.mp (p.mem_iff.mp (List.mem_cons_self ..)) with e | m
      · exact e
      · rcases List.mem_cons.mp (p.mem_iff.mpr (List.mem_cons_self (a := b) (l := M))) with e | m2
        · exact e.symm
        · exact anti a b (hL.1 b m2) (hM.1 a m)
    subst e
    rw [sorted_perm anti hL.2 hM.2 (p.cons_inv)]
theorem srtK_perm {L M : List (List Cell)} (p : L.Perm M) : srtK L = srtK M :=
  sorted_perm (r := fun a b => leK a b = true) (fun _ _ => leK_anti) (List.pairwise_mergeSort leK_trans leK_total L) (List.pairwise_mergeSort leK_trans leK_total M) (((List.mergeSort_perm L leK).trans p).trans (List.mergeSort_perm M leK).symm)
theorem srtK_ext {L M : List (List Cell)} (hL : L.Nodup) (hM : M.Nodup) (h : ∀ x, x ∈ L ↔ x ∈ M) : srtK L = srtK M := srtK_perm (permN hL hM h)
theorem sortOk_inks {L : List (List Cell)} (h : ∀ x ∈ L, x ≠ []) : sortOk (L.map inkD) = true := by
  have mo := minOk_inks L
  unfold minOk at mo
  simp only [Bool.and_eq_true] at mo
  unfold sortOk
  simp only [Bool.and_eq_true, Bool.or_eq_true, List.all_eq_true, decide_eq_true_eq]
  refine ⟨⟨⟨plains_inks L, ?_⟩, .inl ?_⟩, ?_⟩
  · unfold alikes
    rw [List.all_eq_true]
    intro x hx
    rw [List.all_eq_true]
    intro y hy
    obtain ⟨_, hx', rfl⟩ := List.mem_map.mp hx
    obtain ⟨_, hy', rfl⟩ := List.mem_map.mp hy
    obtain ⟨a, _, rfl⟩ := List.mem_map.mp hx'
    obtain ⟨b, _, rfl⟩ := List.mem_map.mp hy'
    unfold inkD
    rw [py, py, pys_cells, pys_cells, PySem.W.alike]
    exact alike_cells a b
  · intro x hx
    obtain ⟨_, hx', rfl⟩ := List.mem_map.mp hx
    obtain ⟨a, ha, rfl⟩ := List.mem_map.mp hx'
    cases a with
    | nil => exact absurd rfl (h _ ha)
    | cons c a => rfl
  · intro x hx
    obtain ⟨_, hx', rfl⟩ := List.mem_map.mp hx
    obtain ⟨a, ha, rfl⟩ := List.mem_map.mp hx'
    unfold inkD
    rw [py, pys_cells, PyData.depth, PyData.canLay0]
    have := depth_cells a
    exact ⟨by omega, lay_cells a⟩
theorem sortedB_inks {L : List (List Cell)} (h : L = [[]] ∨ ∀ x ∈ L, x ≠ []) : sortedB [.lst (L.map inkD)] = some (.lst ((srtK L).map inkD)) := by
  rcases h with rfl | h
  · rw [show srtK [[]] = [[]] from List.mergeSort_singleton _]
    rfl
  · have so := sortOk_inks h
    have s2 : sortedA [.lst (L.map inkD)] = some (.lst ((srtK L).map inkD)) := by
      show (if sortOk (L.map inkD) = true then some (D.lst (sortD (L.map inkD))) else none) = _
      rw [if_pos so, sortD_inks]
    match L, h, so, s2 with
    | [], _, _, s2 => exact s2
    | [x], h, so, s2 =>
      rw [show srtK [x] = [x] from List.mergeSort_singleton _]
      unfold sortOk alikes at so
      simp only [Bool.and_eq_true, List.all_eq_true, decide_eq_true_eq, List.map_cons, List.map_nil, List.mem_singleton, forall_eq] at so
      obtain ⟨⟨⟨s1, s2⟩, _⟩, s4⟩ := so
      have pl : plain (inkD x) = true := by
        rw [plains, Bool.and_eq_true] at s1
        exact s1.1
      show (if plain (inkD x) && PySem.W.alike (py (inkD x)) (py (inkD x)) && decide ((py (inkD x)).depth ≤ 60) && (py (inkD x)).canLay0 && !isNon (inkD x) then some (D.lst [inkD x]) else none) = _
      rw [pl, s2, decide_eq_true s4.1, s4.2]
      rfl
    | x :: y :: L, _, _, s2 => exact s2
end DL
namespace DL
open PySem PySem.Spec L2
/-! ### both lists of pictures are one -/
theorem chs_few : ∀ (w : Fin 5) (s : Fin 6), (chs w.1 s.1).length ≤ 6 ∧ (chs w.1 s.1).Nodup := by decide +kernel
theorem chs_len {w s : Nat} (hw : w ≤ 4) (hs : s ≤ 5) : (chs w s).length ≤ 6 := (chs_few ⟨w, by omega⟩ ⟨s, by omega⟩).1
theorem chs_nodup {w s : Nat} (hw : w ≤ 4) (hs : s ≤ 5) : (chs w s).Nodup := (chs_few ⟨w, by omega⟩ ⟨s, by omega⟩).2
theorem partC_inj {i : Int} {p q : List Nat} (h : partC i p = partC i q) : p = q := by
  unfold partC at h
  exact (List.map_inj_right fun a b e => Int.ofNat.inj (Prod.ext_iff.mp e).2).mp h
theorem progL_nodup {w h : Nat} {R C : List Nat} (hw : w ≤ 4) (hR : ∀ i, R.getD i 0 ≤ 5) : ∀ i : Nat, (progL w h R C i).Nodup
  | 0 => List.nodup_cons.mpr ⟨by simp, List.nodup_nil⟩
  | i + 1 => by
    show (nextP w h (R.getD i 0) C i (progL w h R C i)).Nodup
    unfold nextP
    refine List.pairwise_flatMap.mpr ⟨fun y _ => ?_, ?_⟩
    · refine List.pairwise_map.mpr ((List.Pairwise.filter _ (chs_nodup hw (hR i))).imp fun {a b} ne e => ne (partC_inj (List.append_cancel_left e)))
    · refine (progL_nodup hw hR i).imp_of_mem fun {y z} hy hz ne => ?_
      intro x hx x' hx' e
      subst e
      obtain ⟨p, _, e1⟩ := List.mem_map.mp hx
      obtain ⟨q, _, e2⟩ := List.mem_map.mp hx'
      have key : ∀ {y : List Cell} {p : List Nat}, y ∈ progL w h R C i → below i (y ++ partC i p) = y := fun {y p} hy => by
        unfold below
        rw [List.filter_append, List.filter_eq_self.mpr, List.filter_eq_nil_iff.mpr, List.append_nil]
        · intro c hc z
          have := (mem_partC.mp hc).1
          have := of_decide_eq_true z
          omega
        · intro c hc
          have := ((mem_progL.mp hy).1.row c hc).2
          exact decide_eq_true this
      have k1 := key (p := p) hy
      have k2 := key (p := q) hz
      rw [e1] at k1
      rw [e2] at k2
      exact ne (k1.symm.trans k2)
theorem flat_len {α β : Type} {f : α → List β} {n : Nat} : ∀ {L : List α}, (∀ y ∈ L, (f y).length ≤ n) → (L.flatMap f).length ≤ n * L.length
  | [], _ => Nat.zero_le _
  | y :: L, h => by
    rw [List.flatMap_cons, List.length_append, List.length_cons, Nat.mul_add]
    have h1 := h y (List.mem_cons_self ..)
    have h2 := flat_len (L := L) fun z hz => h z (List.mem_cons_of_mem _ hz)
    omega
theorem progL_len {w h : Nat} {R C : List Nat} (hw : w ≤ 4) (hR : ∀ i, R.getD i 0 ≤ 5) : ∀ i : Nat, (progL w h R C i).length ≤ 6 ^ i
  | 0 => Nat.le_refl _
  | i + 1 => by
    have ih := progL_len (h := h) (C := C) hw hR i
    have : (nextP w h (R.getD i 0) C i (progL w h R C i)).length ≤ 6 * (progL w h R C i).length := flat_len fun y _ => by
      rw [List.length_map]
      exact Nat.le_trans (List.length_filter_le ..) (chs_len hw (hR i))
    rw [Nat.pow_succ]
    have e : progL w h R C (i + 1) = nextP w h (R.getD i 0) C i (progL w h R C i) := rfl
    rw [e]
    omega
/-- all sums of columns come out -/
def fin (w : Nat) (C : List Nat) (x : List Cell) : Bool := (List.range w).all fun k => decide (colN (k : Int) x = C.getD k 0)
theorem fin_iff {w : Nat} {C : List Nat} {x : List Cell} : fin w C x = true ↔ ∀ k, k < w → colN (k : Int) x = C.getD k 0 := by
  unfold fin
  rw [List.all_eq_true]
  exact ⟨fun h k hk => of_decide_eq_true (h k (List.mem_range.mpr hk)), fun h k hk => decide_eq_true (h k (List.mem_range.mp hk))⟩
def Pic (w h : Nat) (R C : List Nat) (x : List Cell) : Prop := Pre w R C h x ∧ ∀ k, k < w → colN (k : Int) x = C.getD k 0
def lawF (w h : Nat) (R C : List Nat) : List (List Cell) := (lawL w R C h).filter (fin w C)
def progF (w h : Nat) (R C : List Nat) : List (List Cell) := (progL w h R C h).filter (fin w C)
theorem mem_lawF {w h : Nat} {R C : List Nat} {x : List Cell} (hw : w ≤ 4) : x ∈ lawF w h R C ↔ Pic w h R C x := by
  unfold lawF Pic
  rw [List.mem_filter, mem_lawL hw, fin_iff]
theorem mem_progF {w h : Nat} {R C : List Nat} {x : List Cell} : x ∈ progF w h R C ↔ Pic w h R C x := by
  unfold progF Pic
  rw [List.mem_filter, mem_progL, fin_iff]
  constructor
  · rintro ⟨⟨a, _⟩, b⟩; exact ⟨a, b⟩
  · rintro ⟨a, b⟩
    exact ⟨⟨a, fun _ k hk => by rw [b k hk]; exact Nat.le_refl _⟩, b⟩
theorem one_srt {w h : Nat} {R C : List Nat} (hw : w ≤ 4) (hR : ∀ i, R.getD i 0 ≤ 5) : srtK (progF w h R C) = srtK (lawF w h R C) := srtK_ext (List.Pairwise.filter _ (progL_nodup hw hR h)) (List.Pairwise.filter _ (lawL_nodup hw h)) fun x => by rw [mem_progF, mem_lawF hw]
theorem nodup_one {α : Type} {L : List α} (nd : L.Nodup) (h : ∀ a ∈ L, ∀ b ∈ L, a = b) : L.length ≤ 1 := by
  match L, nd, h with
  | [], _, _ => exact Nat.zero_le _
  | [_], _, _ => exact Nat.le_refl _
  | a :: b :: L, nd, h =>
    have := h a (List.mem_cons_self ..) b (List.mem_cons_of_mem _ (List.mem_cons_self ..))
    rw [List.nodup_cons] at nd
    exact absurd (by rw [this]; exact List.mem_cons_self ..) nd.1
theorem pair_lt_ext {p q : List Nat} (hp : p.Pairwise (· < ·)) (hq : q.Pairwise (· < ·)) (h : ∀ k, k ∈ p ↔ k ∈ q) : p = q :=
  sorted_perm (r := (· < ·)) (fun a b x y => absurd (Nat.lt_trans x y) (Nat.lt_irrefl _)) hp hq (permN (hp.imp fun {a b} l e => absurd (e ▸ l) (Nat.lt_irrefl _)) (hq.imp fun {a b} l e => absurd (e ▸ l) (Nat.lt_irrefl _)) h)
theorem progF_len {w h : Nat} {R C : List Nat} (hw : w ≤ 4) (h1 : 1 ≤ h ∧ h ≤ 4) (hR : ∀ i, R.getD i 0 ≤ 5) : (progF w h R C).length ≤ 216 := by
  obtain ⟨i, rfl⟩ : ∃ i, h = i + 1 := ⟨h - 1, by omega⟩
  have pl : (progL w (i + 1) R C i).length ≤ 216 := Nat.le_trans (progL_len hw hR i) (Nat.le_trans (Nat.pow_le_pow_right (by omega) (show i ≤ 3 by omega)) (by decide))
  unfold progF
  show ((nextP w (i + 1) (R.getD i 0) C i (progL w (i + 1) R C i)).filter (fin w C)).length ≤ 216
  unfold nextP
  rw [List.filter_flatMap]
  refine Nat.le_trans (flat_len (n := 1) fun y _ => ?_) (by omega)
  refine nodup_one (List.Pairwise.filter _ (List.pairwise_map.mpr ((List.Pairwise.filter _ (chs_nodup hw (hR i))).imp fun {a b} ne e => ne (partC_inj (List.append_cancel_left e))))) fun a ha b hb => ?_
  obtain ⟨ha, fa⟩ := List.mem_filter.mp ha
  obtain ⟨hb, fb⟩ := List.mem_filter.mp hb
  obtain ⟨p, hp, rfl⟩ := List.mem_map.mp ha
  obtain ⟨q, hq, rfl⟩ := List.mem_map.mp hb
  obtain ⟨_, p2, p3⟩ := mem_chs.mp (List.mem_filter.mp hp).1
  obtain ⟨_, q2, q3⟩ := mem_chs.mp (List.mem_filter.mp hq).1
  rw [fin_iff] at fa fb
  rw [pair_lt_ext p2 q2 fun k => ?_]
  have key : ∀ k, k < w → (k ∈ p ↔ k ∈ q) := fun k hk => by
    have e1 := fa k hk
    have e2 := fb k hk
    rw [colN_app, colN_part p2] at e1
    rw [colN_app, colN_part q2] at e2
    by_cases a : k ∈ p <;> by_cases b : k ∈ q
    · exact ⟨fun _ => b, fun _ => a⟩
    · rw [if_pos a] at e1; rw [if_neg b] at e2; omega
    · rw [if_neg a] at e1; rw [if_pos b] at e2; omega
    · exact ⟨fun z => absurd z a, fun z => absurd z b⟩
  constructor
  · intro m; exact (key k (p3 k m)).mp m
  · intro m; exact (key k (q3 k m)).mpr m
end DL
namespace DL
open PySem PySem.Spec L2
/-! ### counting: a picture's sums fit -/
def cntF (f : Cell → Int) (i : Nat) (x : List Cell) : Nat := (x.filter fun c => decide (f c = (i : Int))).length
theorem or_len {α : Type} (p q : α → Bool) (h : ∀ a, p a = true → q a = true → False) : ∀ x : List α, (x.filter fun a => p a || q a).length = (x.filter p).length + (x.filter q).length
  | [] => rfl
  | a :: x => by
    have ih := or_len p q h x
    rw [List.filter_cons, List.filter_cons, List.filter_cons]
    cases hp : p a <;> cases hq : q a
    · simpa using ih
    · simp only [Bool.false_or, if_true, List.length_cons, ih]
      simp
      omega
    · simp only [Bool.true_or, if_true, List.length_cons, ih]
      simp
      omega
    · exact (h a hp hq).elim
theorem sum_fib (f : Cell → Int) (x : List Cell) : ∀ S : List Nat, S.Nodup → (S.map fun i => cntF f i x).sum = (x.filter fun c => S.any fun i => decide (f c = (i : Int))).length
  | [], _ => by
    rw [List.filter_eq_nil_iff.mpr fun c _ z => by simp at z]
    rfl
  | i :: S, nd => by
    rw [List.nodup_cons] at nd
    rw [List.map_cons, List.sum_cons, sum_fib f x S nd.2]
    have := or_len (fun c : Cell => decide (f c = (i : Int))) (fun c => S.any fun i => decide (f c = (i : Int))) (fun c h1 h2 => by
      obtain ⟨j, hj, e⟩ := List.any_eq_true.mp h2
      have a := of_decide_eq_true h1
      have b := of_decide_eq_true e
      have : i = j := by omega
      exact nd.1 (this ▸ hj)) x
    unfold cntF
    rw [← this]
    congr 1
theorem nodup_le {α : Type} [DecidableEq α] : ∀ {L S : List α}, L.Nodup → (∀ x ∈ L, x ∈ S) → L.length ≤ S.length
  | [], _, _, _ => Nat.zero_le _
  | a :: L, S, nd, h => by
    rw [List.nodup_cons] at nd
    have ma := h a (List.mem_cons_self ..)
    have := nodup_le (L := L) (S := S.erase a) nd.2 fun x hx => (List.mem_erase_of_ne (fun e : x = a => nd.1 (by rw [← e]; exact hx))).mpr (h x (List.mem_cons_of_mem _ hx))
    rw [List.length_erase_of_mem ma] at this
    have := List.length_pos_of_mem ma
    rw [List.length_cons]
    omega
theorem sum_le {α : Type} {f g : α → Nat} : ∀ {L : List α}, (∀ k ∈ L, f k ≤ g k) → (L.map f).sum ≤ (L.map g).sum
  | [], _ => Nat.le_refl _
  | a :: L, h => by
    rw [List.map_cons, List.map_cons, List.sum_cons, List.sum_cons]
    have := h a (List.mem_cons_self ..)
    have := sum_le (L := L) fun k hk => h k (List.mem_cons_of_mem _ hk)
    omega
theorem any_range {w : Nat} {z : Int} (h : 0 ≤ z ∧ z < w) : ((List.range w).any fun i => decide (z = (i : Int))) = true := by
  rw [List.any_eq_true]
  exact ⟨z.toNat, List.mem_range.mpr (by omega), decide_eq_true (by omega)⟩
theorem len_cols {w : Nat} {f : Cell → Int} {x : List Cell} (h : ∀ c ∈ x, 0 ≤ f c ∧ f c < (w : Int)) : ((List.range w).map fun k => cntF f k x).sum = x.length := by
  rw [sum_fib f x _ List.nodup_range, List.filter_eq_self.mpr fun c hc => any_range (h c hc)]
theorem getD_sum (R : List Nat) : ((List.range R.length).map fun i => R.getD i 0).sum = R.sum := by
  congr 1
  apply List.ext_getElem?
  intro j
  rw [List.getElem?_map]
  by_cases hj : j < R.length
  · rw [List.getElem?_range hj, List.getElem?_eq_getElem hj, Option.map_some, List.getD_eq_getElem?_getD, List.getElem?_eq_getElem hj]
    rfl
  · rw [List.getElem?_eq_none (by rw [List.length_range]; omega), List.getElem?_eq_none (by omega)]
    rfl
section
variable {w h : Nat} {R C : List Nat} {x : List Cell}
theorem Pic.fit (p : Pic w h R C x) {S : List Nat} (nd : S.Nodup) (hS : ∀ i ∈ S, i < h) : (S.map fun i => R.getD i 0).sum ≤ ((List.range w).map fun k => min S.length (C.getD k 0)).sum := by
  have e1 : (S.map fun i => R.getD i 0) = S.map fun i => cntF (·.1) i x := List.map_congr_left fun i hi => (p.1.rows i (hS i hi)).symm
  rw [e1, sum_fib (·.1) x S nd]
  rw [← len_cols (w := w) (f := (·.2)) (x := x.filter fun c => S.any fun i => decide (c.1 = (i : Int))) fun c hc => p.1.col c (List.mem_filter.mp hc).1]
  refine sum_le fun k hk => Nat.le_min.mpr ⟨?_, ?_⟩
  · unfold cntF
    generalize hz : ((x.filter fun c => S.any fun i => decide (c.1 = (i : Int))).filter fun c => decide (c.2 = (k : Int))) = z
    have zp : z.Pairwise ltc := by rw [← hz]; exact List.Pairwise.filter _ (List.Pairwise.filter _ p.1.srt)
    have zm : ∀ c ∈ z, c.2 = (k : Int) ∧ ∃ i ∈ S, c.1 = (i : Int) := fun c hc => by
      rw [← hz] at hc
      obtain ⟨h1, h2⟩ := List.mem_filter.mp hc
      obtain ⟨i, hi, e⟩ := List.any_eq_true.mp (List.mem_filter.mp h1).2
      exact ⟨of_decide_eq_true h2, i, hi, of_decide_eq_true e⟩
    have := nodup_le (L := z.map fun c => c.1.toNat) (S := S) (List.pairwise_map.mpr (zp.imp_of_mem fun {a b} ha hb l e => by
      obtain ⟨a2, i, _, a1⟩ := zm a ha
      obtain ⟨b2, j, _, b1⟩ := zm b hb
      rw [ltc_iff] at l
      omega)) fun n hn => by
        obtain ⟨c, hc, rfl⟩ := List.mem_map.mp hn
        obtain ⟨_, i, hi, e⟩ := zm c hc
        rw [e]
        exact hi
    rw [List.length_map] at this
    exact this
  · have := p.2 k (List.mem_range.mp hk)
    rw [← this]
    unfold cntF colN
    rw [List.filter_filter]
    exact (List.filter_sublist.filter _ |>.length_le) |> fun z => Nat.le_trans (by
      show (x.filter fun c => decide (c.2 = (k : Int)) && (S.any fun i => decide (c.1 = (i : Int)))).length ≤ ((x.filter fun c => S.any fun i => decide (c.1 = (i : Int))).filter fun c => decide (c.2 = (k : Int))).length
      rw [List.filter_filter]
      exact Nat.le_refl _) z
theorem Pic.total (p : Pic w h R C x) (hR : R.length = h) (hC : C.length = w) : R.sum = C.sum := by
  rw [← getD_sum R, ← getD_sum C, hR, hC]
  have e1 : ((List.range h).map fun i => R.getD i 0) = (List.range h).map fun i => cntF (·.1) i x := List.map_congr_left fun i hi => (p.1.rows i (List.mem_range.mp hi)).symm
  have e2 : ((List.range w).map fun i => C.getD i 0) = (List.range w).map fun i => cntF (·.2) i x := List.map_congr_left fun i hi => (p.2 i (List.mem_range.mp hi)).symm
  rw [e1, e2, len_cols p.1.row, len_cols p.1.col]
end
theorem perm_map {α β : Type} {f : α → β} : ∀ {M : List α} {L : List β}, L.Perm (M.map f) → ∃ M' : List α, M'.Perm M ∧ L = M'.map f
  | [], L, p => ⟨[], .nil, List.perm_nil.mp p⟩
  | m :: M, L, p => by
    have hm : f m ∈ L := p.mem_iff.mpr (List.mem_cons_self ..)
    obtain ⟨A, B, rfl⟩ := List.append_of_mem hm
    have q : (A ++ B).Perm (M.map f) := (List.perm_middle.symm.trans p).cons_inv
    obtain ⟨M', p', e⟩ := perm_map q
    obtain ⟨A', B', rfl, rfl, rfl⟩ := List.map_eq_append_iff.mp e.symm
    exact ⟨A' ++ m :: B', List.perm_middle.trans (p'.cons m), by rw [List.map_append, List.map_cons]⟩
/-- the sizes of rows, the greatest first -/
def dn (R : List Nat) : List Nat := (R.mergeSort fun a b => decide (a ≤ b)).reverse
theorem dn_perm (R : List Nat) : (dn R).Perm R := (List.reverse_perm _).trans (List.mergeSort_perm ..)
theorem dn_len (R : List Nat) : (dn R).length = R.length := (dn_perm R).length_eq
theorem dn_pair (R : List Nat) : (dn R).Pairwise fun a b => b ≤ a := by
  unfold dn
  rw [List.pairwise_reverse]
  have := List.pairwise_mergeSort (le := fun a b : Nat => decide (a ≤ b)) (fun a b c h1 h2 => decide_eq_true (Nat.le_trans (of_decide_eq_true h1) (of_decide_eq_true h2))) (fun a b => by simp only [Bool.or_eq_true, decide_eq_true_eq]; omega) R
  exact this.imp fun h => of_decide_eq_true h
theorem range_getD (R : List Nat) : (List.range R.length).map (fun i => R.getD i 0) = R := by
  apply List.ext_getElem?
  intro j
  rw [List.getElem?_map]
  by_cases hj : j < R.length
  · rw [List.getElem?_range hj, List.getElem?_eq_getElem hj, Option.map_some, List.getD_eq_getElem?_getD, List.getElem?_eq_getElem hj]
    rfl
  · rw [List.getElem?_eq_none (by rw [List.length_range]; omega), List.getElem?_eq_none (by omega)]
    rfl
theorem Pic.cond {w h : Nat} {R C : List Nat} {x : List Cell} (p : Pic w h R C x) (hR : R.length = h) (hC : C.length = w) : condG (dn R) C = true := by
  unfold condG
  rw [Bool.and_eq_true, decide_eq_true_eq, List.all_eq_true]
  refine ⟨by rw [(dn_perm R).sum_nat]; exact p.total hR hC, fun k hk => ?_⟩
  have hk := List.mem_range.mp hk
  rw [dn_len, hR] at hk
  obtain ⟨M, pm, e⟩ := perm_map (f := fun i => R.getD i 0) (M := List.range R.length) (L := dn R) (by rw [range_getD]; exact dn_perm R)
  have hl : M.length = h := by rw [pm.length_eq, List.length_range, hR]
  rw [e, ← List.map_take]
  have := p.fit (S := M.take k) ((List.take_sublist k M).nodup (pm.nodup_iff.mpr List.nodup_range)) fun i hi => by
    have := List.mem_range.mp (pm.mem_iff.mp (List.mem_of_mem_take hi))
    omega
  rw [List.length_take, hl, Nat.min_eq_left (by omega)] at this
  refine decide_eq_true (Nat.le_trans this (Nat.le_of_eq ?_))
  rw [← hC]
  congr 1
  conv => rhs; rw [← range_getD C]
  rw [List.map_map]
  rfl
end DL
namespace DL
open PySem PySem.Spec L2
/-! ### the picture by the most first -/
theorem idxG_at : ∀ (l : List Nat) (i j : Nat), (idxG i l)[j]? = l[j]?.map fun x => (x, i + j)
  | [], i, j => by simp [idxG]
  | x :: l, i, 0 => rfl
  | x :: l, i, j + 1 => by
    rw [idxG, List.getElem?_cons_succ, List.getElem?_cons_succ, idxG_at l (i + 1) j, show i + 1 + j = i + (j + 1) by omega]
theorem idxG_len : ∀ (l : List Nat) (i : Nat), (idxG i l).length = l.length
  | [], _ => rfl
  | x :: l, i => by rw [idxG, List.length_cons, idxG_len l, List.length_cons]
theorem idxG_eq (l : List Nat) : idxG 0 l = (List.range l.length).map fun j => (l.getD j 0, j) := by
  apply List.ext_getElem?
  intro j
  rw [idxG_at, List.getElem?_map]
  by_cases hj : j < l.length
  · rw [List.getElem?_range hj, List.getElem?_eq_getElem hj, Option.map_some, Option.map_some, List.getD_eq_getElem?_getD, List.getElem?_eq_getElem hj, Nat.zero_add]
    rfl
  · rw [List.getElem?_eq_none (by omega), List.getElem?_eq_none (by rw [List.length_range]; omega)]
    rfl
theorem insG_perm (x : Nat × Nat) : ∀ l : List (Nat × Nat), (insG x l).Perm (x :: l)
  | [] => .refl _
  | y :: l => by
    rw [insG]
    split
    · exact .refl _
    · exact ((insG_perm x l).cons y).trans (List.Perm.swap ..)
theorem srtG_perm : ∀ l : List (Nat × Nat), (srtG l).Perm l
  | [] => .refl _
  | x :: l => (insG_perm x _).trans ((srtG_perm l).cons x)
theorem leG_iff {a b : Nat × Nat} : leG a b = true ↔ b.1 < a.1 ∨ (a.1 = b.1 ∧ a.2 ≤ b.2) := by
  unfold leG
  rw [Bool.or_eq_true, Bool.and_eq_true, decide_eq_true_eq, decide_eq_true_eq, decide_eq_true_eq]
theorem insG_pair (x : Nat × Nat) : ∀ {l : List (Nat × Nat)}, l.Pairwise (fun a b => leG a b = true) → (insG x l).Pairwise fun a b => leG a b = true
  | [], _ => List.pairwise_singleton ..
  | y :: l, h => by
    rw [insG]
    have h' := List.pairwise_cons.mp h
    split
    · rename_i q
      refine List.pairwise_cons.mpr ⟨fun z hz => ?_, h⟩
      rcases List.mem_cons.mp hz with e | hz
      · rw [e]; exact q
      · have := h'.1 z hz
        rw [leG_iff] at *
        omega
    · rename_i q
      refine List.pairwise_cons.mpr ⟨fun z hz => ?_, insG_pair x h'.2⟩
      rcases List.mem_cons.mp ((insG_perm x l).mem_iff.mp hz) with e | hz
      · rw [e]
        rw [leG_iff] at *
        omega
      · exact h'.1 z hz
theorem srtG_pair : ∀ l : List (Nat × Nat), (srtG l).Pairwise fun a b => leG a b = true
  | [] => .nil
  | x :: l => insG_pair x (srtG_pair l)
abbrev negP (p : Nat × Nat) : Cell := (-(p.1 : Int), (p.2 : Int))
theorem srt_negP {l : List (Nat × Nat)} (nd : l.Nodup) : srt (l.map negP) = (srtG l).map negP := by
  have inj : ∀ a b : Nat × Nat, negP a = negP b → a = b := fun a b e => by
    have := Prod.ext_iff.mp e
    simp only [negP] at this
    exact Prod.ext (by omega) (by omega)
  refine srt_ext (srt_pair (List.pairwise_map.mpr (nd.imp fun {a b} ne e => ne (inj _ _ e)))) (List.pairwise_map.mpr ?_) fun c => ?_
  · refine ((srtG_pair l).and ((srtG_perm l).nodup_iff.mpr nd)).imp fun {a b} ⟨q, ne⟩ => ?_
    rw [leG_iff] at q
    rw [ltc_iff]
    simp only [negP]
    have : a.1 ≠ b.1 ∨ a.2 ≠ b.2 := by
      by_cases e : a.1 = b.1
      · exact .inr fun e2 => ne (Prod.ext e e2)
      · exact .inl e
    omega
  · rw [srt_mem, List.mem_map, List.mem_map]
    exact ⟨fun ⟨a, ha, e⟩ => ⟨a, (srtG_perm l).mem_iff.mpr ha, e⟩, fun ⟨a, ha, e⟩ => ⟨a, (srtG_perm l).mem_iff.mp ha, e⟩⟩
theorem idxG_nodup (l : List Nat) : (idxG 0 l).Nodup := by
  rw [idxG_eq]
  exact List.pairwise_map.mpr (List.nodup_range.imp fun {a b} ne e => ne (Prod.ext_iff.mp e).2)
theorem snd_perm (l : List Nat) : ((srtG (idxG 0 l)).map (·.2)).Perm (List.range l.length) := by
  refine ((srtG_perm _).map _).trans ?_
  rw [idxG_eq, List.map_map]
  have : (List.range l.length).map ((fun p : Nat × Nat => p.2) ∘ fun j => (l.getD j 0, j)) = List.range l.length := List.map_id' _
  rw [this]
theorem pickG_nodup (l : List Nat) (r : Nat) : (pickG l r).Nodup := by
  unfold pickG
  rw [List.map_take]
  exact (List.take_sublist ..).nodup ((snd_perm l).nodup_iff.mpr List.nodup_range)
theorem pickG_lt {l : List Nat} {r k : Nat} (h : k ∈ pickG l r) : k < l.length := by
  unfold pickG at h
  rw [List.map_take] at h
  exact List.mem_range.mp ((snd_perm l).mem_iff.mp (List.mem_of_mem_take h))
theorem pickG_len {l : List Nat} {r : Nat} (h : r ≤ l.length) : (pickG l r).length = r := by
  unfold pickG
  rw [List.length_map, List.length_take, (srtG_perm _).length_eq, idxG_len]
  omega
theorem lessG_len (ps l : List Nat) : (lessG ps l).length = l.length := by unfold lessG; rw [List.length_map, idxG_len]
theorem lessG_at {ps l : List Nat} {k : Nat} (h : k < l.length) : (lessG ps l).getD k 0 = if k ∈ ps then l.getD k 0 - 1 else l.getD k 0 := by
  unfold lessG
  rw [List.getD_eq_getElem?_getD, List.getElem?_map, idxG_at, List.getElem?_eq_getElem h, List.getD_eq_getElem?_getD, List.getElem?_eq_getElem h, Nat.zero_add]
  simp only [Option.map_some, Option.getD_some, List.contains_iff_mem]
/-- the cells that the way picks: rows in turn -/
def rowC (i : Nat) (ps : List Nat) : List Cell := ps.map fun c : Nat => (((i : Int), (c : Int)) : Cell)
def runC : List (Nat × Nat) → List Nat → List Cell
  | [], _ => []
  | p :: O, left => rowC p.2 (pickG left p.1) ++ runC O (lessG (pickG left p.1) left)
theorem mem_rowC {i : Nat} {ps : List Nat} {c : Cell} : c ∈ rowC i ps ↔ c.1 = (i : Int) ∧ ∃ k : Nat, k ∈ ps ∧ c.2 = k := mem_partC
theorem rowC_col {i k : Nat} {ps : List Nat} (nd : ps.Nodup) : colN (k : Int) (rowC i ps) = if k ∈ ps then 1 else 0 := by
  induction ps with
  | nil => rfl
  | cons a ps ih =>
    rw [List.nodup_cons] at nd
    have e : colN (k : Int) (rowC i (a :: ps)) = colN (k : Int) [((i : Int), (a : Int))] + colN (k : Int) (rowC i ps) := colN_app (k : Int) [((i : Int), (a : Int))] (rowC i ps)
    rw [e, ih nd.2]
    by_cases q : a = k
    · subst q
      rw [if_neg nd.1, if_pos (List.mem_cons_self ..)]
      unfold colN
      simp
    · have : colN (k : Int) [((i : Int), (a : Int))] = 0 := by
        unfold colN
        rw [List.filter_cons_of_neg (by simp; omega)]
        rfl
      rw [this, Nat.zero_add]
      have m : k ∈ a :: ps ↔ k ∈ ps := by
        rw [List.mem_cons]
        exact ⟨fun h => h.resolve_left fun e => q e.symm, .inr⟩
      simp only [m]
theorem runC_mem : ∀ {O : List (Nat × Nat)} {left : List Nat} {c : Cell}, c ∈ runC O left → ∃ p ∈ O, c.1 = (p.2 : Int) ∧ ∃ k : Nat, k < left.length ∧ c.2 = k
  | p :: O, left, c, h => by
    rw [runC] at h
    rcases List.mem_append.mp h with h | h
    · obtain ⟨e, k, hk, e2⟩ := mem_rowC.mp h
      exact ⟨p, List.mem_cons_self .., e, k, pickG_lt hk, e2⟩
    · obtain ⟨q, hq, e, k, hk, e2⟩ := runC_mem h
      exact ⟨q, List.mem_cons_of_mem _ hq, e, k, by rw [lessG_len] at hk; exact hk, e2⟩
theorem runC_cols : ∀ {O : List (Nat × Nat)} {left : List Nat}, runG (O.map (·.1)) left = true → ∀ k, k < left.length → colN (k : Int) (runC O left) = left.getD k 0
  | [], left, h, k, hk => by
    have h : left.all (· == 0) = true := h
    rw [List.all_eq_true] at h
    have := h left[k] (List.getElem_mem hk)
    rw [List.getD_eq_getElem?_getD, List.getElem?_eq_getElem hk]
    exact (beq_iff_eq.mp this).symm
  | p :: O, left, h, k, hk => by
    rw [List.map_cons, runG, Bool.and_eq_true, Bool.and_eq_true, List.all_eq_true] at h
    obtain ⟨⟨h1, h2⟩, h3⟩ := h
    rw [runC, colN_app, runC_cols h3 k (by rw [lessG_len]; exact hk), rowC_col (pickG_nodup ..), lessG_at hk]
    split
    · rename_i q
      have := of_decide_eq_true (h2 k q)
      omega
    · omega
theorem runC_rows : ∀ {O : List (Nat × Nat)} {left : List Nat}, runG (O.map (·.1)) left = true → (O.map (·.2)).Nodup → (runC O left).Nodup ∧ ∀ p ∈ O, (inRow (p.2 : Nat) (runC O left)).length = p.1
  | [], left, h, nd => ⟨List.nodup_nil, fun _ z => by cases z⟩
  | p :: O, left, h, nd => by
    rw [List.map_cons, runG, Bool.and_eq_true, Bool.and_eq_true] at h
    obtain ⟨⟨h1, h2⟩, h3⟩ := h
    rw [List.map_cons, List.nodup_cons] at nd
    obtain ⟨i1, i2⟩ := runC_rows h3 nd.2
    have off : ∀ c ∈ runC O (lessG (pickG left p.1) left), c.1 ≠ (p.2 : Int) := fun c hc e => by
      obtain ⟨q, hq, e2, _⟩ := runC_mem hc
      refine nd.1 (List.mem_map.mpr ⟨q, hq, ?_⟩)
      have : (q.2 : Int) = p.2 := by rw [← e2, e]
      show q.2 = p.2
      omega
    have nr : (rowC p.2 (pickG left p.1)).Nodup := List.pairwise_map.mpr ((pickG_nodup left p.1).imp fun {a b} ne e => ne (by
      have := (Prod.ext_iff.mp e).2
      simp only at this
      omega))
    rw [runC]
    refine ⟨List.nodup_append.mpr ⟨nr, i1, fun a ha b hb e => off b hb (by rw [← e]; exact (mem_rowC.mp ha).1)⟩, fun q hq => ?_⟩
    rw [inRow_app, List.length_append]
    rcases List.mem_cons.mp hq with rfl | hq
    · rw [inRow_all fun c hc => (mem_rowC.mp hc).1, inRow_none off]
      unfold rowC
      rw [List.length_map, pickG_len (of_decide_eq_true h1)]
      rfl
    · rw [inRow_none (cs := rowC p.2 (pickG left p.1)) fun c hc e => by
        have e1 := (mem_rowC.mp hc).1
        refine nd.1 (List.mem_map.mpr ⟨q, hq, ?_⟩)
        show q.2 = p.2
        omega]
      rw [i2 q hq]
      exact Nat.zero_add _
/-- the rows, the greatest first -/
def ordR (R : List Nat) : List (Nat × Nat) := srtG (idxG 0 R)
theorem ordR_fst (R : List Nat) : (ordR R).map (·.1) = dn R := by
  refine sorted_perm (r := fun a b => b ≤ a) (fun a b h1 h2 => Nat.le_antisymm h2 h1) (List.pairwise_map.mpr ((srtG_pair _).imp fun {a b} h => by rw [leG_iff] at h; omega)) (dn_pair R) ?_
  refine ((srtG_perm _).map _).trans (List.Perm.trans ?_ (dn_perm R).symm)
  rw [idxG_eq, List.map_map]
  have : (List.range R.length).map ((fun p : Nat × Nat => p.1) ∘ fun j => (R.getD j 0, j)) = (List.range R.length).map fun i => R.getD i 0 := rfl
  rw [this, range_getD]
theorem cond_le {R C : List Nat} (c : condG (dn R) C = true) : (∀ x ∈ dn R, x ≤ C.length) ∧ ∀ x ∈ C, x ≤ R.length := by
  unfold condG at c
  rw [Bool.and_eq_true, decide_eq_true_eq, List.all_eq_true] at c
  obtain ⟨c1, c2⟩ := c
  constructor
  · have key : (C.map fun c => min 1 c).sum ≤ C.length := by
      have := sum_le (L := C) (f := fun c => min 1 c) (g := fun _ => 1) fun k _ => Nat.min_le_left ..
      have e1 : (C.map fun _ => 1).sum = C.length := by
        clear this c1 c2
        induction C with
        | nil => rfl
        | cons a C ih => rw [List.map_cons, List.sum_cons, List.length_cons, ih]; omega
      omega
    cases e : dn R with
    | nil => intro x hx; cases hx
    | cons a l =>
      have p := dn_pair R
      rw [e, List.pairwise_cons] at p
      have h1 := of_decide_eq_true (c2 1 (List.mem_range.mpr (by rw [e, List.length_cons]; omega)))
      rw [e] at h1
      have h1 : a + 0 ≤ _ := h1
      intro x hx
      rcases List.mem_cons.mp hx with rfl | hx
      · omega
      · have := p.1 x hx
        omega
  · have h1 := of_decide_eq_true (c2 (dn R).length (List.mem_range.mpr (by omega)))
    rw [List.take_length, c1, dn_len] at h1
    intro x hx
    apply Classical.byContradiction
    intro hn
    have : (C.map fun c => min R.length c).sum < C.sum := by
      clear h1 c1 c2
      induction C with
      | nil => cases hx
      | cons a C ih =>
        rw [List.map_cons, List.sum_cons, List.sum_cons]
        have m1 : min R.length a ≤ a := Nat.min_le_right ..
        rcases List.mem_cons.mp hx with rfl | hx
        · have := sum_le (L := C) (f := fun c => min R.length c) (g := fun c => c) fun k _ => Nat.min_le_right ..
          rw [List.map_id'] at this
          have : min R.length x < x := by omega
          omega
        · have := ih hx
          omega
    omega
theorem run_cond {R C : List Nat} (h1 : 1 ≤ R.length ∧ R.length ≤ 4) (w1 : 1 ≤ C.length ∧ C.length ≤ 4) (c : condG (dn R) C = true) : runG ((ordR R).map (·.1)) C = true := by
  rw [ordR_fst]
  obtain ⟨a, b⟩ := cond_le c
  exact run_ok (by rw [dn_len]; exact h1) w1 a (dn_pair R) (by rw [dn_len]; exact b) c
/-- what the way picks is a picture -/
theorem run_pic {R C : List Nat} (h : runG ((ordR R).map (·.1)) C = true) : Pic C.length R.length R C (srt (runC (ordR R) C)) := by
  have nd : ((ordR R).map (·.2)).Nodup := (snd_perm R).nodup_iff.mpr List.nodup_range
  obtain ⟨r1, r2⟩ := runC_rows h nd
  have sp := srt_pair r1
  have pm : (srt (runC (ordR R) C)).Perm (runC (ordR R) C) := List.mergeSort_perm ..
  have cN : ∀ k : Int, colN k (srt (runC (ordR R) C)) = colN k (runC (ordR R) C) := fun k => (pm.filter _).length_eq
  have inO : ∀ p ∈ ordR R, p.2 < R.length ∧ p.1 = R.getD p.2 0 := fun p hp => by
    have := (srtG_perm _).mem_iff.mp hp
    rw [idxG_eq] at this
    obtain ⟨j, hj, rfl⟩ := List.mem_map.mp this
    exact ⟨List.mem_range.mp hj, rfl⟩
  refine ⟨⟨sp, fun c hc => ?_, fun c hc => ?_, fun j hj => ?_, fun k hk => ?_⟩, fun k hk => ?_⟩
  · obtain ⟨p, hp, e, _⟩ := runC_mem (srt_mem.mp hc)
    have := (inO p hp).1
    omega
  · obtain ⟨p, hp, e, k, hk, e2⟩ := runC_mem (srt_mem.mp hc)
    omega
  · have mj : (R.getD j 0, j) ∈ ordR R := (srtG_perm _).mem_iff.mpr (by rw [idxG_eq]; exact List.mem_map.mpr ⟨j, List.mem_range.mpr hj, rfl⟩)
    exact (pm.filter _).length_eq.trans (r2 _ mj)
  · rw [cN, runC_cols h k hk]
    exact Nat.le_refl _
  · rw [cN, runC_cols h k hk]
/-- exactly if some picture has the sums -/
theorem cond_iff {R C : List Nat} (h1 : 1 ≤ R.length ∧ R.length ≤ 4) (w1 : 1 ≤ C.length ∧ C.length ≤ 4) : condG (dn R) C = true ↔ lawF C.length R.length R C ≠ [] := by
  constructor
  · intro c e
    have := (mem_lawF w1.2).mpr (run_pic (run_cond h1 w1 c))
    rw [e] at this
    cases this
  · intro ne
    obtain ⟨x, hx⟩ := List.exists_mem_of_ne_nil _ ne
    exact ((mem_lawF w1.2).mp hx).cond rfl rfl
end DL
namespace K51
open PySem PySem.Spec L2 DL DL.C
theorem q_taken : K51.F_law_taken = takenF := rfl
theorem alike_eq : ∀ n, R_law_alike n = alikeR n := by
  intro n
  induction n with
  | zero => rfl
  | succ n ih =>
    show fnP N_law_alike (s_law_alike (R_law_alike n)) = _
    rw [ih]
    rfl
theorem q_alike : K51.F_law_alike = alikeR 8 := alike_eq 8
theorem q_law_sums : K51.F_law_sums = C.F_law_sums := rfl
theorem q_law_framed : K51.F_law_framed = C.F_law_framed := rfl
theorem q_is_list : K51.F_is_list = C.F_is_list := rfl
theorem q_is_in : K51.F_is_in = C.F_is_in := rfl
def P_law_any_sums1 : ES := (sAsg (mCall F_law_sums (msCons (mCallR F_law_framed 0 (msCons (mP (xPure (xVar 1))) (msCons (mP (xPure (xVar 2))) msNil))) (msCons (mP (xPure (xVar 1))) (msCons (mP (xPure (xVar 2))) msNil)))) (gTupD 2 (gsCons (put 3) (gsCons (put 4) gsNil))))
instance : MS P_law_any_sums1 := by unfold P_law_any_sums1; infer_instance
def P_law_any_sums2 : ES := (sAsg (mCallR F_law_taken 0 (msCons (mP (xC (.int 3))) msNil)) (put 5))
instance : MS P_law_any_sums2 := by unfold P_law_any_sums2; infer_instance
def P_law_any_sums3t1 : ES := (sPar 6 7 (msCons (mCallR F_law_taken 0 (msCons (mP (xPure (xVar 1))) msNil)) (msCons (mCallR F_law_taken 0 (msCons (mP (xPure (xVar 2))) msNil)) msNil)))
instance : MS P_law_any_sums3t1 := by unfold P_law_any_sums3t1; infer_instance
def P_law_any_sums3t2 : ES := (sAsg (mP (xOp oAdd (xOp oAdd (xCut (xVar 3) none (some (xVar 6))) (xTup (xsCons (xOp oAdd (xOp ixD (xVar 3) (xVar 6)) (xC (.int 1))) xsNil))) (xCut (xVar 3) (some (xOp oAdd (xVar 6) (xC (.int 1)))) none))) (put 3))
instance : MS P_law_any_sums3t2 := by unfold P_law_any_sums3t2; infer_instance
def P_law_any_sums3t3 : ES := (sAsg (mP (xOp oAdd (xOp oAdd (xCut (xVar 4) none (some (xVar 7))) (xTup (xsCons (xOp oAdd (xOp ixD (xVar 4) (xVar 7)) (xC (.int 1))) xsNil))) (xCut (xVar 4) (some (xOp oAdd (xVar 7) (xC (.int 1)))) none))) (put 4))
instance : MS P_law_any_sums3t3 := by unfold P_law_any_sums3t3; infer_instance
def P_law_any_sums3t : ES := (sSeq P_law_any_sums3t1 (sSeq P_law_any_sums3t2 P_law_any_sums3t3))
instance : MS P_law_any_sums3t := by unfold P_law_any_sums3t; infer_instance
def P_law_any_sums3 : ES := (sIf (tP' (xBool (xOp oEq (xVar 5) (xC (.int 1))))) P_law_any_sums3t sNext)
instance : MS P_law_any_sums3 := by unfold P_law_any_sums3; infer_instance
def P_law_any_sums4t : ES := (sAsg (mCall tupleD (msCons (mComp [6] (iP (xRng1 (xsCons (xVar 1) xsNil))) (put 6) (tP' yYes) (mCallR F_law_taken 0 (msCons (mP (xOp oAdd (xVar 2) (xC (.int 1)))) msNil))) msNil)) (put 3))
instance : MS P_law_any_sums4t := by unfold P_law_any_sums4t; infer_instance
def P_law_any_sums4 : ES := (sIf (tP' (xBool (xOp oEq (xVar 5) (xC (.int 2))))) P_law_any_sums4t sNext)
instance : MS P_law_any_sums4 := by unfold P_law_any_sums4; infer_instance
def P_law_any_sums5 : ES := (sRet (mP (xTup (xsCons (xPure (xVar 3)) (xsCons (xPure (xVar 4)) xsNil)))))
instance : MS P_law_any_sums5 := by unfold P_law_any_sums5; infer_instance
def P_law_any_sums : ES := (sSeq P_law_any_sums1 (sSeq P_law_any_sums2 (sSeq P_law_any_sums3 (sSeq P_law_any_sums4 P_law_any_sums5))))
instance : MS P_law_any_sums := by unfold P_law_any_sums; infer_instance
theorem eq_law_any_sums : s_law_any_sums = P_law_any_sums := rfl
def P_law_pictures1 : ES := (sAsg (mP (xLst (xsCons (xTup xsNil) xsNil))) (put 2))
instance : MS P_law_pictures1 := by unfold P_law_pictures1; infer_instance
def P_law_pictures2b2b1 : ES := (sAsg (mP (xCall tupleD (xsCons (xComp [9] (xRng1 (xsCons (xCall lenD (xsCons (xVar 1) xsNil)) xsNil)) (putB 9) (xBool (xOp oEq (xOp oMod (xCall intD (xsCons (xOp oShr (xVar 5) (xVar 9)) xsNil)) (xC (.int 2))) (xC (.int 1)))) (xTup (xsCons (xPure (xVar 3)) (xsCons (xPure (xVar 9)) xsNil)))) xsNil))) (put 6))
instance : MS P_law_pictures2b2b1 := by unfold P_law_pictures2b2b1; infer_instance
def P_law_pictures2b2b2tb1 : ES := (sAsg (mP (xOp oAdd (xVar 7) (xVar 6))) (put 8))
instance : MS P_law_pictures2b2b2tb1 := by unfold P_law_pictures2b2b2tb1; infer_instance
def P_law_pictures2b2b2tb2t : ES := (sDrop (mMut isL appendD 4 (msCons (mP (xPure (xVar 8))) msNil)))
instance : MS P_law_pictures2b2b2tb2t := by unfold P_law_pictures2b2b2tb2t; infer_instance
def P_law_pictures2b2b2tb2 : ES := (sIf (tP' (xBool (xOp oEq (xComp [9] (xRng1 (xsCons (xCall lenD (xsCons (xVar 1) xsNil)) xsNil)) (putB 9) (xBool (xOp oGt (xCall lenD (xsCons (xComp [10] (xIt (xVar 8)) (putB 10) (xBool (xOp oEq (xOp ixD (xVar 10) (xC (.int 1))) (xVar 9))) (xPure (xVar 10))) xsNil)) (xOp ixD (xVar 1) (xVar 9)))) (xPure (xVar 9))) (xLst xsNil)))) P_law_pictures2b2b2tb2t sNext)
instance : MS P_law_pictures2b2b2tb2 := by unfold P_law_pictures2b2b2tb2; infer_instance
def P_law_pictures2b2b2tb : ES := (sSeq P_law_pictures2b2b2tb1 P_law_pictures2b2b2tb2)
instance : MS P_law_pictures2b2b2tb := by unfold P_law_pictures2b2b2tb; infer_instance
def P_law_pictures2b2b2t : ES := (sLend 2 (sFor (srcB 2) (put 7) P_law_pictures2b2b2tb))
instance : MS P_law_pictures2b2b2t := by unfold P_law_pictures2b2b2t; infer_instance
def P_law_pictures2b2b2 : ES := (sIf (tP' (xBool (xOp oEq (xCall lenD (xsCons (xVar 6) xsNil)) (xOp ixD (xVar 0) (xVar 3))))) P_law_pictures2b2b2t sNext)
instance : MS P_law_pictures2b2b2 := by unfold P_law_pictures2b2b2; infer_instance
def P_law_pictures2b2b : ES := (sSeq P_law_pictures2b2b1 P_law_pictures2b2b2)
instance : MS P_law_pictures2b2b := by unfold P_law_pictures2b2b; infer_instance
def P_law_pictures2b2 : ES := (sFor (iP (xRng1 (xsCons (xOp oShl (xC (.int 1)) (xCall lenD (xsCons (xVar 1) xsNil))) xsNil))) (put 5) P_law_pictures2b2b)
instance : MS P_law_pictures2b2 := by unfold P_law_pictures2b2; infer_instance
def P_law_pictures2b : ES := (sSeq (sAsg (mP (xLst xsNil)) (put 4)) (sSeq P_law_pictures2b2 (sAsg (mMove 4) (put 2))))
instance : MS P_law_pictures2b := by unfold P_law_pictures2b; infer_instance
def P_law_pictures2 : ES := (sFor (iP (xRng1 (xsCons (xCall lenD (xsCons (xVar 0) xsNil)) xsNil))) (put 3) P_law_pictures2b)
instance : MS P_law_pictures2 := by unfold P_law_pictures2; infer_instance
def P_law_pictures3 : ES := (sRet (mP (xCall sortedB (xsCons (xComp [7] (xIt (xVar 2)) (putB 7) (xBool (xOp oEq (xCall F_law_sums (xsCons (xVar 7) (xsCons (xCall lenD (xsCons (xVar 0) xsNil)) (xsCons (xCall lenD (xsCons (xVar 1) xsNil)) xsNil)))) (xTup (xsCons (xCall tupleD (xsCons (xVar 0) xsNil)) (xsCons (xCall tupleD (xsCons (xVar 1) xsNil)) xsNil))))) (xPure (xVar 7))) xsNil))))
instance : MS P_law_pictures3 := by unfold P_law_pictures3; infer_instance
def P_law_pictures : ES := (sSeq P_law_pictures1 (sSeq P_law_pictures2 P_law_pictures3))
instance : MS P_law_pictures := by unfold P_law_pictures; infer_instance
theorem eq_law_pictures : s_law_pictures = P_law_pictures := rfl
def P_first_lack1 : ES := (sDrop (mP (xCall F_need_both (xsCons (xVar 0) (xsCons (xVar 1) xsNil)))))
instance : MS P_first_lack1 := by unfold P_first_lack1; infer_instance
def P_first_lack2 : ES := (sIf (tP' (xBool (xOp oNe (xCall sumX (xsCons (xVar 0) xsNil)) (xCall sumX (xsCons (xVar 1) xsNil))))) (sRet (mP (xC (.int 0)))) sNext)
instance : MS P_first_lack2 := by unfold P_first_lack2; infer_instance
def P_first_lack3 : ES := (sAsg (mP (xRev (xCall sortedC (xsCons (xVar 0) xsNil)))) (put 2))
instance : MS P_first_lack3 := by unfold P_first_lack3; infer_instance
def P_first_lack4b : ES := (sIf (tP' (xBool (xOp oGt (xCall sumX (xsCons (xCut (xVar 2) none (some (xVar 3))) xsNil)) (xCall sumD (xsCons (xComp [4] (xIt (xVar 1)) (putB 4) yYes (xCall min2D (xsCons (xVar 3) (xsCons (xVar 4) xsNil)))) xsNil))))) (sRet (mP (xPure (xVar 3)))) sNext)
instance : MS P_first_lack4b := by unfold P_first_lack4b; infer_instance
def P_first_lack4 : ES := (sFor (iP (xRng2 (xsCons (xC (.int 1)) (xsCons (xOp oAdd (xCall lenD (xsCons (xVar 2) xsNil)) (xC (.int 1))) xsNil)))) (put 3) P_first_lack4b)
instance : MS P_first_lack4 := by unfold P_first_lack4; infer_instance
def P_first_lack : ES := (sSeq P_first_lack1 (sSeq P_first_lack2 (sSeq P_first_lack3 (sSeq P_first_lack4 (sRet (mP (xC .non)))))))
instance : MS P_first_lack := by unfold P_first_lack; infer_instance
theorem eq_first_lack : s_first_lack = P_first_lack := rfl
def P_picture_of1 : ES := (sIf (tP' (xBool (xOp oNotN (xCall F_first_lack (xsCons (xVar 0) (xsCons (xVar 1) xsNil))) (xC .non)))) (sRet (mP (xC .non))) sNext)
instance : MS P_picture_of1 := by unfold P_picture_of1; infer_instance
def P_picture_of2 : ES := (sAsg (mP (xTup (xsCons (xCall listA (xsCons (xVar 1) xsNil)) (xsCons (xLst xsNil) xsNil)))) (gTupD 2 (gsCons (put 2) (gsCons (put 3) gsNil))))
instance : MS P_picture_of2 := by unfold P_picture_of2; infer_instance
def P_picture_of3b1 : ES := (sAsg (mP (xCall sortedB (xsCons (xComp [8] (xRng1 (xsCons (xCall lenD (xsCons (xVar 2) xsNil)) xsNil)) (putB 8) yYes (xTup (xsCons (xNeg (xOp ixD (xVar 2) (xVar 8))) (xsCons (xPure (xVar 8)) xsNil)))) xsNil))) (put 6))
instance : MS P_picture_of3b1 := by unfold P_picture_of3b1; infer_instance
def P_picture_of3b2b1 : ES := (sAugS 2 (xVar 8) getLD (o2 (fun _ _ => true) fun i j => i - j) (xC (.int 1)) setL)
instance : MS P_picture_of3b2b1 := by unfold P_picture_of3b2b1; infer_instance
def P_picture_of3b2b2 : ES := (sDrop (mMut isL appendD 3 (msCons (mP (xTup (xsCons (xPure (xVar 5)) (xsCons (xPure (xVar 8)) xsNil)))) msNil)))
instance : MS P_picture_of3b2b2 := by unfold P_picture_of3b2b2; infer_instance
def P_picture_of3b2b : ES := (sSeq P_picture_of3b2b1 P_picture_of3b2b2)
instance : MS P_picture_of3b2b := by unfold P_picture_of3b2b; infer_instance
def P_picture_of3b2 : ES := (sFor (iP (xIt (xCut (xVar 6) none (some (xNeg (xVar 4)))))) (gTupD 2 (gsCons (put 7) (gsCons (put 8) gsNil))) P_picture_of3b2b)
instance : MS P_picture_of3b2 := by unfold P_picture_of3b2; infer_instance
def P_picture_of3b : ES := (sSeq P_picture_of3b1 P_picture_of3b2)
instance : MS P_picture_of3b := by unfold P_picture_of3b; infer_instance
def P_picture_of3 : ES := (sFor (iP (xIt (xCall sortedB (xsCons (xComp [5, 4] (xEn (xVar 0)) (gTupD 2 (gsCons (putB 5) (gsCons (putB 4) gsNil))) yYes (xTup (xsCons (xNeg (xVar 4)) (xsCons (xPure (xVar 5)) xsNil)))) xsNil)))) (gTupD 2 (gsCons (put 4) (gsCons (put 5) gsNil))) P_picture_of3b)
instance : MS P_picture_of3 := by unfold P_picture_of3; infer_instance
def P_picture_of4 : ES := (sRet (mP (xCall tupleD (xsCons (xCall sortedB (xsCons (xVar 3) xsNil)) xsNil))))
instance : MS P_picture_of4 := by unfold P_picture_of4; infer_instance
def P_picture_of : ES := (sSeq P_picture_of1 (sSeq P_picture_of2 (sSeq P_picture_of3 P_picture_of4)))
instance : MS P_picture_of := by unfold P_picture_of; infer_instance
theorem eq_picture_of : s_picture_of = P_picture_of := rfl
def P_choices1 : ES := (sAsg (mP (xLst (xsCons (xTup xsNil) xsNil))) (put 2))
instance : MS P_choices1 := by unfold P_choices1; infer_instance
def P_choices2b : ES := (sAsg (mP (xComp2 [4, 5] [5] (xIt (xVar 2)) (putB 4) yYes (xRng2 (xsCons (xIf (xBool (xOp oNe (xVar 4) (xTup xsNil))) (xOp oAdd (xOp ixD (xVar 4) (xNeg (xC (.int 1)))) (xC (.int 1))) (xC (.int 0))) (xsCons (xVar 0) xsNil))) (putB 5) yYes (xTup (xsStar (xVar 4) (xsCons (xPure (xVar 5)) xsNil))))) (put 2))
instance : MS P_choices2b := by unfold P_choices2b; infer_instance
def P_choices2 : ES := (sFor (iP (xRng1 (xsCons (xVar 1) xsNil))) (put 3) P_choices2b)
instance : MS P_choices2 := by unfold P_choices2; infer_instance
def P_choices : ES := (sSeq P_choices1 (sSeq P_choices2 (sRet (mMove 2))))
instance : MS P_choices := by unfold P_choices; infer_instance
theorem eq_choices : s_choices = P_choices := rfl
def P_all_pictures1 : ES := (sDrop (mP (xCall F_need_both (xsCons (xVar 0) (xsCons (xVar 1) xsNil)))))
instance : MS P_all_pictures1 := by unfold P_all_pictures1; infer_instance
def P_all_pictures2 : ES := (sAsg (mP (xLst (xsCons (xTup (xsCons (xTup xsNil) (xsCons (xPure (xVar 1)) xsNil))) xsNil))) (put 2))
instance : MS P_all_pictures2 := by unfold P_all_pictures2; infer_instance
def P_all_pictures3b2bbt1 : ES := (sAsg (mP (xCall tupleD (xsCons (xComp [11, 12] (xEn (xVar 7)) (gTupD 2 (gsCons (putB 11) (gsCons (putB 12) gsNil))) yYes (xOp oSub (xVar 12) (xCall intD (xsCons (xOp oIn (xVar 11) (xVar 8)) xsNil)))) xsNil))) (put 9))
instance : MS P_all_pictures3b2bbt1 := by unfold P_all_pictures3b2bbt1; infer_instance
def P_all_pictures3b2bbt2t : ES := (sDrop (mMut isL appendD 5 (msCons (mP (xTup (xsCons (xOp oAdd (xVar 6) (xCall tupleD (xsCons (xComp [11] (xIt (xVar 8)) (putB 11) yYes (xTup (xsCons (xPure (xVar 3)) (xsCons (xPure (xVar 11)) xsNil)))) xsNil))) (xsCons (xPure (xVar 9)) xsNil)))) msNil)))
instance : MS P_all_pictures3b2bbt2t := by unfold P_all_pictures3b2bbt2t; infer_instance
def P_all_pictures3b2bbt2 : ES := (sIf (tP' (xBool (xCall allD (xsCons (xComp [12] (xIt (xVar 9)) (putB 12) yYes (xOp oLt (xVar 12) (xOp oSub (xCall lenD (xsCons (xVar 0) xsNil)) (xVar 3)))) xsNil)))) P_all_pictures3b2bbt2t sNext)
instance : MS P_all_pictures3b2bbt2 := by unfold P_all_pictures3b2bbt2; infer_instance
def P_all_pictures3b2bbt : ES := (sSeq P_all_pictures3b2bbt1 P_all_pictures3b2bbt2)
instance : MS P_all_pictures3b2bbt := by unfold P_all_pictures3b2bbt; infer_instance
def P_all_pictures3b2bb : ES := (sIf (tP' (xBool (xCall allD (xsCons (xComp [11] (xIt (xVar 8)) (putB 11) yYes (xOp oGt (xOp ixD (xVar 7) (xVar 11)) (xC (.int 0)))) xsNil)))) P_all_pictures3b2bbt sNext)
instance : MS P_all_pictures3b2bb := by unfold P_all_pictures3b2bb; infer_instance
def P_all_pictures3b2b : ES := (sFor (iP (xIt (xCall F_choices (xsCons (xCall lenD (xsCons (xVar 1) xsNil)) (xsCons (xVar 4) xsNil))))) (put 8) P_all_pictures3b2bb)
instance : MS P_all_pictures3b2b := by unfold P_all_pictures3b2b; infer_instance
def P_all_pictures3b2 : ES := (sLend 2 (sFor (srcB 2) (gTupD 2 (gsCons (put 6) (gsCons (put 7) gsNil))) P_all_pictures3b2b))
instance : MS P_all_pictures3b2 := by unfold P_all_pictures3b2; infer_instance
def P_all_pictures3b4 : ES := (sIf (tP' (xBool (xOp oGt (xCall lenD (xsCons (xVar 2) xsNil)) (xOp oMul (xC (.int 500)) (xC (.int 12)))))) sNever sNext)
instance : MS P_all_pictures3b4 := by unfold P_all_pictures3b4; infer_instance
def P_all_pictures3b : ES := (sSeq (sAsg (mP (xLst xsNil)) (put 5)) (sSeq P_all_pictures3b2 (sSeq (sAsg (mMove 5) (put 2)) P_all_pictures3b4)))
instance : MS P_all_pictures3b := by unfold P_all_pictures3b; infer_instance
def P_all_pictures3 : ES := (sFor (iP (xEn (xPure (xVar 0)))) (gTupD 2 (gsCons (put 3) (gsCons (put 4) gsNil))) P_all_pictures3b)
instance : MS P_all_pictures3 := by unfold P_all_pictures3; infer_instance
def P_all_pictures4 : ES := (sAsg (mP (xCall sortedB (xsCons (xComp [6, 7] (xIt (xVar 2)) (gTupD 2 (gsCons (putB 6) (gsCons (putB 7) gsNil))) (yNot (xBool (xCall anyA (xsCons (xVar 7) xsNil)))) (xPure (xVar 6))) xsNil))) (put 10))
instance : MS P_all_pictures4 := by unfold P_all_pictures4; infer_instance
def P_all_pictures5 : ES := (sIf (tP' (xBool (xOp oGt (xCall lenD (xsCons (xVar 10) xsNil)) (xC (.int 500))))) sNever sNext)
instance : MS P_all_pictures5 := by unfold P_all_pictures5; infer_instance
def P_all_pictures : ES := (sSeq P_all_pictures1 (sSeq P_all_pictures2 (sSeq P_all_pictures3 (sSeq P_all_pictures4 (sSeq P_all_pictures5 (sRet (mMove 10)))))))
instance : MS P_all_pictures := by unfold P_all_pictures; infer_instance
theorem eq_all_pictures : s_all_pictures = P_all_pictures := rfl
def P_law1 : ES := (sAsg (mP (xLst (xsCons (xPure (xVar 0)) (xsCons (xC (.int 0)) (xsCons (xC (.int 3751)) (xsCons (xC (.int 0)) xsNil)))))) (put 1))
instance : MS P_law1 := by unfold P_law1; infer_instance
def P_law2b1 : ES := (sPar 3 4 (msCons (mOp oAdd (mP (xC (.int 1))) (mCallR F_law_taken 1 (msCons (mP (xC (.int 4))) msNil))) (msCons (mOp oAdd (mP (xC (.int 1))) (mCallR F_law_taken 1 (msCons (mP (xC (.int 4))) msNil))) msNil)))
instance : MS P_law2b1 := by unfold P_law2b1; infer_instance
def P_law2b2 : ES := (sAsg (mCallR F_law_any_sums 1 (msCons (mP (xPure (xVar 3))) (msCons (mP (xPure (xVar 4))) msNil))) (gTupD 2 (gsCons (put 5) (gsCons (put 6) gsNil))))
instance : MS P_law2b2 := by unfold P_law2b2; infer_instance
def P_law2b3 : ES := (sAsg (mP (xCall F_law_pictures (xsCons (xVar 5) (xsCons (xVar 6) xsNil)))) (put 7))
instance : MS P_law2b3 := by unfold P_law2b3; infer_instance
def P_law2b4 : ES := (sPar 8 9 (msCons (mP (xCall F_picture_of (xsCons (xVar 5) (xsCons (xVar 6) xsNil)))) (msCons (mP (xCall F_first_lack (xsCons (xVar 5) (xsCons (xVar 6) xsNil)))) msNil)))
instance : MS P_law2b4 := by unfold P_law2b4; infer_instance
def P_law2b5 : ES := (sIf (tP' (yOr (xBool (xOp oNe (xOp oIsN (xVar 8) (xC .non)) (xOp oEq (xVar 7) (xLst xsNil)))) (xBool (xOp oNe (xOp oIsN (xVar 9) (xC .non)) (xOp oNe (xVar 7) (xLst xsNil)))))) (sRet (mP (xC (.bl false)))) sNext)
instance : MS P_law2b5 := by unfold P_law2b5; infer_instance
def P_law2b6 : ES := (sIf (tP' (yAnd (xBool (xOp oNotN (xVar 8) (xC .non))) (yOr (xBool (xOp oNin (xVar 8) (xVar 7))) (xBool (xOp oNe (xCall F_sums (xsCons (xVar 8) (xsCons (xVar 3) (xsCons (xVar 4) xsNil)))) (xTup (xsCons (xPure (xVar 5)) (xsCons (xPure (xVar 6)) xsNil)))))))) (sRet (mP (xC (.bl false)))) sNext)
instance : MS P_law2b6 := by unfold P_law2b6; infer_instance
def P_law2b7t1 : ES := (sPar 10 11 (msCons (mP (xRev (xCall sortedC (xsCons (xVar 5) xsNil)))) (msCons (mP (xLst xsNil)) msNil)))
instance : MS P_law2b7t1 := by unfold P_law2b7t1; infer_instance
def P_law2b7t2bt : ES := (sDrop (mMut isL appendD 11 (msCons (mP (xPure (xVar 12))) msNil)))
instance : MS P_law2b7t2bt := by unfold P_law2b7t2bt; infer_instance
def P_law2b7t2b : ES := (sIf (tP' (xBool (xOp oGt (xCall sumX (xsCons (xCut (xVar 10) none (some (xVar 12))) xsNil)) (xCall sumD (xsCons (xComp [13] (xIt (xVar 6)) (putB 13) yYes (xCall min2D (xsCons (xVar 12) (xsCons (xVar 13) xsNil)))) xsNil))))) P_law2b7t2bt sNext)
instance : MS P_law2b7t2b := by unfold P_law2b7t2b; infer_instance
def P_law2b7t2 : ES := (sFor (iP (xRng2 (xsCons (xC (.int 1)) (xsCons (xOp oAdd (xVar 3) (xC (.int 1))) xsNil)))) (put 12) P_law2b7t2b)
instance : MS P_law2b7t2 := by unfold P_law2b7t2; infer_instance
def P_law2b7t3 : ES := (sIf (tP' (yNot (xBool (xCall F_law_alike (xsCons (xVar 9) (xsCons (xIf (xBool (xOp oNe (xCall sumX (xsCons (xVar 5) xsNil)) (xCall sumX (xsCons (xVar 6) xsNil)))) (xC (.int 0)) (xPure (xOp ixD (xVar 11) (xC (.int 0))))) xsNil)))))) (sRet (mP (xC (.bl false)))) sNext)
instance : MS P_law2b7t3 := by unfold P_law2b7t3; infer_instance
def P_law2b7t : ES := (sSeq P_law2b7t1 (sSeq P_law2b7t2 P_law2b7t3))
instance : MS P_law2b7t := by unfold P_law2b7t; infer_instance
def P_law2b7 : ES := (sIf (tP' (xBool (xOp oNotN (xVar 9) (xC .non)))) P_law2b7t sNext)
instance : MS P_law2b7 := by unfold P_law2b7; infer_instance
def P_law2b8 : ES := (sIf (tP' (yNot (xBool (xCall F_law_alike (xsCons (xCall F_all_pictures (xsCons (xVar 5) (xsCons (xVar 6) xsNil))) (xsCons (xVar 7) xsNil)))))) (sRet (mP (xC (.bl false)))) sNext)
instance : MS P_law2b8 := by unfold P_law2b8; infer_instance
def P_law2b : ES := (sSeq P_law2b1 (sSeq P_law2b2 (sSeq P_law2b3 (sSeq P_law2b4 (sSeq P_law2b5 (sSeq P_law2b6 (sSeq P_law2b7 P_law2b8)))))))
instance : MS P_law2b := by unfold P_law2b; infer_instance
def P_law2 : ES := (sFor (iP (xRng1 (xsCons (xC (.int 2)) xsNil))) (put 2) P_law2b)
instance : MS P_law2 := by unfold P_law2; infer_instance
def P_law : ES := (sSeq P_law1 (sSeq P_law2 (sRet (mP (xC (.bl true))))))
instance : MS P_law := by unfold P_law; infer_instance
theorem eq_law : s_law = P_law := rfl
end K51
namespace K51
open PySem PySem.Spec L2 DL DL.C
/-! ### the drawn sums -/
abbrev iL (R : List Nat) : List Int := R.map fun n : Nat => (n : Int)
abbrev nD (R : List Nat) : D := wD (iL R)
theorem nD_eq (R : List Nat) : nD R = .tup (R.map fun n : Nat => D.int (n : Int)) := by
  show D.tup ((R.map fun n : Nat => (n : Int)).map D.int) = _
  rw [List.map_map]
  rfl
theorem cl_w (f : Cell → Int) (cs : List Cell) (n : Nat) : D.tup (C.cl f cs n) = nD ((List.range n).map fun k => cntF f k cs) := by
  rw [nD_eq, List.map_map]
  rfl
theorem ix_nD {R : List Nat} {a : Nat} (h : a < R.length) : ixD (nD R) (.int (a : Int)) = some (.int (R.getD a 0 : Nat)) := by
  show atI _ _ = _
  rw [v_at (by omega), Int.toNat_natCast, List.getElem?_map, List.getElem?_map, List.getElem?_eq_getElem h, List.getD_eq_getElem?_getD, List.getElem?_eq_getElem h]
  rfl
theorem take_nD {R : List Nat} {j : Nat} : cutD (nD R) none (some (j : Int)) = some (nD (R.take j)) := by rw [cut_to]; unfold nD iL; rw [List.map_take]
theorem drop_nD {R : List Nat} {j : Nat} : cutD (nD R) (some (j : Int)) none = some (nD (R.drop j)) := by rw [cut_from]; unfold nD iL; rw [List.map_drop]
theorem add_nD {R S : List Nat} (h : R.length + S.length ≤ 1000) : oAdd (nD R) (nD S) = some (nD (R ++ S)) := by
  rw [add_w (by rw [List.length_map, List.length_map]; omega)]
  unfold nD iL
  rw [List.map_append]
theorem len_nD (R : List Nat) : lenD [nD R] = some (.int R.length) := by rw [len_w, List.length_map]
theorem pu_nD (R : List Nat) : DL.pure (nD R) = true := pures_w _
def bump (R : List Nat) (a : Nat) : List Nat := R.take a ++ [R.getD a 0 + 1] ++ R.drop (a + 1)
theorem bump_len {R : List Nat} {a : Nat} (h : a < R.length) : (bump R a).length = R.length := by
  unfold bump
  rw [List.length_append, List.length_append, List.length_take, List.length_drop, List.length_singleton]
  omega
theorem bump_le {R : List Nat} {a m : Nat} (h : ∀ x ∈ R, x ≤ m) : ∀ x ∈ bump R a, x ≤ m + 1 := by
  intro x hx
  unfold bump at hx
  have g : R.getD a 0 ≤ m := by
    rw [List.getD_eq_getElem?_getD]
    by_cases q : a < R.length
    · rw [List.getElem?_eq_getElem q]
      exact h _ (List.getElem_mem q)
    · rw [List.getElem?_eq_none (by omega)]
      exact Nat.zero_le _
  rcases List.mem_append.mp hx with hx | hx
  · rcases List.mem_append.mp hx with hx | hx
    · have := h x (List.mem_of_mem_take hx); omega
    · rw [List.mem_singleton.mp hx]; omega
  · have := h x (List.mem_of_mem_drop hx); omega
/-- a row of a frame has as many cells as the frame is wide, at most -/
theorem row_le {cs : List Cell} {h w : Nat} (f : Framed cs h w) (k : Nat) : cntF (·.1) k cs ≤ w ∧ cntF (·.2) k cs ≤ h := by
  have gen : ∀ (p q : Cell → Int) (m : Nat), (∀ c ∈ cs, 0 ≤ q c ∧ q c < (m : Int)) → (∀ a b : Cell, p a = p b → q a = q b → a = b) → cntF p k cs ≤ m := fun p q m hq inj => by
    have := nodup_le (L := (cs.filter fun c => decide (p c = (k : Int))).map fun c => (q c).toNat) (S := List.range m) (List.pairwise_map.mpr ((pair_nodup (List.Pairwise.filter _ f.srt)).imp_of_mem fun {a b} ha hb ne e => ne (inj a b (by
      have := of_decide_eq_true (List.mem_filter.mp ha).2
      have := of_decide_eq_true (List.mem_filter.mp hb).2
      omega) (by
      have := hq a (List.mem_filter.mp ha).1
      have := hq b (List.mem_filter.mp hb).1
      omega)))) fun n hn => by
        obtain ⟨c, hc, rfl⟩ := List.mem_map.mp hn
        have := hq c (List.mem_filter.mp hc).1
        exact List.mem_range.mpr (by omega)
    rw [List.length_map, List.length_range] at this
    exact this
  exact ⟨gen (·.1) (·.2) w f.col fun a b e1 e2 => Prod.ext e1 e2, gen (·.2) (·.1) h f.row fun a b e1 e2 => Prod.ext e2 e1⟩
variable {ns : List Int}
theorem as3 {row : D} {h w : Nat} {R C : List Nat} {y : Int} (r : Row ns row) (hR : R.length = h) (hC : C.length = w) (h1 : 1 ≤ h ∧ h ≤ 4) (w1 : 1 ≤ w ∧ w ≤ 4) (mR : ∀ x ∈ R, x ≤ w) (mC : ∀ x ∈ C, x ≤ h) :
    ∃ R' C' row' x6 x7, Row ns row' ∧ R'.length = h ∧ C'.length = w ∧ (∀ x ∈ R', x ≤ w + 1) ∧ (∀ x ∈ C', x ≤ h + 1) ∧ isPin x6 = false ∧ Ev P_law_any_sums3 [pn row, ow (.int h), ow (.int w), ow (nD R), ow (nD C), ow (.int y), none, none] (.nx [pn row', ow (.int h), ow (.int w), ow (nD R'), ow (nD C'), ow (.int y), x6, x7]) := by
  by_cases hy : y = 1
  · subst hy
    obtain ⟨a, d1, e1, a1, b1, r1⟩ := taken_ok (m := (h : Int)) r (by omega)
    obtain ⟨b, d2, e2, a2, b2, r2⟩ := taken_ok (m := (w : Int)) r1 (by omega)
    obtain ⟨a, rfl⟩ := Int.eq_ofNat_of_zero_le a1
    obtain ⟨b, rfl⟩ := Int.eq_ofNat_of_zero_le a2
    refine ⟨bump R a, bump C b, d2, ow (.int a), ow (.int b), r2, by rw [bump_len (by omega), hR], by rw [bump_len (by omega), hC], bump_le mR, bump_le mC, rfl, ?_⟩
    have key : ∀ (R : List Nat) (a : Nat), a < R.length → R.length ≤ 4 → ixD (nD R) (.int (a : Int)) = some (.int (R.getD a 0 : Nat)) ∧ cutD (nD R) none (some (a : Int)) = some (nD (R.take a)) ∧ cutD (nD R) (some ((a : Int) + 1)) none = some (nD (R.drop (a + 1))) ∧ D.tup [.int ((R.getD a 0 : Nat) + 1 : Int)] = nD [R.getD a 0 + 1] ∧ oAdd (nD (R.take a)) (nD [R.getD a 0 + 1]) = some (nD (R.take a ++ [R.getD a 0 + 1])) ∧ oAdd (nD (R.take a ++ [R.getD a 0 + 1])) (nD (R.drop (a + 1))) = some (nD (bump R a)) := fun R a ha hl => by
      refine ⟨ix_nD ha, take_nD, drop_nD (j := a + 1), rfl, add_nD (by rw [List.length_take, List.length_singleton]; omega), add_nD (by rw [List.length_append, List.length_take, List.length_drop, List.length_singleton]; omega)⟩
    obtain ⟨i1, i2, i3, i4, i5, i6⟩ := key R a (by omega) (by omega)
    obtain ⟨j1, j2, j3, j4, j5, j6⟩ := key C b (by omega) (by omega)
    refine Ev.of ?_
    generalize nD (bump R a) = RB at *
    generalize nD (bump C b) = CB at *
    generalize nD (R.take a ++ [R.getD a 0 + 1]) = R1 at *
    generalize nD (C.take b ++ [C.getD b 0 + 1]) = C1 at *
    generalize nD (R.take a) = R2 at *
    generalize nD (C.take b) = C2 at *
    generalize nD (R.drop (a + 1)) = R3 at *
    generalize nD (C.drop (b + 1)) = C3 at *
    generalize nD [R.getD a 0 + 1] = R4 at *
    generalize nD [C.getD b 0 + 1] = C4 at *
    generalize nD R = R0 at *
    generalize nD C = C0 at *
    generalize ((R.getD a 0 : Nat) : Int) = u at *
    generalize ((C.getD b 0 : Nat) : Int) = v at *
    unfold P_law_any_sums3 P_law_any_sums3t P_law_any_sums3t1 P_law_any_sums3t2 P_law_any_sums3t3
    simp (disch := omega) [-e_put, e_put', q_taken, e1, e2, i1, i2, i3, i4, i5, i6, j1, j2, j3, j4, j5, j6, if_size]
  · refine ⟨R, C, row, none, none, r, hR, hC, fun x hx => Nat.le_succ_of_le (mR x hx), fun x hx => Nat.le_succ_of_le (mC x hx), rfl, Ev.of ?_⟩
    generalize nD R = R0 at *
    generalize nD C = C0 at *
    unfold P_law_any_sums3
    simp [hy]
theorem as4 {row : D} {h w : Nat} {R : List Nat} {x4 x6 x7 : Slt} {y : Int} (r : Row ns row) (hR : R.length = h) (h1 : 1 ≤ h ∧ h ≤ 4) (w1 : 1 ≤ w ∧ w ≤ 4) (mR : ∀ x ∈ R, x ≤ w + 1) (p6 : isPin x6 = false) :
    ∃ R' row' z6, Row ns row' ∧ R'.length = h ∧ (∀ x ∈ R', x ≤ w + 1) ∧ Ev P_law_any_sums4 [pn row, ow (.int h), ow (.int w), ow (nD R), x4, ow (.int y), x6, x7] (.nx [pn row', ow (.int h), ow (.int w), ow (nD R'), x4, ow (.int y), z6, x7]) := by
  by_cases hy : y = 2
  · subst hy
    obtain ⟨us, ρ', el, ru, c, d2, r2, e2⟩ := compM_vals (gx := put 6) (t := tP' yYes) (e := mCallR F_law_taken 0 (msCons (mP (xOp oAdd (xVar 2) (xC (.int 1)))) msNil)) (vs := [6]) (fun c : Nat => D.int (c : Int))
      (fun ρ => ∃ d : D, Row ns d ∧ ρ = [some (.pin, d), ow (.int h), ow (.int w), ow (nD R), x4, ow (.int 2), none, x7]) (fun v => 0 ≤ v ∧ v < (w : Int) + 1) (List.range h) [some (.pin, row), ow (.int h), ow (.int w), ow (nD R), x4, ow (.int 2), none, x7] ⟨row, r, rfl⟩ fun c hc ρ q => by
      obtain ⟨d, r, rfl⟩ := q
      obtain ⟨v, d', e, a, b, r'⟩ := taken_ok (m := (w : Int) + 1) r (by omega)
      generalize nD R = R0 at *
      exact ⟨rfl, [some (.pin, d), ow (.int h), ow (.int w), ow R0, x4, ow (.int 2), ow (.int c), x7], _, v, [some (.pin, d'), ow (.int h), ow (.int w), ow R0, x4, ow (.int 2), ow (.int c), x7], by simp, rfl, by simp [q_taken, e], ⟨a, b⟩, d', r', by simp⟩
    subst e2
    rw [List.length_range] at el
    rw [← rng_len] at c
    have eu : us = iL (us.map Int.toNat) := by
      unfold iL
      rw [List.map_map]
      conv => lhs; rw [← List.map_id us]
      refine List.map_congr_left fun u hu => ?_
      have := ru u hu
      show u = ((u.toNat : Nat) : Int)
      omega
    have tp : tupleD [.lst (us.map D.int)] = some (nD (us.map Int.toNat)) := by
      unfold nD
      rw [← eu]
      show (if _ then _ else _) = _
      rw [if_pos (pures_w _)]
    have ll : (us.map D.int).length ≤ sizeLine := by rw [List.length_map, size_eq]; omega
    refine ⟨us.map Int.toNat, d2, none, r2, by rw [List.length_map, el], fun x hx => ?_, Ev.of ?_⟩
    · obtain ⟨u, hu, rfl⟩ := List.mem_map.mp hx
      have := ru u hu
      omega
    · generalize nD (us.map Int.toNat) = W1 at *
      generalize us.map D.int = L1 at *
      generalize nD R = R0 at *
      unfold P_law_any_sums4 P_law_any_sums4t
      simp (disch := omega) [-e_put, e_put', mRng1F, v_rng1, tp, ll, p6]
      rw [c]
      simp (disch := omega) [-e_put, e_put', tp, ll, p6]
  · refine ⟨R, row, x6, r, hR, mR, Ev.of ?_⟩
    generalize nD R = R0 at *
    unfold P_law_any_sums4
    simp [hy]
theorem any_sums_ok {row : D} {h w : Nat} (r : Row ns row) (h1 : 1 ≤ h ∧ h ≤ 4) (w1 : 1 ≤ w ∧ w ≤ 4) : ∃ R C row', F_law_any_sums row [.int h, .int w] = some (.tup [nD R, nD C], row') ∧ R.length = h ∧ C.length = w ∧ (∀ x ∈ R, x ≤ w + 1) ∧ (∀ x ∈ C, x ≤ h + 1) ∧ Row ns row' := by
  obtain ⟨cs, d1, e1, fr, r1⟩ := framed_ok (i := h) (w := w) r (by omega) (by omega)
  have ls := C.law_sums_ok fr (by omega) (by omega)
  rw [cl_w, cl_w] at ls
  obtain ⟨y, d2, e2, _, _, r2⟩ := taken_ok (m := 3) r1 (by omega)
  obtain ⟨R1, C1, d3, x6, x7, r3, hR1, hC1, mR1, mC1, p6, v3⟩ := as3 (y := y) (R := (List.range h).map fun k => cntF (·.1) k cs) (C := (List.range w).map fun k => cntF (·.2) k cs) r2 (by simp) (by simp) h1 w1 (fun x hx => by
    obtain ⟨k, _, rfl⟩ := List.mem_map.mp hx
    exact (row_le fr k).1) fun x hx => by
    obtain ⟨k, _, rfl⟩ := List.mem_map.mp hx
    exact (row_le fr k).2
  obtain ⟨R2, d4, x6', r4, hR2, mR2, v4⟩ := as4 (x4 := ow (nD C1)) (x6 := x6) (x7 := x7) (y := y) r3 hR1 h1 w1 mR1 p6
  refine ⟨R2, C1, d4, ?_, hR2, hC1, mR2, mC1, r4⟩
  refine ev_fnR (ρ := [pn row, ow (.int h), ow (.int w), none, none, none, none, none]) rfl ?_ (ρ1 := [pn d4, ow (.int h), ow (.int w), ow (nD R2), ow (nD C1), ow (.int y), x6', x7]) rfl
  rw [eq_law_any_sums]
  unfold P_law_any_sums
  refine Ev.seq (ρ1 := [pn d1, ow (.int h), ow (.int w), ow (nD ((List.range h).map fun k => cntF (·.1) k cs)), ow (nD ((List.range w).map fun k => cntF (·.2) k cs)), none, none, none]) ?_ (Ev.seq (ρ1 := [pn d2, ow (.int h), ow (.int w), ow (nD ((List.range h).map fun k => cntF (·.1) k cs)), ow (nD ((List.range w).map fun k => cntF (·.2) k cs)), ow (.int y), none, none]) ?_ (Ev.seq v3 (Ev.seq v4 (Ev.retP ?_))))
  · refine Ev.of ?_
    have pi : DL.pure (inkD cs) = true := pure_ink cs
    generalize nD ((List.range h).map fun k => cntF (·.1) k cs) = R0 at *
    generalize nD ((List.range w).map fun k => cntF (·.2) k cs) = C0 at *
    generalize inkD cs = I at *
    unfold P_law_any_sums1
    simp [-e_put, e_put', q_law_framed, q_law_sums, e1, ls, pi]
  · refine Ev.of ?_
    generalize nD ((List.range h).map fun k => cntF (·.1) k cs) = R0 at *
    generalize nD ((List.range w).map fun k => cntF (·.2) k cs) = C0 at *
    unfold P_law_any_sums2
    simp [-e_put, e_put', q_taken, e2]
  · have p1 := pu_nD R2
    have p2 := pu_nD C1
    generalize nD R2 = R0 at *
    generalize nD C1 = C0 at *
    simp [p1, p2, if_size]
end K51
namespace K51
open PySem PySem.Spec L2 DL DL.C
/-! ### the law's list of pictures -/
def okL (w : Nat) (C : List Nat) (x : List Cell) : Bool := (List.range w).all fun k => decide (colN (k : Int) x ≤ C.getD k 0)
abbrev lpE (R C : D) (L : Slt) (i M n b x wh : Slt) : DL.Env := [ow R, ow C, L, i, M, n, b, x, wh, none, none]
abbrev inksD (L : List (List Cell)) : D := .lst (L.map inkD)
variable {R C : List Nat} {w h i n : Nat}
theorem bit_cast (n k : Nat) : decide (((n : Int) / 2 ^ k) % 2 = 1) = bit n k := by
  unfold bit
  have : ((n : Int) / 2 ^ k) % 2 = ((n / 2 ^ k % 2 : Nat) : Int) := by
    rw [Int.natCast_emod, Int.natCast_ediv, Int.natCast_pow]
    rfl
  rw [this]
  generalize n / 2 ^ k % 2 = z
  by_cases q : z = 1
  · rw [decide_eq_true q, decide_eq_true (by omega)]
  · rw [decide_eq_false q, decide_eq_false (by omega)]
theorem lp_cells (hC : C.length = w) (w1 : 1 ≤ w ∧ w ≤ 4) {L M b x wh : Slt} (pb : isPin b = false) : Ev P_law_pictures2b2b1 (lpE (nD R) (nD C) L (ow (.int (i : Int))) M (ow (.int (n : Int))) b x wh) (.nx (lpE (nD R) (nD C) L (ow (.int (i : Int))) M (ow (.int (n : Int))) (ow (inkD (bitsC i w n))) x wh)) := by
  refine Ev.of ?_
  have c : compE (putB 9) (xBool (xOp oEq (xOp oMod (xCall intD (xsCons (xOp oShr (xVar 5) (xVar 9)) xsNil)) (xC (.int 2))) (xC (.int 1)))) (xTup (xsCons (xPure (xVar 3)) (xsCons (xPure (xVar 9)) xsNil))) (lpE (nD R) (nD C) L (ow (.int (i : Int))) M (ow (.int (n : Int))) b x wh) (rng 0 (w : Int)) = some ((bitsC i w n).map cellD) := by
    rw [rng_len]
    unfold bitsC
    rw [List.map_map]
    refine comp_map _ _ _ _ fun k hk => ⟨[ow (nD R), ow (nD C), L, ow (.int (i : Int)), M, ow (.int (n : Int)), b, x, wh, some (.bor, .int (k : Int)), none], ?_, ?_, fun _ => ?_⟩
    · generalize nD R = R0 at *
      generalize nD C = C0 at *
      simp
    · rw [← bit_cast]
      generalize nD R = R0 at *
      generalize nD C = C0 at *
      simp (disch := omega) [v_shr, v_mod]
    · generalize nD R = R0 at *
      generalize nD C = C0 at *
      simp [if_size, cellD]
  have ll : ((bitsC i w n).map cellD).length ≤ sizeLine := by
    have := List.length_filter_le (bit n) (List.range w)
    rw [List.length_range] at this
    unfold bitsC
    rw [List.length_map, List.length_map, size_eq]
    omega
  have lc : lenD [nD C] = some (.int (w : Int)) := by rw [len_nD, hC]
  have tp : tupleD [.lst ((bitsC i w n).map cellD)] = some (inkD (bitsC i w n)) := by
    show (if _ then _ else _) = _
    rw [if_pos (pures_cells _)]
    rfl
  generalize inkD (bitsC i w n) = B at *
  generalize (bitsC i w n).map cellD = B0 at *
  generalize nD R = R0 at *
  generalize nD C = C0 at *
  unfold P_law_pictures2b2b1
  simp (disch := omega) [-e_put, e_put', lc, v_rng1, c, ll, tp, pb]
theorem add_ink {x y : List Cell} (h : x.length + y.length ≤ 1000) : oAdd (inkD x) (inkD y) = some (inkD (x ++ y)) := by
  show (if (x.map cellD).length + (y.map cellD).length ≤ sizeLine then (if pures (x.map cellD) = true then if pures (y.map cellD) = true then some (D.tup (x.map cellD ++ y.map cellD)) else none else none) else none) = _
  rw [if_pos (by rw [List.length_map, List.length_map, size_eq]; omega), if_pos (pures_cells x), if_pos (pures_cells y), ← List.map_append]
  rfl
theorem lp_test (hC : C.length = w) (w1 : 1 ≤ w ∧ w ≤ 4) {L M b : Slt} {ii nn x0 : Slt} {x : List Cell} (hx : x.length ≤ 1000) : (xBool (xOp oEq (xComp [9] (xRng1 (xsCons (xCall lenD (xsCons (xVar 1) xsNil)) xsNil)) (putB 9) (xBool (xOp oGt (xCall lenD (xsCons (xComp [10] (xIt (xVar 8)) (putB 10) (xBool (xOp oEq (xOp ixD (xVar 10) (xC (.int 1))) (xVar 9))) (xPure (xVar 10))) xsNil)) (xOp ixD (xVar 1) (xVar 9)))) (xPure (xVar 9))) (xLst xsNil))) (lpE (nD R) (nD C) L ii M nn b x0 (ow (inkD x))) = some (okL w C x) := by
  have c : compE (putB 9) (xBool (xOp oGt (xCall lenD (xsCons (xComp [10] (xIt (xVar 8)) (putB 10) (xBool (xOp oEq (xOp ixD (xVar 10) (xC (.int 1))) (xVar 9))) (xPure (xVar 10))) xsNil)) (xOp ixD (xVar 1) (xVar 9)))) (xPure (xVar 9)) (lpE (nD R) (nD C) L ii M nn b x0 (ow (inkD x))) (rng 0 (w : Int)) = some ((((List.range w).filter fun k => decide (C.getD k 0 < colN (k : Int) x)).map fun k : Nat => (k : Int)).map D.int) := by
    rw [rng_len, List.map_map]
    refine comp_map _ _ _ _ fun k hk => ⟨[ow (nD R), ow (nD C), L, ii, M, nn, b, x0, ow (inkD x), some (.bor, .int (k : Int)), none], ?_, ?_, fun _ => ?_⟩
    · generalize nD R = R0 at *
      generalize nD C = C0 at *
      generalize inkD x = I at *
      simp
    · have hk := List.mem_range.mp hk
      have c2 : compE (putB 10) (xBool (xOp oEq (xOp ixD (xVar 10) (xC (.int 1))) (xVar 9))) (xPure (xVar 10)) [ow (nD R), ow (nD C), L, ii, M, nn, b, x0, ow (inkD x), some (.bor, .int (k : Int)), none] (x.map cellD) = some ((x.filter fun c => decide (c.2 = (k : Int))).map cellD) := by
        refine comp_map _ _ _ _ fun c hc => ⟨[ow (nD R), ow (nD C), L, ii, M, nn, b, x0, ow (inkD x), some (.bor, .int (k : Int)), some (.bor, cellD c)], ?_, ?_, fun _ => ?_⟩
        · generalize nD R = R0 at *
          generalize nD C = C0 at *
          generalize inkD x = I at *
          generalize cellD c = c0 at *
          simp
        · generalize nD R = R0 at *
          generalize nD C = C0 at *
          generalize inkD x = I at *
          simp (disch := omega) [cellD, v_at]
        · have := pure_cell (c := c)
          generalize nD R = R0 at *
          generalize nD C = C0 at *
          generalize inkD x = I at *
          generalize cellD c = c0 at *
          simp [this]
      have z1 : ((x.filter fun c => decide (c.2 = (k : Int))).map cellD).length ≤ sizeLine := by
        have := List.length_filter_le (fun c : Cell => decide (c.2 = (k : Int))) x
        rw [List.length_map, size_eq]
        omega
      have z2 : lenD [.lst ((x.filter fun c => decide (c.2 = (k : Int))).map cellD)] = some (.int (colN (k : Int) x)) := by
        show some (D.int _) = _
        rw [List.length_map]
        rfl
      have ix := ix_nD (R := C) (a := k) (by omega)
      have it := itemsD_ink x
      have pi := pure_ink x
      have fin : decide (((C.getD k 0 : Nat) : Int) < (colN (k : Int) x : Int)) = decide (C.getD k 0 < colN (k : Int) x) := by
        by_cases q : C.getD k 0 < colN (k : Int) x
        · rw [decide_eq_true q, decide_eq_true (by omega)]
        · rw [decide_eq_false q, decide_eq_false (by omega)]
      rw [← fin]
      generalize ((C.getD k 0 : Nat) : Int) = u at *
      generalize (colN (k : Int) x : Int) = v at *
      generalize (x.filter fun c => decide (c.2 = (k : Int))).map cellD = F at *
      generalize x.map cellD = X0 at *
      generalize inkD x = I at *
      generalize nD R = R0 at *
      generalize nD C = C0 at *
      simp [it, c2, z1, z2, ix]
    · generalize nD R = R0 at *
      generalize nD C = C0 at *
      generalize inkD x = I at *
      simp
  have z3 : ((((List.range w).filter fun k => decide (C.getD k 0 < colN (k : Int) x)).map fun k : Nat => (k : Int)).map D.int).length ≤ sizeLine := by
    have := List.length_filter_le (fun k => decide (C.getD k 0 < colN (k : Int) x)) (List.range w)
    rw [List.length_range] at this
    rw [List.length_map, List.length_map, size_eq]
    omega
  have lc : lenD [nD C] = some (.int (w : Int)) := by rw [len_nD, hC]
  have ee : oEq (.lst ((((List.range w).filter fun k => decide (C.getD k 0 < colN (k : Int) x)).map fun k : Nat => (k : Int)).map D.int)) (.lst []) = some (.bl (okL w C x)) := by
    have := eq_E enc_int.lst (by omega) (((List.range w).filter fun k => decide (C.getD k 0 < colN (k : Int) x)).map fun k : Nat => (k : Int)) []
    refine Eq.trans this (congrArg (fun b => some (D.bl b)) ?_)
    unfold okL
    rw [Bool.eq_iff_iff, decide_eq_true_eq, List.map_eq_nil_iff, List.filter_eq_nil_iff, List.all_eq_true]
    constructor
    · intro h k hk
      have := h k hk
      rw [decide_eq_true_eq] at this
      exact decide_eq_true (by omega)
    · intro h k hk
      have := of_decide_eq_true (h k hk)
      rw [decide_eq_true_eq]
      omega
  generalize (((List.range w).filter fun k => decide (C.getD k 0 < colN (k : Int) x)).map fun k : Nat => (k : Int)).map D.int = F at *
  generalize inkD x = I at *
  generalize nD R = R0 at *
  generalize nD C = C0 at *
  simp (disch := omega) [lc, v_rng1, c, z3, ee]
/-- one number's cells laid at every picture so far -/
def laidL (w : Nat) (C : List Nat) (b : List Cell) (M : List (List Cell)) (x : List Cell) : List (List Cell) := if okL w C (x ++ b) = true then M ++ [x ++ b] else M
theorem lp_one (hC : C.length = w) (w1 : 1 ≤ w ∧ w ≤ 4) {L ii nn wh : Slt} {M : List (List Cell)} {b x : List Cell} (hx : x.length + b.length ≤ 1000) (hM : M.length < 1000000) (pw : isPin wh = false) : Ev P_law_pictures2b2b2tb (lpE (nD R) (nD C) L ii (ow (inksD M)) nn (ow (inkD b)) (ow (inkD x)) wh) (.nx (lpE (nD R) (nD C) L ii (ow (inksD (laidL w C b M x))) nn (ow (inkD b)) (ow (inkD x)) (ow (inkD (x ++ b))))) := by
  have ad := add_ink hx
  have te := lp_test (R := R) hC w1 (L := L) (M := ow (inksD M)) (b := ow (inkD b)) (ii := ii) (nn := nn) (x0 := ow (inkD x)) (x := x ++ b) (by rw [List.length_append]; omega)
  unfold P_law_pictures2b2b2tb
  refine Ev.seq (ρ1 := lpE (nD R) (nD C) L ii (ow (inksD M)) nn (ow (inkD b)) (ow (inkD x)) (ow (inkD (x ++ b)))) (Ev.of ?_) ?_
  · generalize inkD (x ++ b) = I at *
    generalize inkD x = I1 at *
    generalize inkD b = I2 at *
    generalize nD R = R0 at *
    generalize nD C = C0 at *
    unfold P_law_pictures2b2b2tb1
    simp [-e_put, e_put', ad, pw]
  · have pi := pure_ink (x ++ b)
    have lm : (M.map inkD).length < sizeLine := by rw [List.length_map, size_eq]; omega
    have em : (M ++ [x ++ b]).map inkD = M.map inkD ++ [inkD (x ++ b)] := by rw [List.map_append]; rfl
    unfold laidL
    by_cases q : okL w C (x ++ b) = true
    · rw [if_pos q]
      rw [q] at te
      unfold P_law_pictures2b2b2tb2 P_law_pictures2b2b2tb2t inksD
      rw [em]
      refine Ev.ifT (ρ1 := lpE (nD R) (nD C) L ii (ow (inksD M)) nn (ow (inkD b)) (ow (inkD x)) (ow (inkD (x ++ b)))) ?_ (Ev.of ?_)
      · show (tP' _) _ = _
        unfold tP'
        rw [te]
        rfl
      · unfold inksD
        generalize inkD (x ++ b) = I at *
        generalize inkD x = I1 at *
        generalize inkD b = I2 at *
        generalize nD R = R0 at *
        generalize nD C = C0 at *
        generalize M.map inkD = M0 at *
        simp [lm, pi, isL]
    · rw [if_neg q]
      rw [Bool.not_eq_true] at q
      rw [q] at te
      unfold P_law_pictures2b2b2tb2
      refine Ev.ifF (ρ1 := lpE (nD R) (nD C) L ii (ow (inksD M)) nn (ow (inkD b)) (ow (inkD x)) (ow (inkD (x ++ b)))) ?_ (Ev.of rfl)
      show (tP' _) _ = _
      unfold tP'
      rw [te]
      rfl
theorem laid_len {b : List Cell} : ∀ (L M : List (List Cell)), (L.foldl (laidL w C b) M).length ≤ M.length + L.length
  | [], M => Nat.le_refl _
  | x :: L, M => by
    rw [List.foldl_cons, List.length_cons]
    have := laid_len (b := b) L (laidL w C b M x)
    have : (laidL w C b M x).length ≤ M.length + 1 := by
      unfold laidL
      split
      · rw [List.length_append]; exact Nat.le_refl _
      · omega
    omega
theorem laid_eq {b : List Cell} : ∀ (L M : List (List Cell)), L.foldl (laidL w C b) M = M ++ (L.map fun x => x ++ b).filter (okL w C)
  | [], M => by simp
  | x :: L, M => by
    rw [List.foldl_cons, laid_eq L, List.map_cons]
    unfold laidL
    by_cases q : okL w C (x ++ b) = true
    · rw [if_pos q, List.filter_cons_of_pos q, List.append_assoc]
      rfl
    · rw [if_neg q, List.filter_cons_of_neg q]
/-- one number -/
def numL (w r : Nat) (C : List Nat) (i : Nat) (L M : List (List Cell)) (n : Nat) : List (List Cell) := if (bitsC i w n).length = r then L.foldl (laidL w C (bitsC i w n)) M else M
theorem num_eq {r : Nat} {L : List (List Cell)} : ∀ (ks : List Nat) (M : List (List Cell)), ks.foldl (numL w r C i L) M = M ++ ks.flatMap fun n => if (bitsC i w n).length = r then (L.map fun x => x ++ bitsC i w n).filter (okL w C) else []
  | [], M => by simp
  | n :: ks, M => by
    rw [List.foldl_cons, num_eq ks, List.flatMap_cons, ← List.append_assoc]
    congr 1
    unfold numL
    by_cases q : (bitsC i w n).length = r
    · rw [if_pos q, if_pos q, laid_eq]
    · rw [if_neg q, if_neg q, List.append_nil]
theorem num_next {r : Nat} {L : List (List Cell)} : (List.range (2 ^ w)).foldl (numL w r C i L) [] = nextL w r C i L := by
  rw [num_eq, List.nil_append]
  rfl
theorem bits_len (i : Int) (w n : Nat) : (bitsC i w n).length ≤ w := by
  unfold bitsC
  have := List.length_filter_le (bit n) (List.range w)
  rw [List.length_range] at this
  rw [List.length_map]
  omega
theorem lp_num (hC : C.length = w) (w1 : 1 ≤ w ∧ w ≤ 4) (hi : i < R.length) {L M : List (List Cell)} {b : Slt} (pb : isPin b = false) (hL : ∀ x ∈ L, x.length ≤ 900) (hM : M.length + L.length < 1000000) :
    Ev P_law_pictures2b2b (lpE (nD R) (nD C) (ow (inksD L)) (ow (.int (i : Int))) (ow (inksD M)) (ow (.int (n : Int))) b none none) (.nx (lpE (nD R) (nD C) (ow (inksD L)) (ow (.int (i : Int))) (ow (inksD (numL w (R.getD i 0) C i L M n))) (ow (.int (n : Int))) (ow (inkD (bitsC i w n))) none none)) := by
  have bl := bits_len i w n
  unfold P_law_pictures2b2b
  refine Ev.seq (lp_cells hC w1 pb) ?_
  have l1 : lenD [inkD (bitsC i w n)] = some (.int ((bitsC i w n).length : Nat)) := by
    show some (D.int _) = _
    rw [List.length_map]
  have l2 := ix_nD hi
  unfold P_law_pictures2b2b2 numL
  by_cases q : (bitsC i w n).length = R.getD i 0
  · rw [if_pos q]
    refine Ev.ifT (ρ1 := lpE (nD R) (nD C) (ow (inksD L)) (ow (.int (i : Int))) (ow (inksD M)) (ow (.int (n : Int))) (ow (inkD (bitsC i w n))) none none) ?_ ?_
    · generalize inkD (bitsC i w n) = B at *
      generalize inksD L = L0 at *
      generalize inksD M = M0 at *
      generalize nD R = R0 at *
      generalize nD C = C0 at *
      generalize R.getD i 0 = u at *
      simp [l1, l2, q]
    · have fA := ev_foldI (gx := put 7) (b := P_law_pictures2b2b2tb) inkD (fun M' => lpE (nD R) (nD C) (bo (inksD L)) (ow (.int (i : Int))) (ow (inksD M')) (ow (.int (n : Int))) (ow (inkD (bitsC i w n))) none none) (laidL w C (bitsC i w n)) (fun j M' => M'.length ≤ M.length + j) L M (Nat.le_refl _) fun j x M' ej hm => by
        have hj := getElem?_lt ej
        have hx := hL x (List.mem_of_getElem? ej)
        have l : (laidL w C (bitsC i w n) M' x).length ≤ M'.length + 1 := by
          unfold laidL
          split
          · rw [List.length_append]; exact Nat.le_refl _
          · omega
        refine ⟨pure_ink x, by omega, lpE (nD R) (nD C) (bo (inksD L)) (ow (.int (i : Int))) (ow (inksD M')) (ow (.int (n : Int))) (ow (inkD (bitsC i w n))) (ow (inkD x)) none, ?_, .inl ((lp_one hC w1 (by omega) (by omega) rfl).less ?_)⟩
        · generalize inkD (bitsC i w n) = B at *
          generalize inkD x = X at *
          generalize inksD L = L0 at *
          generalize inksD M' = M0 at *
          generalize nD R = R0 at *
          generalize nD C = C0 at *
          simp
        · generalize inkD (bitsC i w n) = B at *
          generalize inksD (laidL w C (bitsC i w n) M' x) = M1 at *
          generalize inksD L = L0 at *
          simp [isPin]
      unfold P_law_pictures2b2b2t
      have k := Ev.lendB (i := 2) (ρ := lpE (nD R) (nD C) (ow (inksD L)) (ow (.int (i : Int))) (ow (inksD M)) (ow (.int (n : Int))) (ow (inkD (bitsC i w n))) none none) rfl fA rfl
      exact k
  · rw [if_neg q]
    refine Ev.ifF (ρ1 := lpE (nD R) (nD C) (ow (inksD L)) (ow (.int (i : Int))) (ow (inksD M)) (ow (.int (n : Int))) (ow (inkD (bitsC i w n))) none none) ?_ (Ev.of rfl)
    generalize inkD (bitsC i w n) = B at *
    generalize inksD L = L0 at *
    generalize inksD M = M0 at *
    generalize nD R = R0 at *
    generalize nD C = C0 at *
    generalize R.getD i 0 = u at *
    have q' : ¬ ((bitsC (↑i) w n).length : Int) = (u : Int) := by omega
    simp [l1, l2, q']
theorem numL_len {r : Nat} {L M : List (List Cell)} : (numL w r C i L M n).length ≤ M.length + L.length := by
  unfold numL
  split
  · exact laid_len L M
  · omega
theorem lp_line (hC : C.length = w) (w1 : 1 ≤ w ∧ w ≤ 4) (hi : i < R.length) {L : List (List Cell)} {x4 x5 x6 : Slt} (p4 : isPin x4 = false) (p5 : isPin x5 = false) (p6 : isPin x6 = false) (hL : ∀ x ∈ L, x.length ≤ 900) (hM : 16 * L.length + L.length < 1000000) :
    Ev P_law_pictures2b (lpE (nD R) (nD C) (ow (inksD L)) (ow (.int (i : Int))) x4 x5 x6 none none) (.nx (lpE (nD R) (nD C) (ow (inksD (nextL w (R.getD i 0) C i L))) (ow (.int (i : Int))) none none none none none)) := by
  have le : 2 ^ w ≤ 2 ^ 4 := Nat.pow_le_pow_right (by omega) w1.2
  have fA := ev_foldI (gx := put 5) (b := P_law_pictures2b2b) (fun n : Nat => D.int (n : Int)) (fun M' => lpE (nD R) (nD C) (ow (inksD L)) (ow (.int (i : Int))) (ow (inksD M')) none none none none) (numL w (R.getD i 0) C i L) (fun j M' => M'.length ≤ j * L.length) (List.range (2 ^ w)) [] (Nat.zero_le _) fun j n M' ej hm => by
    have hj := getElem?_lt ej
    rw [List.length_range] at hj
    have hj2 : j * L.length ≤ 16 * L.length := Nat.mul_le_mul_right _ (by omega)
    have l := numL_len (w := w) (C := C) (i := i) (n := n) (r := R.getD i 0) (L := L) (M := M')
    refine ⟨rfl, by rw [Nat.add_mul, Nat.one_mul]; omega, lpE (nD R) (nD C) (ow (inksD L)) (ow (.int (i : Int))) (ow (inksD M')) (ow (.int (n : Int))) none none none, ?_, .inl ((lp_num hC w1 hi rfl hL (by omega)).less ?_)⟩
    · generalize inksD L = L0 at *
      generalize inksD M' = M0 at *
      generalize nD R = R0 at *
      generalize nD C = C0 at *
      simp
    · generalize inksD L = L0 at *
      generalize inksD (numL w (R.getD i 0) C i L M' n) = M1 at *
      generalize nD R = R0 at *
      generalize nD C = C0 at *
      generalize inkD (bitsC i w n) = B at *
      simp [isPin]
  rw [num_next] at fA
  have lc : lenD [nD C] = some (.int (w : Int)) := by rw [len_nD, hC]
  have sh := v_shl (a := 1) (n := w) (by omega) (by decide)
  have e2 : (1 : Int) * 2 ^ w = ((2 ^ w : Nat) : Int) := by rw [Int.one_mul, Int.natCast_pow]; rfl
  rw [e2] at sh
  have rr := rng_len (2 ^ w)
  have r1 : ∀ W : Nat, W ≤ 16 → rng1F [.int (W : Int)] = some (rng 0 (W : Int)) := fun W h => v_rng1 (by omega)
  have r1 := r1 (2 ^ w) le
  generalize 2 ^ w = W at *
  unfold P_law_pictures2b P_law_pictures2b2
  refine Ev.seq (ρ1 := lpE (nD R) (nD C) (ow (inksD L)) (ow (.int (i : Int))) (ow (inksD [])) none none none none) (Ev.mk (o' := .nx (lpE (nD R) (nD C) (ow (inksD L)) (ow (.int (i : Int))) (ow (inksD [])) x5 x6 none none)) ?_ ?_) (Ev.seq (Ev.for ?_ fA) (Ev.of ?_))
  · generalize inksD L = L0 at *
    generalize nD R = R0 at *
    generalize nD C = C0 at *
    simp [-e_put, e_put', p4, inksD]
  · generalize inksD L = L0 at *
    generalize nD R = R0 at *
    generalize nD C = C0 at *
    simp [p5, p6]
  · rw [← rr]
    generalize inksD L = L0 at *
    generalize inksD [] = L1 at *
    generalize nD R = R0 at *
    generalize nD C = C0 at *
    simp [lc, sh, r1]
  · generalize inksD (nextL w (R.getD i 0) C i L) = L1 at *
    generalize inksD L = L0 at *
    generalize nD R = R0 at *
    generalize nD C = C0 at *
    simp
end K51
namespace K51
open PySem PySem.Spec L2 DL DL.C
variable {R C : List Nat} {w h i n : Nat}
theorem pre_len {x : List Cell} (p : Pre w R C i x) : x.length ≤ i * w := Box.few ⟨pair_nodup p.srt, fun c hc => by
  have := p.row c hc
  have := p.col c hc
  omega⟩
theorem pre_sum {x : List Cell} (p : Pre w R C R.length x) : x.length = R.sum := by
  rw [← len_cols p.row, ← getD_sum R]
  congr 1
  exact List.map_congr_left fun i hi => p.rows i (List.mem_range.mp hi)
theorem lawL_len (w1 : w ≤ 4) : ∀ i : Nat, (lawL w R C i).length ≤ 16 ^ i
  | 0 => Nat.le_refl _
  | i + 1 => by
    have ih := lawL_len w1 i
    have e : lawL w R C (i + 1) = nextL w (R.getD i 0) C i (lawL w R C i) := rfl
    have le : 2 ^ w ≤ 2 ^ 4 := Nat.pow_le_pow_right (by omega) w1
    have : (nextL w (R.getD i 0) C i (lawL w R C i)).length ≤ (lawL w R C i).length * (List.range (2 ^ w)).length := flat_len fun n _ => by
      split
      · refine Nat.le_trans (List.length_filter_le ..) ?_
        rw [List.length_map]
        exact Nat.le_refl _
      · exact Nat.zero_le _
    rw [List.length_range] at this
    rw [e, Nat.pow_succ]
    have h2 := Nat.mul_le_mul_left (lawL w R C i).length le
    have h3 := Nat.mul_le_mul_right 16 ih
    omega
/-- the sums' values in a frame that fits -/
structure Fit (R C : List Nat) (h w : Nat) : Prop where
  hR : R.length = h
  hC : C.length = w
  h1 : 1 ≤ h ∧ h ≤ 4
  w1 : 1 ≤ w ∧ w ≤ 4
  mR : ∀ x ∈ R, x ≤ w + 1
  mC : ∀ x ∈ C, x ≤ h + 1
theorem Fit.rR (f : Fit R C h w) (i : Nat) : R.getD i 0 ≤ 5 := by
  rw [List.getD_eq_getElem?_getD]
  have := f.w1
  by_cases q : i < R.length
  · rw [List.getElem?_eq_getElem q]
    have := f.mR _ (List.getElem_mem q)
    show R[i] ≤ 5
    omega
  · rw [List.getElem?_eq_none (by omega)]
    exact Nat.zero_le _
theorem lp_end (f : Fit R C h w) {L : List (List Cell)} (hL : ∀ x ∈ L, Pre w R C h x) (hl : L.length ≤ 1000000) {a3 a4 a5 a6 a7 : Slt} : compE (putB 7) (xBool (xOp oEq (xCall F_law_sums (xsCons (xVar 7) (xsCons (xCall lenD (xsCons (xVar 0) xsNil)) (xsCons (xCall lenD (xsCons (xVar 1) xsNil)) xsNil)))) (xTup (xsCons (xCall tupleD (xsCons (xVar 0) xsNil)) (xsCons (xCall tupleD (xsCons (xVar 1) xsNil)) xsNil))))) (xPure (xVar 7)) [ow (nD R), ow (nD C), ow (inksD L), a3, a4, a5, a6, none, a7, none, none] (L.map inkD) = some ((L.filter (fin w C)).map inkD) := by
  refine comp_map _ _ _ _ fun x hx => ⟨[ow (nD R), ow (nD C), ow (inksD L), a3, a4, a5, a6, some (.bor, inkD x), a7, none, none], ?_, ?_, fun _ => ?_⟩
  · generalize nD R = R0 at *
    generalize nD C = C0 at *
    generalize inkD x = X at *
    generalize inksD L = L0 at *
    simp
  · have p := hL x hx
    have hh := f.h1
    have hw := f.w1
    have ls := DL.C.law_sums_ok (cs := x) (i := h) (w := w) ⟨pre_len p, p.row, p.col, p.srt⟩ (by omega) (by omega)
    rw [cl_w, cl_w] at ls
    have er : ((List.range h).map fun k => cntF (·.1) k x) = R := by
      rw [← range_getD R, f.hR]
      exact List.map_congr_left fun k hk => by rw [show R = R from rfl]; exact p.rows k (List.mem_range.mp hk)
    rw [er] at ls
    have l1 : lenD [nD R] = some (.int (h : Int)) := by rw [len_nD, f.hR]
    have l2 : lenD [nD C] = some (.int (w : Int)) := by rw [len_nD, f.hC]
    have t1 : ∀ Z : List Nat, tupleD [nD Z] = some (nD Z) := fun Z => by
      show (if pures _ = true then _ else _) = _
      rw [if_pos (pures_w _)]
    have t1R := t1 R
    have t1C := t1 C
    have ee : oEq (.tup [nD R, nD ((List.range w).map fun k => cntF (·.2) k x)]) (.tup [nD R, nD C]) = some (.bl (fin w C x)) := by
      have := eq_E enc_ints.tup (by omega) [iL R, iL ((List.range w).map fun k => cntF (·.2) k x)] [iL R, iL C]
      refine Eq.trans this (congrArg (fun b => some (D.bl b)) ?_)
      rw [Bool.eq_iff_iff, decide_eq_true_eq, fin_iff]
      have inj : ∀ A B : List Nat, iL A = iL B → A = B := fun A B e => (List.map_inj_right fun a b e => Int.ofNat.inj e).mp e
      constructor
      · intro e k hk
        have e2 := inj _ _ (List.cons.inj (List.cons.inj e).2).1
        rw [← e2, List.getD_eq_getElem?_getD, List.getElem?_map, List.getElem?_range hk]
        rfl
      · intro e
        have : ((List.range w).map fun k => cntF (·.2) k x) = C := by
          rw [← range_getD C, f.hC]
          exact List.map_congr_left fun k hk => e k (List.mem_range.mp hk)
        rw [this]
    rw [q_law_sums]
    have pi := pure_ink x
    generalize nD ((List.range w).map fun k => cntF (·.2) k x) = Q at *
    generalize nD R = R0 at *
    generalize nD C = C0 at *
    generalize inkD x = X at *
    generalize inksD L = L0 at *
    simp [l1, l2, ls, t1R, t1C, ee, if_size, pi]
  · have pi := pure_ink x
    generalize nD R = R0 at *
    generalize nD C = C0 at *
    generalize inkD x = X at *
    generalize inksD L = L0 at *
    simp [pi]
theorem lawF_kind (f : Fit R C h w) {L : List (List Cell)} (nd : L.Nodup) (hL : ∀ x ∈ L, Pic w h R C x) : L = [[]] ∨ ∀ x ∈ L, x ≠ [] := by
  have hl : ∀ x ∈ L, x.length = R.sum := fun x hx => by
    have := (hL x hx).1
    rw [← f.hR] at this
    exact pre_sum this
  by_cases q : R.sum = 0
  · have z : ∀ x ∈ L, x = [] := fun x hx => List.length_eq_zero_iff.mp (by rw [hl x hx, q])
    match L, nd, z with
    | [], _, _ => exact .inr fun x hx => by cases hx
    | [a], _, z => exact .inl (by rw [z a (List.mem_cons_self ..)])
    | a :: b :: L, nd, z =>
      rw [List.nodup_cons] at nd
      exact absurd (by rw [z a (List.mem_cons_self ..), z b (List.mem_cons_of_mem _ (List.mem_cons_self ..))]; exact List.mem_cons_self ..) nd.1
  · exact .inr fun x hx e => q (by rw [← hl x hx, e]; rfl)
theorem law_pictures_ok (f : Fit R C h w) : F_law_pictures [nD R, nD C] = some (inksD (srtK (lawF w h R C))) := by
  have hh := f.h1
  have hw := f.w1
  have fA := ev_foldI (gx := put 3) (b := P_law_pictures2b) (fun i : Nat => D.int (i : Int)) (fun L => lpE (nD R) (nD C) (ow (inksD L)) none none none none none none) (fun L i => nextL w (R.getD i 0) C i L) (fun j L => L = lawL w R C j) (List.range h) [[]] rfl fun j i L ej hm => by
    have hj := getElem?_lt ej
    rw [List.length_range] at hj
    rw [List.getElem?_range hj] at ej
    cases ej
    subst hm
    have ll := lawL_len (R := R) (C := C) hw.2 j
    have : 16 ^ j ≤ 16 ^ 3 := Nat.pow_le_pow_right (by omega) (by omega)
    refine ⟨rfl, rfl, lpE (nD R) (nD C) (ow (inksD (lawL w R C j))) (ow (.int (j : Int))) none none none none none, ?_, .inl ((lp_line f.hC hw (by rw [f.hR]; exact hj) rfl rfl rfl (fun x hx => ?_) (by omega)).less ?_)⟩
    · generalize inksD (lawL w R C j) = L0 at *
      generalize nD R = R0 at *
      generalize nD C = C0 at *
      simp
    · have := pre_len ((mem_lawL hw.2).mp hx)
      have : j * w ≤ 4 * 4 := Nat.mul_le_mul (by omega) hw.2
      omega
    · generalize inksD (nextL w (R.getD j 0) C j (lawL w R C j)) = L0 at *
      generalize nD R = R0 at *
      generalize nD C = C0 at *
      simp [isPin]
  have fe : (List.range h).foldl (fun L i => nextL w (R.getD i 0) C i L) [[]] = lawL w R C h := by
    have := foldI_keep (fun L i => nextL w (R.getD i 0) C i L) (fun j L => L = lawL w R C j) (List.range h) [[]] rfl fun j i L ej hm => by
      have hj := getElem?_lt ej
      rw [List.length_range] at hj
      rw [List.getElem?_range hj] at ej
      cases ej
      subst hm
      rfl
    rw [List.length_range] at this
    exact this
  rw [fe] at fA
  have l1 : lenD [nD R] = some (.int (h : Int)) := by rw [len_nD, f.hR]
  have rr := rng_len h
  have ll := lawL_len (R := R) (C := C) hw.2 h
  have : 16 ^ h ≤ 16 ^ 4 := Nat.pow_le_pow_right (by omega) (by omega)
  have ce := lp_end f (L := lawL w R C h) (fun x hx => (mem_lawL hw.2).mp hx) (by omega) (a3 := none) (a4 := none) (a5 := none) (a6 := none) (a7 := none)
  have lf : (((lawL w R C h).filter (fin w C)).map inkD).length ≤ sizeLine := by
    have := List.length_filter_le (fin w C) (lawL w R C h)
    rw [List.length_map, size_eq]
    omega
  have sb := sortedB_inks (lawF_kind f (L := lawF w h R C) (List.Pairwise.filter _ (lawL_nodup hw.2 h)) fun x hx => (mem_lawF hw.2).mp hx)
  unfold lawF at sb ⊢
  refine ev_fn (ρ := [ow (nD R), ow (nD C), none, none, none, none, none, none, none, none, none]) ?_ ?_ (ρ1 := lpE (nD R) (nD C) (ow (inksD (lawL w R C h))) none none none none none none)
  · have p1 := pu_nD R
    have p2 := pu_nD C
    generalize nD R = R0 at *
    generalize nD C = C0 at *
    simp [env0, argSlot, p1, p2]
  rw [eq_law_pictures]
  unfold P_law_pictures P_law_pictures2
  refine Ev.seq (ρ1 := lpE (nD R) (nD C) (ow (inksD [[]])) none none none none none none) (Ev.of ?_) (Ev.seq (Ev.for ?_ fA) (Ev.retP ?_))
  · generalize nD R = R0 at *
    generalize nD C = C0 at *
    unfold P_law_pictures1
    simp [-e_put, e_put', if_size, inksD, inkD]
  · rw [← rr]
    generalize inksD [[]] = L0 at *
    generalize nD R = R0 at *
    generalize nD C = C0 at *
    simp (disch := omega) [l1, v_rng1]
  · unfold inksD at *
    generalize ((lawL w R C h).filter (fin w C)).map inkD = F at *
    generalize (lawL w R C h).map inkD = L0 at *
    generalize nD R = R0 at *
    generalize nD C = C0 at *
    simp [ce, lf, sb]
end K51
namespace K51
open PySem PySem.Spec L2 DL DL.C
variable {R C : List Nat} {w h i n : Nat}
/-! ### numbers sorted, summed -/
theorem leD_int (a b : Nat) : leD (.int (a : Int)) (.int (b : Int)) = decide (a ≤ b) := by
  show (!PySem.W.dataLt (.int (b : Int)) (.int (a : Int))) = _
  rw [PySem.W.dataLt_int]
  by_cases q : a ≤ b
  · rw [decide_eq_true q, decide_eq_false (by omega)]
    rfl
  · rw [decide_eq_false q, decide_eq_true (by omega)]
    rfl
abbrev intsN (R : List Nat) : List D := R.map fun n : Nat => D.int (n : Int)
theorem sortD_n (R : List Nat) : sortD (intsN R) = intsN (R.mergeSort fun a b => decide (a ≤ b)) := (PySem.W.sort_maps (fun n : Nat => D.int (n : Int)) fun a _ b _ => (leD_int a b).symm).symm
theorem sortOk_n (R : List Nat) : sortOk (intsN R) = true := by
  have pl : ∀ R : List Nat, plains (intsN R) = true := fun R => by
    induction R with
    | nil => rfl
    | cons a R ih =>
      show (true && plains (intsN R)) = true
      rw [ih]
      rfl
  unfold sortOk alikes
  rw [pl]
  simp only [Bool.and_eq_true, Bool.or_eq_true, List.all_eq_true, decide_eq_true_eq, List.mem_map]
  refine ⟨⟨⟨trivial, ?_⟩, .inr ?_⟩, ?_⟩
  · rintro _ ⟨_, ⟨a, _, rfl⟩, rfl⟩ _ ⟨_, ⟨b, _, rfl⟩, rfl⟩
    simp [py, PySem.W.alike]
  · rintro _ ⟨_, ⟨a, _, rfl⟩, rfl⟩
    rfl
  · rintro _ ⟨_, ⟨a, _, rfl⟩, rfl⟩
    simp [py, PyData.depth, PyData.canLay0]
theorem sortedC_n (R : List Nat) : sortedC [nD R] = some (.lst (intsN (R.mergeSort fun a b => decide (a ≤ b)))) := by
  rw [nD_eq]
  show (if sortOk (intsN R) = true then some (D.lst (sortD (intsN R))) else none) = _
  rw [sortOk_n, if_pos rfl, sortD_n]
theorem pures_n (R : List Nat) : pures (intsN R) = true := by
  induction R with
  | nil => rfl
  | cons a R ih =>
    show (true && pures (intsN R)) = true
    rw [ih]
    rfl
theorem rev_n (hl : R.length ≤ 1000) : revD (.lst (intsN (R.mergeSort fun a b => decide (a ≤ b)))) = some (.lst (intsN (dn R))) := by
  show (if pures _ = true then _ else _) = _
  rw [if_pos (pures_n _), if_pos (by rw [List.length_map, List.length_mergeSort, size_eq]; omega), ← List.map_reverse]
  rfl
theorem cut_n {k : Nat} : cutD (.lst (intsN R)) none (some (k : Int)) = some (.lst (intsN (R.take k))) := by
  show (if pures _ = true then _ else _) = _
  rw [if_pos (pures_n _)]
  unfold cutL
  rw [HT.sIx_nat, HT.sIx_none, List.length_map, List.drop_zero, Nat.sub_zero, ← List.map_take]
  congr 3
  rcases Nat.le_total k R.length with h | h
  · rw [Nat.min_eq_left h]
  · rw [Nat.min_eq_right h, List.take_length, List.take_of_length_le h]
theorem toInts_n : ∀ R : List Nat, toInts (intsN R) = some (iL R)
  | [] => rfl
  | a :: R => by
    show (toInts (intsN R)).map _ = _
    rw [toInts_n R]
    rfl
theorem sum_iL : ∀ R : List Nat, (iL R).sum = (R.sum : Nat)
  | [] => rfl
  | a :: R => by
    show (a : Int) + (iL R).sum = _
    rw [sum_iL R, List.sum_cons]
    omega
theorem sumX_n (R : List Nat) : sumX [.lst (intsN R)] = some (.int (R.sum : Nat)) := by
  show (toInts (intsN R)).map _ = _
  rw [toInts_n, Option.map_some, sum_iL]
theorem sumX_nD (R : List Nat) : sumX [nD R] = some (.int (R.sum : Nat)) := by
  rw [nD_eq]
  show (toInts (intsN R)).map _ = _
  rw [toInts_n, Option.map_some, sum_iL]
theorem sumD_n (R : List Nat) : sumD [.lst (intsN R)] = some (.int (R.sum : Nat)) := by
  show (toInts (intsN R)).map _ = _
  rw [toInts_n, Option.map_some, sum_iL]
/-! ### the arguments are in order -/
theorem need_sums_ok (hl : 1 ≤ R.length ∧ R.length ≤ 12) (hm : ∀ x ∈ R, x ≤ 12) : F_need_sums [nD R, .int 12] = some .non := by
  have p := pures_n R
  have il : K51.F_is_list [nD R, .int 1, .int 12] = some (.bl true) := by
    have e := C.is_list_ok (xs := intsN R) p 1 12
    rw [q_is_list, nD_eq, e, List.length_map]
    have a1 : (1 : Int) ≤ (R.length : Int) := by omega
    have a2 : (R.length : Int) ≤ 12 := by omega
    simp [a1, a2]
  have fA := ev_foldI (gx := gTupD 2 (gsCons (put 2) (gsCons (put 3) gsNil))) (b := (sIf (tP' (yNot (xBool (xCall F_is_in (xsCons (xVar 3) (xsCons (xC (.int 0)) (xsCons (xVar 1) xsNil))))))) sNever sNext)) (fun i : Nat => D.tup [.int (i : Int), .int ((R[i]?.getD 0 : Nat) : Int)]) (fun _ : Unit => [ow (nD R), ow (.int 12), none, none]) (fun _ _ => ()) (fun _ _ => True) (List.range R.length) () trivial fun j a t ej _ => by
    have ha : a < R.length := List.mem_range.mp (List.mem_of_getElem? ej)
    have ea : R[a]?.getD 0 = R[a] := by rw [List.getElem?_eq_getElem ha]; rfl
    have m := hm _ (List.getElem_mem ha)
    refine ⟨rfl, trivial, [ow (nD R), ow (.int 12), ow (.int a), ow (.int R[a])], ?_, .inl (Ev.mk (o' := .nx [ow (nD R), ow (.int 12), ow (.int a), ow (.int R[a])]) ?_ ?_)⟩
    · rw [ea]
      generalize nD R = R0 at *
      simp
    · have c2 : (R[a] : Int) ≤ 12 := by omega
      generalize nD R = R0 at *
      simp [q_is_in, C.is_in_ok, c2]
    · generalize nD R = R0 at *
      simp [isPin]
  have en : enumF 0 (intsN R) = (List.range R.length).map fun i : Nat => D.tup [.int (i : Int), .int ((R[i]?.getD 0 : Nat) : Int)] := enumF_map (fun n : Nat => D.int (n : Int)) R
  have it : itemsOf (nD R) = some (intsN R) := by rw [nD_eq]; rfl
  refine ev_fnN (ρ := [ow (nD R), ow (.int 12), none, none]) ?_ ?_ (ρ1 := [ow (nD R), ow (.int 12), none, none])
  · have p1 := pu_nD R
    generalize nD R = R0 at *
    simp [env0, argSlot, p1]
  · unfold s_need_sums
    refine Ev.seq (ρ1 := [ow (nD R), ow (.int 12), none, none]) (Ev.of ?_) (Ev.for ?_ fA)
    · generalize nD R = R0 at *
      simp [il]
    · have p1 := pu_nD R
      rw [← en]
      generalize intsN R = I at *
      generalize nD R = R0 at *
      simp [p1, it]
theorem need_both_ok (f : Fit R C h w) : F_need_both [nD R, nD C] = some .non := by
  have := f.h1
  have := f.w1
  have n1 := need_sums_ok (R := R) (by rw [f.hR]; omega) fun x hx => by have := f.mR x hx; omega
  have n2 := need_sums_ok (R := C) (by rw [f.hC]; omega) fun x hx => by have := f.mC x hx; omega
  have p1 := pu_nD R
  have p2 := pu_nD C
  generalize nD R = R0 at *
  generalize nD C = C0 at *
  unfold F_need_both s_need_both
  simp [e_arg_pure p1, e_arg_pure p2, n1, n2]
/-! ### the first lack -/
def lackB (R C : List Nat) (k : Nat) : Bool := decide ((C.map fun c => min k c).sum < ((dn R).take k).sum)
def lackF (R C : List Nat) (t : Nat) : Option D := if lackB R C (t + 1) = true then some (.int ((t + 1 : Nat) : Int)) else none
def lackD (R C : List Nat) : D := if R.sum = C.sum then ((List.range R.length).findSome? (lackF R C)).getD .non else .int 0
abbrev flE (R C L k c : D) : DL.Env := [ow R, ow C, ow L, ow k, ow c]
theorem mins_ok {L : Slt} {k : Nat} : compE (putB 4) yYes (xCall min2D (xsCons (xVar 3) (xsCons (xVar 4) xsNil))) [ow (nD R), ow (nD C), L, ow (.int (k : Int)), none] (intsN C) = some (intsN (C.map fun c => min k c)) := by
  have e : intsN (C.map fun c => min k c) = C.map fun c => D.int ((min k c : Nat) : Int) := List.map_map
  rw [e]
  refine comp_all _ _ _ fun c hc => ⟨[ow (nD R), ow (nD C), L, ow (.int (k : Int)), some (.bor, .int (c : Int))], ?_, rfl, ?_⟩
  · generalize nD R = R0 at *
    generalize nD C = C0 at *
    simp
  · have e : (if (c : Int) < (k : Int) then (c : Int) else (k : Int)) = ((min k c : Nat) : Int) := by
      rcases Nat.lt_or_ge c k with q | q
      · rw [if_pos (by omega), Nat.min_eq_right (by omega)]
      · rw [if_neg (by omega), Nat.min_eq_left q]
    generalize nD R = R0 at *
    generalize nD C = C0 at *
    simp only [e_call, e_cons, e_var, e_nil, List.getElem?_cons_succ, List.getElem?_cons_zero, Option.bind_some, Option.map_some, v_min2, e]
theorem lack_test (hl : C.length ≤ 1000) {k : Nat} : (xBool (xOp oGt (xCall sumX (xsCons (xCut (xVar 2) none (some (xVar 3))) xsNil)) (xCall sumD (xsCons (xComp [4] (xIt (xVar 1)) (putB 4) yYes (xCall min2D (xsCons (xVar 3) (xsCons (xVar 4) xsNil)))) xsNil)))) [ow (nD R), ow (nD C), ow (.lst (intsN (dn R))), ow (.int (k : Int)), none] = some (lackB R C k) := by
  have c1 := cut_n (R := dn R) (k := k)
  have s1 := sumX_n ((dn R).take k)
  have mi := mins_ok (R := R) (C := C) (L := ow (.lst (intsN (dn R)))) (k := k)
  have s2 := sumD_n (C.map fun c => min k c)
  have it : itemsOf (nD C) = some (intsN C) := by rw [nD_eq]; rfl
  have z : (intsN (C.map fun c => min k c)).length ≤ sizeLine := by rw [List.length_map, List.length_map, size_eq]; omega
  have fe : decide (((C.map fun c => min k c).sum : Int) < (((dn R).take k).sum : Nat)) = lackB R C k := by
    unfold lackB
    generalize (C.map fun c => min k c).sum = a
    generalize ((dn R).take k).sum = b
    by_cases q : a < b
    · rw [decide_eq_true q, decide_eq_true (by omega)]
    · rw [decide_eq_false q, decide_eq_false (by omega)]
  rw [← fe]
  generalize intsN (C.map fun c => min k c) = M at *
  generalize (C.map fun c => min k c).sum = a at *
  generalize ((dn R).take k).sum = b at *
  generalize intsN ((dn R).take k) = T at *
  generalize intsN (dn R) = L at *
  generalize intsN C = I at *
  generalize nD R = R0 at *
  generalize nD C = C0 at *
  simp [c1, s1, mi, s2, it, z]
theorem first_lack_ok (f : Fit R C h w) : F_first_lack [nD R, nD C] = some (lackD R C) := by
  have := f.h1
  have := f.w1
  have hR := f.hR
  have hC := f.hC
  have nb := need_both_ok f
  have s1 := sumX_nD R
  have s2 := sumX_nD C
  have pR := pu_nD R
  have pC := pu_nD C
  have so := sortedC_n R
  have re := rev_n (R := R) (by omega)
  have e0 : env0 N_first_lack [nD R, nD C] = [ow (nD R), ow (nD C), none, none, none] := by
    generalize nD R = R0 at *
    generalize nD C = C0 at *
    simp [env0, argSlot, pR, pC]
  have v1 : Ev P_first_lack1 [ow (nD R), ow (nD C), none, none, none] (.nx [ow (nD R), ow (nD C), none, none, none]) := by
    refine Ev.of ?_
    generalize nD R = R0 at *
    generalize nD C = C0 at *
    unfold P_first_lack1
    simp [nb]
  unfold lackD
  by_cases q : R.sum = C.sum
  · rw [if_pos q]
    have v2 : Ev P_first_lack2 [ow (nD R), ow (nD C), none, none, none] (.nx [ow (nD R), ow (nD C), none, none, none]) := by
      refine Ev.of ?_
      generalize nD R = R0 at *
      generalize nD C = C0 at *
      unfold P_first_lack2
      simp [s1, s2, q]
    have v3 : Ev P_first_lack3 [ow (nD R), ow (nD C), none, none, none] (.nx [ow (nD R), ow (nD C), ow (.lst (intsN (dn R))), none, none]) := by
      refine Ev.of ?_
      generalize intsN (dn R) = L at *
      generalize intsN (R.mergeSort fun a b => decide (a ≤ b)) = L1 at *
      generalize nD R = R0 at *
      generalize nD C = C0 at *
      unfold P_first_lack3
      simp [-e_put, e_put', so, re]
    have fA := ev_fnd (gx := put 3) (b := P_first_lack4b) (fun t : Nat => D.int ((t + 1 : Nat) : Int)) (lackF R C) (List.range R.length) [ow (nD R), ow (nD C), ow (.lst (intsN (dn R))), none, none] fun t ht => by
      refine ⟨rfl, [ow (nD R), ow (nD C), ow (.lst (intsN (dn R))), ow (.int ((t + 1 : Nat) : Int)), none], [ow (nD R), ow (nD C), ow (.lst (intsN (dn R))), ow (.int ((t + 1 : Nat) : Int)), none], ?_, ?_, ?_⟩
      · generalize intsN (dn R) = L at *
        generalize nD R = R0 at *
        generalize nD C = C0 at *
        simp
      · generalize intsN (dn R) = L at *
        generalize nD R = R0 at *
        generalize nD C = C0 at *
        simp [isPin]
      · have te := lack_test (R := R) (C := C) (by omega) (k := t + 1)
        unfold P_first_lack4b lackF
        by_cases z : lackB R C (t + 1) = true
        · rw [z] at te
          rw [if_pos z]
          refine Ev.ifT (ρ1 := [ow (nD R), ow (nD C), ow (.lst (intsN (dn R))), ow (.int ((t + 1 : Nat) : Int)), none]) (by show tP' _ _ = _; unfold tP'; rw [te]; rfl) (Ev.retP ?_)
          generalize intsN (dn R) = L at *
          generalize nD R = R0 at *
          generalize nD C = C0 at *
          simp
        · rw [if_neg z]
          rw [Bool.not_eq_true] at z
          rw [z] at te
          exact Ev.ifF (ρ1 := [ow (nD R), ow (nD C), ow (.lst (intsN (dn R))), ow (.int ((t + 1 : Nat) : Int)), none]) (by show tP' _ _ = _; unfold tP'; rw [te]; rfl) (Ev.of rfl)
    have ll : lenD [.lst (intsN (dn R))] = some (.int (R.length : Int)) := by
      show some (D.int _) = _
      rw [List.length_map, dn_len]
    have rr := rng1n R.length
    have v4 : Ev P_first_lack4 [ow (nD R), ow (nD C), ow (.lst (intsN (dn R))), none, none] (fnd ((List.range R.length).findSome? (lackF R C)) [ow (nD R), ow (nD C), ow (.lst (intsN (dn R))), none, none]) := by
      unfold P_first_lack4
      refine Ev.for ?_ fA
      rw [← rr]
      generalize intsN (dn R) = L at *
      generalize nD R = R0 at *
      generalize nD C = C0 at *
      simp (disch := omega) [ll, v_rng2]
    cases e : (List.range R.length).findSome? (lackF R C) with
    | some d =>
      rw [e] at v4
      refine ev_fn e0 ?_ (ρ1 := [ow (nD R), ow (nD C), ow (.lst (intsN (dn R))), none, none])
      rw [eq_first_lack]
      exact Ev.seq v1 (Ev.seq v2 (Ev.seq v3 (Ev.rt v4)))
    | none =>
      rw [e] at v4
      refine ev_fn e0 ?_ (ρ1 := [ow (nD R), ow (nD C), ow (.lst (intsN (dn R))), none, none])
      rw [eq_first_lack]
      exact Ev.seq v1 (Ev.seq v2 (Ev.seq v3 (Ev.seq v4 (Ev.retP rfl))))
  · rw [if_neg q]
    refine ev_fn e0 ?_ (ρ1 := [ow (nD R), ow (nD C), none, none, none])
    rw [eq_first_lack]
    refine Ev.seq v1 (Ev.rt (Ev.of ?_))
    have q' : ¬ ((R.sum : Int) = (C.sum : Int)) := by omega
    generalize nD R = R0 at *
    generalize nD C = C0 at *
    generalize R.sum = a at *
    generalize C.sum = b at *
    unfold P_first_lack2
    simp [s1, s2, q']
/-- none lacks exactly if the sums fit -/
theorem lack_cond (R C : List Nat) : lackD R C = .non ↔ condG (dn R) C = true := by
  unfold lackD condG
  rw [(dn_perm R).sum_nat, dn_len, Bool.and_eq_true, decide_eq_true_eq, List.all_eq_true]
  by_cases q : R.sum = C.sum
  · rw [if_pos q]
    constructor
    · intro h
      refine ⟨q, fun k hk => decide_eq_true ?_⟩
      have hk := List.mem_range.mp hk
      rcases Nat.eq_zero_or_pos k with rfl | kp
      · exact Nat.zero_le _
      · have : (List.range R.length).findSome? (lackF R C) = none := by
          cases e : (List.range R.length).findSome? (lackF R C) with
          | none => rfl
          | some d =>
            rw [e] at h
            have h : d = .non := h
            obtain ⟨t, _, e⟩ := List.exists_of_findSome?_eq_some e
            unfold lackF at e
            split at e
            · cases e; cases h
            · cases e
        have := List.findSome?_eq_none_iff.mp this (k - 1) (List.mem_range.mpr (by omega))
        unfold lackF at this
        split at this
        · cases this
        · rename_i z
          unfold lackB at z
          rw [show k - 1 + 1 = k by omega, decide_eq_true_eq] at z
          omega
    · rintro ⟨_, h⟩
      have : (List.range R.length).findSome? (lackF R C) = none := List.findSome?_eq_none_iff.mpr fun t ht => by
        have := of_decide_eq_true (h (t + 1) (List.mem_range.mpr (by have := List.mem_range.mp ht; omega)))
        unfold lackF lackB
        rw [if_neg (by rw [decide_eq_true_eq]; omega)]
      rw [this]
      rfl
  · rw [if_neg q]
    exact ⟨fun h => (by cases h), fun h => absurd h.1 q⟩
end K51
namespace K51
open PySem PySem.Spec L2 DL DL.C
variable {R C : List Nat} {w h i n : Nat}
/-! ### choices -/
theorem last_nD {o : List Nat} (h : o ≠ []) : ixD (nD o) (.int (-1)) = some (.int ((loC o : Nat) - 1 : Int)) := by
  rcases List.eq_nil_or_concat o with rfl | ⟨l, y, rfl⟩
  · exact absurd rfl h
  rw [List.concat_eq_append, loC_app, nD_eq]
  show atI _ _ = _
  unfold atI ixN
  rw [if_neg (by omega), if_pos (by rw [List.length_map, List.length_append]; simp; omega), List.map_append, List.length_append, List.length_map]
  have e : ((-1 : Int) + ((l.length + (List.map (fun n : Nat => D.int (n : Int)) [y]).length : Nat) : Int)).toNat = l.length := by
    rw [List.length_map, List.length_singleton]
    omega
  rw [e]
  show (List.map (fun n : Nat => D.int (n : Int)) l ++ List.map (fun n : Nat => D.int (n : Int)) [y])[l.length]? = _
  rw [List.getElem?_append_right (by rw [List.length_map]; exact Nat.le_refl _), List.length_map, Nat.sub_self]
  show some (D.int (y : Int)) = some (D.int (((y + 1 : Nat) : Int) - 1))
  congr 2
  omega
theorem chs_item {s : Nat} (hw : w ≤ 4) (hs : s ≤ 5) {x3 : Slt} : comp2E [4, 5] [5] (putB 4) yYes (xRng2 (xsCons (xIf (xBool (xOp oNe (xVar 4) (xTup xsNil))) (xOp oAdd (xOp ixD (xVar 4) (xNeg (xC (.int 1)))) (xC (.int 1))) (xC (.int 0))) (xsCons (xVar 0) xsNil))) (putB 5) yYes (xTup (xsStar (xVar 4) (xsCons (xPure (xVar 5)) xsNil))) [ow (.int (w : Int)), ow (.int (n : Int)), ow (.lst ((chs w s).map nD)), x3, none, none] ((chs w s).map nD) = some ((chs w (s + 1)).map nD) := by
  have := comp2_gen (vs := [4, 5]) (vs1 := [5]) (gx := putB 4) (src1 := xRng2 (xsCons (xIf (xBool (xOp oNe (xVar 4) (xTup xsNil))) (xOp oAdd (xOp ixD (xVar 4) (xNeg (xC (.int 1)))) (xC (.int 1))) (xC (.int 0))) (xsCons (xVar 0) xsNil))) (gx1 := putB 5) (q1 := yYes) (e := xTup (xsStar (xVar 4) (xsCons (xPure (xVar 5)) xsNil)))
    (ρ := [ow (.int (w : Int)), ow (.int (n : Int)), ow (.lst ((chs w s).map nD)), x3, none, none]) nD (fun o (j : Nat) => D.int ((loC o + j : Nat) : Int)) (fun o => List.range (w - loC o)) (fun _ _ => true) (fun o j => nD (o ++ [loC o + j])) (fun _ _ => pu_nD _) (chs w s) fun o ho =>
    ⟨[ow (.int (w : Int)), ow (.int (n : Int)), ow (.lst ((chs w s).map nD)), x3, some (.bor, nD o), none], ?_, ?_, ?_, fun j hj => ⟨[ow (.int (w : Int)), ow (.int (n : Int)), ow (.lst ((chs w s).map nD)), x3, some (.bor, nD o), some (.bor, .int ((loC o + j : Nat) : Int))], ?_, rfl, fun _ => ?_⟩⟩
  · rw [this, chs, List.map_flatMap]
    congr 2
    funext o
    rw [List.filter_eq_self.mpr fun _ _ => rfl, List.map_map]
    rfl
  · generalize (chs w s).map nD = L at *
    generalize nD o = O at *
    simp
  · have pu := pu_nD o
    generalize (chs w s).map nD = L at *
    generalize nD o = O at *
    simp [plainAt, pu]
  · have e1 : oNe (nD o) (.tup []) = some (.bl (!decide (iL o = []))) := ne_w (iL o) []
    have e2 : decide (iL o = []) = decide (o = []) := by
      by_cases q : o = []
      · rw [decide_eq_true q, decide_eq_true (by rw [q]; rfl)]
      · rw [decide_eq_false q, decide_eq_false fun z => q (List.map_eq_nil_iff.mp z)]
    rw [e2] at e1
    have lw : loC o ≤ w := by
      obtain ⟨_, _, h3⟩ := mem_chs.mp ho
      rcases List.eq_nil_or_concat o with rfl | ⟨l, y, rfl⟩
      · exact Nat.zero_le _
      · rw [List.concat_eq_append, loC_app]
        exact h3 y (by rw [List.concat_eq_append]; exact List.mem_append.mpr (.inr (List.mem_singleton.mpr rfl)))
    have rr : rng ((loC o : Nat) : Int) (w : Int) = (List.range (w - loC o)).map fun j : Nat => D.int ((loC o + j : Nat) : Int) := by
      rw [rng_range, show ((w : Int) - (loC o : Nat)).toNat = w - loC o by omega]
      exact List.map_congr_left fun j _ => by rw [Int.natCast_add]
    rw [← rr]
    by_cases q : o = []
    · subst q
      have z : loC [] = 0 := rfl
      rw [z]
      generalize (chs w s).map nD = L at *
      have e1 : oNe (nD []) (.tup []) = some (.bl false) := e1
      generalize nD [] = O at *
      simp (disch := omega) [e1, v_rng2]
    · have la := last_nD q
      have e1 : oNe (nD o) (.tup []) = some (.bl true) := by rw [e1, decide_eq_false q]; rfl
      have hb : loC o ≤ 4 := by omega
      generalize loC o = z at *
      generalize (chs w s).map nD = L at *
      generalize nD o = O at *
      simp (disch := omega) [e1, la, v_rng2]
  · generalize (chs w s).map nD = L at *
    generalize nD o = O at *
    generalize loC o + j = z at *
    simp
  · have it : itemsOf (nD o) = some (intsN o) := by rw [nD_eq]; rfl
    have pu := pures_n o
    have l : o.length ≤ 5 := by rw [(mem_chs.mp ho).1]; exact hs
    have e : nD (o ++ [loC o + j]) = .tup (intsN o ++ [.int ((loC o + j : Nat) : Int)]) := by
      rw [nD_eq, List.map_append]
      rfl
    rw [e]
    have z : (intsN o ++ [D.int ((loC o + j : Nat) : Int)]).length ≤ sizeLine := by
      rw [List.length_append, List.length_map, size_eq]
      simp
      omega
    generalize (chs w s).map nD = L at *
    generalize loC o + j = y at *
    generalize intsN o = I at *
    generalize nD o = O at *
    simp only [e_tup, e_star, e_cons, e_nil, e_pure, e_var, List.getElem?_cons_succ, List.getElem?_cons_zero, Option.bind_some, Option.map_some, it, pu, if_true, pu_int, z]
theorem choices_ok {s : Nat} (hw : w ≤ 4) (hs : s ≤ 5) : F_choices [.int (w : Int), .int (s : Int)] = some (.lst ((chs w s).map nD)) := by
  have fA := ev_foldI (gx := put 3) (b := P_choices2b) (fun i : Nat => D.int (i : Int)) (fun k : Nat => [ow (.int (w : Int)), ow (.int (s : Int)), ow (.lst ((chs w k).map nD)), none, none, none]) (fun k _ => k + 1) (fun j k => k = j) (List.range s) 0 rfl fun j i k ej hm => by
    have hj := getElem?_lt ej
    rw [List.length_range] at hj
    rw [List.getElem?_range hj] at ej
    cases ej
    subst hm
    have ci := chs_item (n := s) hw (show k ≤ 5 by omega) (x3 := ow (.int (k : Int)))
    have zl : ((chs w (k + 1)).map nD).length ≤ sizeLine := by
      have := chs_len hw (show k + 1 ≤ 5 by omega)
      rw [List.length_map, size_eq]
      omega
    refine ⟨rfl, rfl, [ow (.int (w : Int)), ow (.int (s : Int)), ow (.lst ((chs w k).map nD)), ow (.int (k : Int)), none, none], ?_, .inl (Ev.mk (o' := .nx [ow (.int (w : Int)), ow (.int (s : Int)), ow (.lst ((chs w (k + 1)).map nD)), ow (.int (k : Int)), none, none]) ?_ ?_)⟩
    · generalize (chs w k).map nD = L at *
      simp
    · generalize (chs w k).map nD = L at *
      generalize (chs w (k + 1)).map nD = L1 at *
      unfold P_choices2b
      simp [-e_put, e_put', ci, zl]
    · simp [isPin]
  have fe : ∀ l : List Nat, l.foldl (fun k _ => k + 1) 0 = l.length := fun l => by
    have : ∀ (l : List Nat) (z : Nat), l.foldl (fun k _ => k + 1) z = z + l.length := fun l => by
      induction l with
      | nil => intro z; rfl
      | cons a l ih => intro z; rw [List.foldl_cons, ih, List.length_cons]; omega
    rw [this, Nat.zero_add]
  rw [fe, List.length_range] at fA
  have rr := rng_len s
  refine ev_fn (ρ := [ow (.int (w : Int)), ow (.int (s : Int)), none, none, none, none]) rfl ?_ (ρ1 := [ow (.int (w : Int)), ow (.int (s : Int)), none, none, none, none])
  rw [eq_choices]
  unfold P_choices P_choices2
  refine Ev.seq (ρ1 := [ow (.int (w : Int)), ow (.int (s : Int)), ow (.lst ((chs w 0).map nD)), none, none, none]) (Ev.of ?_) (Ev.seq (Ev.for ?_ fA) (Ev.ret ?_))
  · have e : (chs w 0).map nD = [.tup []] := rfl
    rw [e]
    unfold P_choices1
    simp [-e_put, e_put', if_size]
  · rw [← rr]
    generalize (chs w 0).map nD = L at *
    simp (disch := omega) [v_rng1]
  · generalize (chs w s).map nD = L at *
    simp
end K51
namespace K51
open PySem PySem.Spec L2 DL DL.C
variable {R C : List Nat} {w h i n : Nat}
/-! ### the program's list of pictures -/
/-- what the columns have left -/
def leftN (w : Nat) (C : List Nat) (x : List Cell) : List Nat := (List.range w).map fun k => C.getD k 0 - colN (k : Int) x
theorem leftN_len (w : Nat) (C : List Nat) (x : List Cell) : (leftN w C x).length = w := by unfold leftN; rw [List.length_map, List.length_range]
theorem leftN_at {x : List Cell} {k : Nat} (hk : k < w) : (leftN w C x).getD k 0 = C.getD k 0 - colN (k : Int) x := by
  unfold leftN
  rw [List.getD_eq_getElem?_getD, List.getElem?_map, List.getElem?_range hk]
  rfl
def itD (w : Nat) (C : List Nat) (x : List Cell) : D := .tup [inkD x, nD (leftN w C x)]
theorem itD_pure (x : List Cell) : DL.pure (itD w C x) = true := by
  have p1 := pure_ink x
  have p2 := pu_nD (leftN w C x)
  unfold itD
  generalize inkD x = X at *
  generalize nD (leftN w C x) = L at *
  simp [p1, p2]
abbrev itsD (w : Nat) (C : List Nat) (L : List (List Cell)) : D := .lst (L.map (itD w C))
abbrev apE (R C : D) (L i s M x l p ls : Slt) : DL.Env := [ow R, ow C, L, i, s, M, x, l, p, ls, none, none, none]
variable {L M : List (List Cell)} {x : List Cell} {part : List Nat}
theorem part_test {a1 a2 a3 a4 a5 : Slt} {R0 C0 : D} (hl : part.length ≤ 1000) (hp : ∀ k ∈ part, k < w) : (xBool (xCall allD (xsCons (xComp [11] (xIt (xVar 8)) (putB 11) yYes (xOp oGt (xOp ixD (xVar 7) (xVar 11)) (xC (.int 0)))) xsNil))) (apE R0 C0 a1 a2 a3 a4 a5 (ow (nD (leftN w C x))) (ow (nD part)) none) = some (part.all fun k : Nat => decide (colN (k : Int) x < C.getD k 0)) := by
  have c : compE (putB 11) yYes (xOp oGt (xOp ixD (xVar 7) (xVar 11)) (xC (.int 0))) (apE R0 C0 a1 a2 a3 a4 a5 (ow (nD (leftN w C x))) (ow (nD part)) none) (intsN part) = some (part.map fun k : Nat => D.bl (decide (colN (k : Int) x < C.getD k 0))) := by
    refine comp_all _ _ _ fun k hk => ⟨[ow R0, ow C0, a1, a2, a3, a4, a5, ow (nD (leftN w C x)), ow (nD part), none, none, some (.bor, .int (k : Int)), none], ?_, rfl, ?_⟩
    · generalize nD (leftN w C x) = l at *
      generalize nD part = p at *
      simp
    · have ix := ix_nD (R := leftN w C x) (a := k) (by rw [leftN_len]; exact hp k hk)
      rw [leftN_at (hp k hk)] at ix
      have e : decide ((0 : Int) < ((C.getD k 0 - colN (k : Int) x : Nat) : Int)) = decide (colN (k : Int) x < C.getD k 0) := by
        by_cases q : colN (k : Int) x < C.getD k 0
        · rw [decide_eq_true q, decide_eq_true (by omega)]
        · rw [decide_eq_false q, decide_eq_false (by omega)]
      rw [← e]
      generalize ((C.getD k 0 - colN (k : Int) x : Nat) : Int) = z at *
      generalize nD (leftN w C x) = l at *
      generalize nD part = p at *
      simp [ix]
  have al := all_map (fun k : Nat => decide (colN (k : Int) x < C.getD k 0)) part
  have it : itemsOf (nD part) = some (intsN part) := by rw [nD_eq]; rfl
  have zl : (part.map fun k : Nat => D.bl (decide (colN (k : Int) x < C.getD k 0))).length ≤ sizeLine := by rw [List.length_map, size_eq]; omega
  generalize (part.map fun k : Nat => D.bl (decide (colN (k : Int) x < C.getD k 0))) = B at *
  generalize (part.all fun k : Nat => decide (colN (k : Int) x < C.getD k 0)) = b at *
  generalize intsN part = I at *
  generalize nD (leftN w C x) = l at *
  generalize nD part = p at *
  simp [it, c, al, zl]
theorem less_val (hp : part.Pairwise (· < ·)) (h0 : ∀ k ∈ part, colN (k : Int) x < C.getD k 0) {k : Nat} : ((C.getD k 0 - colN (k : Int) x : Nat) : Int) - (if k ∈ part then 1 else 0) = ((C.getD k 0 - colN (k : Int) (x ++ partC i part) : Nat) : Int) := by
  rw [colN_app, colN_part hp]
  by_cases q : k ∈ part
  · rw [if_pos q, if_pos q]
    have := h0 k q
    omega
  · rw [if_neg q, if_neg q]
    omega
theorem mem_iL {part : List Nat} {k : Nat} : ((k : Int) ∈ iL part) ↔ k ∈ part := by
  unfold iL
  rw [List.mem_map]
  exact ⟨fun ⟨a, ha, e⟩ => by rw [← Int.ofNat.inj e]; exact ha, fun h => ⟨k, h, rfl⟩⟩
theorem less_ok {a1 a2 a3 a4 a5 : Slt} {R0 C0 : D} (hw : w ≤ 1000) (hp : part.Pairwise (· < ·)) (h0 : ∀ k ∈ part, colN (k : Int) x < C.getD k 0) : Ev P_all_pictures3b2bbt1 (apE R0 C0 a1 a2 a3 a4 a5 (ow (nD (leftN w C x))) (ow (nD part)) none) (.nx (apE R0 C0 a1 a2 a3 a4 a5 (ow (nD (leftN w C x))) (ow (nD part)) (ow (nD (leftN w C (x ++ partC i part)))))) := by
  have en : enumF 0 (intsN (leftN w C x)) = (List.range (leftN w C x).length).map fun i : Nat => D.tup [.int (i : Int), .int (((leftN w C x)[i]?.getD 0 : Nat) : Int)] := enumF_map (fun n : Nat => D.int (n : Int)) _
  rw [leftN_len] at en
  have c : compE (gTupD 2 (gsCons (putB 11) (gsCons (putB 12) gsNil))) yYes (xOp oSub (xVar 12) (xCall intD (xsCons (xOp oIn (xVar 11) (xVar 8)) xsNil))) (apE R0 C0 a1 a2 a3 a4 a5 (ow (nD (leftN w C x))) (ow (nD part)) none) (enumF 0 (intsN (leftN w C x))) = some (intsN (leftN w C (x ++ partC i part))) := by
    rw [en]
    have e2 : intsN (leftN w C (x ++ partC i part)) = (List.range w).map fun k => D.int ((C.getD k 0 - colN (k : Int) (x ++ partC i part) : Nat) : Int) := List.map_map
    rw [e2]
    refine comp_all _ _ _ fun k hk => ⟨[ow R0, ow C0, a1, a2, a3, a4, a5, ow (nD (leftN w C x)), ow (nD part), none, none, some (.bor, .int (k : Int)), some (.bor, .int ((C.getD k 0 - colN (k : Int) x : Nat) : Int))], ?_, rfl, ?_⟩
    · have e := leftN_at (C := C) (x := x) (List.mem_range.mp hk)
      rw [List.getD_eq_getElem?_getD] at e
      rw [e]
      generalize nD (leftN w C x) = l at *
      generalize nD part = p at *
      simp
    · rw [← less_val hp h0]
      have ii := in_tupE enc_int (by omega) (iL part) (k : Int)
      have ii : oIn (.int (k : Int)) (nD part) = some (.bl (decide (k ∈ part))) := by
        refine Eq.trans ii (congrArg (fun b => some (D.bl b)) ?_)
        rw [decide_eq_decide]
        exact mem_iL
      have fi : (if decide (k ∈ part) = true then (1 : Int) else 0) = if k ∈ part then 1 else 0 := by
        by_cases q : k ∈ part
        · rw [if_pos q, if_pos (decide_eq_true q)]
        · rw [if_neg q, if_neg (by rw [decide_eq_true_eq]; exact q)]
      rw [← fi]
      generalize decide (k ∈ part) = b at *
      generalize ((C.getD k 0 - colN (k : Int) x : Nat) : Int) = z at *
      generalize nD (leftN w C x) = l at *
      generalize nD part = p at *
      simp [ii]
  have zl : (intsN (leftN w C (x ++ partC i part))).length ≤ sizeLine := by
    rw [List.length_map, leftN_len, size_eq]
    omega
  have tp : tupleD [.lst (intsN (leftN w C (x ++ partC i part)))] = some (nD (leftN w C (x ++ partC i part))) := by
    rw [nD_eq]
    show (if pures _ = true then _ else _) = _
    rw [if_pos (pures_n _)]
  have it : itemsOf (nD (leftN w C x)) = some (intsN (leftN w C x)) := by rw [nD_eq]; rfl
  have pu := pu_nD (leftN w C x)
  refine Ev.of ?_
  generalize intsN (leftN w C (x ++ partC i part)) = N1 at *
  generalize nD (leftN w C (x ++ partC i part)) = l1 at *
  clear en
  generalize intsN (leftN w C x) = N0 at *
  generalize nD (leftN w C x) = l at *
  generalize nD part = p at *
  unfold P_all_pictures3b2bbt1
  simp [-e_put, e_put', it, c, zl, tp, pu]
theorem rest_test {a1 a3 a4 a5 a7 : Slt} {C0 : D} (hR : R.length = h) (hi : i < h) (hh : h ≤ 4) (hw : w ≤ 4) {y : List Cell} (hy : ∀ k : Nat, k < w → colN (k : Int) y ≤ C.getD k 0) : (xBool (xCall allD (xsCons (xComp [12] (xIt (xVar 9)) (putB 12) yYes (xOp oLt (xVar 12) (xOp oSub (xCall lenD (xsCons (xVar 0) xsNil)) (xVar 3)))) xsNil))) (apE (nD R) C0 a1 (ow (.int (i : Int))) a3 a4 a5 a7 (ow (nD part)) (ow (nD (leftN w C y)))) = some ((List.range w).all fun k : Nat => decide (C.getD k 0 + (i + 1) ≤ colN (k : Int) y + h)) := by
  have ln : lenD [nD R] = some (.int (h : Int)) := by rw [len_nD, hR]
  have e2 : intsN (leftN w C y) = (List.range w).map fun k => D.int ((C.getD k 0 - colN (k : Int) y : Nat) : Int) := List.map_map
  have c : compE (putB 12) yYes (xOp oLt (xVar 12) (xOp oSub (xCall lenD (xsCons (xVar 0) xsNil)) (xVar 3))) (apE (nD R) C0 a1 (ow (.int (i : Int))) a3 a4 a5 a7 (ow (nD part)) (ow (nD (leftN w C y)))) (intsN (leftN w C y)) = some ((List.range w).map fun k : Nat => D.bl (decide (C.getD k 0 + (i + 1) ≤ colN (k : Int) y + h))) := by
    rw [e2]
    refine comp_all _ _ _ fun k hk => ⟨[ow (nD R), ow C0, a1, ow (.int (i : Int)), a3, a4, a5, a7, ow (nD part), ow (nD (leftN w C y)), none, none, some (.bor, .int ((C.getD k 0 - colN (k : Int) y : Nat) : Int))], ?_, rfl, ?_⟩
    · clear e2
      generalize nD (leftN w C y) = l at *
      generalize nD part = p at *
      generalize nD R = R0 at *
      simp
    · have := hy k (List.mem_range.mp hk)
      have e : decide (((C.getD k 0 - colN (k : Int) y : Nat) : Int) < (h : Int) - (i : Int)) = decide (C.getD k 0 + (i + 1) ≤ colN (k : Int) y + h) := by
        by_cases q : C.getD k 0 + (i + 1) ≤ colN (k : Int) y + h
        · rw [decide_eq_true q, decide_eq_true (by omega)]
        · rw [decide_eq_false q, decide_eq_false (by omega)]
      rw [← e]
      clear e2
      generalize ((C.getD k 0 - colN (k : Int) y : Nat) : Int) = z at *
      generalize nD (leftN w C y) = l at *
      generalize nD part = p at *
      generalize nD R = R0 at *
      simp [ln]
  have al := all_map (fun k : Nat => decide (C.getD k 0 + (i + 1) ≤ colN (k : Int) y + h)) (List.range w)
  have it : itemsOf (nD (leftN w C y)) = some (intsN (leftN w C y)) := by rw [nD_eq]; rfl
  have zl : ((List.range w).map fun k : Nat => D.bl (decide (C.getD k 0 + (i + 1) ≤ colN (k : Int) y + h))).length ≤ sizeLine := by
    rw [List.length_map, List.length_range, size_eq]
    omega
  clear e2
  generalize ((List.range w).map fun k : Nat => D.bl (decide (C.getD k 0 + (i + 1) ≤ colN (k : Int) y + h))) = B at *
  generalize ((List.range w).all fun k : Nat => decide (C.getD k 0 + (i + 1) ≤ colN (k : Int) y + h)) = b at *
  generalize intsN (leftN w C y) = I at *
  generalize nD (leftN w C y) = l at *
  generalize nD part = p at *
  generalize nD R = R0 at *
  simp [it, c, al, zl]
theorem partC_len (i : Int) (part : List Nat) : (partC i part).length = part.length := by unfold partC; rw [List.length_map]
theorem put_ok {a1 a3 a7 : Slt} {R0 C0 : D} {x : List Cell} {l1 : D} (pl1 : DL.pure l1 = true) (hx : x.length + part.length ≤ 900) (hM : M.length < 1000000) {w : Nat} (e1 : l1 = nD (leftN w C (x ++ partC i part))) : Ev P_all_pictures3b2bbt2t (apE R0 C0 a1 (ow (.int (i : Int))) a3 (ow (itsD w C M)) (ow (inkD x)) a7 (ow (nD part)) (ow l1)) (.nx (apE R0 C0 a1 (ow (.int (i : Int))) a3 (ow (itsD w C (M ++ [x ++ partC i part]))) (ow (inkD x)) a7 (ow (nD part)) (ow l1))) := by
  have c : compE (putB 11) yYes (xTup (xsCons (xPure (xVar 3)) (xsCons (xPure (xVar 11)) xsNil))) (apE R0 C0 a1 (ow (.int (i : Int))) a3 (ow (itsD w C M)) (ow (inkD x)) a7 (ow (nD part)) (ow l1)) (intsN part) = some ((partC i part).map cellD) := by
    have e2 : (partC (i : Int) part).map cellD = part.map fun k : Nat => cellD ((i : Int), (k : Int)) := List.map_map
    rw [e2]
    refine comp_all _ _ _ fun k hk => ⟨[ow R0, ow C0, a1, ow (.int (i : Int)), a3, ow (itsD w C M), ow (inkD x), a7, ow (nD part), ow l1, none, some (.bor, .int (k : Int)), none], ?_, rfl, ?_⟩
    · generalize itsD w C M = M0 at *
      generalize inkD x = X at *
      generalize nD part = p at *
      simp
    · generalize itsD w C M = M0 at *
      generalize inkD x = X at *
      generalize nD part = p at *
      simp [if_size, cellD]
  have it : itemsOf (nD part) = some (intsN part) := by rw [nD_eq]; rfl
  have zl : ((partC (i : Int) part).map cellD).length ≤ sizeLine := by rw [List.length_map, partC_len, size_eq]; omega
  have tp : tupleD [.lst ((partC (i : Int) part).map cellD)] = some (inkD (partC i part)) := by
    show (if pures _ = true then _ else _) = _
    rw [if_pos (pures_cells _)]
    rfl
  have ad := add_ink (x := x) (y := partC i part) (by rw [partC_len]; omega)
  have em : (M ++ [x ++ partC i part]).map (itD w C) = M.map (itD w C) ++ [.tup [inkD (x ++ partC i part), l1]] := by
    rw [List.map_append, e1]
    rfl
  have lm : (M.map (itD w C)).length < sizeLine := by rw [List.length_map, size_eq]; omega
  have pi := pure_ink (x ++ partC (i : Int) part)
  unfold itsD at *
  rw [em]
  clear em e1
  refine Ev.of ?_
  generalize (partC (i : Int) part).map cellD = K at *
  generalize inkD (x ++ partC (i : Int) part) = Y at *
  generalize inkD (partC (i : Int) part) = Z at *
  generalize M.map (itD w C) = M0 at *
  generalize inkD x = X at *
  generalize intsN part = I at *
  generalize nD part = p at *
  unfold P_all_pictures3b2bbt2t
  simp [it, c, zl, tp, ad, lm, pi, pl1, isL, if_size]
/-- one choice -/
def chL (w h : Nat) (C : List Nat) (i : Nat) (x : List Cell) (M : List (List Cell)) (part : List Nat) : List (List Cell) := if okP w h C i x part = true then M ++ [x ++ partC i part] else M
theorem ch_ok {a1 a3 : Slt} (hR : R.length = h) (hi : i < h) (hh : h ≤ 4) (hw : w ≤ 4) {x : List Cell} (hp : part.Pairwise (· < ·)) (hpw : ∀ k ∈ part, k < w) (hx : x.length + part.length ≤ 900) (hM : M.length < 1000000) (hc : ∀ k : Nat, k < w → colN (k : Int) x ≤ C.getD k 0) {C0 : D} :
    ∃ a9, isPin a9 = false ∧ Ev P_all_pictures3b2bb (apE (nD R) C0 a1 (ow (.int (i : Int))) a3 (ow (itsD w C M)) (ow (inkD x)) (ow (nD (leftN w C x))) (ow (nD part)) none) (.nx (apE (nD R) C0 a1 (ow (.int (i : Int))) a3 (ow (itsD w C (chL w h C i x M part))) (ow (inkD x)) (ow (nD (leftN w C x))) (ow (nD part)) a9)) := by
  have t1 := part_test (C := C) (x := x) (a1 := a1) (a2 := ow (.int (i : Int))) (a3 := a3) (a4 := ow (itsD w C M)) (a5 := ow (inkD x)) (R0 := nD R) (C0 := C0) (by omega) hpw
  unfold P_all_pictures3b2bb chL okP
  by_cases q : (part.all fun k : Nat => decide (colN (k : Int) x < C.getD k 0)) = true
  · rw [q] at t1
    rw [q, Bool.true_and]
    have h0 : ∀ k ∈ part, colN (k : Int) x < C.getD k 0 := fun k hk => of_decide_eq_true (List.all_eq_true.mp q k hk)
    have hy : ∀ k : Nat, k < w → colN (k : Int) (x ++ partC i part) ≤ C.getD k 0 := fun k hk => by
      rw [colN_app, colN_part hp]
      by_cases m : k ∈ part
      · have := h0 k m
        rw [if_pos m]
        omega
      · rw [if_neg m]
        exact hc k hk
    have l1 := less_ok (i := i) (w := w) (x := x) (a1 := a1) (a2 := ow (.int (i : Int))) (a3 := a3) (a4 := ow (itsD w C M)) (a5 := ow (inkD x)) (R0 := nD R) (C0 := C0) (by omega) hp h0
    have t2 := rest_test (part := part) (a1 := a1) (a3 := a3) (a4 := ow (itsD w C M)) (a5 := ow (inkD x)) (a7 := ow (nD (leftN w C x))) (C0 := C0) hR hi hh hw hy
    refine ⟨ow (nD (leftN w C (x ++ partC i part))), rfl, Ev.ifT (ρ1 := apE (nD R) C0 a1 (ow (.int (i : Int))) a3 (ow (itsD w C M)) (ow (inkD x)) (ow (nD (leftN w C x))) (ow (nD part)) none) (by show tP' _ _ = _; unfold tP'; rw [t1]; rfl) (Ev.seq l1 ?_)⟩
    unfold P_all_pictures3b2bbt2
    by_cases q2 : ((List.range w).all fun k : Nat => decide (C.getD k 0 + (i + 1) ≤ colN (k : Int) (x ++ partC i part) + h)) = true
    · rw [q2] at t2
      rw [if_pos q2]
      exact Ev.ifT (by show tP' _ _ = _; unfold tP'; rw [t2]; rfl) (put_ok (pu_nD _) hx hM rfl)
    · rw [if_neg q2]
      rw [Bool.not_eq_true] at q2
      rw [q2] at t2
      exact Ev.ifF (by show tP' _ _ = _; unfold tP'; rw [t2]; rfl) (Ev.of rfl)
  · rw [Bool.not_eq_true] at q
    rw [q] at t1
    rw [q, Bool.false_and, if_neg (by decide)]
    exact ⟨none, rfl, Ev.ifF (ρ1 := apE (nD R) C0 a1 (ow (.int (i : Int))) a3 (ow (itsD w C M)) (ow (inkD x)) (ow (nD (leftN w C x))) (ow (nD part)) none) (by show tP' _ _ = _; unfold tP'; rw [t1]; rfl) (Ev.of rfl)⟩
theorem ch_eq {x : List Cell} : ∀ (ps : List (List Nat)) (M : List (List Cell)), ps.foldl (chL w h C i x) M = M ++ (ps.filter (okP w h C i x)).map fun part => x ++ partC i part
  | [], M => by simp
  | p :: ps, M => by
    rw [List.foldl_cons, ch_eq ps]
    unfold chL
    by_cases q : okP w h C i x p = true
    · rw [if_pos q, List.filter_cons_of_pos q, List.map_cons, List.append_assoc]
      rfl
    · rw [if_neg q, List.filter_cons_of_neg q]
/-- one picture so far -/
def picL (w h r : Nat) (C : List Nat) (i : Nat) (M : List (List Cell)) (x : List Cell) : List (List Cell) := (chs w r).foldl (chL w h C i x) M
theorem pic_eq {r : Nat} : ∀ (L M : List (List Cell)), L.foldl (picL w h r C i) M = M ++ nextP w h r C i L
  | [], M => by simp [nextP]
  | x :: L, M => by
    rw [List.foldl_cons, pic_eq L]
    unfold picL nextP
    rw [ch_eq, List.flatMap_cons, List.append_assoc]
theorem pic_len (hw : w ≤ 4) {r : Nat} (hr : r ≤ 5) {x : List Cell} : (picL w h r C i M x).length ≤ M.length + 6 := by
  unfold picL
  rw [ch_eq, List.length_append, List.length_map]
  have := List.length_filter_le (okP w h C i x) (chs w r)
  have := chs_len hw hr
  omega
theorem pic_ok {a1 : Slt} (hR : R.length = h) (hC : C.length = w) (hi : i < h) (hh : h ≤ 4) (hw : w ≤ 4) {r : Nat} (hr : r ≤ 5) {x : List Cell} (hx : x.length ≤ 800) (hM : M.length < 900000) (hc : ∀ k : Nat, k < w → colN (k : Int) x ≤ C.getD k 0) :
    Ev P_all_pictures3b2b (apE (nD R) (nD C) a1 (ow (.int (i : Int))) (ow (.int (r : Int))) (ow (itsD w C M)) (ow (inkD x)) (ow (nD (leftN w C x))) none none) (.nx (apE (nD R) (nD C) a1 (ow (.int (i : Int))) (ow (.int (r : Int))) (ow (itsD w C (picL w h r C i M x))) (ow (inkD x)) (ow (nD (leftN w C x))) none none)) := by
  have co := choices_ok hw hr
  have fA := ev_foldI (gx := put 8) (b := P_all_pictures3b2bb) nD (fun M' => apE (nD R) (nD C) a1 (ow (.int (i : Int))) (ow (.int (r : Int))) (ow (itsD w C M')) (ow (inkD x)) (ow (nD (leftN w C x))) none none) (chL w h C i x) (fun j M' => M'.length ≤ M.length + j) (chs w r) M (Nat.le_refl _) fun j part M' ej hm => by
    have hj := getElem?_lt ej
    have hl := chs_len hw hr
    obtain ⟨p1, p2, p3⟩ := mem_chs.mp (List.mem_of_getElem? ej)
    have l : (chL w h C i x M' part).length ≤ M'.length + 1 := by
      unfold chL
      split
      · rw [List.length_append]; exact Nat.le_refl _
      · omega
    obtain ⟨a9, pa, v⟩ := ch_ok (M := M') (a1 := a1) (a3 := ow (.int (r : Int))) (C0 := nD C) hR hi hh hw p2 p3 (by omega) (by omega) hc
    refine ⟨pu_nD _, by omega, apE (nD R) (nD C) a1 (ow (.int (i : Int))) (ow (.int (r : Int))) (ow (itsD w C M')) (ow (inkD x)) (ow (nD (leftN w C x))) (ow (nD part)) none, ?_, .inl (v.less ?_)⟩
    · generalize itsD w C M' = M0 at *
      generalize inkD x = X at *
      generalize nD (leftN w C x) = l at *
      generalize nD part = p at *
      generalize nD R = R0 at *
      generalize nD C = C0 at *
      simp
    · generalize itsD w C (chL w h C i x M' part) = M0 at *
      generalize inkD x = X at *
      generalize nD (leftN w C x) = l at *
      generalize nD part = p at *
      generalize nD R = R0 at *
      generalize nD C = C0 at *
      have i1 : ∀ d, isPin (some (Fl.own, d)) = false := fun _ => rfl
      simp [pa, i1]
  have ln : lenD [nD C] = some (.int (w : Int)) := by rw [len_nD, hC]
  unfold P_all_pictures3b2b
  refine Ev.for ?_ fA
  generalize (chs w r).map nD = K at *
  generalize itsD w C M = M0 at *
  generalize inkD x = X at *
  generalize nD (leftN w C x) = l at *
  generalize nD R = R0 at *
  generalize nD C = C0 at *
  simp [ln, co]
theorem row_ok (hR : R.length = h) (hC : C.length = w) (hi : i < h) (hh : h ≤ 4) (hw : w ≤ 4) {r : Nat} (hr : r ≤ 5) (hL : ∀ x ∈ L, x.length ≤ 800 ∧ ∀ k : Nat, k < w → colN (k : Int) x ≤ C.getD k 0) (hl : 6 * L.length < 800000) (hn : (nextP w h r C i L).length ≤ 6000) :
    Ev P_all_pictures3b (apE (nD R) (nD C) (ow (itsD w C L)) (ow (.int (i : Int))) (ow (.int (r : Int))) none none none none none) (.nx (apE (nD R) (nD C) (ow (itsD w C (nextP w h r C i L))) (ow (.int (i : Int))) (ow (.int (r : Int))) none none none none none)) := by
  have fA := ev_foldI (gx := gTupD 2 (gsCons (put 6) (gsCons (put 7) gsNil))) (b := P_all_pictures3b2b) (itD w C) (fun M' => apE (nD R) (nD C) (bo (itsD w C L)) (ow (.int (i : Int))) (ow (.int (r : Int))) (ow (itsD w C M')) none none none none) (picL w h r C i) (fun j M' => M'.length ≤ 6 * j) L [] (Nat.le_refl _) fun j x M' ej hm => by
    have hj := getElem?_lt ej
    have hx := hL x (List.mem_of_getElem? ej)
    have l := pic_len (w := w) (h := h) (C := C) (i := i) (M := M') hw hr (x := x)
    refine ⟨itD_pure x, by omega, apE (nD R) (nD C) (bo (itsD w C L)) (ow (.int (i : Int))) (ow (.int (r : Int))) (ow (itsD w C M')) (ow (inkD x)) (ow (nD (leftN w C x))) none none, ?_, .inl ((pic_ok hR hC hi hh hw hr hx.1 (by omega) hx.2).less ?_)⟩
    · unfold itD
      generalize itsD w C M' = M0 at *
      generalize itsD w C L = L0 at *
      generalize inkD x = X at *
      generalize nD (leftN w C x) = l at *
      generalize nD R = R0 at *
      generalize nD C = C0 at *
      simp
    · generalize itsD w C (picL w h r C i M' x) = M0 at *
      generalize itsD w C L = L0 at *
      generalize inkD x = X at *
      generalize nD (leftN w C x) = l at *
      generalize nD R = R0 at *
      generalize nD C = C0 at *
      simp [isPin]
  rw [pic_eq, List.nil_append] at fA
  have ll : lenD [itsD w C (nextP w h r C i L)] = some (.int ((nextP w h r C i L).length : Nat)) := by
    show some (D.int _) = _
    rw [List.length_map]
  have k : Ev P_all_pictures3b2 (apE (nD R) (nD C) (ow (itsD w C L)) (ow (.int (i : Int))) (ow (.int (r : Int))) (ow (itsD w C [])) none none none none) (.nx (apE (nD R) (nD C) (ow (itsD w C L)) (ow (.int (i : Int))) (ow (.int (r : Int))) (ow (itsD w C (nextP w h r C i L))) none none none none)) := Ev.lendB (i := 2) (ρ := apE (nD R) (nD C) (ow (itsD w C L)) (ow (.int (i : Int))) (ow (.int (r : Int))) (ow (itsD w C [])) none none none none) rfl fA rfl
  unfold P_all_pictures3b
  refine Ev.seq (ρ1 := apE (nD R) (nD C) (ow (itsD w C L)) (ow (.int (i : Int))) (ow (.int (r : Int))) (ow (itsD w C [])) none none none none) (Ev.of ?_) (Ev.seq k (Ev.seq (ρ1 := apE (nD R) (nD C) (ow (itsD w C (nextP w h r C i L))) (ow (.int (i : Int))) (ow (.int (r : Int))) none none none none none) (Ev.of ?_) (Ev.of ?_)))
  · generalize itsD w C L = L0 at *
    generalize nD R = R0 at *
    generalize nD C = C0 at *
    simp [-e_put, e_put', itsD]
  · generalize itsD w C (nextP w h r C i L) = L1 at *
    generalize itsD w C L = L0 at *
    generalize nD R = R0 at *
    generalize nD C = C0 at *
    simp
  · generalize (nextP w h r C i L).length = z at *
    generalize itsD w C (nextP w h r C i L) = L1 at *
    generalize nD R = R0 at *
    generalize nD C = C0 at *
    have q : ¬ ((6000 : Int) < (z : Int)) := by omega
    unfold P_all_pictures3b4
    simp (disch := omega) [ll, v_mul, q]
end K51
namespace K51
open PySem PySem.Spec L2 DL DL.C
variable {R C : List Nat} {w h i n : Nat}
theorem Fit.env (f : Fit R C h w) (N : List Str) (k : Nat) (hN : N.length = k + 2) : env0 N [nD R, nD C] = [ow (nD R), ow (nD C)] ++ List.replicate k none := by
  have pR := pu_nD R
  have pC := pu_nD C
  match N, hN with
  | a :: b :: N, hN =>
    have hN : N.length = k := by simpa using hN
    generalize nD R = R0 at *
    generalize nD C = C0 at *
    simp [env0, argSlot, pR, pC, hN]
theorem done_ok {L : List (List Cell)} {a2 a3 a4 a5 a8 a9 a10 a11 a12 : Slt} {R0 C0 : D} (hL : ∀ x ∈ L, ∀ k : Nat, k < w → colN (k : Int) x ≤ C.getD k 0) : compE (gTupD 2 (gsCons (putB 6) (gsCons (putB 7) gsNil))) (yNot (xBool (xCall anyA (xsCons (xVar 7) xsNil)))) (xPure (xVar 6)) [ow R0, ow C0, a2, a3, a4, a5, none, none, a8, a9, a10, a11, a12] (L.map (itD w C)) = some ((L.filter (fin w C)).map inkD) := by
  refine comp_map _ _ _ _ fun x hx => ⟨[ow R0, ow C0, a2, a3, a4, a5, some (.bor, inkD x), some (.bor, nD (leftN w C x)), a8, a9, a10, a11, a12], ?_, ?_, fun _ => ?_⟩
  · unfold itD
    generalize inkD x = X at *
    generalize nD (leftN w C x) = l at *
    simp
  · have an : anyA [nD (leftN w C x)] = some (.bl (!fin w C x)) := by
      rw [nD_eq]
      show (toInts (intsN (leftN w C x))).map _ = _
      rw [toInts_n, Option.map_some]
      congr 2
      rw [Bool.eq_iff_iff, List.any_eq_true, Bool.not_eq_true', ← Bool.not_eq_true, fin_iff]
      constructor
      · rintro ⟨z, hz, ne⟩ e
        obtain ⟨a, ha, rfl⟩ := List.mem_map.mp hz
        obtain ⟨k, hk, rfl⟩ := List.mem_map.mp ha
        have := e k (List.mem_range.mp hk)
        rw [this, Nat.sub_self] at ne
        cases ne
      · intro ne
        apply Classical.byContradiction
        intro no
        refine ne fun k hk => ?_
        apply Classical.byContradiction
        intro z
        have := hL x hx k hk
        refine no ⟨((C.getD k 0 - colN (k : Int) x : Nat) : Int), List.mem_map.mpr ⟨_, List.mem_map.mpr ⟨k, List.mem_range.mpr hk, rfl⟩, rfl⟩, ?_⟩
        rw [bne_iff_ne]
        omega
    generalize inkD x = X at *
    generalize nD (leftN w C x) = l at *
    generalize fin w C x = b at *
    simp [an]
  · have pi := pure_ink x
    generalize inkD x = X at *
    generalize nD (leftN w C x) = l at *
    simp [pi]
theorem all_pictures_ok (f : Fit R C h w) : F_all_pictures [nD R, nD C] = some (inksD (srtK (lawF w h R C))) := by
  have hh := f.h1
  have hw := f.w1
  have rr := f.rR
  have fA := ev_foldI (gx := gTupD 2 (gsCons (put 3) (gsCons (put 4) gsNil))) (b := P_all_pictures3b) (fun i : Nat => D.tup [.int (i : Int), .int ((R[i]?.getD 0 : Nat) : Int)]) (fun L => apE (nD R) (nD C) (ow (itsD w C L)) none none none none none none none) (fun L i => nextP w h (R.getD i 0) C i L) (fun j L => L = progL w h R C j) (List.range h) [[]] rfl fun j i L ej hm => by
    have hj := getElem?_lt ej
    rw [List.length_range] at hj
    rw [List.getElem?_range hj] at ej
    cases ej
    subst hm
    have ll := progL_len (h := h) (C := C) hw.2 rr j
    have l2 := progL_len (h := h) (C := C) hw.2 rr (j + 1)
    have p1 : 6 ^ j ≤ 6 ^ 4 := Nat.pow_le_pow_right (by omega) (by omega)
    have p2 : 6 ^ (j + 1) ≤ 6 ^ 4 := Nat.pow_le_pow_right (by omega) (by omega)
    have e : progL w h R C (j + 1) = nextP w h (R.getD j 0) C j (progL w h R C j) := rfl
    rw [e] at l2
    refine ⟨rfl, rfl, apE (nD R) (nD C) (ow (itsD w C (progL w h R C j))) (ow (.int (j : Int))) (ow (.int ((R.getD j 0 : Nat) : Int))) none none none none none, ?_, .inl ((row_ok f.hR f.hC hj hh.2 hw.2 (rr j) (fun x hx => ⟨?_, ?_⟩) (by omega) (by omega)).less ?_)⟩
    · rw [← List.getD_eq_getElem?_getD]
      generalize R.getD j 0 = z at *
      generalize itsD w C (progL w h R C j) = L0 at *
      generalize nD R = R0 at *
      generalize nD C = C0 at *
      simp
    · have := pre_len (mem_progL.mp hx).1
      have : j * w ≤ 4 * 4 := Nat.mul_le_mul (by omega) hw.2
      omega
    · exact (mem_progL.mp hx).1.cols
    · generalize itsD w C (nextP w h (R.getD j 0) C j (progL w h R C j)) = L0 at *
      generalize nD R = R0 at *
      generalize nD C = C0 at *
      simp [isPin]
  have fe : (List.range h).foldl (fun L i => nextP w h (R.getD i 0) C i L) [[]] = progL w h R C h := by
    have := foldI_keep (fun L i => nextP w h (R.getD i 0) C i L) (fun j L => L = progL w h R C j) (List.range h) [[]] rfl fun j i L ej hm => by
      have hj := getElem?_lt ej
      rw [List.length_range] at hj
      rw [List.getElem?_range hj] at ej
      cases ej
      subst hm
      rfl
    rw [List.length_range] at this
    exact this
  rw [fe] at fA
  have nb := need_both_ok f
  have en : enumF 0 (intsN R) = (List.range R.length).map fun i : Nat => D.tup [.int (i : Int), .int ((R[i]?.getD 0 : Nat) : Int)] := enumF_map (fun n : Nat => D.int (n : Int)) R
  rw [f.hR] at en
  have it : itemsOf (nD R) = some (intsN R) := by rw [nD_eq]; rfl
  have pR := pu_nD R
  have pC := pu_nD C
  have e1 : D.tup [.tup [], nD C] = itD w C [] := by
    unfold itD
    have : leftN w C [] = C := by
      unfold leftN
      rw [← f.hC]
      conv => rhs; rw [← range_getD C]
      rfl
    rw [this]
    rfl
  have de := done_ok (L := progL w h R C h) (C := C) (w := w) (a2 := ow (itsD w C (progL w h R C h))) (a3 := none) (a4 := none) (a5 := none) (a8 := none) (a9 := none) (a10 := none) (a11 := none) (a12 := none) (R0 := nD R) (C0 := nD C) fun x hx => (mem_progL.mp hx).1.cols
  have lf := progF_len (C := C) hw.2 hh rr
  unfold progF at lf
  have zl : (((progL w h R C h).filter (fin w C)).map inkD).length ≤ sizeLine := by rw [List.length_map, size_eq]; omega
  have sb := sortedB_inks (lawF_kind f (L := progF w h R C) (List.Pairwise.filter _ (progL_nodup hw.2 rr h)) fun x hx => mem_progF.mp hx)
  rw [one_srt hw.2 rr] at sb
  unfold progF at sb
  have dl : lenD [inksD (srtK (lawF w h R C))] = some (.int ((srtK (lawF w h R C)).length : Nat)) := by
    show some (D.int _) = _
    rw [List.length_map]
  have dz : (srtK (lawF w h R C)).length ≤ 216 := by
    rw [← one_srt hw.2 rr, srtK_len]
    exact lf
  refine ev_fn (f.env N_all_pictures 11 rfl) ?_ (ρ1 := [ow (nD R), ow (nD C), ow (itsD w C (progL w h R C h)), none, none, none, none, none, none, none, none, none, none])
  show Ev _ [ow (nD R), ow (nD C), none, none, none, none, none, none, none, none, none, none, none] _
  rw [eq_all_pictures]
  unfold P_all_pictures P_all_pictures3
  refine Ev.seq (ρ1 := [ow (nD R), ow (nD C), none, none, none, none, none, none, none, none, none, none, none]) (Ev.of ?_) (Ev.seq (ρ1 := apE (nD R) (nD C) (ow (itsD w C [[]])) none none none none none none none) (Ev.of ?_) (Ev.seq (Ev.for ?_ fA) (Ev.seq (ρ1 := [ow (nD R), ow (nD C), ow (itsD w C (progL w h R C h)), none, none, none, none, none, none, none, ow (inksD (srtK (lawF w h R C))), none, none]) (Ev.of ?_) (Ev.seq (ρ1 := [ow (nD R), ow (nD C), ow (itsD w C (progL w h R C h)), none, none, none, none, none, none, none, ow (inksD (srtK (lawF w h R C))), none, none]) (Ev.of ?_) (Ev.ret ?_)))))
  · generalize nD R = R0 at *
    generalize nD C = C0 at *
    unfold P_all_pictures1
    simp [nb]
  · have e2 : itsD w C [[]] = .lst [.tup [.tup [], nD C]] := by
      unfold itsD
      rw [e1]
      rfl
    rw [e2]
    clear e1 e2 fA fe
    generalize nD R = R0 at *
    generalize nD C = C0 at *
    unfold P_all_pictures2
    simp [-e_put, e_put', if_size, pC]
  · rw [← en]
    clear fA fe e1
    generalize itsD w C [[]] = L0 at *
    generalize intsN R = I at *
    generalize nD R = R0 at *
    generalize nD C = C0 at *
    simp [it, pR]
  · clear fA fe e1
    unfold itsD at de ⊢
    unfold inksD
    generalize ((progL w h R C h).filter (fin w C)).map inkD = F at *
    generalize (srtK (lawF w h R C)).map inkD = S at *
    generalize (progL w h R C h).map (itD w C) = L0 at *
    generalize nD R = R0 at *
    generalize nD C = C0 at *
    unfold P_all_pictures4
    simp [-e_put, e_put', de, zl, sb]
  · have q : ¬ ((500 : Int) < ((srtK (lawF w h R C)).length : Int)) := by omega
    clear fA fe e1
    generalize (srtK (lawF w h R C)).length = z at *
    generalize inksD (srtK (lawF w h R C)) = S at *
    generalize itsD w C (progL w h R C h) = L0 at *
    generalize nD R = R0 at *
    generalize nD C = C0 at *
    unfold P_all_pictures5
    simp [dl, q]
  · clear fA fe e1
    generalize inksD (srtK (lawF w h R C)) = S at *
    generalize itsD w C (progL w h R C h) = L0 at *
    generalize nD R = R0 at *
    generalize nD C = C0 at *
    simp
end K51
namespace K51
open PySem PySem.Spec L2 DL DL.C
variable {R C : List Nat} {w h i n : Nat}
/-! ### the picture by the most first -/
theorem sortedB_cells (cs : List Cell) : sortedB [.lst (cs.map cellD)] = some (.lst ((srt cs).map cellD)) := by
  have e := sortedA_l cs
  match cs, e with
  | [], e => exact e
  | [c], e =>
    rw [show srt [c] = [c] from List.mergeSort_singleton _]
    have so := sortOk_IT (isIT_cells [c])
    unfold sortOk alikes at so
    simp only [Bool.and_eq_true, List.all_eq_true, decide_eq_true_eq, List.map_cons, List.map_nil, List.mem_singleton, forall_eq] at so
    obtain ⟨⟨⟨s1, s2⟩, _⟩, s4⟩ := so
    have pl : plain (cellD c) = true := rfl
    show (if plain (cellD c) && PySem.W.alike (py (cellD c)) (py (cellD c)) && decide ((py (cellD c)).depth ≤ 60) && (py (cellD c)).canLay0 && !isNon (cellD c) then some (D.lst [cellD c]) else none) = _
    rw [pl, s2, decide_eq_true s4.1, s4.2]
    rfl
  | _ :: _ :: _, e => exact e
theorem nodup_neg {l : List (Nat × Nat)} (nd : l.Nodup) : sortedB [.lst ((l.map negP).map cellD)] = some (.lst (((srtG l).map negP).map cellD)) := by
  rw [sortedB_cells, srt_negP nd]
theorem idxG_D (l : List Nat) : ((idxG 0 l).map negP).map cellD = (List.range l.length).map fun j : Nat => D.tup [.int (-((l.getD j 0 : Nat) : Int)), .int (j : Int)] := by
  rw [idxG_eq, List.map_map, List.map_map]
  rfl
abbrev poE (R C l fd : D) (s r o m c : Slt) : DL.Env := [ow R, ow C, ow l, ow fd, s, r, o, m, c]
theorem order_ok {left : List Nat} {R0 C0 fd : D} {s r o : Slt} (hl : left.length ≤ 1000) (po : isPin o = false) : Ev P_picture_of3b1 (poE R0 C0 (.lst (intsN left)) fd s r o none none) (.nx (poE R0 C0 (.lst (intsN left)) fd s r (ow (.lst (((srtG (idxG 0 left)).map negP).map cellD))) none none)) := by
  have so := nodup_neg (idxG_nodup left)
  have c : compE (putB 8) yYes (xTup (xsCons (xNeg (xOp ixD (xVar 2) (xVar 8))) (xsCons (xPure (xVar 8)) xsNil))) (poE R0 C0 (.lst (intsN left)) fd s r o none none) (rng 0 (left.length : Int)) = some (((idxG 0 left).map negP).map cellD) := by
    rw [rng_len, idxG_D]
    refine comp_all _ _ _ fun k hk => ⟨[ow R0, ow C0, ow (.lst (intsN left)), ow fd, s, r, o, none, some (.bor, .int (k : Int))], ?_, rfl, ?_⟩
    · generalize intsN left = L at *
      simp
    · have hk := List.mem_range.mp hk
      have ix : ixD (.lst (intsN left)) (.int (k : Int)) = some (.int ((left.getD k 0 : Nat) : Int)) := by
        have := ix_nD (R := left) hk
        rw [nD_eq] at this
        exact this
      generalize left.getD k 0 = z at *
      generalize intsN left = L at *
      simp only [e_tup, e_cons, e_nil, e_neg, e_op, e_var, e_pure, List.getElem?_cons_succ, List.getElem?_cons_zero, Option.bind_some, Option.map_some, ix, pu_int, if_true]
      simp (disch := omega) [oNeg, if_size]
  have zl : (((idxG 0 left).map negP).map cellD).length ≤ sizeLine := by
    rw [List.length_map, List.length_map, idxG_len, size_eq]
    omega
  have ll : lenD [.lst (intsN left)] = some (.int (left.length : Int)) := by
    show some (D.int _) = _
    rw [List.length_map]
  refine Ev.of ?_
  generalize ((srtG (idxG 0 left)).map negP).map cellD = S at *
  generalize ((idxG 0 left).map negP).map cellD = I at *
  generalize intsN left = L at *
  unfold P_picture_of3b1
  simp (disch := omega) [-e_put, e_put', ll, v_rng1, c, zl, so, po]
theorem less_set {left : List Nat} {ps : List Nat} {k : Nat} (hk : k < left.length) (hn : k ∉ ps) (h0 : 0 < left.getD k 0) : (intsN (lessG ps left)).set k (.int (((left.getD k 0 : Nat) : Int) - 1)) = intsN (lessG (ps ++ [k]) left) := by
  have hl1 := lessG_len ps left
  have hl2 := lessG_len (ps ++ [k]) left
  have at' : ∀ {qs : List Nat} {j : Nat}, j < left.length → (lessG qs left)[j]? = some (if j ∈ qs then left.getD j 0 - 1 else left.getD j 0) := fun {qs j} hj => by
    have := lessG_at (ps := qs) hj
    rw [List.getD_eq_getElem?_getD, List.getElem?_eq_getElem (by rw [lessG_len]; exact hj)] at this
    rw [List.getElem?_eq_getElem (by rw [lessG_len]; exact hj)]
    exact congrArg some this
  apply List.ext_getElem?
  intro j
  by_cases hj : j < left.length
  · rw [List.getElem?_set, List.getElem?_map, List.getElem?_map, at' hj, at' hj]
    by_cases q : k = j
    · subst q
      rw [if_pos rfl, if_pos (by rw [List.length_map, hl1]; exact hj), if_pos (by simp)]
      show some _ = some _
      congr 2
      omega
    · rw [if_neg q]
      have m : j ∈ ps ++ [k] ↔ j ∈ ps := by
        rw [List.mem_append, List.mem_singleton]
        exact ⟨fun h => h.resolve_right fun e => q e.symm, .inl⟩
      simp only [m]
  · rw [List.getElem?_eq_none (by rw [List.length_set, List.length_map]; omega), List.getElem?_eq_none (by rw [List.length_map]; omega)]
theorem pick_ok {left : List Nat} {p : Nat × Nat} {fd : List Cell} {R0 C0 : D} {s o : Slt} (hr : p.1 ≤ left.length) (hl : left.length ≤ 100) (h0 : ∀ c ∈ pickG left p.1, 0 < left.getD c 0) (hf : fd.length ≤ 1000) :
    Ev P_picture_of3b2 (poE R0 C0 (.lst (intsN left)) (.lst (fd.map cellD)) (ow (.int (-(p.1 : Int)))) (ow (.int (p.2 : Int))) (ow (.lst (((srtG (idxG 0 left)).map negP).map cellD))) none none) (.nx (poE R0 C0 (.lst (intsN (lessG (pickG left p.1) left))) (.lst ((fd ++ rowC p.2 (pickG left p.1)).map cellD)) (ow (.int (-(p.1 : Int)))) (ow (.int (p.2 : Int))) (ow (.lst (((srtG (idxG 0 left)).map negP).map cellD))) none none)) := by
  have pl := pickG_len hr
  have nd := pickG_nodup left p.1
  have ep : pickG left p.1 = ((srtG (idxG 0 left)).take p.1).map (·.2) := rfl
  obtain ⟨s', e, fA⟩ := ev_ex (gx := gTupD 2 (gsCons (put 7) (gsCons (put 8) gsNil))) (b := P_picture_of3b2b) (fun q : Nat × Nat => cellD (negP q)) (fun s : List Nat × List Cell => poE R0 C0 (.lst (intsN s.1)) (.lst (s.2.map cellD)) (ow (.int (-(p.1 : Int)))) (ow (.int (p.2 : Int))) (ow (.lst (((srtG (idxG 0 left)).map negP).map cellD))) none none)
    (fun j s => s = (lessG ((pickG left p.1).take j) left, fd ++ rowC p.2 ((pickG left p.1).take j))) ((srtG (idxG 0 left)).take p.1) 0 (left, fd) (by
      show (left, fd) = _
      rw [List.take_zero]
      have : lessG [] left = left := by
        unfold lessG
        simp only [List.contains_nil, Bool.false_eq_true, if_false]
        rw [idxG_eq, List.map_map]
        exact range_getD left
      rw [this]
      unfold rowC
      simp) fun j q s ej es => by
    rw [Nat.zero_add] at es ⊢
    subst es
    have hj := getElem?_lt ej
    have ek : (pickG left p.1)[j]? = some q.2 := by rw [ep, List.getElem?_map, ej]; rfl
    have hjp : j < (pickG left p.1).length := getElem?_lt ek
    have mk : q.2 ∈ pickG left p.1 := List.mem_of_getElem? ek
    have hk := pickG_lt mk
    have hp := h0 _ mk
    have hn : q.2 ∉ (pickG left p.1).take j := fun m => by
      have nd' := nd
      rw [← List.take_append_drop j (pickG left p.1), List.nodup_append] at nd'
      refine nd'.2.2 _ m q.2 ?_ rfl
      rw [List.mem_iff_getElem?]
      exact ⟨0, by rw [List.getElem?_drop, Nat.add_zero]; exact ek⟩
    have et : (pickG left p.1).take (j + 1) = (pickG left p.1).take j ++ [q.2] := by rw [List.take_add_one, ek]; rfl
    have ss := less_set hk hn hp
    have gv : (lessG ((pickG left p.1).take j) left).getD q.2 0 = left.getD q.2 0 := by rw [lessG_at hk, if_neg hn]
    have ll := lessG_len ((pickG left p.1).take j) left
    have g1 : getLD (.lst (intsN (lessG ((pickG left p.1).take j) left))) (.int (q.2 : Int)) = some (.int ((left.getD q.2 0 : Nat) : Int)) := getLD_ok (by
      rw [List.getElem?_map, List.getElem?_eq_getElem (by omega), Option.map_some]
      rw [List.getD_eq_getElem?_getD, List.getElem?_eq_getElem (by omega)] at gv
      exact congrArg (fun z : Nat => some (D.int (z : Int))) gv)
    have s1 : setL (.lst (intsN (lessG ((pickG left p.1).take j) left))) (.int (q.2 : Int)) (.int (((left.getD q.2 0 : Nat) : Int) - 1)) = some (.lst (intsN (lessG ((pickG left p.1).take j ++ [q.2]) left))) := by
      rw [setL_ok (pures_n _) rfl (by rw [List.length_map, ll]; exact hk), ss]
    have o1 : ∀ x y : Int, o2 (fun _ _ => true) (fun i j => i - j) (.int x) (.int y) = some (.int (x - y)) := fun _ _ => rfl
    have fe : (fd ++ rowC p.2 ((pickG left p.1).take j ++ [q.2])).map cellD = (fd ++ rowC p.2 ((pickG left p.1).take j)).map cellD ++ [D.tup [.int (p.2 : Int), .int (q.2 : Int)]] := by
      unfold rowC
      simp [cellD]
    have zl : ((fd ++ rowC p.2 ((pickG left p.1).take j)).map cellD).length < sizeLine := by
      unfold rowC
      rw [List.length_map, List.length_append, List.length_map, List.length_take, size_eq]
      omega
    refine ⟨rfl, poE R0 C0 (.lst (intsN (lessG ((pickG left p.1).take j) left))) (.lst ((fd ++ rowC p.2 ((pickG left p.1).take j)).map cellD)) (ow (.int (-(p.1 : Int)))) (ow (.int (p.2 : Int))) (ow (.lst (((srtG (idxG 0 left)).map negP).map cellD))) (ow (.int (-(q.1 : Int)))) (ow (.int (q.2 : Int))), (lessG ((pickG left p.1).take (j + 1)) left, fd ++ rowC p.2 ((pickG left p.1).take (j + 1))), ?_, rfl, .inl (Ev.mk (o' := .nx (poE R0 C0 (.lst (intsN (lessG ((pickG left p.1).take j ++ [q.2]) left))) (.lst ((fd ++ rowC p.2 ((pickG left p.1).take j ++ [q.2])).map cellD)) (ow (.int (-(p.1 : Int)))) (ow (.int (p.2 : Int))) (ow (.lst (((srtG (idxG 0 left)).map negP).map cellD))) (ow (.int (-(q.1 : Int)))) (ow (.int (q.2 : Int))))) ?_ ?_)⟩
    · generalize ((srtG (idxG 0 left)).map negP).map cellD = S at *
      generalize (fd ++ rowC p.2 ((pickG left p.1).take j)).map cellD = F at *
      generalize intsN (lessG ((pickG left p.1).take j) left) = I at *
      simp [cellD]
    · rw [fe]
      clear fe et
      generalize ((srtG (idxG 0 left)).map negP).map cellD = S at *
      generalize (fd ++ rowC p.2 ((pickG left p.1).take j)).map cellD = F at *
      generalize intsN (lessG ((pickG left p.1).take j ++ [q.2]) left) = I1 at *
      generalize intsN (lessG ((pickG left p.1).take j) left) = I at *
      generalize ((left.getD q.2 0 : Nat) : Int) = z at *
      unfold P_picture_of3b2b P_picture_of3b2b1 P_picture_of3b2b2
      simp [g1, o1, s1, zl, isL, if_size]
    · rw [et]
      clear fe et
      generalize ((srtG (idxG 0 left)).map negP).map cellD = S at *
      generalize (fd ++ rowC p.2 ((pickG left p.1).take j ++ [q.2])).map cellD = F at *
      generalize intsN (lessG ((pickG left p.1).take j ++ [q.2]) left) = I1 at *
      simp [isPin]
  rw [Nat.zero_add, List.length_take, (srtG_perm _).length_eq, idxG_len, Nat.min_eq_left hr] at e
  rw [List.take_of_length_le (by omega)] at e
  rw [e] at fA
  have cu : cutD (.lst (((srtG (idxG 0 left)).map negP).map cellD)) none (some (p.1 : Int)) = some (.lst (((srtG (idxG 0 left)).take p.1).map fun q : Nat × Nat => cellD (negP q))) := by
    show (if pures _ = true then _ else _) = _
    rw [if_pos (pures_cells _)]
    unfold cutL
    rw [HT.sIx_nat, HT.sIx_none, List.length_map, List.length_map, (srtG_perm _).length_eq, idxG_len, List.drop_zero, Nat.sub_zero, Nat.min_eq_left hr, List.map_map, ← List.map_take]
    rfl
  unfold P_picture_of3b2
  refine Ev.for ?_ fA
  clear fA e
  generalize ((srtG (idxG 0 left)).take p.1).map (fun q : Nat × Nat => cellD (negP q)) = T at *
  generalize ((srtG (idxG 0 left)).map negP).map cellD = S at *
  generalize fd.map cellD = F at *
  generalize intsN left = I at *
  simp [oNeg, cu]
theorem row_len {i : Nat} {ps : List Nat} : (rowC i ps).length = ps.length := by unfold rowC; rw [List.length_map]
theorem picture_of_some (f : Fit R C h w) (c : condG (dn R) C = true) : F_picture_of [nD R, nD C] = some (inkD (srt (runC (ordR R) C))) := by
  have hh := f.h1
  have hw := f.w1
  have rg := run_cond (by rw [f.hR]; exact hh) (by rw [f.hC]; exact hw) c
  have ol : (ordR R).length = h := by
    unfold ordR
    rw [(srtG_perm _).length_eq, idxG_len, f.hR]
  -- the walk's states
  have fA : ∃ s : List Nat × List Cell, s.2 = runC (ordR R) C ∧ EvF (gTupD 2 (gsCons (put 4) (gsCons (put 5) gsNil))) P_picture_of3b ((ordR R).map fun q : Nat × Nat => cellD (negP q)) (poE (nD R) (nD C) (.lst (intsN C)) (.lst []) none none none none none) (.nx (poE (nD R) (nD C) (.lst (intsN s.1)) (.lst (s.2.map cellD)) none none none none none)) := by
    obtain ⟨s, ⟨e1, _, e3, _⟩, fB⟩ := ev_ex (gx := gTupD 2 (gsCons (put 4) (gsCons (put 5) gsNil))) (b := P_picture_of3b) (fun q : Nat × Nat => cellD (negP q)) (fun s : List Nat × List Cell => poE (nD R) (nD C) (.lst (intsN s.1)) (.lst (s.2.map cellD)) none none none none none)
      (fun j s => s.1.length = w ∧ runG (((ordR R).drop j).map (·.1)) s.1 = true ∧ s.2 ++ runC ((ordR R).drop j) s.1 = runC (ordR R) C ∧ s.2.length ≤ j * w) (ordR R) 0 (C, []) ⟨f.hC, rg, rfl, Nat.zero_le _⟩ fun j p s ej ⟨e1, e2, e3, e4⟩ => by
      rw [Nat.zero_add] at e2 e3 e4 ⊢
      obtain ⟨left, fd⟩ := s
      have hj := getElem?_lt ej
      have ed : (ordR R).drop j = p :: (ordR R).drop (j + 1) := by
        rw [List.drop_eq_getElem_cons hj]
        congr 1
        exact Option.some.inj ((List.getElem?_eq_getElem hj).symm.trans ej)
      rw [ed] at e2 e3
      rw [List.map_cons, runG, Bool.and_eq_true, Bool.and_eq_true, List.all_eq_true] at e2
      obtain ⟨⟨g1, g2⟩, g3⟩ := e2
      have g1 := of_decide_eq_true g1
      have e1 : left.length = w := e1
      have e4 : fd.length ≤ j * w := e4
      have jw : j * w ≤ 4 * 4 := Nat.mul_le_mul (by omega) hw.2
      have pk := pick_ok (fd := fd) (R0 := nD R) (C0 := nD C) (s := none) (o := none) g1 (by omega) (fun c hc => of_decide_eq_true (g2 c hc)) (by omega)
      refine ⟨rfl, poE (nD R) (nD C) (.lst (intsN left)) (.lst (fd.map cellD)) (ow (.int (-(p.1 : Int)))) (ow (.int (p.2 : Int))) none none none, (lessG (pickG left p.1) left, fd ++ rowC p.2 (pickG left p.1)), ?_, ⟨?_, g3, ?_, ?_⟩, .inl ?_⟩
      · generalize fd.map cellD = F at *
        generalize intsN left = I at *
        generalize nD R = R0 at *
        generalize nD C = C0 at *
        simp [cellD]
      · show (lessG _ left).length = w
        rw [lessG_len, e1]
      · rw [runC] at e3
        rw [← e3]
        exact List.append_assoc ..
      · show (fd ++ rowC p.2 (pickG left p.1)).length ≤ (j + 1) * w
        rw [List.length_append, row_len, pickG_len g1, Nat.add_mul, Nat.one_mul]
        omega
      · unfold P_picture_of3b
        refine Ev.seq (order_ok (by omega) rfl) (pk.less ?_)
        generalize ((srtG (idxG 0 left)).map negP).map cellD = S at *
        generalize (fd ++ rowC p.2 (pickG left p.1)).map cellD = F1 at *
        generalize intsN (lessG (pickG left p.1) left) = I1 at *
        generalize nD R = R0 at *
        generalize nD C = C0 at *
        simp [isPin]
    refine ⟨s, ?_, fB⟩
    rw [Nat.zero_add, List.drop_length] at e3
    rw [← e3]
    exact (List.append_nil _).symm
  obtain ⟨s, es, fA⟩ := fA
  have fl := first_lack_ok f
  rw [(lack_cond R C).mpr c] at fl
  have la : listA [nD C] = some (.lst (intsN C)) := by
    rw [nD_eq]
    show (if pures (intsN C) = true then _ else _) = _
    rw [if_pos (pures_n _)]
  have en : enumF 0 (intsN R) = (List.range R.length).map fun i : Nat => D.tup [.int (i : Int), .int ((R[i]?.getD 0 : Nat) : Int)] := enumF_map (fun n : Nat => D.int (n : Int)) R
  have it : itemsOf (nD R) = some (intsN R) := by rw [nD_eq]; rfl
  have pR := pu_nD R
  have pC := pu_nD C
  have ce : compE (gTupD 2 (gsCons (putB 5) (gsCons (putB 4) gsNil))) yYes (xTup (xsCons (xNeg (xVar 4)) (xsCons (xPure (xVar 5)) xsNil))) (poE (nD R) (nD C) (.lst (intsN C)) (.lst []) none none none none none) (enumF 0 (intsN R)) = some (((idxG 0 R).map negP).map cellD) := by
    rw [en, idxG_D]
    refine comp_all _ _ _ fun k hk => ⟨[ow (nD R), ow (nD C), ow (.lst (intsN C)), ow (.lst []), some (.bor, .int ((R[k]?.getD 0 : Nat) : Int)), some (.bor, .int (k : Int)), none, none, none], ?_, rfl, ?_⟩
    · generalize R[k]?.getD 0 = z at *
      generalize intsN C = I at *
      generalize nD R = R0 at *
      generalize nD C = C0 at *
      simp
    · rw [List.getD_eq_getElem?_getD]
      generalize R[k]?.getD 0 = z at *
      generalize intsN C = I at *
      generalize nD R = R0 at *
      generalize nD C = C0 at *
      simp [oNeg, if_size]
  have zl : (((idxG 0 R).map negP).map cellD).length ≤ sizeLine := by
    rw [List.length_map, List.length_map, idxG_len, f.hR, size_eq]
    omega
  have so := nodup_neg (idxG_nodup R)
  have se : ((srtG (idxG 0 R)).map negP).map cellD = (ordR R).map fun q : Nat × Nat => cellD (negP q) := by
    rw [List.map_map]
    rfl
  rw [se] at so
  have sb := sortedB_cells s.2
  have tp : tupleD [.lst ((srt s.2).map cellD)] = some (inkD (srt s.2)) := by
    show (if pures _ = true then _ else _) = _
    rw [if_pos (pures_cells _)]
    rfl
  rw [← es]
  refine ev_fn (f.env N_picture_of 7 rfl) ?_ (ρ1 := poE (nD R) (nD C) (.lst (intsN s.1)) (.lst (s.2.map cellD)) none none none none none)
  show Ev _ [ow (nD R), ow (nD C), none, none, none, none, none, none, none] _
  rw [eq_picture_of]
  unfold P_picture_of P_picture_of3
  refine Ev.seq (ρ1 := [ow (nD R), ow (nD C), none, none, none, none, none, none, none]) (Ev.of ?_) (Ev.seq (ρ1 := poE (nD R) (nD C) (.lst (intsN C)) (.lst []) none none none none none) (Ev.of ?_) (Ev.seq (Ev.for ?_ fA) ?_))
  · clear fA
    generalize nD R = R0 at *
    generalize nD C = C0 at *
    unfold P_picture_of1
    simp [fl, DL.isNon]
  · clear fA ce
    generalize intsN C = I at *
    generalize nD R = R0 at *
    generalize nD C = C0 at *
    unfold P_picture_of2
    simp [-e_put, e_put', la, if_size]
  · clear fA en
    generalize ((ordR R).map fun q : Nat × Nat => cellD (negP q)) = O at *
    generalize ((idxG 0 R).map negP).map cellD = I0 at *
    generalize intsN R = I1 at *
    generalize intsN C = I at *
    generalize nD R = R0 at *
    generalize nD C = C0 at *
    simp [it, pR, ce, zl, so]
  · unfold P_picture_of4
    refine Ev.retP ?_
    clear fA ce
    generalize inkD (srt s.2) = X at *
    generalize (srt s.2).map cellD = X1 at *
    generalize s.2.map cellD = X0 at *
    generalize intsN s.1 = I at *
    generalize nD R = R0 at *
    generalize nD C = C0 at *
    simp [sb, tp]
theorem picture_of_none (f : Fit R C h w) (c : ¬ condG (dn R) C = true) : F_picture_of [nD R, nD C] = some .non := by
  have fl := first_lack_ok f
  have nn : DL.isNon (lackD R C) = false := by
    cases e : DL.isNon (lackD R C) with
    | false => rfl
    | true =>
      refine absurd ((lack_cond R C).mp ?_) c
      cases z : lackD R C with
      | non => rfl
      | _ => rw [z] at e; cases e
  refine ev_fn (f.env N_picture_of 7 rfl) ?_ (ρ1 := [ow (nD R), ow (nD C), none, none, none, none, none, none, none])
  show Ev _ [ow (nD R), ow (nD C), none, none, none, none, none, none, none] _
  rw [eq_picture_of]
  unfold P_picture_of
  refine Ev.rt (Ev.of ?_)
  generalize lackD R C = L at *
  generalize nD R = R0 at *
  generalize nD C = C0 at *
  unfold P_picture_of1
  simp [fl, nn]
end K51
namespace K51
open PySem PySem.Spec L2 DL DL.C
variable {R C : List Nat} {w h i n : Nat} {ns : List Int}
abbrev lwE (N row t hh ww R C due fd lk : D) (x10 x11 x12 : Slt) : DL.Env := [ow N, ow row, ow t, ow hh, ow ww, ow R, ow C, ow due, ow fd, ow lk, x10, x11, x12, none]
theorem alk_inks {L : List (List Cell)} (hl : L.length ≤ 1000000) (hx : ∀ x ∈ L, x.length ≤ 1000000) : alikeR 8 [inksD L, inksD L] = some (.bl true) := by
  refine alk_refl 8 _ ?_
  unfold inksD
  rw [okA_lst, Bool.and_eq_true, decide_eq_true_eq, List.all_eq_true]
  refine ⟨by rw [List.length_map, size_eq]; omega, fun d hd => ?_⟩
  obtain ⟨x, hm, rfl⟩ := List.mem_map.mp hd
  have := hx x hm
  unfold inkD
  rw [okA_tup, Bool.and_eq_true, decide_eq_true_eq]
  refine ⟨by rw [List.length_map, size_eq]; omega, ?_⟩
  exact okA_IT (isIT_cells x) fun d hd xs e => by
    obtain ⟨c, _, rfl⟩ := List.mem_map.mp hd
    cases e
    rw [size_eq]
    show 2 ≤ 16777216
    decide
/-- what the law and the program answer, all in one -/
structure Ans (R C : List Nat) (h w : Nat) (due : List (List Cell)) (fd lk : D) : Prop where
  lp : F_law_pictures [nD R, nD C] = some (inksD due)
  po : F_picture_of [nD R, nD C] = some fd
  fl : F_first_lack [nD R, nD C] = some lk
  ap : F_all_pictures [nD R, nD C] = some (inksD due)
  pfd : DL.pure fd = true
  few : due.length ≤ 216 ∧ ∀ x ∈ due, x.length ≤ 1000000
  both : (fd = .non ∧ due = [] ∧ ∃ z : Nat, lk = .int (z : Int) ∧ lk = lackD R C) ∨ (lk = .non ∧ ∃ x, fd = inkD x ∧ x ∈ due ∧ F_sums [inkD x, .int (h : Int), .int (w : Int)] = some (.tup [nD R, nD C]))
theorem lack_int (hn : lackD R C ≠ .non) : ∃ z : Nat, lackD R C = .int (z : Int) := by
  unfold lackD at *
  by_cases q : R.sum = C.sum
  · rw [if_pos q] at *
    cases e : (List.range R.length).findSome? (lackF R C) with
    | none => rw [e] at hn; exact absurd rfl hn
    | some d =>
      obtain ⟨t, _, e2⟩ := List.exists_of_findSome?_eq_some e
      unfold lackF at e2
      split at e2
      · cases e2
        exact ⟨t + 1, rfl⟩
      · cases e2
  · rw [if_neg q]
    exact ⟨0, rfl⟩
theorem ans (f : Fit R C h w) : ∃ due fd lk, Ans R C h w due fd lk := by
  have hh := f.h1
  have hw := f.w1
  have lf := progF_len (C := C) hw.2 hh f.rR
  have dl : (srtK (lawF w h R C)).length ≤ 216 := by
    rw [← one_srt hw.2 f.rR, srtK_len]
    exact lf
  have dm : ∀ x ∈ srtK (lawF w h R C), Pic w h R C x := fun x hx => (mem_lawF hw.2).mp (srtK_mem.mp hx)
  have dx : ∀ x ∈ srtK (lawF w h R C), x.length ≤ 1000000 := fun x hx => by
    have := pre_len (dm x hx).1
    have : h * w ≤ 4 * 4 := Nat.mul_le_mul hh.2 hw.2
    omega
  have ci := cond_iff (R := R) (C := C) (by rw [f.hR]; exact hh) (by rw [f.hC]; exact hw)
  rw [f.hR, f.hC] at ci
  by_cases c : condG (dn R) C = true
  · have rp := run_pic (run_cond (by rw [f.hR]; exact hh) (by rw [f.hC]; exact hw) c)
    rw [f.hR, f.hC] at rp
    refine ⟨srtK (lawF w h R C), inkD (srt (runC (ordR R) C)), .non, law_pictures_ok f, picture_of_some f c, by rw [first_lack_ok f, (lack_cond R C).mpr c], all_pictures_ok f, pure_ink _, ⟨dl, dx⟩, .inr ⟨rfl, _, rfl, srtK_mem.mpr ((mem_lawF hw.2).mpr rp), ?_⟩⟩
    have so := DL.C.sums_ok (cs := srt (runC (ordR R) C)) (i := h) (w := w) ⟨pre_len rp.1, rp.1.row, rp.1.col, rp.1.srt⟩ (by omega) (by omega)
    rw [cl_w, cl_w] at so
    have er : ((List.range h).map fun k => cntF (·.1) k (srt (runC (ordR R) C))) = R := by
      conv => rhs; rw [← range_getD R, f.hR]
      exact List.map_congr_left fun k hk => rp.1.rows k (List.mem_range.mp hk)
    have ec : ((List.range w).map fun k => cntF (·.2) k (srt (runC (ordR R) C))) = C := by
      conv => rhs; rw [← range_getD C, f.hC]
      exact List.map_congr_left fun k hk => rp.2 k (List.mem_range.mp hk)
    rw [er, ec] at so
    exact so
  · have e0 : lawF w h R C = [] := Classical.byContradiction fun ne => c (ci.mpr ne)
    have ln : lackD R C ≠ .non := fun e => c ((lack_cond R C).mp e)
    obtain ⟨z, ez⟩ := lack_int ln
    refine ⟨srtK (lawF w h R C), .non, lackD R C, law_pictures_ok f, picture_of_none f c, first_lack_ok f, all_pictures_ok f, rfl, ⟨dl, dx⟩, .inl ⟨rfl, ?_, z, ez, rfl⟩⟩
    rw [e0]
    exact List.mergeSort_nil ..
/-- the first of those that lack -/
def toldN (R C : List Nat) (j : Nat) : List Nat := ((List.range j).filter fun t => lackB R C (t + 1)).map (· + 1)
theorem told_first (R C : List Nat) {z : Nat} (q : R.sum = C.sum) (e : lackD R C = .int (z : Int)) : (toldN R C R.length)[0]? = some z := by
  unfold lackD at e
  rw [if_pos q] at e
  unfold toldN
  have : ∀ l : List Nat, ((l.findSome? (lackF R C)).getD .non = .int (z : Int)) → ((l.filter fun t => lackB R C (t + 1)).map (· + 1))[0]? = some z := fun l => by
    induction l with
    | nil => intro e; cases e
    | cons a l ih =>
      intro e
      rw [List.findSome?_cons] at e
      by_cases b : lackB R C (a + 1) = true
      · rw [List.filter_cons_of_pos (p := fun t => lackB R C (t + 1)) b]
        have : lackF R C a = some (.int ((a + 1 : Nat) : Int)) := by unfold lackF; rw [if_pos b]
        rw [this] at e
        have e : D.int ((a + 1 : Nat) : Int) = .int (z : Int) := e
        injection e with e
        show some (a + 1) = some z
        congr 1
        omega
      · rw [List.filter_cons_of_neg (p := fun t => lackB R C (t + 1)) b]
        have : lackF R C a = none := by unfold lackF; rw [if_neg b]
        rw [this] at e
        exact ih e
  exact this _ e
variable {N row t hh ww due fd lk : D}
theorem told_turn (hl : C.length ≤ 1000) {told : List Nat} (ht : told.length ≤ 1000) {k : Nat} : Ev P_law2b7t2b (lwE N row t hh ww (nD R) (nD C) due fd lk (ow (.lst (intsN (dn R)))) (ow (.lst (intsN told))) (ow (.int (k : Int)))) (.nx (lwE N row t hh ww (nD R) (nD C) due fd lk (ow (.lst (intsN (dn R)))) (ow (.lst (intsN (if lackB R C k = true then told ++ [k] else told)))) (ow (.int (k : Int))))) := by
  have c1 := cut_n (R := dn R) (k := k)
  have s1 := sumX_n ((dn R).take k)
  have mi : compE (putB 13) yYes (xCall min2D (xsCons (xVar 12) (xsCons (xVar 13) xsNil))) (lwE N row t hh ww (nD R) (nD C) due fd lk (ow (.lst (intsN (dn R)))) (ow (.lst (intsN told))) (ow (.int (k : Int)))) (intsN C) = some (intsN (C.map fun c => min k c)) := by
    have e : intsN (C.map fun c => min k c) = C.map fun c => D.int ((min k c : Nat) : Int) := List.map_map
    rw [e]
    refine comp_all _ _ _ fun c hc => ⟨[ow N, ow row, ow t, ow hh, ow ww, ow (nD R), ow (nD C), ow due, ow fd, ow lk, ow (.lst (intsN (dn R))), ow (.lst (intsN told)), ow (.int (k : Int)), some (.bor, .int (c : Int))], ?_, rfl, ?_⟩
    · generalize intsN (dn R) = L at *
      generalize intsN told = T at *
      generalize nD R = R0 at *
      generalize nD C = C0 at *
      simp
    · have e : (if (c : Int) < (k : Int) then (c : Int) else (k : Int)) = ((min k c : Nat) : Int) := by
        rcases Nat.lt_or_ge c k with q | q
        · rw [if_pos (by omega), Nat.min_eq_right (by omega)]
        · rw [if_neg (by omega), Nat.min_eq_left q]
      generalize intsN (dn R) = L at *
      generalize intsN told = T at *
      generalize nD R = R0 at *
      generalize nD C = C0 at *
      simp only [e_call, e_cons, e_var, e_nil, List.getElem?_cons_succ, List.getElem?_cons_zero, Option.bind_some, Option.map_some, v_min2, e]
  have s2 := sumD_n (C.map fun c => min k c)
  have it : itemsOf (nD C) = some (intsN C) := by rw [nD_eq]; rfl
  have z : (intsN (C.map fun c => min k c)).length ≤ sizeLine := by rw [List.length_map, List.length_map, size_eq]; omega
  have fe : decide (((C.map fun c => min k c).sum : Int) < (((dn R).take k).sum : Nat)) = lackB R C k := by
    unfold lackB
    generalize (C.map fun c => min k c).sum = a
    generalize ((dn R).take k).sum = b
    by_cases q : a < b
    · rw [decide_eq_true q, decide_eq_true (by omega)]
    · rw [decide_eq_false q, decide_eq_false (by omega)]
  have em : intsN (told ++ [k]) = intsN told ++ [.int (k : Int)] := List.map_append
  have lt : (intsN told).length < sizeLine := by rw [List.length_map, size_eq]; omega
  unfold P_law2b7t2b P_law2b7t2bt
  cases b : lackB R C k with
  | true =>
    rw [b] at fe
    rw [if_pos rfl, em]
    refine Ev.of ?_
    generalize (C.map fun c => min k c).sum = a at *
    generalize ((dn R).take k).sum = b at *
    generalize intsN (C.map fun c => min k c) = M at *
    generalize intsN ((dn R).take k) = T at *
    generalize intsN (dn R) = L at *
    generalize intsN C = I at *
    generalize intsN told = I2 at *
    generalize nD R = R0 at *
    generalize nD C = C0 at *
    have fe := of_decide_eq_true fe
    simp [c1, s1, mi, s2, it, z, fe, isL, lt]
  | false =>
    rw [b] at fe
    rw [if_neg (by decide)]
    refine Ev.of ?_
    generalize (C.map fun c => min k c).sum = a at *
    generalize ((dn R).take k).sum = b at *
    generalize intsN (C.map fun c => min k c) = M at *
    generalize intsN ((dn R).take k) = T at *
    generalize intsN (dn R) = L at *
    generalize intsN C = I at *
    generalize intsN told = I2 at *
    generalize nD R = R0 at *
    generalize nD C = C0 at *
    have fe := of_decide_eq_false fe
    simp [c1, s1, mi, s2, it, z, fe, isL, lt]
theorem told_all (f : Fit R C h w) : Ev P_law2b7t2 (lwE N row t (.int (h : Int)) ww (nD R) (nD C) due fd lk (ow (.lst (intsN (dn R)))) (ow (.lst [])) none) (.nx (lwE N row t (.int (h : Int)) ww (nD R) (nD C) due fd lk (ow (.lst (intsN (dn R)))) (ow (.lst (intsN (toldN R C h)))) none)) := by
  have hh1 := f.h1
  have hw := f.w1
  have hC := f.hC
  obtain ⟨told, e, fA⟩ := ev_ex (gx := put 12) (b := P_law2b7t2b) (fun t : Nat => D.int ((t + 1 : Nat) : Int)) (fun told : List Nat => lwE N row t (.int (h : Int)) ww (nD R) (nD C) due fd lk (ow (.lst (intsN (dn R)))) (ow (.lst (intsN told))) none) (fun j told => told = toldN R C j) (List.range h) 0 [] rfl fun j a told ej e => by
    rw [Nat.zero_add] at e ⊢
    subst e
    have hj := getElem?_lt ej
    rw [List.length_range] at hj
    rw [List.getElem?_range hj] at ej
    cases ej
    have tl : (toldN R C j).length ≤ 1000 := by
      unfold toldN
      have := List.length_filter_le (fun t => lackB R C (t + 1)) (List.range j)
      rw [List.length_range] at this
      rw [List.length_map]
      omega
    have tn : toldN R C (j + 1) = if lackB R C (j + 1) = true then toldN R C j ++ [j + 1] else toldN R C j := by
      unfold toldN
      rw [List.range_succ, List.filter_append]
      by_cases b : lackB R C (j + 1) = true
      · rw [List.filter_cons_of_pos (p := fun t => lackB R C (t + 1)) b, if_pos b, List.map_append]
        rfl
      · rw [List.filter_cons_of_neg (p := fun t => lackB R C (t + 1)) b, if_neg b]
        simp
    have tt := told_turn (N := N) (row := row) (t := t) (hh := .int (h : Int)) (ww := ww) (due := due) (fd := fd) (lk := lk) (R := R) (C := C) (by omega) tl (k := j + 1)
    rw [← tn] at tt
    refine ⟨rfl, lwE N row t (.int (h : Int)) ww (nD R) (nD C) due fd lk (ow (.lst (intsN (dn R)))) (ow (.lst (intsN (toldN R C j)))) (ow (.int ((j + 1 : Nat) : Int))), toldN R C (j + 1), ?_, rfl, .inl (tt.less ?_)⟩
    · generalize intsN (dn R) = L at *
      generalize intsN (toldN R C j) = T at *
      generalize nD R = R0 at *
      generalize nD C = C0 at *
      simp
    · generalize intsN (dn R) = L at *
      generalize intsN (toldN R C (j + 1)) = T at *
      generalize nD R = R0 at *
      generalize nD C = C0 at *
      simp [isPin]
  rw [Nat.zero_add, List.length_range] at e
  subst e
  have rr := rng1n h
  unfold P_law2b7t2
  refine Ev.for ?_ fA
  rw [← rr]
  have z : intsN [] = [] := rfl
  rw [z]
  clear fA
  generalize intsN (dn R) = L at *
  generalize nD R = R0 at *
  generalize nD C = C0 at *
  simp (disch := omega) [v_rng2]
theorem lack_ok (f : Fit R C h w) {z : Nat} (hz : lackD R C = .int (z : Int)) : ∃ x10 x11, isPin x10 = false ∧ isPin x11 = false ∧ Ev P_law2b7 (lwE N row t (.int (h : Int)) ww (nD R) (nD C) due fd (.int (z : Int)) none none none) (.nx (lwE N row t (.int (h : Int)) ww (nD R) (nD C) due fd (.int (z : Int)) x10 x11 none)) := by
  have hh1 := f.h1
  have hR := f.hR
  refine ⟨ow (.lst (intsN (dn R))), ow (.lst (intsN (toldN R C h))), rfl, rfl, ?_⟩
  have so := sortedC_n R
  have re := rev_n (R := R) (by omega)
  have s1 := sumX_nD R
  have s2 := sumX_nD C
  have al : alikeR 8 [.int (z : Int), .int (z : Int)] = some (.bl true) := alk_refl 8 _ rfl
  unfold P_law2b7 P_law2b7t
  refine Ev.ifT (ρ1 := lwE N row t (.int (h : Int)) ww (nD R) (nD C) due fd (.int (z : Int)) none none none) ?_ (Ev.seq (ρ1 := lwE N row t (.int (h : Int)) ww (nD R) (nD C) due fd (.int (z : Int)) (ow (.lst (intsN (dn R)))) (ow (.lst [])) none) (Ev.of ?_) (Ev.seq (told_all f) (Ev.of ?_)))
  · generalize nD R = R0 at *
    generalize nD C = C0 at *
    simp [DL.isNon]
  · generalize intsN (dn R) = L at *
    generalize intsN (R.mergeSort fun a b => decide (a ≤ b)) = L1 at *
    generalize nD R = R0 at *
    generalize nD C = C0 at *
    unfold P_law2b7t1
    simp [-e_put, e_put', so, re]
  · rw [show P_law2b7t3 = _ from by unfold P_law2b7t3; rfl]
    by_cases q : R.sum = C.sum
    · have tf := told_first R C q hz
      rw [hR] at tf
      have ix : atI (intsN (toldN R C h)) 0 = some (.int (z : Int)) := by
        rw [v_at (by omega)]
        show (intsN (toldN R C h))[0]? = _
        rw [List.getElem?_map, tf]
        rfl
      rw [q] at s1
      generalize C.sum = a at *
      generalize intsN (toldN R C h) = T at *
      generalize intsN (dn R) = L at *
      generalize nD R = R0 at *
      generalize nD C = C0 at *
      simp [s1, s2, q_alike, al, ix]
    · have z0 : z = 0 := by
        unfold lackD at hz
        rw [if_neg q] at hz
        injection hz with hz
        omega
      subst z0
      have q' : ¬ ((R.sum : Int) = (C.sum : Int)) := by omega
      generalize C.sum = a at *
      generalize R.sum = b at *
      generalize intsN (toldN R C h) = T at *
      generalize intsN (dn R) = L at *
      generalize nD R = R0 at *
      generalize nD C = C0 at *
      have al : alikeR 8 [.int 0, .int 0] = some (.bl true) := al
      simp [s1, s2, q_alike, al, q']
end K51
namespace K51
open PySem PySem.Spec L2 DL DL.C
variable {R C : List Nat} {w h : Nat} {ns : List Int} {N row t : D}
theorem b5_ok {due : List (List Cell)} {fd lk : D} (a : Ans R C h w due fd lk) : Ev P_law2b5 (lwE N row t (.int (h : Int)) (.int (w : Int)) (nD R) (nD C) (inksD due) fd lk none none none) (.nx (lwE N row t (.int (h : Int)) (.int (w : Int)) (nD R) (nD C) (inksD due) fd lk none none none)) := by
  have e1 : oEq (inksD due) (.lst []) = some (.bl (decide (due = []))) := eq_E enc_ink.lst (by omega) due []
  have e2 : oNe (inksD due) (.lst []) = some (.bl (!decide (due = []))) := ne_E enc_ink.lst (by omega) due []
  refine Ev.of ?_
  rcases a.both with ⟨rfl, rfl, z, rfl, _⟩ | ⟨rfl, x, rfl, hx, _⟩
  · have e1 : oEq (inksD []) (.lst []) = some (.bl true) := e1
    have e2 : oNe (inksD []) (.lst []) = some (.bl false) := e2
    generalize inksD [] = D0 at *
    generalize nD R = R0 at *
    generalize nD C = C0 at *
    unfold P_law2b5
    simp [e1, e2, DL.isNon]
  · have ne : ¬ (due = []) := fun e => by rw [e] at hx; cases hx
    rw [decide_eq_false ne] at e1 e2
    have ni : DL.isNon (inkD x) = false := rfl
    generalize inkD x = X at *
    generalize inksD due = D0 at *
    generalize nD R = R0 at *
    generalize nD C = C0 at *
    unfold P_law2b5
    simp [e1, e2, ni, show DL.isNon .non = true from rfl]
theorem b6_ok {due : List (List Cell)} {fd lk : D} (a : Ans R C h w due fd lk) : Ev P_law2b6 (lwE N row t (.int (h : Int)) (.int (w : Int)) (nD R) (nD C) (inksD due) fd lk none none none) (.nx (lwE N row t (.int (h : Int)) (.int (w : Int)) (nD R) (nD C) (inksD due) fd lk none none none)) := by
  refine Ev.of ?_
  rcases a.both with ⟨rfl, rfl, z, rfl, _⟩ | ⟨rfl, x, rfl, hx, hs⟩
  · generalize inksD [] = D0 at *
    generalize nD R = R0 at *
    generalize nD C = C0 at *
    unfold P_law2b6
    simp [DL.isNon]
  · have ni : DL.isNon (inkD x) = false := rfl
    have nn := nin_lstE enc_ink (by omega) due x
    have nn : oNin (inkD x) (inksD due) = some (.bl false) := by
      refine Eq.trans nn (congrArg (fun b => some (D.bl b)) ?_)
      simp [hx]
    have ee := ne_E enc_ints.tup (by omega) [iL R, iL C] [iL R, iL C]
    rw [decide_eq_true rfl] at ee
    have ee : oNe (.tup [nD R, nD C]) (.tup [nD R, nD C]) = some (.bl false) := ee
    have pR := pu_nD R
    have pC := pu_nD C
    generalize inkD x = X at *
    generalize inksD due = D0 at *
    generalize nD R = R0 at *
    generalize nD C = C0 at *
    unfold P_law2b6
    simp [nn, ni, hs, ee, if_size, pR, pC]
theorem b7_ok (f : Fit R C h w) {due : List (List Cell)} {fd lk : D} (a : Ans R C h w due fd lk) : ∃ x10 x11, isPin x10 = false ∧ isPin x11 = false ∧ Ev P_law2b7 (lwE N row t (.int (h : Int)) (.int (w : Int)) (nD R) (nD C) (inksD due) fd lk none none none) (.nx (lwE N row t (.int (h : Int)) (.int (w : Int)) (nD R) (nD C) (inksD due) fd lk x10 x11 none)) := by
  rcases a.both with ⟨_, _, z, e1, e2⟩ | ⟨rfl, _⟩
  · subst e1
    exact lack_ok f e2.symm
  · refine ⟨none, none, rfl, rfl, Ev.of ?_⟩
    generalize inksD due = D0 at *
    generalize nD R = R0 at *
    generalize nD C = C0 at *
    unfold P_law2b7
    simp [DL.isNon]
theorem turn_ok (r : DL.Row ns row) : ∃ row', DL.Row ns row' ∧ Ev P_law2b [ow N, ow row, ow t, none, none, none, none, none, none, none, none, none, none, none] (.nx [ow N, ow row', none, none, none, none, none, none, none, none, none, none, none, none]) := by
  obtain ⟨v, d1, e1, a1, b1, r1⟩ := taken_ok (m := 4) r (by omega)
  obtain ⟨u, d2, e2, a2, b2, r2⟩ := taken_ok (m := 4) r1 (by omega)
  obtain ⟨v, rfl⟩ := Int.eq_ofNat_of_zero_le a1
  obtain ⟨u, rfl⟩ := Int.eq_ofNat_of_zero_le a2
  obtain ⟨R, C, d3, e3, hR, hC, mR, mC, r3⟩ := any_sums_ok (h := v + 1) (w := u + 1) r2 (by omega) (by omega)
  have f : Fit R C (v + 1) (u + 1) := ⟨hR, hC, by omega, by omega, mR, mC⟩
  obtain ⟨due, fd, lk, a⟩ := ans f
  obtain ⟨x10, x11, p10, p11, v7⟩ := b7_ok (N := N) (row := d3) (t := t) f a
  have c1 : (1 : Int) + (v : Int) = ((v + 1 : Nat) : Int) := by omega
  have c2 : (1 : Int) + (u : Int) = ((u + 1 : Nat) : Int) := by omega
  refine ⟨d3, r3, ?_⟩
  unfold P_law2b
  refine Ev.seq (ρ1 := [ow N, ow d2, ow t, ow (.int ((v + 1 : Nat) : Int)), ow (.int ((u + 1 : Nat) : Int)), none, none, none, none, none, none, none, none, none]) (Ev.of ?_) (Ev.seq (ρ1 := [ow N, ow d3, ow t, ow (.int ((v + 1 : Nat) : Int)), ow (.int ((u + 1 : Nat) : Int)), ow (nD R), ow (nD C), none, none, none, none, none, none, none]) (Ev.of ?_) (Ev.seq (ρ1 := [ow N, ow d3, ow t, ow (.int ((v + 1 : Nat) : Int)), ow (.int ((u + 1 : Nat) : Int)), ow (nD R), ow (nD C), ow (inksD due), none, none, none, none, none, none]) (Ev.of ?_) (Ev.seq (ρ1 := lwE N d3 t (.int ((v + 1 : Nat) : Int)) (.int ((u + 1 : Nat) : Int)) (nD R) (nD C) (inksD due) fd lk none none none) (Ev.of ?_) (Ev.seq (b5_ok a) (Ev.seq (b6_ok a) (Ev.seq v7 (Ev.mk (o' := .nx (lwE N d3 t (.int ((v + 1 : Nat) : Int)) (.int ((u + 1 : Nat) : Int)) (nD R) (nD C) (inksD due) fd lk x10 x11 none)) ?_ ?_)))))))
  · unfold P_law2b1
    simp [-e_put, e_put', -Int.natCast_add, q_taken, e1, e2, c1, c2]
  · unfold P_law2b2
    generalize ((v + 1 : Nat) : Int) = V at *
    generalize ((u + 1 : Nat) : Int) = U at *
    generalize nD R = R0 at *
    generalize nD C = C0 at *
    simp [-e_put, e_put', e3]
  · have lp := a.lp
    unfold P_law2b3
    generalize ((v + 1 : Nat) : Int) = V at *
    generalize ((u + 1 : Nat) : Int) = U at *
    generalize inksD due = D0 at *
    generalize nD R = R0 at *
    generalize nD C = C0 at *
    simp [-e_put, e_put', lp]
  · have po := a.po
    have fl := a.fl
    unfold P_law2b4
    generalize ((v + 1 : Nat) : Int) = V at *
    generalize ((u + 1 : Nat) : Int) = U at *
    generalize inksD due = D0 at *
    generalize nD R = R0 at *
    generalize nD C = C0 at *
    simp [-e_put, e_put', po, fl]
  · have ap := a.ap
    have al := alk_inks (L := due) (by have := a.few.1; omega) a.few.2
    unfold P_law2b8
    generalize ((v + 1 : Nat) : Int) = V at *
    generalize ((u + 1 : Nat) : Int) = U at *
    generalize inksD due = D0 at *
    generalize nD R = R0 at *
    generalize nD C = C0 at *
    simp [ap, q_alike, al]
  · generalize ((v + 1 : Nat) : Int) = V at *
    generalize ((u + 1 : Nat) : Int) = U at *
    generalize inksD due = D0 at *
    generalize nD R = R0 at *
    generalize nD C = C0 at *
    have i1 : ∀ d, isPin (some (Fl.own, d)) = false := fun _ => rfl
    simp [p10, p11, i1]
theorem answers (ns : List Int) (_ : ns.length ≤ 63) : F_law [.frz (ns.map D.int)] = some (.bl true) := by
  have p := pures_ints ns
  have he : env0 N_law [.frz (ns.map D.int)] = [ow (.frz (ns.map D.int)), none, none, none, none, none, none, none, none, none, none, none, none, none] := by
    unfold env0
    rw [List.map_cons, e_arg_frz p]
    rfl
  have r1 := row_start ns 3751
  generalize hN : D.frz (ns.map D.int) = N at *
  have pN : DL.pure N = true := by rw [← hN]; exact p
  obtain ⟨row, r2, f⟩ := ev_ex0 (gx := put 2) (b := P_law2b) (fun k : Nat => D.int (k : Int)) (fun row => [ow N, ow row, none, none, none, none, none, none, none, none, none, none, none, none]) (fun row => DL.Row ns row) (List.range 2) (.lst [N, .int 0, .int 3751, .int 0]) r1 fun k hk row r => by
    obtain ⟨row', r', t⟩ := turn_ok (N := N) (t := .int (k : Int)) r
    exact ⟨rfl, [ow N, ow row, ow (.int (k : Int)), none, none, none, none, none, none, none, none, none, none, none], row', by simp, r', .inl t⟩
  have rr := rng_len 2
  refine ev_fn he ?_ (ρ1 := [ow N, ow row, none, none, none, none, none, none, none, none, none, none, none, none])
  rw [eq_law]
  unfold P_law
  refine Ev.seq (ρ1 := [ow N, ow (.lst [N, .int 0, .int 3751, .int 0]), none, none, none, none, none, none, none, none, none, none, none, none]) (Ev.of ?_) (Ev.seq (ρ1 := [ow N, ow row, none, none, none, none, none, none, none, none, none, none, none, none]) ?_ (Ev.retP ?_))
  · unfold P_law1
    simp (disch := omega) [pN, if_size]
  · unfold P_law2
    refine Ev.for ?_ f
    rw [← rr]
    simp (disch := omega) [v_rng1]
  · simp
end K51
open PySem PySem.W PyProof.Rows
set_option maxHeartbeats 0 in
theorem PySem.Challenge.cw_gridink_k51_whole_pictures_of_sums_holds : PySem.Challenge.rw_gridink_k51_whole_pictures_of_sums.Holds := by
  w_on; o_law; k_head; (case hw => w_witness2)
  k_fill
  refine L2.walk_of (l := PySem.Challenge.rw_gridink_k51_whole_pictures_of_sums) (n := 63) (k := 9) (x := "_law_script") (CX := fun _ => L2.CX0) (sp := fun w => DL.spP _ 1 K51.F_law) rfl (by decide) rfl ⟨rfl, by decide, by decide⟩ (fun w h Y => PySem.W.kIn_of Y) ?F (DL.law_hsp K51.answers) (fun _ _ _ _ _ h => h)
  intro w mg fa h KX G hmg
  refine K51.ok_law ?_ hmg
  constructor
  · refine' DL.mk_def KX G ?qa0 ?ql0 ?qc0 ?qk0 (fun _ _ _ _ _ _ us hl => match us, hl with | [_, _, _], _ => rfl)
    (case qa0 => k_is); (case ql0 => k_is); (case qc0 => k_is); (case qk0 => k_is)
  · refine' DL.mk_def KX G ?qa1 ?ql1 ?qc1 ?qk1 (fun _ _ _ _ _ _ us hl => match us, hl with | [_, _], _ => rfl)
    (case qa1 => k_is); (case ql1 => k_is); (case qc1 => k_is); (case qk1 => k_is)
  · refine' DL.mk_def KX G ?qa2 ?ql2 ?qc2 ?qk2 (fun _ _ _ _ _ _ us hl => match us, hl with | [_, _], _ => rfl)
    (case qa2 => k_is); (case ql2 => k_is); (case qc2 => k_is); (case qk2 => k_is)
  · refine' DL.mk_def KX G ?qa3 ?ql3 ?qc3 ?qk3 (fun _ _ _ _ _ _ us hl => match us, hl with | [_, _, _], _ => rfl)
    (case qa3 => k_is); (case ql3 => k_is); (case qc3 => k_is); (case qk3 => k_is)
  · refine' DL.mk_def KX G ?qa4 ?ql4 ?qc4 ?qk4 (fun _ _ _ _ _ _ us hl => match us, hl with | [_, _, _], _ => rfl)
    (case qa4 => k_is); (case ql4 => k_is); (case qc4 => k_is); (case qk4 => k_is)
  · refine' DL.mk_def KX G ?qa5 ?ql5 ?qc5 ?qk5 (fun _ _ _ _ _ _ us hl => match us, hl with | [_, _], _ => rfl)
    (case qa5 => k_is); (case ql5 => k_is); (case qc5 => k_is); (case qk5 => k_is)
  · refine' DL.mk_def KX G ?qa6 ?ql6 ?qc6 ?qk6 (fun _ _ _ _ _ _ us hl => match us, hl with | [_, _, _], _ => rfl)
    (case qa6 => k_is); (case ql6 => k_is); (case qc6 => k_is); (case qk6 => k_is)
  · refine' DL.mk_def KX G ?qa7 ?ql7 ?qc7 ?qk7 (fun _ _ _ _ _ _ us hl => match us, hl with | [_], _ => rfl)
    (case qa7 => k_is); (case ql7 => k_is); (case qc7 => k_is); (case qk7 => k_is)
  · refine' DL.mk_def KX G ?qa8 ?ql8 ?qc8 ?qk8 (fun _ _ _ _ _ _ us hl => match us, hl with | [_, _, _], _ => rfl)
    (case qa8 => k_is); (case ql8 => k_is); (case qc8 => k_is); (case qk8 => k_is)
  · refine' DL.mk_def KX G ?qa9 ?ql9 ?qc9 ?qk9 (fun _ _ _ _ _ _ us hl => match us, hl with | [_, _], _ => rfl)
    (case qa9 => k_is); (case ql9 => k_is); (case qc9 => k_is); (case qk9 => k_is)
  · refine' DL.mk_def KX G ?qa10 ?ql10 ?qc10 ?qk10 (fun _ _ _ _ _ _ us hl => match us, hl with | [_, _], _ => rfl)
    (case qa10 => k_is); (case ql10 => k_is); (case qc10 => k_is); (case qk10 => k_is)
  · refine' DL.mk_def KX G ?qa11 ?ql11 ?qc11 ?qk11 (fun _ _ _ _ _ _ us hl => match us, hl with | [_, _], _ => rfl)
    (case qa11 => k_is); (case ql11 => k_is); (case qc11 => k_is); (case qk11 => k_is)
  · refine' DL.mk_def KX G ?qa12 ?ql12 ?qc12 ?qk12 (fun _ _ _ _ _ _ us hl => match us, hl with | [_, _], _ => rfl)
    (case qa12 => k_is); (case ql12 => k_is); (case qc12 => k_is); (case qk12 => k_is)
  · refine' DL.mk_def KX G ?qa13 ?ql13 ?qc13 ?qk13 (fun _ _ _ _ _ _ us hl => match us, hl with | [_, _], _ => rfl)
    (case qa13 => k_is); (case ql13 => k_is); (case qc13 => k_is); (case qk13 => k_is)
  · refine' DL.mk_def KX G ?qa14 ?ql14 ?qc14 ?qk14 (fun _ _ _ _ _ _ us hl => match us, hl with | [_, _], _ => rfl)
    (case qa14 => k_is); (case ql14 => k_is); (case qc14 => k_is); (case qk14 => k_is)
  · refine' DL.mk_def KX G ?qa15 ?ql15 ?qc15 ?qk15 (fun _ _ _ _ _ _ us hl => match us, hl with | [_, _], _ => rfl)
    (case qa15 => k_is); (case ql15 => k_is); (case qc15 => k_is); (case qk15 => k_is)
  · refine' DL.mk_def KX G ?qa16 ?ql16 ?qc16 ?qk16 (fun _ _ _ _ _ _ us hl => match us, hl with | [_], _ => rfl)
    (case qa16 => k_is); (case ql16 => k_is); (case qc16 => k_is); (case qk16 => k_is)
  · refine' DL.mk_def KX G ?qa17 ?ql17 ?qc17 ?qk17 (fun _ _ _ _ _ _ us hl => match us, hl with | [_], _ => rfl)
    (case qa17 => k_is); (case ql17 => k_is); (case qc17 => k_is); (case qk17 => k_is)
  · refine' DL.mk_def KX G ?qa18 ?ql18 ?qc18 ?qk18 (fun _ _ _ _ _ _ us hl => match us, hl with | [_, _, _], _ => rfl)
    (case qa18 => k_is); (case ql18 => k_is); (case qc18 => k_is); (case qk18 => k_is)
  · refine' DL.mk_def KX G ?qa19 ?ql19 ?qc19 ?qk19 (fun _ _ _ _ _ _ us hl => match us, hl with | [_, _, _], _ => rfl)
    (case qa19 => k_is); (case ql19 => k_is); (case qc19 => k_is); (case qk19 => k_is)
  · refine' DL.mk_def KX G ?qa20 ?ql20 ?qc20 ?qk20 (fun _ _ _ _ _ _ us hl => match us, hl with | [_, _, _], _ => rfl)
    (case qa20 => k_is); (case ql20 => k_is); (case qc20 => k_is); (case qk20 => k_is)
  · refine' DL.mk_def KX G ?qa21 ?ql21 ?qc21 ?qk21 (fun _ _ _ _ _ _ us hl => match us, hl with | [_], _ => rfl)
    (case qa21 => k_is); (case ql21 => k_is); (case qc21 => k_is); (case qk21 => k_is)
  · refine DL.mk_non KX G ?qb0; k_is
  · refine DL.mk_non KX G ?qb1; k_is
  · refine DL.mk_non KX G ?qb2; k_is
  · refine DL.mk_non KX G ?qb3; k_is
  · refine DL.mk_non KX G ?qb4; k_is
  · refine DL.mk_non KX G ?qb5; k_is
  · refine DL.mk_non KX G ?qb6; k_is
  · refine DL.mk_non KX G ?qb7; k_is
  · refine DL.mk_non KX G ?qb8; k_is
  · refine DL.mk_non KX G ?qb9; k_is
  · refine DL.mk_non KX G ?qb10; k_is
  · refine DL.mk_non KX G ?qb11; k_is
  · refine DL.mk_non KX G ?qb12; k_is
  · refine DL.mk_non KX G ?qb13; k_is
  · refine' DL.mk_int KX G ?qg0; (case qg0 => k_is)
  · refine' DL.mk_int KX G ?qg1; (case qg1 => k_is)
  · refine' DL.mk_int KX G ?qg2; (case qg2 => k_is)
  · refine' DL.mk_int KX G ?qg3; (case qg3 => k_is)
