import PyProof.Rows.All
import Wide.All
import OpenK.AllK
import Wide.FinOn
import HandS.ForMost
import HandS.ForExc
import HandS.TupAny
import HandS.Wide
import HandS.Deep
import HandS.SortInts
import HandS.Conv
import HandS.IsInst
import HandS.Star
import HandS.Defaults
import HandS.Zip
import HandS.TryMany
import HandS.ExcInit
import HandS.ExcField
import HandS.Property
import HandS.ClsMeth
import HandS.CallSlots
import PySem.Challenge.RW_stepstell_k00_joined_common_without
set_option Elab.async false
set_option linter.all false
set_option maxRecDepth 100000
set_option maxHeartbeats 4000000
/-! SepA: trees, slots, what holds of them over the abstract heap. -/
namespace Sep
open PySem L2

/-- data that never changes again -/
inductive D where
  | non | bl (b : Bool) | int (i : Int) | str (s : Str)
  | tup (ds : List D) | lst (ds : List D) | rol (ds : List D)
  | obj (c : Str) (ns : List Str) (ds : List D)
  | dct (ks : List Key) (ds : List D)
  | xd (ns : List Str) (ds : List D)
  deriving Inhabited

/-- what a slot holds: nothing told, shared data, or a thing of its own -/
inductive Slot where
  | no
  | sh (d : D)
  | lst (ss : List Slot)
  | obj (c : Str) (ns : List Str) (ss : List Slot)
  | dct (ks : List Key) (ss : List Slot)
  deriving Inhabited

/-- a list of the written part -/
def KL (K : PySem.W.Frag) (a : Addr) (xs : List V) : Prop :=
  ∃ (o : Obj) (its : Array Value) (n : Nat), K.lookup a = some o ∧ o.cls = .type "list" ∧ o.dict = none ∧ o.data = .seq its n ∧ its.size ≤ sizeLine ∧ Vals xs its.toList
def KT (K : PySem.W.Frag) (a : Addr) (xs : List V) : Prop :=
  ∃ (o : Obj) (its : Array Value) (n : Nat), K.lookup a = some o ∧ o.cls = .type "tuple" ∧ o.data = .seq its n ∧ its.size ≤ sizeLine ∧ Vals xs its.toList

/-- the text's classes by name, and the written part -/
structure Gm where
  cls : Str → Addr
  K : PySem.W.Frag
  /-- what the callers hold, level by level, nearest first -/
  fr : List (List (V × Slot)) := []

mutual
def RepD (G : Gm) (H : Hp) (O : List Addr) : D → V → Prop
  | .non, v => v = .non
  | .bl b, v => v = .bl b
  | .int i, v => v = .int i
  | .str s, v => v = .str s
  | .tup ds, v => ∃ a xs, v = .ref a ∧ ((Rd H a (.tup xs) ∧ a ∉ O) ∨ KT G.K a xs) ∧ RepDs G H O ds xs
  | .lst ds, v => ∃ a xs, v = .ref a ∧ (H a = some (.lst xs) ∧ a ∉ O) ∧ RepDs G H O ds xs
  | .rol ds, v => ∃ a xs, v = .ref a ∧ ((Rd H a (.lst xs) ∧ a ∉ O) ∨ KL G.K a xs) ∧ RepDs G H O ds xs
  | .obj c ns ds, v => ∃ a dx xs, v = .ref a ∧ (H a = some (.ins (G.cls c) dx (ns.zip xs)) ∧ a ∉ O) ∧ ns.length = xs.length ∧ RepDs G H O ds xs
  | .dct ks ds, v => ∃ a xs, v = .ref a ∧ (Rd H a (.dK (ks.zip xs)) ∧ a ∉ O) ∧ ks.length = xs.length ∧ RepDs G H O ds xs
  | .xd ns ds, v => ∃ a xs, v = .ref a ∧ (H a = some (.xd (ns.zip xs)) ∧ a ∉ O) ∧ ns.length = xs.length ∧ RepDs G H O ds xs
def RepDs (G : Gm) (H : Hp) (O : List Addr) : List D → List V → Prop
  | [], xs => xs = []
  | d :: ds, xs => ∃ v r, xs = v :: r ∧ RepD G H O d v ∧ RepDs G H O ds r
end

mutual
def RepS (G : Gm) (H : Hp) (O : List Addr) : Slot → V → List Addr → Prop
  | .no, _, os => os = []
  | .sh d, v, os => os = [] ∧ RepD G H O d v
  | .lst ss, v, os => ∃ a xs os', v = .ref a ∧ os = a :: os' ∧ H a = some (.lst xs) ∧ RepSs G H O ss xs os'
  | .obj c ns ss, v, os => ∃ a dx xs os', v = .ref a ∧ os = a :: os' ∧ H a = some (.ins (G.cls c) dx (ns.zip xs)) ∧ ns.length = xs.length ∧ RepSs G H O ss xs os'
  | .dct ks ss, v, os => ∃ a xs os', v = .ref a ∧ os = a :: os' ∧ H a = some (.dK (ks.zip xs)) ∧ ks.length = xs.length ∧ RepSs G H O ss xs os'
def RepSs (G : Gm) (H : Hp) (O : List Addr) : List Slot → List V → List Addr → Prop
  | [], xs, os => xs = [] ∧ os = []
  | s :: ss, xs, os => ∃ v r o1 o2, xs = v :: r ∧ os = o1 ++ o2 ∧ RepS G H O s v o1 ∧ RepSs G H O ss r o2
end

/-- the heap of a later moment: what is not in W stays -/
def Keep (W : List Addr) (H H' : Hp) : Prop := ∀ a o, H a = some o → a ∉ W → H' a = some o
theorem Keep.rd {W : List Addr} {H H' : Hp} (k : Keep W H H') {a : Addr} {u : HO} (h : Rd H a u) (n : a ∉ W) : Rd H' a u := by
  rcases h with h | ⟨o, h⟩
  · exact .inl (k _ _ h n)
  · exact .inr ⟨o, k _ _ h n⟩
theorem rd_some {H : Hp} {a : Addr} {u : HO} (h : Rd H a u) : H a ≠ none := by
  rcases h with h | ⟨o, h⟩ <;> rw [h] <;> simp

mutual
/-- data stays where only W is written, W within the owned, and what becomes owned was owned, or not there -/
theorem RepD.step {G : Gm} {H H' : Hp} {O O' W : List Addr} (k : Keep W H H') (hW : ∀ a ∈ W, a ∈ O) (hO : ∀ a ∈ O', a ∈ O ∨ H a = none) : ∀ (d : D) (v : V), RepD G H O d v → RepD G H' O' d v
  | .non, _, h => h
  | .bl _, _, h => h
  | .int _, _, h => h
  | .str _, _, h => h
  | .tup ds, v, h => by
    obtain ⟨a, xs, e, h1, h2⟩ := h
    refine ⟨a, xs, e, ?_, RepDs.step k hW hO ds xs h2⟩
    rcases h1 with ⟨h1, n⟩ | h1
    · exact .inl ⟨k.rd h1 fun z => n (hW a z), fun z => (hO a z).elim n fun q => rd_some h1 q⟩
    · exact .inr h1
  | .lst ds, v, h => by
    obtain ⟨a, xs, e, ⟨h1, n⟩, h2⟩ := h
    exact ⟨a, xs, e, ⟨k a _ h1 fun z => n (hW a z), fun z => (hO a z).elim n fun q => by rw [h1] at q; cases q⟩, RepDs.step k hW hO ds xs h2⟩
  | .rol ds, v, h => by
    obtain ⟨a, xs, e, h1, h2⟩ := h
    refine ⟨a, xs, e, ?_, RepDs.step k hW hO ds xs h2⟩
    rcases h1 with ⟨h1, n⟩ | h1
    · exact .inl ⟨k.rd h1 fun z => n (hW a z), fun z => (hO a z).elim n fun q => rd_some h1 q⟩
    · exact .inr h1
  | .obj c ns ds, v, h => by
    obtain ⟨a, dx, xs, e, ⟨h1, n⟩, hl, h2⟩ := h
    exact ⟨a, dx, xs, e, ⟨k a _ h1 fun z => n (hW a z), fun z => (hO a z).elim n fun q => by rw [h1] at q; cases q⟩, hl, RepDs.step k hW hO ds xs h2⟩
  | .dct ks ds, v, h => by
    obtain ⟨a, xs, e, ⟨h1, n⟩, hl, h2⟩ := h
    exact ⟨a, xs, e, ⟨k.rd h1 fun z => n (hW a z), fun z => (hO a z).elim n fun q => rd_some h1 q⟩, hl, RepDs.step k hW hO ds xs h2⟩
  | .xd ns ds, v, h => by
    obtain ⟨a, xs, e, ⟨h1, n⟩, hl, h2⟩ := h
    exact ⟨a, xs, e, ⟨k a _ h1 fun z => n (hW a z), fun z => (hO a z).elim n fun q => by rw [h1] at q; cases q⟩, hl, RepDs.step k hW hO ds xs h2⟩
theorem RepDs.step {G : Gm} {H H' : Hp} {O O' W : List Addr} (k : Keep W H H') (hW : ∀ a ∈ W, a ∈ O) (hO : ∀ a ∈ O', a ∈ O ∨ H a = none) : ∀ (ds : List D) (xs : List V), RepDs G H O ds xs → RepDs G H' O' ds xs
  | [], _, h => h
  | d :: ds, _, h => by
    obtain ⟨v, r, e, h1, h2⟩ := h
    exact ⟨v, r, e, RepD.step k hW hO d v h1, RepDs.step k hW hO ds r h2⟩
end

mutual
/-- slots whose own addresses lie outside of W stay -/
theorem RepS.step {G : Gm} {H H' : Hp} {O O' W : List Addr} (k : Keep W H H') (hW : ∀ a ∈ W, a ∈ O) (hO : ∀ a ∈ O', a ∈ O ∨ H a = none) : ∀ (s : Slot) (v : V) (os : List Addr), RepS G H O s v os → (∀ a ∈ os, a ∉ W) → RepS G H' O' s v os
  | .no, _, _, h, _ => h
  | .sh d, v, os, h, _ => ⟨h.1, RepD.step k hW hO d v h.2⟩
  | .lst ss, v, os, h, n => by
    obtain ⟨a, xs, os', e, eo, h1, h2⟩ := h
    subst eo
    exact ⟨a, xs, os', e, rfl, k _ _ h1 (n a List.mem_cons_self), RepSs.step k hW hO ss xs os' h2 fun b hb => n b (List.mem_cons_of_mem _ hb)⟩
  | .obj c ns ss, v, os, h, n => by
    obtain ⟨a, dx, xs, os', e, eo, h1, hl, h2⟩ := h
    subst eo
    exact ⟨a, dx, xs, os', e, rfl, k _ _ h1 (n a List.mem_cons_self), hl, RepSs.step k hW hO ss xs os' h2 fun b hb => n b (List.mem_cons_of_mem _ hb)⟩
  | .dct ks ss, v, os, h, n => by
    obtain ⟨a, xs, os', e, eo, h1, hl, h2⟩ := h
    subst eo
    exact ⟨a, xs, os', e, rfl, k _ _ h1 (n a List.mem_cons_self), hl, RepSs.step k hW hO ss xs os' h2 fun b hb => n b (List.mem_cons_of_mem _ hb)⟩
theorem RepSs.step {G : Gm} {H H' : Hp} {O O' W : List Addr} (k : Keep W H H') (hW : ∀ a ∈ W, a ∈ O) (hO : ∀ a ∈ O', a ∈ O ∨ H a = none) : ∀ (ss : List Slot) (xs : List V) (os : List Addr), RepSs G H O ss xs os → (∀ a ∈ os, a ∉ W) → RepSs G H' O' ss xs os
  | [], _, _, h, _ => h
  | s :: ss, xs, os, h, n => by
    obtain ⟨v, r, o1, o2, e, eo, h1, h2⟩ := h
    subst eo
    exact ⟨v, r, o1, o2, e, rfl, RepS.step k hW hO s v o1 h1 (fun b hb => n b (List.mem_append_left _ hb)), RepSs.step k hW hO ss r o2 h2 fun b hb => n b (List.mem_append_right _ hb)⟩
end

mutual
/-- own addresses are tracked -/
theorem RepS.there {G : Gm} {H : Hp} {O : List Addr} : ∀ (s : Slot) (v : V) (os : List Addr), RepS G H O s v os → ∀ a ∈ os, H a ≠ none
  | .no, _, _, h, a, ha => by
    rw [show _ = [] from h] at ha; cases ha
  | .sh d, v, os, h, a, ha => by
    rw [h.1] at ha; cases ha
  | .lst ss, v, os, h, a, ha => by
    obtain ⟨b, xs, os', e, eo, h1, h2⟩ := h
    subst eo
    rcases List.mem_cons.mp ha with rfl | ha
    · rw [h1]; simp
    · exact RepSs.there ss xs os' h2 a ha
  | .obj c ns ss, v, os, h, a, ha => by
    obtain ⟨b, dx, xs, os', e, eo, h1, hl, h2⟩ := h
    subst eo
    rcases List.mem_cons.mp ha with rfl | ha
    · rw [h1]; simp
    · exact RepSs.there ss xs os' h2 a ha
  | .dct ks ss, v, os, h, a, ha => by
    obtain ⟨b, xs, os', e, eo, h1, hl, h2⟩ := h
    subst eo
    rcases List.mem_cons.mp ha with rfl | ha
    · rw [h1]; simp
    · exact RepSs.there ss xs os' h2 a ha
theorem RepSs.there {G : Gm} {H : Hp} {O : List Addr} : ∀ (ss : List Slot) (xs : List V) (os : List Addr), RepSs G H O ss xs os → ∀ a ∈ os, H a ≠ none
  | [], _, _, h, a, ha => by
    rw [h.2] at ha; cases ha
  | s :: ss, xs, os, h, a, ha => by
    obtain ⟨v, r, o1, o2, e, eo, h1, h2⟩ := h
    subst eo
    rcases List.mem_append.mp ha with ha | ha
    · exact RepS.there s v o1 h1 a ha
    · exact RepSs.there ss r o2 h2 a ha
end

/-! ### what is held -/
abbrev Hd := List (V × Slot)
/-- the pairs, with their own addresses -/
def RepL (G : Gm) (H : Hp) (O : List Addr) : Hd → List Addr → Prop
  | [], os => os = []
  | p :: L, os => ∃ o1 o2, os = o1 ++ o2 ∧ RepS G H O p.2 p.1 o1 ∧ RepL G H O L o2
/-- the callers' levels: each one's data lies apart from what is owned nearer, and by itself -/
def RepF (G : Gm) (H : Hp) : List Addr → List Hd → List Addr → Prop
  | _, [], os => os = []
  | O, L :: Ls, os => ∃ o1 o2, os = o1 ++ o2 ∧ RepL G H (O ++ o1) L o1 ∧ RepF G H (O ++ o1) Ls o2
def Hold (G : Gm) (H : Hp) (O : List Addr) (L : Hd) : Prop := RepL G H O L O ∧ ∃ OF, RepF G H O G.fr OF ∧ (O ++ OF).Nodup
def Holds (G : Gm) (H : Hp) (L : Hd) : Prop := ∃ O, Hold G H O L

section
variable {G : Gm} {H H' : Hp} {O O' W : List Addr} {L L' : Hd}
theorem RepL.step (k : Keep W H H') (hW : ∀ a ∈ W, a ∈ O) (hO : ∀ a ∈ O', a ∈ O ∨ H a = none) : ∀ {L : Hd} {os : List Addr}, RepL G H O L os → (∀ a ∈ os, a ∉ W) → RepL G H' O' L os
  | [], _, h, _ => h
  | p :: L, os, h, n => by
    obtain ⟨o1, o2, eo, h1, h2⟩ := h
    subst eo
    exact ⟨o1, o2, rfl, RepS.step k hW hO p.2 p.1 o1 h1 (fun b hb => n b (List.mem_append_left _ hb)), RepL.step k hW hO h2 fun b hb => n b (List.mem_append_right _ hb)⟩
theorem RepL.there : ∀ {L : Hd} {os : List Addr}, RepL G H O L os → ∀ a ∈ os, H a ≠ none
  | [], _, h, a, ha => by
    rw [show _ = [] from h] at ha; cases ha
  | p :: L, os, h, a, ha => by
    obtain ⟨o1, o2, eo, h1, h2⟩ := h
    subst eo
    rcases List.mem_append.mp ha with ha | ha
    · exact RepS.there p.2 p.1 o1 h1 a ha
    · exact RepL.there h2 a ha
theorem RepL.app : ∀ {L L' : Hd} {os os' : List Addr}, RepL G H O L os → RepL G H O L' os' → RepL G H O (L ++ L') (os ++ os')
  | [], L', os, os', h, h' => by
    rw [show os = [] from h]; exact h'
  | p :: L, L', os, os', h, h' => by
    obtain ⟨o1, o2, eo, h1, h2⟩ := h
    subst eo
    exact ⟨o1, o2 ++ os', by rw [List.append_assoc], h1, RepL.app h2 h'⟩
theorem RepL.split : ∀ {L L' : Hd} {os : List Addr}, RepL G H O (L ++ L') os → ∃ o1 o2, os = o1 ++ o2 ∧ RepL G H O L o1 ∧ RepL G H O L' o2
  | [], L', os, h => ⟨[], os, rfl, rfl, h⟩
  | p :: L, L', os, h => by
    obtain ⟨o1, o2, eo, h1, h2⟩ := h
    obtain ⟨o3, o4, e2, h3, h4⟩ := RepL.split (L := L) h2
    exact ⟨o1 ++ o3, o4, by rw [eo, e2, List.append_assoc], ⟨o1, o3, rfl, h1, h3⟩, h4⟩
theorem RepL.perm (p : L.Perm L') : ∀ {os : List Addr}, RepL G H O L os → ∃ os', RepL G H O L' os' ∧ os.Perm os' := by
  induction p with
  | nil => exact fun h => ⟨_, h, .refl _⟩
  | cons x p ih =>
    intro os h
    obtain ⟨o1, o2, eo, h1, h2⟩ := h
    obtain ⟨o3, h3, q⟩ := ih h2
    exact ⟨o1 ++ o3, ⟨o1, o3, rfl, h1, h3⟩, by rw [eo]; exact q.append_left o1⟩
  | swap x y l =>
    intro os h
    obtain ⟨o1, o2, eo, h1, o3, o4, e2, h3, h4⟩ := h
    refine ⟨o3 ++ (o1 ++ o4), ⟨o3, o1 ++ o4, rfl, h3, o1, o4, rfl, h1, h4⟩, ?_⟩
    rw [eo, e2, ← List.append_assoc, ← List.append_assoc]
    exact (List.perm_append_comm).append_right o4
  | trans p q ih1 ih2 =>
    intro os h
    obtain ⟨o1, h1, q1⟩ := ih1 h
    obtain ⟨o2, h2, q2⟩ := ih2 h1
    exact ⟨o2, h2, q1.trans q2⟩
/-- the owned as a set -/
theorem RepL.reO {os : List Addr} (h : RepL G H O L os) (e : ∀ a ∈ O', a ∈ O) : RepL G H O' L os :=
  h.step (W := []) (fun a o q _ => q) (fun a z => nomatch z) (fun a z => .inl (e a z)) fun a _ z => nomatch z
theorem RepF.step (k : Keep W H H') : ∀ {Ls : List Hd} {O O' os : List Addr}, (∀ a ∈ W, a ∈ O) → (∀ a ∈ O', a ∈ O ∨ H a = none) → RepF G H O Ls os → (∀ a ∈ os, a ∉ W) → RepF G H' O' Ls os
  | [], _, _, _, _, _, h, _ => h
  | L :: Ls, O, O', os, hW, hO, ⟨o1, o2, eo, h1, h2⟩, n => by
    subst eo
    have hW' : ∀ a ∈ W, a ∈ O ++ o1 := fun a z => List.mem_append_left _ (hW a z)
    have hO' : ∀ a ∈ O' ++ o1, a ∈ O ++ o1 ∨ H a = none := fun a z => (List.mem_append.mp z).elim (fun q => (hO a q).elim (fun r => .inl (List.mem_append_left _ r)) .inr) fun q => .inl (List.mem_append_right _ q)
    exact ⟨o1, o2, rfl, h1.step k hW' hO' fun a z => n a (List.mem_append_left _ z), RepF.step k hW' hO' h2 fun a z => n a (List.mem_append_right _ z)⟩
theorem RepF.there : ∀ {Ls : List Hd} {O os : List Addr}, RepF G H O Ls os → ∀ a ∈ os, H a ≠ none
  | [], _, _, h, a, ha => by
    rw [show _ = [] from h] at ha; cases ha
  | L :: Ls, O, os, ⟨o1, o2, eo, h1, h2⟩, a, ha => by
    subst eo
    rcases List.mem_append.mp ha with ha | ha
    · exact h1.there a ha
    · exact RepF.there h2 a ha
theorem RepF.reO {Ls : List Hd} {os : List Addr} (h : RepF G H O Ls os) (e : ∀ a ∈ O', a ∈ O) : RepF G H O' Ls os :=
  h.step (W := []) (fun a o q _ => q) (fun a z => nomatch z) (fun a z => .inl (e a z)) fun a _ z => nomatch z
theorem Hold.nd (h : Hold G H O L) : O.Nodup := by
  obtain ⟨_, OF, _, nd⟩ := h
  exact (List.nodup_append.mp nd).1
/-- the same owned ones, or fewer -/
theorem Hold.re (h : Hold G H O L) (h' : RepL G H O' L' O') (s : O'.Sublist O) : Hold G H O' L' := by
  obtain ⟨_, OF, hf, nd⟩ := h
  exact ⟨h', OF, hf.reO fun a z => s.subset z, nd.sublist (s.append_right OF)⟩
theorem Holds.perm (h : Holds G H L) (p : L.Perm L') : Holds G H L' := by
  obtain ⟨O, h, OF, hf, nd⟩ := h
  obtain ⟨os, h', q⟩ := h.perm p
  exact ⟨os, h'.reO fun a z => q.symm.subset z, OF, hf.reO fun a z => q.symm.subset z, (q.append_right OF).nodup nd⟩
/-- nothing written (new things may have come) -/
theorem Holds.same (h : Holds G H L) (k : Same H H') : Holds G H' L := by
  obtain ⟨O, h, OF, hf, nd⟩ := h
  exact ⟨O, RepL.step (W := []) (fun a o q _ => k a o q) (fun a z => nomatch z) (fun a z => .inl z) h (fun a _ z => nomatch z), OF, hf.step (W := []) (fun a o q _ => k a o q) (fun a z => nomatch z) (fun a z => .inl z) (fun a _ z => nomatch z), nd⟩
theorem Same.new {p : Addr} {o : HO} (hp : H p = none) : Same H (upd H p o) := fun b u e => by
  rw [upd_ne (ne_of_none e hp)]; exact e
/-- forgetting -/
theorem Holds.tail {x : V × Slot} (h : Holds G H (x :: L)) : Holds G H L := by
  obtain ⟨O, h⟩ := h
  obtain ⟨o1, o2, eo, h1, h2⟩ := id h.1
  exact ⟨o2, h.re (h2.reO fun a z => by rw [eo]; exact List.mem_append_right _ z) (by rw [eo]; exact List.sublist_append_right _ _)⟩
theorem Holds.no {v : V} (h : Holds G H L) : Holds G H ((v, .no) :: L) := by
  obtain ⟨O, h, r⟩ := h
  exact ⟨O, ⟨[], O, rfl, rfl, h⟩, r⟩
theorem Holds.forget {v : V} {s : Slot} (h : Holds G H ((v, s) :: L)) : Holds G H ((v, .no) :: L) := h.tail.no
end
end Sep

/-! SepB: slots, results, what an expression's function says of its reading. -/
namespace Sep
open PySem L2

/-! ### freezing, looking -/
mutual
def Slot.fr : Slot → Option D
  | .no => none
  | .sh d => some d
  | .lst ss => (frs ss).map D.lst
  | .obj c ns ss => (frs ss).map (D.obj c ns)
  | .dct ks ss => (frs ss).map (D.dct ks)
def frs : List Slot → Option (List D)
  | [] => some []
  | s :: ss => match s.fr, frs ss with
    | some d, some ds => some (d :: ds)
    | _, _ => none
end
/-- items that are all shared -/
def flats : List Slot → Option (List D)
  | [] => some []
  | .sh d :: ss => (flats ss).map (d :: ·)
  | _ :: _ => none
def Slot.flat : Slot → Option D
  | .no => none
  | .sh d => some d
  | .lst ss => (flats ss).map D.lst
  | .obj c ns ss => (flats ss).map (D.obj c ns)
  | .dct ks ss => (flats ss).map (D.dct ks)
abbrev shs (ds : List D) : List Slot := ds.map Slot.sh
theorem flats_sh : ∀ ds : List D, flats (shs ds) = some ds
  | [] => rfl
  | d :: ds => by
    show (flats (shs ds)).map (d :: ·) = _
    rw [flats_sh ds]; rfl
theorem frs_sh : ∀ ds : List D, frs (shs ds) = some ds
  | [] => by unfold shs; rw [List.map_nil, frs]
  | d :: ds => by
    unfold shs
    rw [List.map_cons, frs, Slot.fr]
    have e := frs_sh ds
    unfold shs at e
    rw [e]
theorem flats_eq : ∀ {ss : List Slot} {ds : List D}, flats ss = some ds → ss = shs ds
  | [], ds, h => by cases h; rfl
  | .sh d :: ss, ds, h => by
    have h' : (flats ss).map (d :: ·) = some ds := h
    cases e : flats ss with
    | none => rw [e] at h'; cases h'
    | some r =>
      rw [e] at h'
      have h2 : d :: r = ds := Option.some.inj h'
      rw [flats_eq e, ← h2]; rfl
  | .no :: ss, ds, h => nomatch (show none = some ds from h)
  | .lst _ :: ss, ds, h => nomatch (show none = some ds from h)
  | .obj _ _ _ :: ss, ds, h => nomatch (show none = some ds from h)
  | .dct _ _ :: ss, ds, h => nomatch (show none = some ds from h)

/-- a value that stands for the data, whoever owns its top -/
def RepP (G : Gm) (H : Hp) (O : List Addr) : D → V → Prop
  | .tup ds, v => ∃ a xs, v = .ref a ∧ ((Rd H a (.tup xs) ∧ a ∉ O) ∨ KT G.K a xs) ∧ RepDs G H O ds xs
  | .lst ds, v => ∃ a xs, v = .ref a ∧ H a = some (.lst xs) ∧ RepDs G H O ds xs
  | .rol ds, v => ∃ a xs, v = .ref a ∧ ((Rd H a (.lst xs) ∧ a ∉ O) ∨ KL G.K a xs) ∧ RepDs G H O ds xs
  | .obj c ns ds, v => ∃ a dx xs, v = .ref a ∧ H a = some (.ins (G.cls c) dx (ns.zip xs)) ∧ ns.length = xs.length ∧ RepDs G H O ds xs
  | .dct ks ds, v => ∃ a xs, v = .ref a ∧ Rd H a (.dK (ks.zip xs)) ∧ ks.length = xs.length ∧ RepDs G H O ds xs
  | .xd ns ds, v => ∃ a xs, v = .ref a ∧ H a = some (.xd (ns.zip xs)) ∧ ns.length = xs.length ∧ RepDs G H O ds xs
  | .non, v => v = .non
  | .bl b, v => v = .bl b
  | .int i, v => v = .int i
  | .str s, v => v = .str s

section
variable {G : Gm} {H H' : Hp} {O O' W : List Addr} {L L' : Hd}
theorem RepD.p : ∀ {d : D} {v : V}, RepD G H O d v → RepP G H O d v
  | .non, _, h => h
  | .bl _, _, h => h
  | .int _, _, h => h
  | .str _, _, h => h
  | .tup _, _, h => h
  | .lst _, _, ⟨a, xs, e, h1, h2⟩ => ⟨a, xs, e, h1.1, h2⟩
  | .rol _, _, h => h
  | .obj _ _ _, _, ⟨a, dx, xs, e, h1, hl, h2⟩ => ⟨a, dx, xs, e, h1.1, hl, h2⟩
  | .dct _ _, _, ⟨a, xs, e, h1, hl, h2⟩ => ⟨a, xs, e, h1.1, hl, h2⟩
  | .xd _ _, _, ⟨a, xs, e, h1, hl, h2⟩ => ⟨a, xs, e, h1.1, hl, h2⟩
theorem RepSs.flat : ∀ {ds : List D} {xs : List V} {os : List Addr}, RepSs G H O (shs ds) xs os → os = [] ∧ RepDs G H O ds xs
  | [], xs, os, h => ⟨h.2, h.1⟩
  | d :: ds, xs, os, h => by
    obtain ⟨v, r, o1, o2, e, eo, h1, h2⟩ := h
    obtain ⟨e2, h3⟩ := RepSs.flat (ds := ds) h2
    exact ⟨by rw [eo, h1.1, e2]; rfl, v, r, e, h1.2, h3⟩
theorem RepDs.sh : ∀ {ds : List D} {xs : List V}, RepDs G H O ds xs → RepSs G H O (shs ds) xs []
  | [], xs, h => ⟨h, rfl⟩
  | d :: ds, xs, h => by
    obtain ⟨v, r, e, h1, h2⟩ := h
    exact ⟨v, r, [], [], e, rfl, ⟨rfl, h1⟩, RepDs.sh h2⟩
theorem RepS.peek {s : Slot} {v : V} {os : List Addr} {d : D} (h : RepS G H O s v os) (e : s.flat = some d) : RepP G H O d v := by
  cases s with
  | no => cases e
  | sh d' => cases e; exact h.2.p
  | lst ss =>
    have e' : (flats ss).map D.lst = some d := e
    cases q : flats ss with
    | none => rw [q] at e'; cases e'
    | some ds =>
      rw [q] at e'
      cases e'
      obtain ⟨a, xs, os', ev, eo, h1, h2⟩ := h
      rw [flats_eq q] at h2
      exact ⟨a, xs, ev, h1, h2.flat.2⟩
  | obj c ns ss =>
    have e' : (flats ss).map (D.obj c ns) = some d := e
    cases q : flats ss with
    | none => rw [q] at e'; cases e'
    | some ds =>
      rw [q] at e'
      cases e'
      obtain ⟨a, dx, xs, os', ev, eo, h1, hl, h2⟩ := h
      rw [flats_eq q] at h2
      exact ⟨a, dx, xs, ev, h1, hl, h2.flat.2⟩
  | dct ks ss =>
    have e' : (flats ss).map (D.dct ks) = some d := e
    cases q : flats ss with
    | none => rw [q] at e'; cases e'
    | some ds =>
      rw [q] at e'
      cases e'
      obtain ⟨a, xs, os', ev, eo, h1, hl, h2⟩ := h
      rw [flats_eq q] at h2
      exact ⟨a, xs, ev, .inl h1, hl, h2.flat.2⟩
theorem RepL.mem : ∀ {L : Hd} {os : List Addr} {p : V × Slot}, RepL G H O L os → p ∈ L → ∃ o1, RepS G H O p.2 p.1 o1 ∧ ∀ a ∈ o1, a ∈ os
  | q :: L, os, p, h, hp => by
    obtain ⟨o1, o2, eo, h1, h2⟩ := h
    subst eo
    rcases List.mem_cons.mp hp with rfl | hp
    · exact ⟨o1, h1, fun a z => List.mem_append_left _ z⟩
    · obtain ⟨o3, h3, k⟩ := RepL.mem h2 hp
      exact ⟨o3, h3, fun a z => List.mem_append_right _ (k a z)⟩
theorem Hold.peek (h : Hold G H O L) {v : V} {s : Slot} {d : D} (hm : (v, s) ∈ L) (e : s.flat = some d) : RepP G H O d v := by
  obtain ⟨o1, h1, _⟩ := h.1.mem hm
  exact h1.peek e

mutual
/-- frozen: what was owned is shared now -/
theorem RepS.fr {O2 : List Addr} : ∀ {s : Slot} {v : V} {os : List Addr} {d : D}, RepS G H O s v os → s.fr = some d → (∀ a ∈ O2, a ∈ O) → (∀ a ∈ os, a ∉ O2) → RepD G H O2 d v
  | .no, _, _, _, _, e, _, _ => by rw [Slot.fr] at e; cases e
  | .sh d', v, os, d, h, e, h1, h2 => by
    rw [Slot.fr] at e
    cases e
    exact RepD.step (W := []) (fun a o q _ => q) (fun a z => nomatch z) (fun a z => .inl (h1 a z)) _ _ h.2
  | .lst ss, v, os, d, h, e, h1, h2 => by
    rw [Slot.fr] at e
    obtain ⟨a, xs, os', ev, eo, h3, h4⟩ := h
    cases q : frs ss with
    | none => rw [q] at e; cases e
    | some ds =>
      rw [q] at e
      cases e
      subst eo
      exact ⟨a, xs, ev, ⟨h3, h2 a List.mem_cons_self⟩, RepSs.fr h4 q h1 fun b z => h2 b (List.mem_cons_of_mem _ z)⟩
  | .obj c ns ss, v, os, d, h, e, h1, h2 => by
    rw [Slot.fr] at e
    obtain ⟨a, dx, xs, os', ev, eo, h3, hl, h4⟩ := h
    cases q : frs ss with
    | none => rw [q] at e; cases e
    | some ds =>
      rw [q] at e
      cases e
      subst eo
      exact ⟨a, dx, xs, ev, ⟨h3, h2 a List.mem_cons_self⟩, hl, RepSs.fr h4 q h1 fun b z => h2 b (List.mem_cons_of_mem _ z)⟩
  | .dct ks ss, v, os, d, h, e, h1, h2 => by
    rw [Slot.fr] at e
    obtain ⟨a, xs, os', ev, eo, h3, hl, h4⟩ := h
    cases q : frs ss with
    | none => rw [q] at e; cases e
    | some ds =>
      rw [q] at e
      cases e
      subst eo
      exact ⟨a, xs, ev, ⟨.inl h3, h2 a List.mem_cons_self⟩, hl, RepSs.fr h4 q h1 fun b z => h2 b (List.mem_cons_of_mem _ z)⟩
theorem RepSs.fr {O2 : List Addr} : ∀ {ss : List Slot} {xs : List V} {os : List Addr} {ds : List D}, RepSs G H O ss xs os → frs ss = some ds → (∀ a ∈ O2, a ∈ O) → (∀ a ∈ os, a ∉ O2) → RepDs G H O2 ds xs
  | [], xs, os, ds, h, e, _, _ => by
    rw [frs] at e
    cases e
    exact h.1
  | s :: ss, xs, os, ds, h, e, h1, h2 => by
    rw [frs] at e
    obtain ⟨v, r, o1, o2, ex, eo, h3, h4⟩ := h
    subst eo
    cases q1 : s.fr with
    | none => rw [q1] at e; cases e
    | some d =>
      cases q2 : frs ss with
      | none => rw [q1, q2] at e; cases e
      | some dr =>
        rw [q1, q2] at e
        cases e
        exact ⟨v, r, ex, RepS.fr h3 q1 h1 (fun a z => h2 a (List.mem_append_left _ z)), RepSs.fr h4 q2 h1 fun a z => h2 a (List.mem_append_right _ z)⟩
end
/-- the first held thing is frozen -/
theorem Holds.fr {v : V} {s : Slot} {d : D} (h : Holds G H ((v, s) :: L)) (e : s.fr = some d) : Holds G H ((v, .sh d) :: L) := by
  obtain ⟨O, h⟩ := h
  have nd := h.nd
  obtain ⟨o1, o2, eo, h1, h2⟩ := id h.1
  subst eo
  have nd' := List.nodup_append.mp nd
  exact ⟨o2, h.re ⟨[], o2, rfl, ⟨rfl, RepS.fr h1 e (fun a z => List.mem_append_right _ z) fun a z q => nd'.2.2 a z a q rfl⟩, h2.reO fun a z => List.mem_append_right _ z⟩ (List.sublist_append_right _ _)⟩
/-- shared data may be held twice -/
theorem Holds.dup {v : V} {d : D} (h : Holds G H ((v, .sh d) :: L)) : Holds G H ((v, .sh d) :: (v, .sh d) :: L) := by
  obtain ⟨O, ⟨o1, o2, eo, h1, h2⟩, r⟩ := h
  have e1 : o1 = [] := h1.1
  subst e1
  have eo' : O = o2 := eo
  subst eo'
  exact ⟨O, ⟨[], O, rfl, h1, [], O, rfl, h1, h2⟩, r⟩
/-- new shared data, told over the owned -/
theorem Hold.add' (h : Hold G H O L) {v : V} {d : D} (r : RepD G H O d v) : Hold G H O ((v, .sh d) :: L) := ⟨⟨[], O, rfl, ⟨rfl, r⟩, h.1⟩, h.2⟩
theorem Hold.add (h : Hold G H O L) {v : V} {d : D} (r : RepD G H O d v) : Holds G H ((v, .sh d) :: L) := ⟨O, h.add' r⟩
theorem Holds.add0 (h : Holds G H L) {v : V} {d : D} (r : ∀ O, RepD G H O d v) : Holds G H ((v, .sh d) :: L) := by
  obtain ⟨O, h⟩ := h
  exact h.add (r O)
theorem notO (h : RepL G H O L O) {p : Addr} (hp : H p = none) : p ∉ O := fun z => h.there p z hp
/-- a new list of one's own -/
theorem Hold.newL (h : Hold G H O L) {p : Addr} {ss : List Slot} {xs : List V} (hp : H p = none) (r : RepSs G H O ss xs []) : Holds G (upd H p (.lst xs)) ((.ref p, .lst ss) :: L) := by
  have k : Keep [] H (upd H p (.lst xs)) := fun a o q _ => Same.new hp a o q
  have hO : ∀ a ∈ p :: O, a ∈ O ∨ H a = none := fun a z => (List.mem_cons.mp z).elim (fun q => .inr (q ▸ hp)) .inl
  obtain ⟨h, OF, hf, nd⟩ := h
  refine ⟨p :: O, ⟨[p], O, rfl, ⟨p, xs, [], rfl, rfl, upd_same, ?_⟩, ?_⟩, OF, hf.step k (fun a z => nomatch z) hO (fun a _ z => nomatch z), List.nodup_cons.mpr ⟨fun z => ?_, nd⟩⟩
  · exact RepSs.step k (fun a z => nomatch z) hO ss xs [] r fun a z => nomatch z
  · exact RepL.step k (fun a z => nomatch z) hO h fun a _ z => nomatch z
  · exact (List.mem_append.mp z).elim (notO h hp) fun q => hf.there p q hp
/-- a new tuple -/
theorem Hold.newT (h : Hold G H O L) {p : Addr} {ds : List D} {xs : List V} (hp : H p = none) (r : RepDs G H O ds xs) : Holds G (upd H p (.tup xs)) ((.ref p, .sh (.tup ds)) :: L) := by
  have k : Keep [] H (upd H p (.tup xs)) := fun a o q _ => Same.new hp a o q
  obtain ⟨h, OF, hf, nd⟩ := h
  refine ⟨O, ⟨[], O, rfl, ⟨rfl, p, xs, rfl, .inl ⟨.inl upd_same, notO h hp⟩, ?_⟩, ?_⟩, OF, hf.step k (fun a z => nomatch z) (fun a z => .inl z) (fun a _ z => nomatch z), nd⟩
  · exact RepDs.step k (fun a z => nomatch z) (fun a z => .inl z) ds xs r
  · exact RepL.step k (fun a z => nomatch z) (fun a z => .inl z) h fun a _ z => nomatch z
theorem RepDs.length : ∀ {ds : List D} {xs : List V}, RepDs G H O ds xs → xs.length = ds.length
  | [], xs, h => by rw [show xs = [] from h]; rfl
  | d :: ds, xs, ⟨v, r, e, h1, h2⟩ => by rw [e, List.length_cons, List.length_cons, RepDs.length h2]
theorem RepSs.length : ∀ {ss : List Slot} {xs : List V} {os : List Addr}, RepSs G H O ss xs os → xs.length = ss.length
  | [], xs, os, h => by rw [show xs = [] from h.1]; rfl
  | s :: ss, xs, os, ⟨v, r, o1, o2, e, eo, h1, h2⟩ => by rw [e, List.length_cons, List.length_cons, RepSs.length h2]
theorem RepDs.get : ∀ {ds : List D} {xs : List V} {i : Nat} {d : D}, RepDs G H O ds xs → ds[i]? = some d → ∃ v, xs[i]? = some v ∧ RepD G H O d v
  | d' :: ds, xs, 0, d, ⟨v, r, e, h1, h2⟩, q => by
    have q' : d' = d := by simpa using q
    subst q'
    exact ⟨v, by rw [e]; rfl, h1⟩
  | d' :: ds, xs, i + 1, d, ⟨v, r, e, h1, h2⟩, q => by
    obtain ⟨u, e1, h⟩ := RepDs.get (i := i) h2 (by simpa using q)
    exact ⟨u, by rw [e]; simpa using e1, h⟩
theorem RepDs.app : ∀ {ds es : List D} {xs ys : List V}, RepDs G H O ds xs → RepDs G H O es ys → RepDs G H O (ds ++ es) (xs ++ ys)
  | [], es, xs, ys, h, h' => by rw [show xs = [] from h]; exact h'
  | d :: ds, es, xs, ys, ⟨v, r, e, h1, h2⟩, h' => ⟨v, r ++ ys, by rw [e]; rfl, h1, RepDs.app h2 h'⟩
theorem RepDs.drop : ∀ {n : Nat} {ds : List D} {xs : List V}, RepDs G H O ds xs → RepDs G H O (ds.drop n) (xs.drop n)
  | 0, _, _, h => h
  | n + 1, [], xs, h => by rw [show xs = [] from h]; rfl
  | n + 1, d :: ds, xs, ⟨v, r, e, h1, h2⟩ => by rw [e]; exact RepDs.drop (n := n) h2
theorem RepDs.take : ∀ {n : Nat} {ds : List D} {xs : List V}, RepDs G H O ds xs → RepDs G H O (ds.take n) (xs.take n)
  | 0, _, _, h => rfl
  | n + 1, [], xs, h => by rw [show xs = [] from h]; rfl
  | n + 1, d :: ds, xs, ⟨v, r, e, h1, h2⟩ => by rw [e]; exact ⟨v, r.take n, rfl, h1, RepDs.take h2⟩
theorem RepDs.all : ∀ {ds : List D} {xs : List V}, ds.length = xs.length → (∀ (i : Nat) d v, ds[i]? = some d → xs[i]? = some v → RepD G H O d v) → RepDs G H O ds xs
  | [], [], _, _ => rfl
  | d :: ds, v :: xs, hl, h => ⟨v, xs, rfl, h 0 d v rfl rfl, RepDs.all (by simpa using hl) fun i d' v' e e' => h (i + 1) d' v' (by simpa using e) (by simpa using e')⟩
end
end Sep

/-! SepC: the state of a body, expressions. -/
namespace Sep
open PySem L2

abbrev Sl := List Slot
/-- a result: a thing by itself, or what stands in a slot of its own -/
inductive R where
  | v (s : Slot)
  | r (i : Nat)
inductive Out (α : Type) where
  | ok (a : α) (ρ : Sl)
  | exc (c : Str) (ns : List Str) (ds : List D) (ρ : Sl)
  | stuck
def Out.bind {α β : Type} : Out α → (α → Sl → Out β) → Out β
  | .ok a ρ, k => k a ρ
  | .exc c ns ds ρ, _ => .exc c ns ds ρ
  | .stuck, _ => .stuck
abbrev Ev := Sl → Out R
def R.slot : R → Slot
  | .v s => s
  | .r _ => .no
def At (σ : L2.St) (r : R) (v : V) : Prop := match r with
  | .v _ => True
  | .r i => σ[i]? = some (some v)
def envL (σ : L2.St) (ρ : Sl) : Hd := (σ.map fun o => o.getD .non).zip ρ
structure SR (G : Gm) (σ : L2.St) (ρ : Sl) (T : Hd) (H : Hp) : Prop where
  h : Holds G H (envL σ ρ ++ T)
  len : ρ.length = σ.length
  as : ∀ (i : Nat) s, ρ[i]? = some s → s ≠ .no → ∃ v, σ[i]? = some (some v)

section
variable {G : Gm} {σ σ' : L2.St} {ρ ρ' : Sl} {T T' L L' : Hd} {H H' : Hp} {x : V × Slot} {O : List Addr}
theorem env_at {i : Nat} {v : V} {s : Slot} (h1 : σ[i]? = some (some v)) (h2 : ρ[i]? = some s) : (envL σ ρ)[i]? = some (v, s) := by
  unfold envL
  rw [List.getElem?_zip_eq_some]
  refine ⟨?_, h2⟩
  rw [List.getElem?_map, h1]; rfl
theorem env_mem {i : Nat} {v : V} {s : Slot} (h1 : σ[i]? = some (some v)) (h2 : ρ[i]? = some s) : (v, s) ∈ envL σ ρ := List.mem_of_getElem? (env_at h1 h2)
theorem SR.push (r : SR G σ ρ T H) (h : Holds G H' (x :: (envL σ ρ ++ T))) : SR G σ ρ (x :: T) H' := ⟨h.perm (List.perm_middle.symm), r.len, r.as⟩
theorem SR.pull (r : SR G σ ρ (x :: T) H) : Holds G H (x :: (envL σ ρ ++ T)) := r.h.perm List.perm_middle
theorem SR.pop (r : SR G σ ρ (x :: T) H) : SR G σ ρ T H := ⟨r.pull.tail, r.len, r.as⟩
theorem SR.permT (r : SR G σ ρ T H) (p : T.Perm T') : SR G σ ρ T' H := ⟨r.h.perm (p.append_left _), r.len, r.as⟩
theorem SR.pop2 {y : V × Slot} (r : SR G σ ρ (y :: x :: T) H) : SR G σ ρ (y :: T) H := (r.permT (.swap x y T)).pop
theorem SR.pop3 {y z : V × Slot} (r : SR G σ ρ (y :: x :: z :: T) H) : SR G σ ρ (y :: T) H := r.pop2.pop2
theorem SR.val (r : SR G σ ρ T H) {i : Nat} {s : Slot} (h : ρ[i]? = some s) (n : s ≠ .no) : ∃ v, σ[i]? = some (some v) ∧ (v, s) ∈ envL σ ρ ++ T := by
  obtain ⟨v, e⟩ := r.as i s h n
  exact ⟨v, e, List.mem_append_left _ (env_mem e h)⟩
theorem SR.no {v : V} (r : SR G σ ρ T H) : SR G σ ρ ((v, .no) :: T) H := r.push r.h.no
end

/-- an exception's class and dict, as HandS has its wishes -/
def Post {α : Type} (G : Gm) (W : WX) (σ : L2.St) (T : Hd) (P : α → Sl → Prop) : Out α → Prop
  | .ok a ρ => P a ρ
  | .exc c ns ds ρ => ∀ d H', SR G σ ρ ((.ref d, .sh (.xd ns ds)) :: T) H' → W (.ref (G.cls c)) (some d) σ H'
  | .stuck => False
section
variable {α β : Type} {G : Gm} {W : WX} {σ : L2.St} {ρ : Sl} {T : Hd} {H : Hp} {P P' : α → Sl → Prop} {o : Out α} {x : V × Slot}
theorem Post.bind {P : β → Sl → Prop} {k : α → Sl → Out β} (h : Post G W σ T P (o.bind k)) : Post G W σ T (fun a ρ => Post G W σ T P (k a ρ)) o := by
  cases o <;> exact h
theorem Post.imp (h : Post G W σ T P o) (i : ∀ a ρ, P a ρ → P' a ρ) : Post G W σ T P' o := by
  cases o with
  | ok a ρ => exact i a ρ h
  | exc => exact h
  | stuck => exact h
theorem Post.more (h : Post G W σ T P o) : Post G W σ (x :: T) P o := by
  cases o with
  | ok a ρ => exact h
  | exc c ns ds ρ => exact fun d H' sr => h d H' sr.pop2
  | stuck => exact h
end

/-- what an expression's function says of its reading -/
def Rt (G : Gm) (σ : L2.St) (T : Hd) (Q : VK) (r : R) (ρ : Sl) : Prop := ∀ v H', SR G σ ρ ((v, r.slot) :: T) H' → At σ r v → Q v H'
def EvOk (G : Gm) (W : WX) (t : TE) (f : Ev) : Prop := ∀ σ H ρ T Q, SR G σ ρ T H → Post G W σ T (Rt G σ T Q) (f ρ) → t σ H Q
def TtOk (G : Gm) (W : WX) (t : TT) (f : Sl → Out Bool) : Prop := ∀ σ H ρ T Q, SR G σ ρ T H → Post G W σ T (fun b ρ => ∀ H', SR G σ ρ T H' → Q b H') (f ρ) → t σ H Q
def zipR (vs : List V) (rs : List R) : Hd := vs.zip (rs.map R.slot)
def Ats (σ : L2.St) : List R → List V → Prop
  | [], vs => vs = []
  | r :: rs, vs => ∃ v w, vs = v :: w ∧ At σ r v ∧ Ats σ rs w
def ArOk (G : Gm) (W : WX) (t : TA) (f : Sl → Out (List R)) : Prop := ∀ σ H ρ T Q, SR G σ ρ T H →
  Post G W σ T (fun rs ρ => ∀ vs H', SR G σ ρ (zipR vs rs ++ T) H' → Ats σ rs vs → Q vs H') (f ρ) → t σ H Q
structure DE (X : Cx) (G : Gm) (W : WX) (e : Expr) (t : TE) (f : Ev) : Prop where
  pe : PE X e t
  ok : EvOk G W t f
structure DT (X : Cx) (G : Gm) (W : WX) (e : Expr) (t : TT) (f : Sl → Out Bool) : Prop where
  pt : PT X e t
  ok : TtOk G W t f
structure DA (X : Cx) (G : Gm) (W : WX) (es : List Expr) (t : TA) (f : Sl → Out (List R)) : Prop where
  pa : PA X es t
  ok : ArOk G W t f

/-! ### names, constants -/
def eVar (i : Nat) : Ev := fun ρ => match ρ[i]? with
  | some (.sh d) => .ok (.v (.sh d)) ρ
  | some .no => .stuck
  | none => .stuck
  | some _ => .ok (.r i) ρ
def eC (d : D) : Ev := fun ρ => .ok (.v (.sh d)) ρ
def look (r : R) (ρ : Sl) : Option D := match r with
  | .v s => s.flat
  | .r i => (ρ[i]?).bind Slot.flat
/-- a result that goes elsewhere: what stood in a slot is shared from now on -/
def cons (r : R) (ρ : Sl) : Out D := match r with
  | .v s => (match s.fr with | some d => .ok d ρ | none => .stuck)
  | .r i => (match ρ[i]? with
    | some s => (match s.fr with | some d => .ok d (ρ.set i (.sh d)) | none => .stuck)
    | none => .stuck)

section
variable {G : Gm} {W : WX} {σ σ' : L2.St} {ρ ρ' : Sl} {T T' L L' : Hd} {H H' : Hp} {x : V × Slot} {O : List Addr}
theorem ok_var {i : Nat} : EvOk G W (tVar i) (eVar i) := by
  intro σ H ρ T Q sr p
  unfold eVar at p
  cases e : ρ[i]? with
  | none => rw [e] at p; exact p.elim
  | some s =>
    rw [e] at p
    cases s with
    | no => exact p.elim
    | sh d =>
      obtain ⟨v, e2, hm⟩ := sr.val e (by simp)
      obtain ⟨O, h⟩ := sr.h
      obtain ⟨o1, h1, _⟩ := h.1.mem hm
      exact ⟨v, e2, p v H (sr.push (h.add h1.2)) trivial⟩
    | lst ss =>
      obtain ⟨v, e2, hm⟩ := sr.val e (by simp)
      exact ⟨v, e2, p v H sr.no e2⟩
    | obj c ns ss =>
      obtain ⟨v, e2, hm⟩ := sr.val e (by simp)
      exact ⟨v, e2, p v H sr.no e2⟩
    | dct ks ss =>
      obtain ⟨v, e2, hm⟩ := sr.val e (by simp)
      exact ⟨v, e2, p v H sr.no e2⟩
theorem ok_c {v : V} {d : D} (h : ∀ H O, RepD G H O d v) : EvOk G W (tC v) (eC d) := by
  intro σ H ρ T Q sr p
  exact p v H (sr.push (sr.h.add0 fun O => h H O)) trivial
/-- a result's data at the moment, whoever owns it -/
theorem SR.lookP (sr : SR G σ ρ T H) {r : R} {v : V} {d : D} {O : List Addr} (h : Hold G H O (envL σ ρ ++ T)) (a : At σ r v) (hm : ∀ s, r = .v s → (v, s) ∈ T) (e : look r ρ = some d) : RepP G H O d v := by
  cases r with
  | v s => exact h.peek (List.mem_append_right _ (hm s rfl)) e
  | r i =>
    have e' : (ρ[i]?).bind Slot.flat = some d := e
    cases q : ρ[i]? with
    | none => rw [q] at e'; cases e'
    | some s =>
      rw [q] at e'
      exact h.peek (List.mem_append_left _ (env_mem a q)) e'
/-- a slot set: what stood there goes, what comes was held as the first -/
theorem set_perm : ∀ {σ : L2.St} {ρ : Sl} {i : Nat} {v u : V} {s w : Slot}, σ[i]? = some (some v) → ρ[i]? = some s → ∃ L0, (envL σ ρ).Perm ((v, s) :: L0) ∧ (envL σ (ρ.set i w)).Perm ((v, w) :: L0)
  | o :: σ, s' :: ρ, 0, v, u, s, w, h1, h2 => by
    have e1 : o = some v := by simpa using h1
    have e2 : s' = s := by simpa using h2
    subst e1 e2
    exact ⟨envL σ ρ, .refl _, .refl _⟩
  | o :: σ, s' :: ρ, i + 1, v, u, s, w, h1, h2 => by
    obtain ⟨L0, p1, p2⟩ := set_perm (σ := σ) (ρ := ρ) (i := i) (u := u) (w := w) (by simpa using h1) (by simpa using h2)
    exact ⟨(o.getD .non, s') :: L0, (p1.cons _).trans (.swap _ _ _), (p2.cons _).trans (.swap _ _ _)⟩
  | [], _, _, _, _, _, _, h1, _ => by simp at h1
  | _ :: _, [], _, _, _, _, _, _, h2 => by simp at h2
theorem as_set {i : Nat} {w : Slot} (h : ∀ (i : Nat) s, ρ[i]? = some s → s ≠ .no → ∃ v, σ[i]? = some (some v)) (hi : ∃ v, σ[i]? = some (some v)) : ∀ (j : Nat) s, (ρ.set i w)[j]? = some s → s ≠ .no → ∃ v, σ[j]? = some (some v) := by
  intro j s e n
  by_cases q : i = j
  · subst q; exact hi
  · rw [List.getElem?_set_ne q] at e
    exact h j s e n
/-- freezing a slot, its value held once more as data -/
theorem SR.freeze (sr : SR G σ ρ T H) {i : Nat} {v : V} {s : Slot} {d : D} (h1 : σ[i]? = some (some v)) (h2 : ρ[i]? = some s) (e : s.fr = some d) : SR G σ (ρ.set i (.sh d)) ((v, .sh d) :: T) H := by
  obtain ⟨L0, p1, p2⟩ := set_perm (u := v) (w := .sh d) h1 h2
  have a : Holds G H ((v, s) :: (L0 ++ T)) := sr.h.perm (p1.append_right T)
  have b := (a.fr e).dup
  refine ⟨b.perm ?_, by rw [List.length_set]; exact sr.len, as_set sr.as ⟨v, h1⟩⟩
  exact ((p2.symm.append_right T).cons (v, .sh d)).trans List.perm_middle.symm
/-- what a result becomes when it goes elsewhere -/
theorem SR.take {r : R} {v : V} (sr : SR G σ ρ ((v, r.slot) :: T) H) (a : At σ r v) {P : D → Sl → Prop} (p : Post G W σ T P (cons r ρ)) : ∃ d ρ', SR G σ ρ' ((v, .sh d) :: T) H ∧ P d ρ' ∧ Sep.cons r ρ = .ok d ρ' := by
  cases r with
  | v s =>
    unfold Sep.cons at p ⊢
    cases e : s.fr with
    | none => simp only [e] at p; exact p.elim
    | some d =>
      simp only [e] at p ⊢
      exact ⟨d, ρ, sr.pop.push (sr.pull.fr e), p, rfl⟩
  | r i =>
    unfold Sep.cons at p ⊢
    have a' : σ[i]? = some (some v) := a
    cases e : ρ[i]? with
    | none => simp only [e] at p; exact p.elim
    | some s =>
      simp only [e] at p ⊢
      cases e2 : s.fr with
      | none => simp only [e2] at p; exact p.elim
      | some d =>
        simp only [e2] at p ⊢
        exact ⟨d, ρ.set i (.sh d), sr.pop.freeze a' e e2, p, rfl⟩
end
end Sep

/-! SepD: operators. -/
namespace Sep
open PySem L2

/-! ### plain data, for == and in -/
mutual
def D.py : D → Option PyData
  | .non => some .none
  | .bl b => some (.bool b)
  | .int i => some (.int i)
  | .str s => some (.str s)
  | .tup ds => (pys ds).map PyData.tuple
  | .lst ds => (pys ds).map PyData.list
  | .rol _ => none
  | .obj _ _ _ => none
  | .dct _ _ => none
  | .xd _ _ => none
def pys : List D → Option (List PyData)
  | [] => some []
  | d :: ds => match d.py, pys ds with
    | some p, some ps => some (p :: ps)
    | _, _ => none
end
section
variable {G : Gm} {H : Hp} {O : List Addr}
theorem sqT_of {K : PySem.W.Frag} {a : Addr} {xs : List V} (h : (Rd H a (.tup xs) ∧ a ∉ O) ∨ KT K a xs) : SqT K H a xs := h.elim (fun q => .inl q.1) .inr
theorem sqL_of {K : PySem.W.Frag} {a : Addr} {xs : List V} (h : (Rd H a (.lst xs) ∧ a ∉ O) ∨ KL K a xs) : SqL K H a xs := h.elim (fun q => .inl q.1) .inr
mutual
theorem RepD.dp : ∀ {d : D} {v : V} {p : PyData}, RepD G H O d v → d.py = some p → Dp G.K H v p
  | .non, v, p, h, e => by rw [D.py] at e; cases e; cases h; exact .non
  | .bl b, v, p, h, e => by rw [D.py] at e; cases e; cases h; exact .bl b
  | .int i, v, p, h, e => by rw [D.py] at e; cases e; cases h; exact .int i
  | .str s, v, p, h, e => by rw [D.py] at e; cases e; cases h; exact .str s
  | .tup ds, v, p, h, e => by
    rw [D.py] at e
    obtain ⟨a, xs, ev, h1, h2⟩ := h
    subst ev
    cases q : pys ds with
    | none => rw [q] at e; cases e
    | some ps => rw [q] at e; cases e; exact .tup (sqT_of h1) (RepDs.dp h2 q)
  | .lst ds, v, p, h, e => by
    rw [D.py] at e
    obtain ⟨a, xs, ev, h1, h2⟩ := h
    subst ev
    cases q : pys ds with
    | none => rw [q] at e; cases e
    | some ps => rw [q] at e; cases e; exact .lst (.of h1.1) (RepDs.dp h2 q)
  | .rol _, v, p, h, e => by rw [D.py] at e; cases e
  | .obj _ _ _, v, p, h, e => by rw [D.py] at e; cases e
  | .dct _ _, v, p, h, e => by rw [D.py] at e; cases e
  | .xd _ _, v, p, h, e => by rw [D.py] at e; cases e
theorem RepDs.dp : ∀ {ds : List D} {xs : List V} {ps : List PyData}, RepDs G H O ds xs → pys ds = some ps → DpAll G.K H xs ps
  | [], xs, ps, h, e => by rw [pys] at e; cases e; cases h; exact .nil
  | d :: ds, xs, ps, h, e => by
    rw [pys] at e
    obtain ⟨v, r, ex, h1, h2⟩ := h
    subst ex
    cases q : d.py with
    | none => rw [q] at e; cases e
    | some p =>
      cases q2 : pys ds with
      | none => rw [q, q2] at e; cases e
      | some ps' => rw [q, q2] at e; cases e; exact .cons (RepD.dp h1 q) (RepDs.dp h2 q2)
end
theorem RepP.dp {d : D} {v : V} {p : PyData} (h : RepP G H O d v) (e : d.py = some p) : Dp G.K H v p := by
  cases d with
  | lst ds =>
    rw [D.py] at e
    obtain ⟨a, xs, ev, h1, h2⟩ := h
    subst ev
    cases q : pys ds with
    | none => rw [q] at e; cases e
    | some ps => rw [q] at e; cases e; exact .lst (.of h1) (h2.dp q)
  | rol _ => rw [D.py] at e; cases e
  | obj _ _ _ => rw [D.py] at e; cases e
  | dct _ _ => rw [D.py] at e; cases e
  | xd _ _ => rw [D.py] at e; cases e
  | non => exact RepD.dp (O := O) (d := .non) h e
  | bl b => exact RepD.dp (O := O) (d := .bl b) h e
  | int i => exact RepD.dp (O := O) (d := .int i) h e
  | str s => exact RepD.dp (O := O) (d := .str s) h e
  | tup ds => exact RepD.dp (O := O) (d := .tup ds) h e
end

/-! ### two-place operators -/
def OpD (G : Gm) (r : R2) (g : D → D → Option Slot) : Prop := ∀ H O L x y dx dy s Q, Hold G H O L → RepP G H O dx x → RepP G H O dy y → g dx dy = some s →
  (∀ v H', Holds G H' ((v, s) :: L) → Q v H') → r x y H Q
def eOp (g : D → D → Option Slot) (fa fb : Ev) : Ev := fun ρ => (fa ρ).bind fun r1 ρ1 => (fb ρ1).bind fun r2 ρ2 => match look r1 ρ2, look r2 ρ2 with
  | some d1, some d2 => (match g d1 d2 with
    | some s => .ok (.v s) ρ2
    | none => .stuck)
  | _, _ => .stuck
section
variable {G : Gm} {W : WX} {ta tb : TE} {fa fb : Ev}
theorem ok_op {r : R2} {g : D → D → Option Slot} (ho : OpD G r g) (ha : EvOk G W ta fa) (hb : EvOk G W tb fb) : EvOk G W (tOp r ta tb) (eOp g fa fb) := by
  intro σ H ρ T Q sr p
  refine ha σ H ρ T _ sr ((Post.bind p).imp fun r1 ρ1 p1 => ?_)
  intro x H1 sr1 a1
  refine hb σ H1 ρ1 ((x, r1.slot) :: T) _ sr1 ((Post.bind p1).more.imp fun r2 ρ2 p2 => ?_)
  intro y H2 sr2 a2
  cases e1 : look r1 ρ2 with
  | none => simp only [e1] at p2; exact p2.elim
  | some d1 =>
    cases e2 : look r2 ρ2 with
    | none => simp only [e1, e2] at p2; exact p2.elim
    | some d2 =>
      simp only [e1, e2] at p2
      cases e3 : g d1 d2 with
      | none => simp only [e3] at p2; exact p2.elim
      | some s =>
        simp only [e3] at p2
        obtain ⟨O, h⟩ := sr2.h
        refine ho H2 O _ x y d1 d2 s Q h (sr2.lookP h a1 (fun s e => ?_) e1) (sr2.lookP h a2 (fun s e => ?_) e2) e3 fun v H' hs => ?_
        · subst e; exact List.mem_cons_of_mem _ List.mem_cons_self
        · subst e; exact List.mem_cons_self
        · exact p2 v H' (sr2.push hs).pop3 trivial
end

abbrev LIM : Nat := 16777216
theorem lim_le {n : Nat} (h : n ≤ LIM) : n ≤ sizeLine := by rw [sizeLine_eq]; exact h
section
variable {G : Gm} {H : Hp} {O : List Addr} {L : Hd}
theorem Hold.sc (h : Hold G H O L) {v : V} {d : D} (r : RepD G H O d v) : Holds G H ((v, .sh d) :: L) := h.add r
theorem OpD.int {g : Int → Int → Int} : OpD G (rI0 fun i j => .int (g i j)) (fun a b => match a, b with | .int i, .int j => some (.sh (.int (g i j))) | _, _ => none) := by
  intro H O L x y dx dy s Q h hx hy e q
  cases dx <;> cases dy <;> first | (cases e; done) | skip
  cases e
  exact ⟨_, _, hx, hy, q _ _ (h.sc rfl)⟩
def gInt (C : Int → Int → Bool) (g : Int → Int → Int) : D → D → Option Slot := fun a b => match a, b with
  | .int i, .int j => if C i j then some (.sh (.int (g i j))) else none
  | _, _ => none
theorem OpD.intC {C : Int → Int → Prop} {Cb : Int → Int → Bool} {g : Int → Int → Int} (hC : ∀ i j, Cb i j = true → C i j) : OpD G (rI C fun i j => .int (g i j)) (gInt Cb g) := by
  intro H O L x y dx dy s Q h hx hy e q
  cases dx <;> cases dy <;> first | (cases e; done) | skip
  rename_i i j
  have e' : (if Cb i j then some (Slot.sh (.int (g i j))) else none) = some s := e
  split at e'
  · rename_i hc
    cases e'
    exact ⟨_, _, hx, hy, hC _ _ hc, q _ _ (h.sc rfl)⟩
  · cases e'
def gSubt : D → D → Option Slot := fun a b => match a, b with | .int i, .int j => some (.sh (.int (i - j))) | _, _ => none
theorem od_sub : OpD G (rI0 fun i j => .int (i - j)) gSubt := OpD.int (g := fun i j => i - j)
abbrev cMul : Int → Int → Bool := fun i j => decide (i.natAbs.log2 + j.natAbs.log2 < 1000000)
abbrev cDiv : Int → Int → Bool := fun _ j => decide (0 < j ∧ j.natAbs.log2 < 9000)
abbrev cMod : Int → Int → Bool := fun _ j => decide (0 < j)
abbrev cPow : Int → Int → Bool := fun i j => decide (0 ≤ j ∧ j ≤ 1000000 ∧ i.natAbs < 2 ^ 64)
abbrev gMul : D → D → Option Slot := gInt cMul fun i j => i * j
abbrev gDiv : D → D → Option Slot := gInt cDiv fun i j => i / j
abbrev gMod : D → D → Option Slot := gInt cMod fun i j => i % j
abbrev gPow : D → D → Option Slot := gInt cPow fun i j => i ^ j.toNat
theorem od_mul : OpD G (rI CMulW fun i j => .int (i * j)) gMul := OpD.intC fun i j h => by simpa [CMulW] using h
theorem od_div : OpD G (rI CDivW fun i j => .int (i / j)) gDiv := OpD.intC fun i j h => by simpa [CDivW] using h
theorem od_mod : OpD G (rI (fun _ j => 0 < j) fun i j => .int (i % j)) gMod := OpD.intC fun i j h => by simpa using h
theorem od_pow : OpD G (rI CPow fun i j => .int (i ^ j.toNat)) gPow := OpD.intC fun i j h => by simpa [CPow] using h

/-- + of ints, texts, lists, tuples -/
def gAdd : D → D → Option Slot := fun a b => match a, b with
  | .int i, .int j => some (.sh (.int (i + j)))
  | .str x, .str y => if x.length + y.length ≤ LIM then some (.sh (.str (x ++ y))) else none
  | .lst xs, .lst ys => if xs.length + ys.length ≤ LIM then some (.lst (shs (xs ++ ys))) else none
  | .tup xs, .tup ys => if xs.length + ys.length ≤ LIM then some (.sh (.tup (xs ++ ys))) else none
  | _, _ => none
def rAdd (K : PySem.W.Frag) : R2 := fun x y H Q => rI0 (fun i j => .int (i + j)) x y H Q ∨ (∃ i j, x = .str i ∧ y = .str j ∧ i.length + j.length ≤ sizeLine ∧ Q (.str (i ++ j)) H) ∨ rCat x y H Q ∨ rCatA K x y H Q
theorem od_add : OpD G (rAdd G.K) gAdd := by
  intro H O L x y dx dy s Q h hx hy e q
  cases dx <;> cases dy <;> first | (cases e; done) | skip
  · cases e
    exact .inl ⟨_, _, hx, hy, q _ _ (h.sc rfl)⟩
  · rename_i a b
    have e' : (if a.length + b.length ≤ LIM then some (Slot.sh (.str (a ++ b))) else none) = some s := e
    split at e'
    · rename_i hc
      cases e'
      exact .inr (.inl ⟨_, _, hx, hy, lim_le hc, q _ _ (h.sc rfl)⟩)
    · cases e'
  · rename_i as bs
    have e' : (if as.length + bs.length ≤ LIM then some (Slot.sh (.tup (as ++ bs))) else none) = some s := e
    split at e'
    · rename_i hc
      cases e'
      obtain ⟨a, xs, ea, h1, h2⟩ := hx
      obtain ⟨b, ys, eb, h3, h4⟩ := hy
      refine .inr (.inr (.inr ⟨a, b, xs, ys, ea, eb, sqT_of h1, sqT_of h3, by rw [h2.length, h4.length]; exact lim_le hc, fun z => ?_, fun _ z => ?_, fun _ _ p hp => ?_⟩))
      · subst z
        have e0 : as = [] := by have := h2.length; exact List.eq_nil_of_length_eq_zero this.symm
        subst e0
        exact q _ _ (h.sc ⟨b, ys, rfl, h3, h4⟩)
      · subst z
        have e0 : bs = [] := by have := h4.length; exact List.eq_nil_of_length_eq_zero this.symm
        subst e0
        rw [List.append_nil] at q
        exact q _ _ (h.sc ⟨a, xs, rfl, h1, h2⟩)
      · exact q _ _ (h.newT hp (h2.app h4))
    · cases e'
  · rename_i as bs
    have e' : (if as.length + bs.length ≤ LIM then some (Slot.lst (shs (as ++ bs))) else none) = some s := e
    split at e'
    · rename_i hc
      cases e'
      obtain ⟨a, xs, ea, h1, h2⟩ := hx
      obtain ⟨b, ys, eb, h3, h4⟩ := hy
      refine .inr (.inr (.inl ⟨a, b, xs, ys, ea, eb, h1, h3, by rw [h2.length, h4.length]; exact lim_le hc, fun p hp => ?_⟩))
      exact q _ _ (h.newL hp (RepDs.sh (h2.app h4)))
    · cases e'
/-! ### comparisons -/
def gCmp (g : Int → Int → Bool) : D → D → Option Slot := fun a b => match a, b with | .int i, .int j => some (.sh (.bl (g i j))) | _, _ => none
theorem od_cmp {g : Int → Int → Bool} : OpD G (rI0 fun i j => .bl (g i j)) (gCmp g) := by
  intro H O L x y dx dy s Q h hx hy e q
  cases dx <;> cases dy <;> first | (cases e; done) | skip
  cases e
  exact ⟨_, _, hx, hy, q _ _ (h.sc rfl)⟩
abbrev gLt := gCmp fun i j => decide (i < j)
abbrev gLe := gCmp fun i j => decide (i ≤ j)
abbrev gGt := gCmp fun i j => decide (j < i)
abbrev gGe := gCmp fun i j => decide (j ≤ i)
/-- == and != of plain data -/
def gEq : D → D → Option Slot := fun a b => match a.py, b.py with
  | some p, some q => if SeqAt.shaped p && SeqAt.shaped q then some (.sh (.bl (PyData.eqv p q))) else none
  | _, _ => none
def gNe : D → D → Option Slot := fun a b => match a.py, b.py with
  | some p, some q => if SeqAt.shaped p && SeqAt.shaped q then some (.sh (.bl (!PyData.eqv p q))) else none
  | _, _ => none
theorem od_eq : OpD G (rEqD G.K) gEq := by
  intro H O L x y dx dy s Q h hx hy e q
  unfold gEq at e
  cases e1 : dx.py with
  | none => rw [e1] at e; cases e
  | some p =>
    cases e2 : dy.py with
    | none => rw [e1, e2] at e; cases e
    | some p' =>
      rw [e1, e2] at e
      simp only at e
      split at e
      · rename_i hc
        cases e
        have hc' := Bool.and_eq_true_iff.mp hc
        exact ⟨p, p', hx.dp e1, hy.dp e2, hc'.1, hc'.2, q _ _ (h.sc rfl)⟩
      · cases e
theorem od_ne : OpD G (rNeD G.K) gNe := by
  intro H O L x y dx dy s Q h hx hy e q
  unfold gNe at e
  cases e1 : dx.py with
  | none => rw [e1] at e; cases e
  | some p =>
    cases e2 : dy.py with
    | none => rw [e1, e2] at e; cases e
    | some p' =>
      rw [e1, e2] at e
      simp only at e
      split at e
      · rename_i hc
        cases e
        have hc' := Bool.and_eq_true_iff.mp hc
        exact ⟨p, p', hx.dp e1, hy.dp e2, hc'.1, hc'.2, q _ _ (h.sc rfl)⟩
      · cases e
/-- in, not in a list of plain data -/
def gIn (neg : Bool) : D → D → Option Slot := fun a b => match a.py, b.py with
  | some p, some (.list qs) => if SeqAt.shaped p && SeqAt.shaped (.list qs) then some (.sh (.bl (if neg then !qs.any fun z => PyData.eqv z p else qs.any fun z => PyData.eqv z p))) else none
  | _, _ => none
theorem od_in : OpD G (rInD G.K) (gIn false) := by
  intro H O L x y dx dy s Q h hx hy e q
  unfold gIn at e
  cases e1 : dx.py with
  | none => rw [e1] at e; cases e
  | some p =>
    cases e2 : dy.py with
    | none => rw [e1, e2] at e; cases e
    | some p' =>
      rw [e1, e2] at e
      cases p' <;> first | (cases e; done) | skip
      simp only at e
      split at e
      · rename_i hc
        cases e
        have hc' := Bool.and_eq_true_iff.mp hc
        exact ⟨p, _, hx.dp e1, hy.dp e2, hc'.1, hc'.2, q _ _ (h.sc rfl)⟩
      · cases e
theorem od_notIn : OpD G (rNotInD G.K) (gIn true) := by
  intro H O L x y dx dy s Q h hx hy e q
  unfold gIn at e
  cases e1 : dx.py with
  | none => rw [e1] at e; cases e
  | some p =>
    cases e2 : dy.py with
    | none => rw [e1, e2] at e; cases e
    | some p' =>
      rw [e1, e2] at e
      cases p' <;> first | (cases e; done) | skip
      simp only at e
      split at e
      · rename_i hc
        cases e
        have hc' := Bool.and_eq_true_iff.mp hc
        exact ⟨p, _, hx.dp e1, hy.dp e2, hc'.1, hc'.2, q _ _ (h.sc rfl)⟩
      · cases e
end
section
variable {X : Cx}
theorem op_addA : OpR X (binaryOp .Add) (rAdd X.K) := op_add.or (op_add_str.or (op_cat.or op_catA))
end
end Sep

/-! SepE: expressions, tests, displays. -/
namespace Sep
open PySem L2

section
variable {X : Cx} {G : Gm} {W : WX} {a b c : Expr} {ta tb tc : TE} {fa fb fc : Ev} {pos : Pos}

/-! ### names and constants -/
theorem de_var (i : Nat) {x : Str} {pos : Pos} (hN : X.N[i]? = some x := by rfl) (hv : Vis X.env.scope x := by first | exact Or.inl rfl | exact Or.inr (Or.inl rfl) | exact Or.inr (Or.inr rfl)) (hd : (x == ("__debug__" : Str)) = false := by decide)
    (hcd : (x == ("__classdict__" : Str)) = false := by decide) : DE X G W (.Name x pos) (tVar i) (eVar i) := ⟨pe_var hN hv hd hcd, ok_var⟩
theorem de_int {i j pos} : DE X G W (.Constant (.int i) j pos) (tC (.int i)) (eC (.int i)) := ⟨pe_int, ok_c fun _ _ => rfl⟩
theorem de_bl {i j pos} : DE X G W (.Constant (.bool i) j pos) (tC (.bl i)) (eC (.bl i)) := ⟨pe_bl, ok_c fun _ _ => rfl⟩
theorem de_non {j pos} : DE X G W (.Constant .none j pos) (tC .non) (eC .non) := ⟨pe_non, ok_c fun _ _ => rfl⟩
theorem de_str {i j pos} : DE X G W (.Constant (.str i) j pos) (tC (.str i)) (eC (.str i)) := ⟨pe_str, ok_c fun _ _ => rfl⟩
/-- a constant of the module -/
theorem de_glob {x : Str} {v : V} {u : Value} {d : D} {pos : Pos} (hg : Gl X x) (hm : X.mg x = some u) (r : RelV v u) (h : ∀ H O, RepD G H O d v) (hd : (x == ("__debug__" : Str)) = false := by decide) : DE X G W (.Name x pos) (tC v) (eC d) := ⟨pe_glob hg hm r hd, ok_c h⟩

/-! ### two-place operators -/
theorem de_op {op : Operator} {r : R2} {g : D → D → Option Slot} (hop : OpR X (binaryOp op) r) (ho : OpD G r g) (A : DE X G W a ta fa) (B : DE X G W b tb fb) : DE X G W (.BinOp a op b pos) (tOp r ta tb) (eOp g fa fb) := ⟨pe_op hop A.pe B.pe, ok_op ho A.ok B.ok⟩
theorem de_add (hK : X.K = G.K) (A : DE X G W a ta fa) (B : DE X G W b tb fb) : DE X G W (.BinOp a .Add b pos) (tOp (rAdd G.K) ta tb) (eOp gAdd fa fb) := de_op (by rw [← hK]; exact op_addA) od_add A B
theorem de_sub (A : DE X G W a ta fa) (B : DE X G W b tb fb) : DE X G W (.BinOp a .Sub b pos) (tOp (rI0 fun i j => .int (i - j)) ta tb) (eOp gSubt fa fb) := de_op op_sub od_sub A B
theorem de_mul (A : DE X G W a ta fa) (B : DE X G W b tb fb) : DE X G W (.BinOp a .Mult b pos) (tOp (rI CMulW fun i j => .int (i * j)) ta tb) (eOp gMul fa fb) := de_op op_mulW od_mul A B
theorem de_div (A : DE X G W a ta fa) (B : DE X G W b tb fb) : DE X G W (.BinOp a .FloorDiv b pos) (tOp (rI CDivW fun i j => .int (i / j)) ta tb) (eOp gDiv fa fb) := de_op op_fdivW od_div A B
theorem de_mod (A : DE X G W a ta fa) (B : DE X G W b tb fb) : DE X G W (.BinOp a .Mod b pos) (tOp (rI (fun _ j => 0 < j) fun i j => .int (i % j)) ta tb) (eOp gMod fa fb) := de_op op_mod od_mod A B
theorem de_pow (A : DE X G W a ta fa) (B : DE X G W b tb fb) : DE X G W (.BinOp a .Pow b pos) (tOp (rI CPow fun i j => .int (i ^ j.toNat)) ta tb) (eOp gPow fa fb) := de_op op_pow od_pow A B
/-- a comparison as a value -/
theorem de_cmp {op : CmpOp} {r : R2} {g : D → D → Option Slot} (hop : OpR X (compareOp op) r) (ho : OpD G r g) (A : DE X G W a ta fa) (B : DE X G W b tb fb) (hm : behindInMarks op b = false) : DE X G W (.Compare a [op] [b] pos) (tOp r ta tb) (eOp g fa fb) := ⟨pe_cmpR hop A.pe B.pe hm, ok_op ho A.ok B.ok⟩
theorem de_lt (A : DE X G W a ta fa) (B : DE X G W b tb fb) : DE X G W (.Compare a [.Lt] [b] pos) (tOp (rI0 fun i j => .bl (decide (i < j))) ta tb) (eOp gLt fa fb) := de_cmp op_lt od_cmp A B (nomark _)
theorem de_le (A : DE X G W a ta fa) (B : DE X G W b tb fb) : DE X G W (.Compare a [.LtE] [b] pos) (tOp (rI0 fun i j => .bl (decide (i ≤ j))) ta tb) (eOp gLe fa fb) := de_cmp op_le od_cmp A B (nomark _)
theorem de_gt (A : DE X G W a ta fa) (B : DE X G W b tb fb) : DE X G W (.Compare a [.Gt] [b] pos) (tOp (rI0 fun i j => .bl (decide (j < i))) ta tb) (eOp gGt fa fb) := de_cmp op_gt od_cmp A B (nomark _)
theorem de_ge (A : DE X G W a ta fa) (B : DE X G W b tb fb) : DE X G W (.Compare a [.GtE] [b] pos) (tOp (rI0 fun i j => .bl (decide (j ≤ i))) ta tb) (eOp gGe fa fb) := de_cmp op_ge od_cmp A B (nomark _)
theorem units_of {A : Around} {k : Nat} (hr : Room k A) : A.units + 65 < cLine := by
  have h := hr.un
  omega
theorem de_eq {k : Nat} (hK : X.K = G.K) (hr : Room k X.A) (A : DE X G W a ta fa) (B : DE X G W b tb fb) : DE X G W (.Compare a [.Eq] [b] pos) (tOp (rEqD G.K) ta tb) (eOp gEq fa fb) := de_cmp (by rw [← hK]; exact op_eqD (by have := units_of hr; omega)) od_eq A B (nomark _)
theorem de_ne {k : Nat} (hK : X.K = G.K) (hr : Room k X.A) (A : DE X G W a ta fa) (B : DE X G W b tb fb) : DE X G W (.Compare a [.NotEq] [b] pos) (tOp (rNeD G.K) ta tb) (eOp gNe fa fb) := de_cmp (by rw [← hK]; exact op_neD (by have := units_of hr; omega)) od_ne A B (nomark _)
theorem de_in {k : Nat} (hK : X.K = G.K) (hr : Room k X.A) (A : DE X G W a ta fa) (B : DE X G W b tb fb) (hm : behindInMarks .In b = false := by rfl) : DE X G W (.Compare a [.In] [b] pos) (tOp (rInD G.K) ta tb) (eOp (gIn false) fa fb) := de_cmp (by rw [← hK]; exact op_inD (units_of hr)) od_in A B hm
theorem de_notIn {k : Nat} (hK : X.K = G.K) (hr : Room k X.A) (A : DE X G W a ta fa) (B : DE X G W b tb fb) (hm : behindInMarks .NotIn b = false := by rfl) : DE X G W (.Compare a [.NotIn] [b] pos) (tOp (rNotInD G.K) ta tb) (eOp (gIn true) fa fb) := de_cmp (by rw [← hK]; exact op_notInD (units_of hr)) od_notIn A B hm
/-- is None -/
def gIsN (neg : Bool) : D → D → Option Slot := fun a b => match b, a with
  | .non, .non => some (.sh (.bl !neg))
  | .non, _ => some (.sh (.bl neg))
  | _, _ => none
theorem rep_non {H : Hp} {O : List Addr} {d : D} {v : V} (h : RepP G H O d v) : decide (v = .non) = (match d with | .non => true | _ => false) := by
  cases d with
  | non => cases h; rfl
  | bl _ => cases h; rfl
  | int _ => cases h; rfl
  | str _ => cases h; rfl
  | tup _ => obtain ⟨a, xs, e, _⟩ := h; subst e; rfl
  | lst _ => obtain ⟨a, xs, e, _⟩ := h; subst e; rfl
  | rol _ => obtain ⟨a, xs, e, _⟩ := h; subst e; rfl
  | obj _ _ _ => obtain ⟨a, dx, xs, e, _⟩ := h; subst e; rfl
  | dct _ _ => obtain ⟨a, xs, e, _⟩ := h; subst e; rfl
  | xd _ _ => obtain ⟨a, xs, e, _⟩ := h; subst e; rfl
theorem od_isN : OpD G (fun x y H Q => y = .non ∧ Q (.bl (decide (x = .non))) H) (gIsN false) := by
  intro H O L x y dx dy s Q h hx hy e q
  cases dy <;> first | (cases e; done) | skip
  have e1 := rep_non hx
  refine ⟨hy, ?_⟩
  rw [e1]
  cases dx <;> (cases e; exact q _ _ (h.sc rfl))
theorem od_notN : OpD G (fun x y H Q => y = .non ∧ Q (.bl (!decide (x = .non))) H) (gIsN true) := by
  intro H O L x y dx dy s Q h hx hy e q
  cases dy <;> first | (cases e; done) | skip
  have e1 := rep_non hx
  refine ⟨hy, ?_⟩
  rw [e1]
  cases dx <;> (cases e; exact q _ _ (h.sc rfl))
theorem de_isN (A : DE X G W a ta fa) (B : DE X G W b tb fb) : DE X G W (.Compare a [.Is] [b] pos) (tOp (fun x y H Q => y = .non ∧ Q (.bl (decide (x = .non))) H) ta tb) (eOp (gIsN false) fa fb) := de_cmp op_isN od_isN A B (nomark _)
theorem de_notN (A : DE X G W a ta fa) (B : DE X G W b tb fb) : DE X G W (.Compare a [.IsNot] [b] pos) (tOp (fun x y H Q => y = .non ∧ Q (.bl (!decide (x = .non))) H) ta tb) (eOp (gIsN true) fa fb) := de_cmp op_notN od_notN A B (nomark _)

/-! ### a item of a list, a tuple, a text -/
def gIx : D → D → Option Slot := fun a b => match a, b with
  | .lst ds, .int i => (atI ds i).map Slot.sh
  | .rol ds, .int i => (atI ds i).map Slot.sh
  | .tup ds, .int i => (atI ds i).map Slot.sh
  | .str z, .int i => if z.length ≤ LIM then (atI z.cps.toList i).map fun c => .sh (.str ⟨#[c]⟩) else none
  | _, _ => none
theorem RepDs.atI {H : Hp} {O : List Addr} {ds : List D} {xs : List V} {i : Int} {d : D} (h : RepDs G H O ds xs) (e : L2.atI ds i = some d) : ∃ v, L2.atI xs i = some v ∧ RepD G H O d v := by
  unfold L2.atI at e ⊢
  rw [h.length]
  cases q : ixN ds.length i with
  | none => rw [q] at e; cases e
  | some j => rw [q] at e; exact h.get e
theorem od_ix : OpD G (rIx G.K) gIx := by
  intro H O L x y dx dy s Q h hx hy e q
  cases dx <;> cases dy <;> first | (cases e; done) | skip
  · rename_i z i
    have e' : (if z.length ≤ LIM then (atI z.cps.toList i).map fun c => Slot.sh (.str ⟨#[c]⟩) else none) = some s := e
    split at e'
    · rename_i hc
      obtain ⟨c, e1, e2⟩ := Option.map_eq_some_iff.mp e'
      subst e2
      exact .inr (.inr ⟨z, i, c, hx, hy, lim_le hc, e1, q _ _ (h.sc rfl)⟩)
    · cases e'
  · rename_i ds i
    obtain ⟨d, e1, e2⟩ := Option.map_eq_some_iff.mp (show (atI ds i).map Slot.sh = some s from e)
    subst e2
    obtain ⟨a, xs, ea, h1, h2⟩ := hx
    obtain ⟨v, e3, r⟩ := h2.atI e1
    exact .inr (.inl ⟨a, xs, i, v, ea, hy, sqT_of h1, e3, q _ _ (h.sc r)⟩)
  · rename_i ds i
    obtain ⟨d, e1, e2⟩ := Option.map_eq_some_iff.mp (show (atI ds i).map Slot.sh = some s from e)
    subst e2
    obtain ⟨a, xs, ea, h1, h2⟩ := hx
    obtain ⟨v, e3, r⟩ := h2.atI e1
    exact .inl ⟨a, xs, i, v, ea, hy, .of h1, e3, q _ _ (h.sc r)⟩
  · rename_i ds i
    obtain ⟨d, e1, e2⟩ := Option.map_eq_some_iff.mp (show (atI ds i).map Slot.sh = some s from e)
    subst e2
    obtain ⟨a, xs, ea, h1, h2⟩ := hx
    obtain ⟨v, e3, r⟩ := h2.atI e1
    exact .inl ⟨a, xs, i, v, ea, hy, sqL_of h1, e3, q _ _ (h.sc r)⟩
theorem de_ix (hK : X.K = G.K) (A : DE X G W a ta fa) (B : DE X G W b tb fb) (hs : PlainIx b := by exact fun _ _ => rfl) : DE X G W (.Subscript a b pos) (tOp (rIx G.K) ta tb) (eOp gIx fa fb) := ⟨pe_ix (by rw [← hK]; exact ix_seq) A.pe B.pe hs, ok_op od_ix A.ok B.ok⟩

/-! ### tests -/
def tOfE (f : Ev) : Sl → Out Bool := fun ρ => (f ρ).bind fun r ρ1 => match r with
  | .v (.sh (.bl b)) => .ok b ρ1
  | _ => .stuck
theorem ok_tB (A : EvOk G W ta fa) : TtOk G W (tB ta) (tOfE fa) := by
  intro σ H ρ T Q sr p
  refine A σ H ρ T _ sr ((Post.bind p).imp fun r ρ1 p1 => ?_)
  intro x H1 sr1 a1
  cases r with
  | r i => exact p1.elim
  | v s =>
    cases s with
    | sh d =>
      cases d with
      | bl k =>
        obtain ⟨O, ⟨o1, o2, eo, h1, h2⟩, nd⟩ := sr1.pull
        exact ⟨k, h1.2, p1 H1 sr1.pop⟩
      | _ => exact p1.elim
    | _ => exact p1.elim
theorem ok_tTest (A : EvOk G W ta fa) : TtOk G W (tTest ta) (tOfE fa) := ok_tB A
/-- a comparison as a test -/
theorem dt_cmp {op : CmpOp} {r : R2} {g : D → D → Option Slot} (hop : OpR X (compareOp op) r) (ho : OpD G r g) (A : DE X G W a ta fa) (B : DE X G W b tb fb) (hm : behindInMarks op b = false) : DT X G W (.Compare a [op] [b] pos) (tTest (tOp r ta tb)) (tOfE (eOp g fa fb)) := ⟨pt_cmpR hop A.pe B.pe hm, ok_tTest (ok_op ho A.ok B.ok)⟩
theorem dt_lt (A : DE X G W a ta fa) (B : DE X G W b tb fb) : DT X G W (.Compare a [.Lt] [b] pos) (tTest (tOp (rI0 fun i j => .bl (decide (i < j))) ta tb)) (tOfE (eOp gLt fa fb)) := dt_cmp op_lt od_cmp A B (nomark _)
theorem dt_le (A : DE X G W a ta fa) (B : DE X G W b tb fb) : DT X G W (.Compare a [.LtE] [b] pos) (tTest (tOp (rI0 fun i j => .bl (decide (i ≤ j))) ta tb)) (tOfE (eOp gLe fa fb)) := dt_cmp op_le od_cmp A B (nomark _)
theorem dt_gt (A : DE X G W a ta fa) (B : DE X G W b tb fb) : DT X G W (.Compare a [.Gt] [b] pos) (tTest (tOp (rI0 fun i j => .bl (decide (j < i))) ta tb)) (tOfE (eOp gGt fa fb)) := dt_cmp op_gt od_cmp A B (nomark _)
theorem dt_ge (A : DE X G W a ta fa) (B : DE X G W b tb fb) : DT X G W (.Compare a [.GtE] [b] pos) (tTest (tOp (rI0 fun i j => .bl (decide (j ≤ i))) ta tb)) (tOfE (eOp gGe fa fb)) := dt_cmp op_ge od_cmp A B (nomark _)
theorem dt_eq {k : Nat} (hK : X.K = G.K) (hr : Room k X.A) (A : DE X G W a ta fa) (B : DE X G W b tb fb) : DT X G W (.Compare a [.Eq] [b] pos) (tTest (tOp (rEqD G.K) ta tb)) (tOfE (eOp gEq fa fb)) := dt_cmp (by rw [← hK]; exact op_eqD (by have := units_of hr; omega)) od_eq A B (nomark _)
theorem dt_ne {k : Nat} (hK : X.K = G.K) (hr : Room k X.A) (A : DE X G W a ta fa) (B : DE X G W b tb fb) : DT X G W (.Compare a [.NotEq] [b] pos) (tTest (tOp (rNeD G.K) ta tb)) (tOfE (eOp gNe fa fb)) := dt_cmp (by rw [← hK]; exact op_neD (by have := units_of hr; omega)) od_ne A B (nomark _)
theorem dt_in {k : Nat} (hK : X.K = G.K) (hr : Room k X.A) (A : DE X G W a ta fa) (B : DE X G W b tb fb) (hm : behindInMarks .In b = false := by rfl) : DT X G W (.Compare a [.In] [b] pos) (tTest (tOp (rInD G.K) ta tb)) (tOfE (eOp (gIn false) fa fb)) := dt_cmp (by rw [← hK]; exact op_inD (units_of hr)) od_in A B hm
theorem dt_notIn {k : Nat} (hK : X.K = G.K) (hr : Room k X.A) (A : DE X G W a ta fa) (B : DE X G W b tb fb) (hm : behindInMarks .NotIn b = false := by rfl) : DT X G W (.Compare a [.NotIn] [b] pos) (tTest (tOp (rNotInD G.K) ta tb)) (tOfE (eOp (gIn true) fa fb)) := dt_cmp (by rw [← hK]; exact op_notInD (units_of hr)) od_notIn A B hm
theorem dt_isN (A : DE X G W a ta fa) (B : DE X G W b tb fb) : DT X G W (.Compare a [.Is] [b] pos) (tTest (tOp (fun x y H Q => y = .non ∧ Q (.bl (decide (x = .non))) H) ta tb)) (tOfE (eOp (gIsN false) fa fb)) := dt_cmp op_isN od_isN A B (nomark _)
theorem dt_notN (A : DE X G W a ta fa) (B : DE X G W b tb fb) : DT X G W (.Compare a [.IsNot] [b] pos) (tTest (tOp (fun x y H Q => y = .non ∧ Q (.bl (!decide (x = .non))) H) ta tb)) (tOfE (eOp (gIsN true) fa fb)) := dt_cmp op_notN od_notN A B (nomark _)
/-- an expression whose value is a bool -/
theorem dt_val (A : DE X G W a ta fa) (he : ∀ whole, isTrue a X.env whole = (do let v ← whole; standAt a.pos; holding [v] (truthy v)) := by intro _; rfl) : DT X G W a (tB ta) (tOfE fa) := ⟨pt_val A.pe he, ok_tB A.ok⟩
/-- truth of any plain value -/
def gTru : D → Option Bool
  | .non => some false
  | .bl b => some b
  | .int i => some (i != 0)
  | .str y => if y.length ≤ LIM then some ((y.length : Int) != 0) else none
  | .lst ds => some !ds.isEmpty
  | .rol ds => some !ds.isEmpty
  | .tup ds => some !ds.isEmpty
  | _ => none
def eTru (f : Ev) : Sl → Out Bool := fun ρ => (f ρ).bind fun r ρ1 => match look r ρ1 with
  | some d => (match gTru d with | some b => .ok b ρ1 | none => .stuck)
  | none => .stuck
theorem RepDs.emp {H : Hp} {O : List Addr} {ds : List D} {xs : List V} (h : RepDs G H O ds xs) : ds.isEmpty = xs.isEmpty := by
  have := h.length
  cases ds <;> cases xs <;> first | rfl | (simp at this; done)
theorem tru_of {H : Hp} {O : List Addr} {d : D} {v : V} {k : Bool} (h : RepP G H O d v) (e : gTru d = some k) : TruV G.K v H k := by
  cases d with
  | non => cases h; cases e; rfl
  | bl b => cases h; cases e; rfl
  | int i => cases h; cases e; rfl
  | str y =>
    cases h
    have e' : (if y.length ≤ LIM then some ((y.length : Int) != 0) else none) = some k := e
    split at e'
    · rename_i hc
      cases e'
      exact ⟨lim_le hc, rfl⟩
    · cases e'
  | tup ds => obtain ⟨a, xs, ea, h1, h2⟩ := h; subst ea; cases e; exact .inr (.inl ⟨xs, sqT_of h1, by rw [h2.emp]⟩)
  | lst ds => obtain ⟨a, xs, ea, h1, h2⟩ := h; subst ea; cases e; exact .inl ⟨xs, .of h1, by rw [h2.emp]⟩
  | rol ds => obtain ⟨a, xs, ea, h1, h2⟩ := h; subst ea; cases e; exact .inl ⟨xs, sqL_of h1, by rw [h2.emp]⟩
  | obj _ _ _ => cases e
  | dct _ _ => cases e
  | xd _ _ => cases e
def tTru (K : PySem.W.Frag) (ta : TE) : TT := fun σ H Q => ta σ H fun x H' => ∃ k, TruV K x H' k ∧ Q k H'
theorem ok_tru (A : EvOk G W ta fa) : TtOk G W (tTru G.K ta) (eTru fa) := by
  intro σ H ρ T Q sr p
  refine A σ H ρ T _ sr ((Post.bind p).imp fun r ρ1 p1 => ?_)
  intro x H1 sr1 a1
  cases e1 : look r ρ1 with
  | none => simp only [e1] at p1; exact p1.elim
  | some d =>
    cases e2 : gTru d with
    | none => simp only [e1, e2] at p1; exact p1.elim
    | some k =>
      simp only [e1, e2] at p1
      obtain ⟨O, h⟩ := sr1.h
      exact ⟨k, tru_of (sr1.lookP h a1 (fun s e => by subst e; exact List.mem_cons_self) e1) e2, p1 H1 sr1.pop⟩
theorem dt_tru (hK : X.K = G.K) (A : DE X G W a ta fa) (he : ∀ whole, isTrue a X.env whole = (do let v ← whole; standAt a.pos; holding [v] (truthy v)) := by intro _; rfl) : DT X G W a (tTru G.K ta) (eTru fa) := ⟨by have := pt_truth A.pe he; rw [hK] at this; exact this, ok_tru A.ok⟩

/-! ### and, or, not -/
structure DW (X : Cx) (G : Gm) (W : WX) (e : Expr) (t : TT) (f : Sl → Out Bool) : Prop where
  pw : PW X e t
  ok : TtOk G W t f
variable {t1 t2 : TT} {p1 p2 : Sl → Out Bool} {rest : List Expr}
theorem DW.dt (A : DW X G W a t1 p1) : DT X G W a t1 p1 := ⟨A.pw.pt, A.ok⟩
def eAnd (p q : Sl → Out Bool) : Sl → Out Bool := fun ρ => (p ρ).bind fun b ρ1 => if b then q ρ1 else .ok false ρ1
def eOr (p q : Sl → Out Bool) : Sl → Out Bool := fun ρ => (p ρ).bind fun b ρ1 => if b then .ok true ρ1 else q ρ1
def eNot (p : Sl → Out Bool) : Sl → Out Bool := fun ρ => (p ρ).bind fun b ρ1 => .ok (!b) ρ1
theorem ok_and (A : TtOk G W t1 p1) (B : TtOk G W t2 p2) : TtOk G W (tAnd t1 t2) (eAnd p1 p2) := by
  intro σ H ρ T Q sr p
  refine A σ H ρ T _ sr ((Post.bind p).imp fun k ρ1 q H1 sr1 => ?_)
  cases k with
  | true => exact iteT (B σ H1 ρ1 T Q sr1 q)
  | false => exact iteF (q H1 sr1)
theorem ok_or (A : TtOk G W t1 p1) (B : TtOk G W t2 p2) : TtOk G W (tOr t1 t2) (eOr p1 p2) := by
  intro σ H ρ T Q sr p
  refine A σ H ρ T _ sr ((Post.bind p).imp fun k ρ1 q H1 sr1 => ?_)
  cases k with
  | true => exact iteT (q H1 sr1)
  | false => exact iteF (B σ H1 ρ1 T Q sr1 q)
theorem ok_not (A : TtOk G W t1 p1) : TtOk G W (tNot t1) (eNot p1) := by
  intro σ H ρ T Q sr p
  exact A σ H ρ T _ sr ((Post.bind p).imp fun k ρ1 q H1 sr1 => q H1 sr1)
theorem dw_and1 (A : DT X G W a t1 p1) : DW X G W (.BoolOp .And [a] pos) t1 p1 := ⟨pw_and1 A.pt, A.ok⟩
theorem dw_or1 (A : DT X G W a t1 p1) : DW X G W (.BoolOp .Or [a] pos) t1 p1 := ⟨pw_or1 A.pt, A.ok⟩
theorem dw_and (A : DT X G W a t1 p1) (B : DW X G W (.BoolOp .And (b :: rest) pos) t2 p2) : DW X G W (.BoolOp .And (a :: b :: rest) pos) (tAnd t1 t2) (eAnd p1 p2) := ⟨pw_and A.pt B.pw, ok_and A.ok B.ok⟩
theorem dw_or (A : DT X G W a t1 p1) (B : DW X G W (.BoolOp .Or (b :: rest) pos) t2 p2) : DW X G W (.BoolOp .Or (a :: b :: rest) pos) (tOr t1 t2) (eOr p1 p2) := ⟨pw_or A.pt B.pw, ok_or A.ok B.ok⟩
theorem dt_not (A : DT X G W a t1 p1) : DT X G W (.UnaryOp .Not a pos) (tNot t1) (eNot p1) := ⟨pt_not A.pt, ok_not A.ok⟩
/-- as values, all but the last a bool -/
def eAndV (f g : Ev) : Ev := fun ρ => (f ρ).bind fun r ρ1 => match r with
  | .v (.sh (.bl b)) => if b then g ρ1 else .ok (.v (.sh (.bl false))) ρ1
  | _ => .stuck
def eOrV (f g : Ev) : Ev := fun ρ => (f ρ).bind fun r ρ1 => match r with
  | .v (.sh (.bl b)) => if b then .ok (.v (.sh (.bl true))) ρ1 else g ρ1
  | _ => .stuck
def eNotV (f : Ev) : Ev := fun ρ => (f ρ).bind fun r ρ1 => match r with
  | .v (.sh (.bl b)) => .ok (.v (.sh (.bl (!b)))) ρ1
  | _ => .stuck
theorem SR.bl {σ : L2.St} {ρ : Sl} {T : Hd} {H : Hp} {v : V} {k : Bool} (sr : SR G σ ρ ((v, .sh (.bl k)) :: T) H) : v = .bl k := by
  obtain ⟨O, ⟨o1, o2, eo, h1, h2⟩, nd⟩ := sr.pull
  exact h1.2
theorem SR.scal {σ : L2.St} {ρ : Sl} {T : Hd} {H : Hp} {d : D} {v : V} (sr : SR G σ ρ T H) (h : ∀ O, RepD G H O d v) : SR G σ ρ ((v, .sh d) :: T) H := sr.push (sr.h.add0 h)
theorem ok_andV (A : EvOk G W ta fa) (B : EvOk G W tb fb) : EvOk G W (tAndV ta tb) (eAndV fa fb) := by
  intro σ H ρ T Q sr p
  refine A σ H ρ T _ sr ((Post.bind p).imp fun r ρ1 q x H1 sr1 a1 => ?_)
  cases r with
  | r i => exact q.elim
  | v s =>
    cases s with
    | sh d =>
      cases d with
      | bl k =>
        refine ⟨k, sr1.bl, ?_⟩
        cases k with
        | true => exact iteT (B σ H1 ρ1 T Q sr1.pop q)
        | false => exact iteF (q _ H1 (sr1.pop.scal fun _ => rfl) trivial)
      | _ => exact q.elim
    | _ => exact q.elim
theorem ok_orV (A : EvOk G W ta fa) (B : EvOk G W tb fb) : EvOk G W (tOrV ta tb) (eOrV fa fb) := by
  intro σ H ρ T Q sr p
  refine A σ H ρ T _ sr ((Post.bind p).imp fun r ρ1 q x H1 sr1 a1 => ?_)
  cases r with
  | r i => exact q.elim
  | v s =>
    cases s with
    | sh d =>
      cases d with
      | bl k =>
        refine ⟨k, sr1.bl, ?_⟩
        cases k with
        | true => exact iteT (q _ H1 (sr1.pop.scal fun _ => rfl) trivial)
        | false => exact iteF (B σ H1 ρ1 T Q sr1.pop q)
      | _ => exact q.elim
    | _ => exact q.elim
theorem ok_notV (A : EvOk G W ta fa) : EvOk G W (tNotV ta) (eNotV fa) := by
  intro σ H ρ T Q sr p
  refine A σ H ρ T _ sr ((Post.bind p).imp fun r ρ1 q x H1 sr1 a1 => ?_)
  cases r with
  | r i => exact q.elim
  | v s =>
    cases s with
    | sh d =>
      cases d with
      | bl k => exact ⟨k, sr1.bl, q _ H1 (sr1.pop.scal fun _ => rfl) trivial⟩
      | _ => exact q.elim
    | _ => exact q.elim
theorem de_one {op : BoolOp} (A : DE X G W a ta fa) : DE X G W (.BoolOp op [a] pos) ta fa := ⟨pe_one A.pe, A.ok⟩
theorem de_and (A : DE X G W a ta fa) (B : DE X G W (.BoolOp .And (b :: rest) pos) tb fb) : DE X G W (.BoolOp .And (a :: b :: rest) pos) (tAndV ta tb) (eAndV fa fb) := ⟨pe_and A.pe B.pe, ok_andV A.ok B.ok⟩
theorem de_or (A : DE X G W a ta fa) (B : DE X G W (.BoolOp .Or (b :: rest) pos) tb fb) : DE X G W (.BoolOp .Or (a :: b :: rest) pos) (tOrV ta tb) (eOrV fa fb) := ⟨pe_or A.pe B.pe, ok_orV A.ok B.ok⟩
theorem de_not (A : DE X G W a ta fa) : DE X G W (.UnaryOp .Not a pos) (tNotV ta) (eNotV fa) := ⟨pe_not A.pe, ok_notV A.ok⟩
/-- a if c else b -/
def eIf (p : Sl → Out Bool) (f g : Ev) : Ev := fun ρ => (p ρ).bind fun k ρ1 => if k then f ρ1 else g ρ1
theorem ok_if (C : TtOk G W t1 p1) (A : EvOk G W ta fa) (B : EvOk G W tb fb) : EvOk G W (tIf t1 ta tb) (eIf p1 fa fb) := by
  intro σ H ρ T Q sr p
  refine C σ H ρ T _ sr ((Post.bind p).imp fun k ρ1 q H1 sr1 => ?_)
  cases k with
  | true => exact iteT (A σ H1 ρ1 T Q sr1 q)
  | false => exact iteF (B σ H1 ρ1 T Q sr1 q)
theorem de_if (C : DT X G W c t1 p1) (A : DE X G W a ta fa) (B : DE X G W b tb fb) : DE X G W (.IfExp c a b pos) (tIf t1 ta tb) (eIf p1 fa fb) := ⟨pe_ifExp C.pt A.pe B.pe, ok_if C.ok A.ok B.ok⟩
end
end Sep

/-! SepF: arguments, displays, chains, slices, calls of built-ins. -/
namespace Sep
open PySem L2

section
variable {G : Gm} {W : WX} {σ : L2.St} {ρ ρ' : Sl} {T L : Hd} {H : Hp} {O : List Addr}
theorem SR.take1 {r : R} {v : V} {d : D} (sr : SR G σ ρ ((v, r.slot) :: T) H) (a : At σ r v) (e : cons r ρ = .ok d ρ') : SR G σ ρ' ((v, .sh d) :: T) H := by
  obtain ⟨d', ρ2, h, _, e2⟩ := SR.take (W := fun _ _ _ _ => True) (P := fun _ _ => True) sr a (by rw [e]; trivial)
  rw [e] at e2
  cases e2
  exact h
theorem cons_or (r : R) (ρ : Sl) : (∃ d ρ', cons r ρ = .ok d ρ') ∨ cons r ρ = .stuck := by
  unfold cons
  cases r with
  | v s =>
    simp only
    cases s.fr with
    | none => exact .inr rfl
    | some d => exact .inl ⟨d, ρ, rfl⟩
  | r i =>
    simp only
    cases ρ[i]? with
    | none => exact .inr rfl
    | some s =>
      simp only
      cases s.fr with
      | none => exact .inr rfl
      | some d => exact .inl ⟨d, _, rfl⟩
def consAll : List R → Sl → Out (List D)
  | [], ρ => .ok [] ρ
  | r :: rs, ρ => (cons r ρ).bind fun d ρ1 => (consAll rs ρ1).bind fun ds ρ2 => .ok (d :: ds) ρ2
theorem consAll_or : ∀ (rs : List R) (ρ : Sl), (∃ ds ρ', consAll rs ρ = .ok ds ρ') ∨ consAll rs ρ = .stuck
  | [], ρ => .inl ⟨[], ρ, rfl⟩
  | r :: rs, ρ => by
    unfold consAll
    rcases cons_or r ρ with ⟨d, ρ1, e⟩ | e
    · rw [e]
      rcases consAll_or rs ρ1 with ⟨ds, ρ2, e2⟩ | e2
      · exact .inl ⟨d :: ds, ρ2, by simp only [Out.bind, e2]⟩
      · exact .inr (by simp only [Out.bind, e2])
    · rw [e]; exact .inr rfl
theorem SR.takes : ∀ {rs : List R} {vs : List V} {ρ ρ' : Sl} {ds : List D} {T : Hd}, SR G σ ρ (zipR vs rs ++ T) H → Ats σ rs vs → consAll rs ρ = .ok ds ρ' → SR G σ ρ' (vs.zip (shs ds) ++ T) H ∧ vs.length = ds.length
  | [], vs, ρ, ρ', ds, T, sr, a, e => by
    unfold consAll at e
    cases e
    cases (show vs = [] from a)
    exact ⟨sr, rfl⟩
  | r :: rs, vs, ρ, ρ', ds, T, sr, a, e => by
    unfold consAll at e
    obtain ⟨v, w, ev, a1, a2⟩ := a
    subst ev
    rcases cons_or r ρ with ⟨d, ρ1, e1⟩ | e1
    · rw [e1] at e
      rcases consAll_or rs ρ1 with ⟨ds', ρ2, e2⟩ | e2
      · simp only [Out.bind, e2] at e
        cases e
        have s1 : SR G σ ρ1 ((v, .sh d) :: (zipR w rs ++ T)) H := SR.take1 (sr : SR G σ ρ ((v, r.slot) :: (zipR w rs ++ T)) H) a1 e1
        obtain ⟨s2, hl⟩ := SR.takes (T := (v, .sh d) :: T) (s1.permT List.perm_middle.symm) a2 e2
        exact ⟨s2.permT List.perm_middle, by simp [hl]⟩
      · simp only [Out.bind, e2] at e
        cases e
    · rw [e1] at e; cases e
theorem RepL.dats : ∀ {vs : List V} {ds : List D} {os : List Addr}, vs.length = ds.length → RepL G H O (vs.zip (shs ds) ++ L) os → RepDs G H O ds vs ∧ RepL G H O L os
  | [], [], os, _, h => ⟨rfl, h⟩
  | v :: vs, d :: ds, os, hl, h => by
    obtain ⟨o1, o2, eo, h1, h2⟩ := h
    obtain ⟨r, h3⟩ := RepL.dats (vs := vs) (ds := ds) (by simpa using hl) h2
    have e1 : o1 = [] := h1.1
    subst e1
    exact ⟨⟨v, vs, rfl, h1.2, r⟩, by rw [eo]; exact h3⟩
theorem Hold.dats {vs : List V} {ds : List D} (h : Hold G H O (vs.zip (shs ds) ++ L)) (hl : vs.length = ds.length) : RepDs G H O ds vs ∧ Hold G H O L :=
  let ⟨r, h2⟩ := h.1.dats hl
  ⟨r, h2, h.2⟩
/-- arguments taken as data -/
theorem SR.datas {rs : List R} {vs : List V} {ds : List D} (sr : SR G σ ρ (zipR vs rs ++ T) H) (a : Ats σ rs vs) (e : consAll rs ρ = .ok ds ρ') : SR G σ ρ' T H ∧ ∃ O, Hold G H O (envL σ ρ' ++ T) ∧ RepDs G H O ds vs := by
  obtain ⟨s, hl⟩ := sr.takes a e
  obtain ⟨O, h⟩ := s.h.perm (L' := vs.zip (shs ds) ++ (envL σ ρ' ++ T)) (by
    rw [← List.append_assoc, ← List.append_assoc]
    exact List.perm_append_comm.append_right T)
  obtain ⟨r, h2⟩ := Hold.dats h hl
  exact ⟨⟨⟨O, h2⟩, s.len, s.as⟩, O, h2, r⟩
end

section
variable {X : Cx} {G : Gm} {W : WX} {a b c : Expr} {es : List Expr} {ta tb tc te : TE} {t : TA} {fa fb fc fe : Ev} {fs : Sl → Out (List R)} {pos : Pos}
def aNil : Sl → Out (List R) := fun ρ => .ok [] ρ
def aCons (f : Ev) (g : Sl → Out (List R)) : Sl → Out (List R) := fun ρ => (f ρ).bind fun r ρ1 => (g ρ1).bind fun rs ρ2 => .ok (r :: rs) ρ2
theorem ok_nil : ArOk G W tNil aNil := fun σ H ρ T Q sr p => p [] H sr rfl
theorem ok_cons (A : EvOk G W ta fa) (B : ArOk G W t fs) : ArOk G W (tCons ta t) (aCons fa fs) := by
  intro σ H ρ T Q sr p
  refine A σ H ρ T _ sr ((Post.bind p).imp fun r ρ1 p1 x H1 sr1 a1 => ?_)
  refine B σ H1 ρ1 ((x, r.slot) :: T) _ sr1 ((Post.bind p1).more.imp fun rs ρ2 p2 vs H2 sr2 a2 => ?_)
  exact p2 (x :: vs) H2 (sr2.permT List.perm_middle) ⟨x, vs, rfl, a1, a2⟩
theorem da_nil : DA X G W [] tNil aNil := ⟨pa_nil, ok_nil⟩
theorem da_cons (A : DE X G W a ta fa) (B : DA X G W es t fs) (hs : starEach (a :: es) X.env = (false, eval a X.env) :: starEach es X.env := by rfl) : DA X G W (a :: es) (tCons ta t) (aCons fa fs) := ⟨pa_cons A.pe B.pa hs, ok_cons A.ok B.ok⟩

/-! ### displays -/
def eTup (fs : Sl → Out (List R)) : Ev := fun ρ => (fs ρ).bind fun rs ρ1 => (consAll rs ρ1).bind fun ds ρ2 => if ds.length ≤ LIM then .ok (.v (.sh (.tup ds))) ρ2 else .stuck
def eLst (fs : Sl → Out (List R)) : Ev := fun ρ => (fs ρ).bind fun rs ρ1 => (consAll rs ρ1).bind fun ds ρ2 => if ds.length ≤ LIM then .ok (.v (.lst (shs ds))) ρ2 else .stuck
theorem ok_tup (A : ArOk G W t fs) : EvOk G W (tTup t) (eTup fs) := by
  intro σ H ρ T Q sr p
  refine A σ H ρ T _ sr ((Post.bind p).imp fun rs ρ1 p1 vs H1 sr1 a1 => ?_)
  rcases consAll_or rs ρ1 with ⟨ds, ρ2, e⟩ | e
  · simp only [e, Out.bind] at p1
    obtain ⟨sr2, O, h, r⟩ := sr1.datas a1 e
    split at p1
    · rename_i hz
      refine ⟨by rw [r.length]; exact lim_le hz, fun q hq => p1 _ _ (sr2.push (h.newT hq r)) trivial⟩
    · exact p1.elim
  · simp only [e, Out.bind] at p1; exact p1.elim
theorem ok_lst (A : ArOk G W t fs) : EvOk G W (tLst t) (eLst fs) := by
  intro σ H ρ T Q sr p
  refine A σ H ρ T _ sr ((Post.bind p).imp fun rs ρ1 p1 vs H1 sr1 a1 => ?_)
  rcases consAll_or rs ρ1 with ⟨ds, ρ2, e⟩ | e
  · simp only [e, Out.bind] at p1
    obtain ⟨sr2, O, h, r⟩ := sr1.datas a1 e
    split at p1
    · rename_i hz
      refine ⟨by rw [r.length]; exact lim_le hz, fun q hq => p1 _ _ (sr2.push (h.newL hq r.sh)) trivial⟩
    · exact p1.elim
  · simp only [e, Out.bind] at p1; exact p1.elim
theorem de_tup {x1} (A : DA X G W es t fs) : DE X G W (.Tuple es x1 pos) (tTup t) (eTup fs) := ⟨pe_tup A.pa, ok_tup A.ok⟩
theorem de_lst (A : DA X G W es t fs) : DE X G W (.List es pos) (tLst t) (eLst fs) := ⟨pe_lst A.pa, ok_lst A.ok⟩

/-! ### a < b < c -/
def eChain (g g' : D → D → Option Slot) (fa fb fc : Ev) : Ev := fun ρ => (fa ρ).bind fun r1 ρ1 => (fb ρ1).bind fun r2 ρ2 => match look r1 ρ2, look r2 ρ2 with
  | some d1, some d2 => (match g d1 d2 with
    | some (.sh (.bl k)) => if k then (fc ρ2).bind fun r3 ρ3 => (match look r2 ρ3, look r3 ρ3 with
        | some d2, some d3 => (match g' d2 d3 with | some s => .ok (.v s) ρ3 | none => .stuck)
        | _, _ => .stuck)
      else .ok (.v (.sh (.bl false))) ρ2
    | _ => .stuck)
  | _, _ => .stuck
theorem ok_chain {r r' : R2} {g g' : D → D → Option Slot} (ho : OpD G r g) (ho' : OpD G r' g') (A : EvOk G W ta fa) (B : EvOk G W tb fb) (C : EvOk G W tc fc) : EvOk G W (tChain r r' ta tb tc) (eChain g g' fa fb fc) := by
  intro σ H ρ T Q sr p
  refine A σ H ρ T _ sr ((Post.bind p).imp fun r1 ρ1 p1 x H1 sr1 a1 => ?_)
  refine B σ H1 ρ1 ((x, r1.slot) :: T) _ sr1 ((Post.bind p1).more.imp fun r2 ρ2 p2 y H2 sr2 a2 => ?_)
  cases e1 : look r1 ρ2 with
  | none => simp only [e1] at p2; exact p2.elim
  | some d1 =>
    cases e2 : look r2 ρ2 with
    | none => simp only [e1, e2] at p2; exact p2.elim
    | some d2 =>
      simp only [e1, e2] at p2
      cases e3 : g d1 d2 with
      | none => simp only [e3] at p2; exact p2.elim
      | some s =>
        simp only [e3] at p2
        cases s with
        | sh d =>
          cases d with
          | bl k =>
            obtain ⟨O, h⟩ := sr2.h
            refine ho H2 O _ x y d1 d2 _ _ h (sr2.lookP h a1 (fun s e => ?_) e1) (sr2.lookP h a2 (fun s e => ?_) e2) e3 fun v H3 hs => ?_
            · subst e; exact List.mem_cons_of_mem _ List.mem_cons_self
            · subst e; exact List.mem_cons_self
            · have sr3 := sr2.push hs
              refine ⟨k, sr3.bl, ?_⟩
              cases k with
              | false => exact iteF (p2 _ H3 (sr3.pop.pop.pop.scal fun _ => rfl) trivial)
              | true =>
                refine iteT (C σ H3 ρ2 ((y, r2.slot) :: (x, r1.slot) :: T) _ sr3.pop ((Post.bind p2).more.more.imp fun r3 ρ3 p3 z H4 sr4 a4 => ?_))
                cases e4 : look r2 ρ3 with
                | none => simp only [e4] at p3; exact p3.elim
                | some d2' =>
                  cases e5 : look r3 ρ3 with
                  | none => simp only [e4, e5] at p3; exact p3.elim
                  | some d3 =>
                    simp only [e4, e5] at p3
                    cases e6 : g' d2' d3 with
                    | none => simp only [e6] at p3; exact p3.elim
                    | some s' =>
                      simp only [e6] at p3
                      obtain ⟨O', h'⟩ := sr4.h
                      refine ho' H4 O' _ y z d2' d3 s' Q h' (sr4.lookP h' a2 (fun s e => ?_) e4) (sr4.lookP h' a4 (fun s e => ?_) e5) e6 fun u H5 hs' => ?_
                      · subst e; exact List.mem_cons_of_mem _ List.mem_cons_self
                      · subst e; exact List.mem_cons_self
                      · exact p3 u H5 (sr4.push hs').pop2.pop2.pop2 trivial
          | _ => exact p2.elim
        | _ => exact p2.elim
theorem de_chain {op op' : CmpOp} {r r' : R2} {g g' : D → D → Option Slot} (hop : OpR X (compareOp op) r) (hop' : OpR X (compareOp op') r') (ho : OpD G r g) (ho' : OpD G r' g') (A : DE X G W a ta fa) (B : DE X G W b tb fb) (C : DE X G W c tc fc)
    (hm : lastMarks [op, op'] [b, c] = false := by with_unfolding_all rfl) : DE X G W (.Compare a [op, op'] [b, c] pos) (tChain r r' ta tb tc) (eChain g g' fa fb fc) := ⟨pe_chain hop hop' A.pe B.pe C.pe hm, ok_chain ho ho' A.ok B.ok C.ok⟩
theorem dt_chain {op op' : CmpOp} {r r' : R2} {g g' : D → D → Option Slot} (hop : OpR X (compareOp op) r) (hop' : OpR X (compareOp op') r') (ho : OpD G r g) (ho' : OpD G r' g') (A : DE X G W a ta fa) (B : DE X G W b tb fb) (C : DE X G W c tc fc)
    (hm : lastMarks [op, op'] [b, c] = false := by with_unfolding_all rfl) : DT X G W (.Compare a [op, op'] [b, c] pos) (tTest (tChain r r' ta tb tc)) (tOfE (eChain g g' fa fb fc)) := ⟨pt_chain hop hop' A.pe B.pe C.pe hm, ok_tTest (ok_chain ho ho' A.ok B.ok C.ok)⟩

/-! ### -a -/
def eUn (g : D → Option Slot) (fa : Ev) : Ev := fun ρ => (fa ρ).bind fun r ρ1 => match look r ρ1 with
  | some d => (match g d with | some s => .ok (.v s) ρ1 | none => .stuck)
  | none => .stuck
def gNeg : D → Option Slot := fun d => match d with | .int i => some (.sh (.int (-i))) | _ => none
theorem ok_neg (A : EvOk G W ta fa) : EvOk G W (tUn (rU fun i => .int (-i)) ta) (eUn gNeg fa) := by
  intro σ H ρ T Q sr p
  refine A σ H ρ T _ sr ((Post.bind p).imp fun r ρ1 p1 x H1 sr1 a1 => ?_)
  cases e1 : look r ρ1 with
  | none => simp only [e1] at p1; exact p1.elim
  | some d =>
    simp only [e1] at p1
    cases d <;> first | (exact p1.elim) | skip
    obtain ⟨O, h⟩ := sr1.h
    refine ⟨_, sr1.lookP h a1 (fun s e => by subst e; exact List.mem_cons_self) e1, ?_⟩
    exact p1 _ H1 (sr1.pop.scal fun _ => rfl) trivial
theorem de_neg (A : DE X G W a ta fa) : DE X G W (.UnaryOp .USub a pos) (tUn (rU fun i => .int (-i)) ta) (eUn gNeg fa) := ⟨pe_un un_neg A.pe, ok_neg A.ok⟩

/-! ### slices -/
def PoOk (G : Gm) (W : WX) (t : TO) (f : Sl → Out (Option Int)) : Prop := ∀ σ H ρ T Q, SR G σ ρ T H → Post G W σ T (fun o ρ => ∀ H', SR G σ ρ T H' → Q o H') (f ρ) → t σ H Q
structure DO (X : Cx) (G : Gm) (W : WX) (e : Option Expr) (t : TO) (f : Sl → Out (Option Int)) : Prop where
  po : PO X e t
  ok : PoOk G W t f
def oNone : Sl → Out (Option Int) := fun ρ => .ok none ρ
def oSome (f : Ev) : Sl → Out (Option Int) := fun ρ => (f ρ).bind fun r ρ1 => match look r ρ1 with
  | some (.int i) => .ok (some i) ρ1
  | _ => .stuck
theorem do_none : DO X G W none tNoPart oNone := ⟨po_none, fun σ H ρ T Q sr p => p H sr⟩
theorem do_some (A : DE X G W a ta fa) : DO X G W (some a) (tPart ta) (oSome fa) := by
  refine ⟨po_some A.pe, fun σ H ρ T Q sr p => ?_⟩
  refine A.ok σ H ρ T _ sr ((Post.bind p).imp fun r ρ1 p1 x H1 sr1 a1 => ?_)
  cases e1 : look r ρ1 with
  | none => simp only [e1] at p1; exact p1.elim
  | some d =>
    simp only [e1] at p1
    cases d <;> first | (exact p1.elim) | skip
    obtain ⟨O, h⟩ := sr1.h
    exact ⟨_, sr1.lookP h a1 (fun s e => by subst e; exact List.mem_cons_self) e1, p1 H1 sr1.pop⟩
def cutD {α : Type} (xs : List α) (lo hi : Option Int) : List α := (xs.drop (HT.sIx xs.length 0 lo)).take (HT.sIx xs.length xs.length hi - HT.sIx xs.length 0 lo)
theorem RepDs.cut {H : Hp} {O : List Addr} {ds : List D} {xs : List V} (h : RepDs G H O ds xs) (lo hi : Option Int) : RepDs G H O (cutD ds lo hi) (cutV xs lo hi) := by
  unfold cutD cutV
  rw [h.length]
  exact h.drop.take
def gSl : D → Option Int → Option Int → Option Slot := fun d lo hi => match d with
  | .lst ds => some (.lst (shs (cutD ds lo hi)))
  | .rol ds => some (.lst (shs (cutD ds lo hi)))
  | .tup ds => some (.sh (.tup (cutD ds lo hi)))
  | _ => none
def rSl (K : PySem.W.Frag) : V → Option Int → Option Int → Hp → VK → Prop := fun x lo hi H Q => rSlL K x lo hi H Q ∨ rSlA K x lo hi H Q
theorem sl_seq : SlR X (rSl X.K) := sl_list.or sl_tupA
theorem sIx_all {n : Nat} {ds : List D} {lo hi : Option Int} (h1 : HT.sIx ds.length 0 lo = 0) (h2 : HT.sIx ds.length ds.length hi = ds.length) : cutD ds lo hi = ds := by
  unfold cutD
  rw [h1, h2, List.drop_zero, Nat.sub_zero, List.take_length]
def eSl (fe : Ev) (fl fh : Sl → Out (Option Int)) : Ev := fun ρ => (fe ρ).bind fun r ρ1 => (fl ρ1).bind fun lo ρ2 => (fh ρ2).bind fun hi ρ3 => match look r ρ3 with
  | some d => (match gSl d lo hi with | some s => .ok (.v s) ρ3 | none => .stuck)
  | none => .stuck
theorem ok_sl {tl th : TO} {fl fh : Sl → Out (Option Int)} (A : EvOk G W te fe) (B : PoOk G W tl fl) (C : PoOk G W th fh) : EvOk G W (tSl (rSl G.K) te tl th) (eSl fe fl fh) := by
  intro σ H ρ T Q sr p
  refine A σ H ρ T _ sr ((Post.bind p).imp fun r ρ1 p1 x H1 sr1 a1 => ?_)
  refine B σ H1 ρ1 ((x, r.slot) :: T) _ sr1 ((Post.bind p1).more.imp fun lo ρ2 p2 H2 sr2 => ?_)
  refine C σ H2 ρ2 ((x, r.slot) :: T) _ sr2 ((Post.bind p2).more.imp fun hi ρ3 p3 H3 sr3 => ?_)
  cases e1 : look r ρ3 with
  | none => simp only [e1] at p3; exact p3.elim
  | some d =>
    simp only [e1] at p3
    obtain ⟨O, h⟩ := sr3.h
    have rp := sr3.lookP h a1 (fun s e => by subst e; exact List.mem_cons_self) e1
    cases d <;> first | (exact p3.elim) | skip
    · rename_i ds
      obtain ⟨q, xs, ea, h1, h2⟩ := rp
      refine .inr ⟨q, xs, ea, sqT_of h1, fun z => ?_, fun _ p hp => ?_⟩
      · rw [h2.length] at z
        have e := sIx_all (n := 0) z.1 z.2
        exact p3 _ H3 (sr3.push (h.add (d := .tup (cutD ds lo hi)) (by rw [e]; exact ⟨q, xs, rfl, h1, h2⟩))).pop2 trivial
      · exact p3 _ _ (sr3.push (h.newT hp (h2.cut lo hi))).pop2 trivial
    · obtain ⟨q, xs, ea, h1, h2⟩ := rp
      exact .inl ⟨q, xs, ea, .of h1, fun p hp => p3 _ _ (sr3.push (h.newL hp (h2.cut lo hi).sh)).pop2 trivial⟩
    · obtain ⟨q, xs, ea, h1, h2⟩ := rp
      exact .inl ⟨q, xs, ea, sqL_of h1, fun p hp => p3 _ _ (sr3.push (h.newL hp (h2.cut lo hi).sh)).pop2 trivial⟩
theorem de_sl {tl th : TO} {fl fh : Sl → Out (Option Int)} {lo hi : Option Expr} {p2 : Pos} (hK : X.K = G.K) (A : DE X G W a ta fa) (B : DO X G W lo tl fl) (C : DO X G W hi th fh) : DE X G W (.Subscript a (.Slice lo hi none p2) pos) (tSl (rSl G.K) ta tl th) (eSl fa fl fh) :=
  ⟨pe_slice (by rw [← hK]; exact sl_seq) A.pe B.po C.po, ok_sl A.ok B.ok C.ok⟩

/-! ### calls of built-ins by values -/
def RepPs (G : Gm) (H : Hp) (O : List Addr) : List D → List V → Prop
  | [], vs => vs = []
  | d :: ds, vs => ∃ v r, vs = v :: r ∧ RepP G H O d v ∧ RepPs G H O ds r
def CallD (G : Gm) (r : List V → Hp → VK → Prop) (g : List D → Option Slot) : Prop := ∀ H O L vs ds s Q, Hold G H O L → RepPs G H O ds vs → g ds = some s → (∀ v H', Holds G H' ((v, s) :: L) → Q v H') → r vs H Q
def looks : List R → Sl → Option (List D)
  | [], _ => some []
  | r :: rs, ρ => match look r ρ, looks rs ρ with
    | some d, some ds => some (d :: ds)
    | _, _ => none
theorem SR.looks {σ : L2.St} {ρ : Sl} {T : Hd} {H : Hp} {O : List Addr} (sr : SR G σ ρ T H) (h : Hold G H O (envL σ ρ ++ T)) : ∀ {rs : List R} {vs : List V} {ds : List D}, Ats σ rs vs → (∀ x ∈ zipR vs rs, x ∈ T) → Sep.looks rs ρ = some ds → RepPs G H O ds vs
  | [], vs, ds, a, hm, e => by
    unfold Sep.looks at e
    cases e
    exact a
  | r :: rs, vs, ds, a, hm, e => by
    unfold Sep.looks at e
    obtain ⟨v, w, ev, a1, a2⟩ := a
    subst ev
    cases e1 : look r ρ with
    | none => rw [e1] at e; cases e
    | some d =>
      cases e2 : Sep.looks rs ρ with
      | none => rw [e1, e2] at e; cases e
      | some ds' =>
        rw [e1, e2] at e
        cases e
        exact ⟨v, w, rfl, sr.lookP h a1 (fun s e => by subst e; exact hm _ List.mem_cons_self) e1, SR.looks sr h a2 (fun x hx => hm x (List.mem_cons_of_mem _ hx)) e2⟩
def eCB (g : List D → Option Slot) (fs : Sl → Out (List R)) : Ev := fun ρ => (fs ρ).bind fun rs ρ1 => match looks rs ρ1 with
  | some ds => (match g ds with | some s => .ok (.v s) ρ1 | none => .stuck)
  | none => .stuck
theorem drops {σ : L2.St} {ρ : Sl} {T : Hd} {H : Hp} {x : V × Slot} : ∀ {L : Hd}, SR G σ ρ (x :: (L ++ T)) H → SR G σ ρ (x :: T) H
  | [], h => h
  | y :: L, h => drops (L := L) (SR.pop2 (y := x) (x := y) h)
theorem ok_cb {r : List V → Hp → VK → Prop} {g : List D → Option Slot} (ho : CallD G r g) (A : ArOk G W t fs) : EvOk G W (tCB r t) (eCB g fs) := by
  intro σ H ρ T Q sr p
  refine A σ H ρ T _ sr ((Post.bind p).imp fun rs ρ1 p1 vs H1 sr1 a1 => ?_)
  cases e1 : looks rs ρ1 with
  | none => simp only [e1] at p1; exact p1.elim
  | some ds =>
    simp only [e1] at p1
    cases e2 : g ds with
    | none => simp only [e2] at p1; exact p1.elim
    | some s =>
      simp only [e2] at p1
      obtain ⟨O, h⟩ := sr1.h
      exact ho H1 O _ vs ds s Q h (sr1.looks h a1 (fun x hx => List.mem_append_left _ hx) e1) e2 fun v H' hs => p1 v H' (drops (sr1.push hs)) trivial
theorem de_cb {x : Str} {id : String} {r : List V → Hp → VK → Prop} {g : List D → Option Slot} {p : Pos} (hc : CallR X (.builtin id) r) (ho : CallD G r g) (hg : Gl X x) (hm : X.mg x = none) (hv : bootBuiltins x = some (.builtin id)) (A : DA X G W (a :: es) t fs) (hn : x ≠ "__name__" := by decide) (hdb : (x == ("__debug__" : Str)) = false := by decide)
    (he : starEach (a :: es) X.env = (false, eval a X.env) :: starEach es X.env := by rfl) (hpl : (backTo pos (starEach es X.env)).any (·.1) = false := by rfl) : DE X G W (.Call (.Name x p) (a :: es) [] pos) (tCB r t) (eCB g fs) := ⟨pe_callB hc hg hm hv A.pa hn hdb he hpl, ok_cb ho A.ok⟩
theorem de_cty {x : Str} {Ty : String} {r : List V → Hp → VK → Prop} {g : List D → Option Slot} {p : Pos} (hc : CallR X (.type Ty) r) (ho : CallD G r g) (hg : Gl X x) (hm : X.mg x = none) (hv : bootBuiltins x = some (.type Ty)) (A : DA X G W (a :: es) t fs) (hn : x ≠ "__name__" := by decide) (hdb : (x == ("__debug__" : Str)) = false := by decide)
    (he : starEach (a :: es) X.env = (false, eval a X.env) :: starEach es X.env := by rfl) (hpl : (backTo pos (starEach es X.env)).any (·.1) = false := by rfl) : DE X G W (.Call (.Name x p) (a :: es) [] pos) (tCB r t) (eCB g fs) := ⟨pe_callTy hc hg hm hv A.pa hn hdb he hpl, ok_cb ho A.ok⟩

theorem RepPs.one {H : Hp} {O : List Addr} {d : D} {vs : List V} (h : RepPs G H O [d] vs) : ∃ v, vs = [v] ∧ RepP G H O d v := by
  obtain ⟨v, r, e, h1, h2⟩ := h
  cases h2
  exact ⟨v, e, h1⟩
theorem RepPs.two {H : Hp} {O : List Addr} {d d2 : D} {vs : List V} (h : RepPs G H O [d, d2] vs) : ∃ v v2, vs = [v, v2] ∧ RepP G H O d v ∧ RepP G H O d2 v2 := by
  obtain ⟨v, r, e, h1, v2, r2, e2, h2, h3⟩ := h
  cases h3
  subst e2
  exact ⟨v, v2, e, h1, h2⟩
/-- one argument -/
def g1 (g : D → Option Slot) : List D → Option Slot := fun ds => match ds with
  | [d] => g d
  | _ => none
def g2 (g : D → D → Option Slot) : List D → Option Slot := fun ds => match ds with
  | [d, d2] => g d d2
  | _ => none
theorem CallD.one {r : List V → Hp → VK → Prop} {g : D → Option Slot} (k : ∀ H O L v d s Q, Hold G H O L → RepP G H O d v → g d = some s → (∀ v H', Holds G H' ((v, s) :: L) → Q v H') → r [v] H Q) : CallD G r (g1 g) := by
  intro H O L vs ds s Q h hx e q
  rcases ds with _ | ⟨d, _ | ⟨d2, ds⟩⟩
  · cases e
  · obtain ⟨v, rfl, h1⟩ := hx.one
    exact k H O L v d s Q h h1 e q
  · cases e
theorem CallD.two {r : List V → Hp → VK → Prop} {g : D → D → Option Slot} (k : ∀ H O L v v2 d d2 s Q, Hold G H O L → RepP G H O d v → RepP G H O d2 v2 → g d d2 = some s → (∀ v H', Holds G H' ((v, s) :: L) → Q v H') → r [v, v2] H Q) : CallD G r (g2 g) := by
  intro H O L vs ds s Q h hx e q
  rcases ds with _ | ⟨d, _ | ⟨d2, _ | ⟨d3, ds⟩⟩⟩
  · cases e
  · cases e
  · obtain ⟨v, v2, rfl, h1, h2⟩ := hx.two
    exact k H O L v v2 d d2 s Q h h1 h2 e q
  · cases e
/-- len -/
def gLen : D → Option Slot := fun d => match d with
  | .lst xs => some (.sh (.int (xs.length : Nat)))
  | .rol xs => some (.sh (.int (xs.length : Nat)))
  | .tup xs => some (.sh (.int (xs.length : Nat)))
  | .str z => if z.length ≤ LIM then some (.sh (.int (z.length : Nat))) else none
  | _ => none
def rLn (K : PySem.W.Frag) : List V → Hp → VK → Prop := fun xs H Q => ∃ x n, xs = [x] ∧ LenV K x H n ∧ Q (.int n) H
theorem cd_len : CallD G (rLn G.K) (g1 gLen) := by
  refine CallD.one fun H O L v d s Q h hx e q => ?_
  cases d with
  | lst xs =>
    obtain ⟨a, ys, ea, h1, h2⟩ := hx
    subst ea; cases e
    exact ⟨_, xs.length, rfl, .inl ⟨ys, .of h1, h2.length.symm⟩, q _ _ (h.sc rfl)⟩
  | rol xs =>
    obtain ⟨a, ys, ea, h1, h2⟩ := hx
    subst ea; cases e
    exact ⟨_, xs.length, rfl, .inl ⟨ys, sqL_of h1, h2.length.symm⟩, q _ _ (h.sc rfl)⟩
  | tup xs =>
    obtain ⟨a, ys, ea, h1, h2⟩ := hx
    subst ea; cases e
    exact ⟨_, xs.length, rfl, .inr ⟨ys, sqT_of h1, h2.length.symm⟩, q _ _ (h.sc rfl)⟩
  | str z =>
    cases hx
    have e' : (if z.length ≤ LIM then some (Slot.sh (.int (z.length : Nat))) else none) = some s := e
    split at e'
    · rename_i hz
      cases e'
      exact ⟨_, z.length, rfl, ⟨lim_le hz, rfl⟩, q _ _ (h.sc rfl)⟩
    · cases e'
  | _ => cases e
theorem de_len {p : Pos} (hK : X.K = G.K) (hg : Gl X "len") (hm : X.mg "len" = none) (A : DE X G W a ta fa) (he : starEach [a] X.env = (false, eval a X.env) :: starEach [] X.env := by rfl) (hpl : (backTo pos (starEach [] X.env)).any (·.1) = false := by rfl) : DE X G W (.Call (.Name "len" p) [a] [] pos) (tCB (rLn G.K) (tCons ta tNil)) (eCB (g1 gLen) (aCons fa aNil)) :=
  de_cb (by rw [← hK]; exact call_len) cd_len hg hm PySem.boot_len (da_cons A da_nil he) (by decide) (by decide) he hpl
/-- int(x) -/
def gToInt : D → Option Slot := fun d => match d with
  | .int i => some (.sh (.int i))
  | .bl k => some (.sh (.int (if k then 1 else 0)))
  | _ => none
def rToInt : List V → Hp → VK → Prop := fun xs H Q => (∃ i, xs = [.int i] ∧ Q (.int i) H) ∨ ∃ k, xs = [.bl k] ∧ Q (.int (if k then 1 else 0)) H
theorem cd_int : CallD G rToInt (g1 gToInt) := by
  refine CallD.one fun H O L v d s Q h hx e q => ?_
  cases d with
  | int i => cases hx; cases e; exact .inl ⟨i, rfl, q _ _ (h.sc rfl)⟩
  | bl k => cases hx; cases e; exact .inr ⟨k, rfl, q _ _ (h.sc rfl)⟩
  | _ => cases e
theorem de_toInt {p : Pos} (hg : Gl X "int") (hm : X.mg "int" = none) (A : DE X G W a ta fa) (he : starEach [a] X.env = (false, eval a X.env) :: starEach [] X.env := by rfl) (hpl : (backTo pos (starEach [] X.env)).any (·.1) = false := by rfl) : DE X G W (.Call (.Name "int" p) [a] [] pos) (tCB rToInt (tCons ta tNil)) (eCB (g1 gToInt) (aCons fa aNil)) :=
  de_cty call_int1 cd_int hg hm PyProof.Rows.boot_int (da_cons A da_nil he) (by decide) (by decide) he hpl
/-- abs(x) -/
def gAbs : D → Option Slot := fun d => match d with
  | .int i => some (.sh (.int (if i < 0 then -i else i)))
  | _ => none
def rAbs : List V → Hp → VK → Prop := fun xs H Q => ∃ i, xs = [.int i] ∧ Q (.int (if i < 0 then -i else i)) H
theorem cd_abs : CallD G rAbs (g1 gAbs) := by
  refine CallD.one fun H O L v d s Q h hx e q => ?_
  cases d with
  | int i => cases hx; cases e; exact ⟨i, rfl, q _ _ (h.sc rfl)⟩
  | _ => cases e
theorem boot_abs : bootBuiltins "abs" = some (.builtin "abs") := by decide +kernel
theorem boot_max : bootBuiltins "max" = some (.builtin "max") := by decide +kernel
theorem boot_min : bootBuiltins "min" = some (.builtin "min") := by decide +kernel
theorem boot_list : bootBuiltins "list" = some (.type "list") := by decide +kernel
theorem boot_tuple : bootBuiltins "tuple" = some (.type "tuple") := by decide +kernel
theorem boot_sorted : bootBuiltins "sorted" = some (.builtin "sorted") := by decide +kernel
theorem boot_sum : bootBuiltins "sum" = some (.builtin "sum") := by decide +kernel
theorem boot_any : bootBuiltins "any" = some (.builtin "any") := by decide +kernel
theorem boot_all : bootBuiltins "all" = some (.builtin "all") := by decide +kernel
theorem boot_isi : bootBuiltins "isinstance" = some (.builtin "isinstance") := by decide +kernel
theorem de_abs {p : Pos} (hg : Gl X "abs") (hm : X.mg "abs" = none) (A : DE X G W a ta fa) (he : starEach [a] X.env = (false, eval a X.env) :: starEach [] X.env := by rfl) (hpl : (backTo pos (starEach [] X.env)).any (·.1) = false := by rfl) : DE X G W (.Call (.Name "abs" p) [a] [] pos) (tCB rAbs (tCons ta tNil)) (eCB (g1 gAbs) (aCons fa aNil)) :=
  de_cb call_abs cd_abs hg hm boot_abs (da_cons A da_nil he) (by decide) (by decide) he hpl
/-- max(a, b), min(a, b) -/
def gM2 (f : Int → Int → Int) : D → D → Option Slot := fun a b => match a, b with
  | .int i, .int j => some (.sh (.int (f i j)))
  | _, _ => none
def rM2 (f : Int → Int → Int) : List V → Hp → VK → Prop := fun xs H Q => ∃ i j, xs = [.int i, .int j] ∧ Q (.int (f i j)) H
theorem cd_m2 {f : Int → Int → Int} : CallD G (rM2 f) (g2 (gM2 f)) := by
  refine CallD.two fun H O L v v2 d d2 s Q h hx hy e q => ?_
  cases d with
  | int i =>
    cases d2 with
    | int j => cases hx; cases hy; cases e; exact ⟨i, j, rfl, q _ _ (h.sc rfl)⟩
    | _ => cases e
  | _ => cases d2 <;> cases e
abbrev mx : Int → Int → Int := fun i j => if j > i then j else i
abbrev mn : Int → Int → Int := fun i j => if j < i then j else i
theorem de_max2 {p : Pos} (hc : X.calm = true) (hg : Gl X "max") (hm : X.mg "max" = none) (A : DE X G W a ta fa) (B : DE X G W b tb fb) (he : starEach [a, b] X.env = (false, eval a X.env) :: starEach [b] X.env := by rfl) (he1 : starEach [b] X.env = (false, eval b X.env) :: starEach [] X.env := by rfl) (he2 : (backTo pos (starEach [b] X.env)).any (·.1) = false := by rfl) : DE X G W (.Call (.Name "max" p) [a, b] [] pos) (tCB (rM2 mx) (tCons ta (tCons tb tNil))) (eCB (g2 (gM2 mx)) (aCons fa (aCons fb aNil))) :=
  de_cb (call_max2 hc) cd_m2 hg hm boot_max (da_cons A (da_cons B da_nil he1) he) (by decide) (by decide) he he2
theorem de_min2 {p : Pos} (hc : X.calm = true) (hg : Gl X "min") (hm : X.mg "min" = none) (A : DE X G W a ta fa) (B : DE X G W b tb fb) (he : starEach [a, b] X.env = (false, eval a X.env) :: starEach [b] X.env := by rfl) (he1 : starEach [b] X.env = (false, eval b X.env) :: starEach [] X.env := by rfl) (he2 : (backTo pos (starEach [b] X.env)).any (·.1) = false := by rfl) : DE X G W (.Call (.Name "min" p) [a, b] [] pos) (tCB (rM2 mn) (tCons ta (tCons tb tNil))) (eCB (g2 (gM2 mn)) (aCons fa (aCons fb aNil))) :=
  de_cb (call_min2 hc) cd_m2 hg hm boot_min (da_cons A (da_cons B da_nil he1) he) (by decide) (by decide) he he2
/-- list(x), tuple(x) of a list or a tuple -/
def gToL : D → Option Slot := fun d => match d with
  | .lst xs => some (.lst (shs xs))
  | .rol xs => some (.lst (shs xs))
  | .tup xs => some (.lst (shs xs))
  | _ => none
def rToL (K : PySem.W.Frag) : List V → Hp → VK → Prop := fun xs H Q => ∃ p ys, xs = [.ref p] ∧ (SqL K H p ys ∨ SqT K H p ys) ∧ ∀ l, H l = none → Q (.ref l) (upd H l (.lst ys))
theorem cd_toL : CallD G (rToL G.K) (g1 gToL) := by
  refine CallD.one fun H O L v d s Q h hx e q => ?_
  cases d with
  | lst xs => obtain ⟨a, ys, ea, h1, h2⟩ := hx; subst ea; cases e; exact ⟨a, ys, rfl, .inl (.of h1), fun l hl => q _ _ (h.newL hl h2.sh)⟩
  | rol xs => obtain ⟨a, ys, ea, h1, h2⟩ := hx; subst ea; cases e; exact ⟨a, ys, rfl, .inl (sqL_of h1), fun l hl => q _ _ (h.newL hl h2.sh)⟩
  | tup xs => obtain ⟨a, ys, ea, h1, h2⟩ := hx; subst ea; cases e; exact ⟨a, ys, rfl, .inr (sqT_of h1), fun l hl => q _ _ (h.newL hl h2.sh)⟩
  | _ => cases e
theorem de_toL {p : Pos} (hK : X.K = G.K) (hg : Gl X "list") (hm : X.mg "list" = none) (A : DE X G W a ta fa) (he : starEach [a] X.env = (false, eval a X.env) :: starEach [] X.env := by rfl) (hpl : (backTo pos (starEach [] X.env)).any (·.1) = false := by rfl) : DE X G W (.Call (.Name "list" p) [a] [] pos) (tCB (rToL G.K) (tCons ta tNil)) (eCB (g1 gToL) (aCons fa aNil)) :=
  de_cty (by rw [← hK]; exact call_list_of) cd_toL hg hm boot_list (da_cons A da_nil he) (by decide) (by decide) he hpl
def gToT : D → Option Slot := fun d => match d with
  | .lst xs => some (.sh (.tup xs))
  | .rol xs => some (.sh (.tup xs))
  | .tup xs => some (.sh (.tup xs))
  | _ => none
def rToT (K : PySem.W.Frag) : List V → Hp → VK → Prop := fun xs H Q => ∃ p ys, xs = [.ref p] ∧ ((SqL K H p ys ∧ ∀ l, H l = none → Q (.ref l) (upd H l (.tup ys))) ∨ (SqT K H p ys ∧ Q (.ref p) H))
theorem cd_toT : CallD G (rToT G.K) (g1 gToT) := by
  refine CallD.one fun H O L v d s Q h hx e q => ?_
  cases d with
  | lst xs => obtain ⟨a, ys, ea, h1, h2⟩ := hx; subst ea; cases e; exact ⟨a, ys, rfl, .inl ⟨.of h1, fun l hl => q _ _ (h.newT hl h2)⟩⟩
  | rol xs => obtain ⟨a, ys, ea, h1, h2⟩ := hx; subst ea; cases e; exact ⟨a, ys, rfl, .inl ⟨sqL_of h1, fun l hl => q _ _ (h.newT hl h2)⟩⟩
  | tup xs => obtain ⟨a, ys, ea, h1, h2⟩ := hx; subst ea; cases e; exact ⟨a, ys, rfl, .inr ⟨sqT_of h1, q _ _ (h.add ⟨a, ys, rfl, h1, h2⟩)⟩⟩
  | _ => cases e
theorem de_toT {p : Pos} (hK : X.K = G.K) (hg : Gl X "tuple") (hm : X.mg "tuple" = none) (A : DE X G W a ta fa) (he : starEach [a] X.env = (false, eval a X.env) :: starEach [] X.env := by rfl) (hpl : (backTo pos (starEach [] X.env)).any (·.1) = false := by rfl) : DE X G W (.Call (.Name "tuple" p) [a] [] pos) (tCB (rToT G.K) (tCons ta tNil)) (eCB (g1 gToT) (aCons fa aNil)) :=
  de_cty (by rw [← hK]; exact call_tuple_of) cd_toT hg hm boot_tuple (da_cons A da_nil he) (by decide) (by decide) he hpl
/-- ints of a list -/
def intsOf : List D → Option (List Int)
  | [] => some []
  | .int i :: ds => (intsOf ds).map (i :: ·)
  | _ :: _ => none
theorem intsOf_map : ∀ ns : List Int, intsOf (ns.map D.int) = some ns
  | [] => rfl
  | n :: ns => by show (intsOf (ns.map D.int)).map (n :: ·) = _; rw [intsOf_map ns]; rfl
theorem intsOf_rep {H : Hp} {O : List Addr} : ∀ {ds : List D} {ns : List Int} {xs : List V}, RepDs G H O ds xs → intsOf ds = some ns → xs = ns.map V.int
  | [], ns, xs, h, e => by cases e; exact h
  | .int i :: ds, ns, xs, ⟨v, r, ex, h1, h2⟩, e => by
    have e' : (intsOf ds).map (i :: ·) = some ns := e
    obtain ⟨ms, e1, e2⟩ := Option.map_eq_some_iff.mp e'
    subst e2
    rw [ex, show v = V.int i from h1, intsOf_rep h2 e1]; rfl
  | .non :: _, _, _, _, e => nomatch (show none = some _ from e)
  | .bl _ :: _, _, _, _, e => nomatch (show none = some _ from e)
  | .str _ :: _, _, _, _, e => nomatch (show none = some _ from e)
  | .tup _ :: _, _, _, _, e => nomatch (show none = some _ from e)
  | .lst _ :: _, _, _, _, e => nomatch (show none = some _ from e)
  | .rol _ :: _, _, _, _, e => nomatch (show none = some _ from e)
  | .obj _ _ _ :: _, _, _, _, e => nomatch (show none = some _ from e)
  | .dct _ _ :: _, _, _, _, e => nomatch (show none = some _ from e)
  | .xd _ _ :: _, _, _, _, e => nomatch (show none = some _ from e)
def ins (x : Int) : List Int → List Int
  | [] => [x]
  | y :: ys => if x ≤ y then x :: y :: ys else y :: ins x ys
def isort : List Int → List Int
  | [] => []
  | x :: xs => ins x (isort xs)
theorem ins_perm (x : Int) : ∀ ys, (ins x ys).Perm (x :: ys)
  | [] => .refl _
  | y :: ys => by
    unfold ins
    split
    · exact .refl _
    · exact ((ins_perm x ys).cons y).trans (.swap x y ys)
theorem isort_perm : ∀ xs, (isort xs).Perm xs
  | [] => .refl _
  | x :: xs => (ins_perm x _).trans ((isort_perm xs).cons x)
theorem ins_sorted (x : Int) : ∀ {ys : List Int}, ys.Pairwise (· ≤ ·) → (ins x ys).Pairwise (· ≤ ·)
  | [], _ => by simp [ins]
  | y :: ys, h => by
    unfold ins
    split
    · rename_i hx
      refine List.pairwise_cons.mpr ⟨fun z hz => ?_, h⟩
      rcases List.mem_cons.mp hz with e | hz
      · omega
      · have := (List.pairwise_cons.mp h).1 z hz; omega
    · rename_i hx
      refine List.pairwise_cons.mpr ⟨fun z hz => ?_, ins_sorted x (List.pairwise_cons.mp h).2⟩
      rcases List.mem_cons.mp ((ins_perm x ys).subset hz) with e | hz
      · omega
      · exact (List.pairwise_cons.mp h).1 z hz
theorem isort_sorted : ∀ xs, (isort xs).Pairwise (· ≤ ·)
  | [] => .nil
  | x :: xs => ins_sorted x (isort_sorted xs)
theorem sorted_one {xs ys : List Int} (p : xs.Perm ys) (h1 : xs.Pairwise (· ≤ ·)) (h2 : ys.Pairwise (· ≤ ·)) : xs = ys :=
  p.eq_of_pairwise (fun a b _ _ h h' => Int.le_antisymm h h') h1 h2
def gSorted : D → Option Slot := fun d => match d with
  | .lst xs => (intsOf xs).map fun ns => .lst (shs ((isort ns).map D.int))
  | _ => none
theorem reps_ints {H : Hp} {O : List Addr} : ∀ ns : List Int, RepDs G H O (ns.map D.int) (ns.map V.int)
  | [] => rfl
  | n :: ns => ⟨.int n, ns.map V.int, rfl, rfl, reps_ints ns⟩
theorem cd_sorted : CallD G (rSortedI G.K) (g1 gSorted) := by
  refine CallD.one fun H O L v d s Q h hx e q => ?_
  cases d with
  | lst xs =>
    obtain ⟨a, ys, ea, h1, h2⟩ := hx
    obtain ⟨ns, e1, e2⟩ := Option.map_eq_some_iff.mp (show (intsOf xs).map _ = some s from e)
    subst e2
    subst ea
    refine ⟨a, ns, rfl, .of (by rw [← intsOf_rep h2 e1]; exact h1), fun ns' p hp hs hl => ?_⟩
    have e3 : ns' = isort ns := sorted_one (hp.trans (isort_perm ns).symm) hs (isort_sorted ns)
    subst e3
    exact q _ _ (h.newL hl (reps_ints _).sh)
  | _ => cases e
theorem de_sorted {p : Pos} (hK : X.K = G.K) (hg : Gl X "sorted") (hm : X.mg "sorted" = none) (A : DE X G W a ta fa) (he : starEach [a] X.env = (false, eval a X.env) :: starEach [] X.env := by rfl) (hpl : (backTo pos (starEach [] X.env)).any (·.1) = false := by rfl) : DE X G W (.Call (.Name "sorted" p) [a] [] pos) (tCB (rSortedI G.K) (tCons ta tNil)) (eCB (g1 gSorted) (aCons fa aNil)) :=
  de_cb (by rw [← hK]; exact cr_sortedI) cd_sorted hg hm boot_sorted (da_cons A da_nil he) (by decide) (by decide) he hpl
def gSum : D → Option Slot := fun d => match d with
  | .lst xs => (intsOf xs).map fun ns => .sh (.int ns.sum)
  | _ => none
theorem cd_sum : CallD G (rSum G.K) (g1 gSum) := by
  refine CallD.one fun H O L v d s Q h hx e q => ?_
  cases d with
  | lst xs =>
    obtain ⟨a, ys, ea, h1, h2⟩ := hx
    obtain ⟨ns, e1, e2⟩ := Option.map_eq_some_iff.mp (show (intsOf xs).map _ = some s from e)
    subst e2
    subst ea
    exact ⟨a, ns, rfl, .of (by rw [← intsOf_rep h2 e1]; exact h1), q _ _ (h.sc rfl)⟩
  | _ => cases e
theorem de_sum {p : Pos} (hK : X.K = G.K) (hc : X.calm = true) (hg : Gl X "sum") (hm : X.mg "sum" = none) (A : DE X G W a ta fa) (he : starEach [a] X.env = (false, eval a X.env) :: starEach [] X.env := by rfl) (hpl : (backTo pos (starEach [] X.env)).any (·.1) = false := by rfl) : DE X G W (.Call (.Name "sum" p) [a] [] pos) (tCB (rSum G.K) (tCons ta tNil)) (eCB (g1 gSum) (aCons fa aNil)) :=
  de_cb (by rw [← hK]; exact cr_sum hc) cd_sum hg hm boot_sum (da_cons A da_nil he) (by decide) (by decide) he hpl
/-- bools of a list -/
def blsOf : List D → Option (List Bool)
  | [] => some []
  | .bl i :: ds => (blsOf ds).map (i :: ·)
  | _ :: _ => none
theorem blsOf_map : ∀ ns : List Bool, blsOf (ns.map D.bl) = some ns
  | [] => rfl
  | n :: ns => by show (blsOf (ns.map D.bl)).map (n :: ·) = _; rw [blsOf_map ns]; rfl
theorem blsOf_rep {H : Hp} {O : List Addr} : ∀ {ds : List D} {ns : List Bool} {xs : List V}, RepDs G H O ds xs → blsOf ds = some ns → xs = ns.map V.bl
  | [], ns, xs, h, e => by cases e; exact h
  | .bl i :: ds, ns, xs, ⟨v, r, ex, h1, h2⟩, e => by
    have e' : (blsOf ds).map (i :: ·) = some ns := e
    obtain ⟨ms, e1, e2⟩ := Option.map_eq_some_iff.mp e'
    subst e2
    rw [ex, show v = V.bl i from h1, blsOf_rep h2 e1]; rfl
  | .non :: _, _, _, _, e => nomatch (show none = some _ from e)
  | .int _ :: _, _, _, _, e => nomatch (show none = some _ from e)
  | .str _ :: _, _, _, _, e => nomatch (show none = some _ from e)
  | .tup _ :: _, _, _, _, e => nomatch (show none = some _ from e)
  | .lst _ :: _, _, _, _, e => nomatch (show none = some _ from e)
  | .rol _ :: _, _, _, _, e => nomatch (show none = some _ from e)
  | .obj _ _ _ :: _, _, _, _, e => nomatch (show none = some _ from e)
  | .dct _ _ :: _, _, _, _, e => nomatch (show none = some _ from e)
  | .xd _ _ :: _, _, _, _, e => nomatch (show none = some _ from e)
def gAny : D → Option Slot := fun d => match d with
  | .lst xs => (blsOf xs).map fun ns => .sh (.bl (ns.any id))
  | _ => none
def gAll : D → Option Slot := fun d => match d with
  | .lst xs => (blsOf xs).map fun ns => .sh (.bl (ns.all id))
  | _ => none
theorem cd_any : CallD G (rAny G.K) (g1 gAny) := by
  refine CallD.one fun H O L v d s Q h hx e q => ?_
  cases d with
  | lst xs =>
    obtain ⟨a, ys, ea, h1, h2⟩ := hx
    obtain ⟨ns, e1, e2⟩ := Option.map_eq_some_iff.mp (show (blsOf xs).map _ = some s from e)
    subst e2
    subst ea
    exact ⟨a, ns, rfl, .of (by rw [← blsOf_rep h2 e1]; exact h1), q _ _ (h.sc rfl)⟩
  | _ => cases e
theorem cd_all : CallD G (rAll G.K) (g1 gAll) := by
  refine CallD.one fun H O L v d s Q h hx e q => ?_
  cases d with
  | lst xs =>
    obtain ⟨a, ys, ea, h1, h2⟩ := hx
    obtain ⟨ns, e1, e2⟩ := Option.map_eq_some_iff.mp (show (blsOf xs).map _ = some s from e)
    subst e2
    subst ea
    exact ⟨a, ns, rfl, .of (by rw [← blsOf_rep h2 e1]; exact h1), q _ _ (h.sc rfl)⟩
  | _ => cases e
theorem de_any {p : Pos} (hK : X.K = G.K) (hc : X.calm = true) (hg : Gl X "any") (hm : X.mg "any" = none) (A : DE X G W a ta fa) (he : starEach [a] X.env = (false, eval a X.env) :: starEach [] X.env := by rfl) (hpl : (backTo pos (starEach [] X.env)).any (·.1) = false := by rfl) : DE X G W (.Call (.Name "any" p) [a] [] pos) (tCB (rAny G.K) (tCons ta tNil)) (eCB (g1 gAny) (aCons fa aNil)) :=
  de_cb (by rw [← hK]; exact cr_any hc) cd_any hg hm boot_any (da_cons A da_nil he) (by decide) (by decide) he hpl
theorem de_all {p : Pos} (hK : X.K = G.K) (hc : X.calm = true) (hg : Gl X "all") (hm : X.mg "all" = none) (A : DE X G W a ta fa) (he : starEach [a] X.env = (false, eval a X.env) :: starEach [] X.env := by rfl) (hpl : (backTo pos (starEach [] X.env)).any (·.1) = false := by rfl) : DE X G W (.Call (.Name "all" p) [a] [] pos) (tCB (rAll G.K) (tCons ta tNil)) (eCB (g1 gAll) (aCons fa aNil)) :=
  de_cb (by rw [← hK]; exact cr_all hc) cd_all hg hm boot_all (da_cons A da_nil he) (by decide) (by decide) he hpl
end
end Sep

/-! SepG: statements, defs, calls. -/
namespace Sep
open PySem L2

structure Cok (k : Nat) (X : Cx) (G : Gm) (W : WX) : Prop where
  hK : X.K = G.K
  calm : X.calm = true
  tk : Takes X W
  po : PassesOwn (model X.prog X.w) X.A X.env X.xe
  nd : X.N.Nodup
  rm : Room k X.A

inductive Fl where
  | nx | ret (s : Slot) | bk | ct
abbrev SEv := Sl → Out Fl
/-- the slots that the def never stores to -/
abbrev FX := Nat → Bool
def Fix (fx : FX) (σ σ' : L2.St) : Prop := σ'.length = σ.length ∧ ∀ i, fx i = true → σ'[i]? = σ[i]?
theorem Fix.refl {fx : FX} {σ : L2.St} : Fix fx σ σ := ⟨rfl, fun _ _ => rfl⟩
theorem Fix.trans {fx : FX} {σ σ1 σ2 : L2.St} (a : Fix fx σ σ1) (b : Fix fx σ1 σ2) : Fix fx σ σ2 := ⟨b.1.trans a.1, fun i h => (b.2 i h).trans (a.2 i h)⟩
theorem Fix.set {fx : FX} {σ : L2.St} {i : Nat} {v : V} (h : fx i = false) : Fix fx σ (σ.set i (some v)) := ⟨List.length_set, fun j hj => by
  by_cases e : i = j
  · subst e; rw [h] at hj; cases hj
  · rw [List.getElem?_set_ne e]⟩

def PostF (G : Gm) (fx : FX) (σ0 : L2.St) (T : Hd) (D : Ends) : Fl → Sl → Prop
  | .nx, ρ => ∀ σ H, Fix fx σ0 σ → SR G σ ρ T H → D.nx σ H
  | .bk, ρ => ∀ σ H, Fix fx σ0 σ → SR G σ ρ T H → D.bk σ H
  | .ct, ρ => ∀ σ H, Fix fx σ0 σ → SR G σ ρ T H → D.ct σ H
  | .ret s, ρ => ∀ v σ H, Fix fx σ0 σ → SR G σ ρ ((v, s) :: T) H → D.rt v H
def PostS (G : Gm) (W : WX) (fx : FX) (σ0 : L2.St) (T : Hd) (D : Ends) : Out Fl → Prop
  | .ok f ρ => PostF G fx σ0 T D f ρ
  | .exc c ns ds ρ => ∀ d σ H, Fix fx σ0 σ → SR G σ ρ ((.ref d, .sh (.xd ns ds)) :: T) H → W (.ref (G.cls c)) (some d) σ H
  | .stuck => False
def SsOk (G : Gm) (W : WX) (fx : FX) (t : TS) (f : SEv) : Prop := ∀ D σ H ρ T, SR G σ ρ T H → PostS G W fx σ T D (f ρ) → t D σ H
structure DS (fx : FX) (X : Cx) (G : Gm) (W : WX) (st : Stmt) (t : TS) (f : SEv) : Prop where
  ps : PS X st t
  ok : SsOk G W fx t f
structure DSs (fx : FX) (X : Cx) (G : Gm) (W : WX) (st : List Stmt) (t : TS) (f : SEv) : Prop where
  pss : PSs X st t
  ok : SsOk G W fx t f

section
variable {G : Gm} {W : WX} {fx : FX} {σ σ0 σ1 : L2.St} {ρ ρ' : Sl} {T L : Hd} {H : Hp} {D : Ends} {o : Out Fl} {x : V × Slot}
theorem PostS.fix (h : PostS G W fx σ0 T D o) (f : Fix fx σ0 σ1) : PostS G W fx σ1 T D o := by
  cases o with
  | ok fl ρ =>
    cases fl with
    | nx => exact fun σ H a b => h σ H (f.trans a) b
    | bk => exact fun σ H a b => h σ H (f.trans a) b
    | ct => exact fun σ H a b => h σ H (f.trans a) b
    | ret s => exact fun v σ H a b => h v σ H (f.trans a) b
  | exc c ns ds ρ => exact fun d σ H a b => h d σ H (f.trans a) b
  | stuck => exact h
theorem PostS.more (h : PostS G W fx σ0 T D o) : PostS G W fx σ0 (x :: T) D o := by
  cases o with
  | ok fl ρ =>
    cases fl with
    | nx => exact fun σ H a b => h σ H a b.pop
    | bk => exact fun σ H a b => h σ H a b.pop
    | ct => exact fun σ H a b => h σ H a b.pop
    | ret s => exact fun v σ H a b => h v σ H a b.pop2
  | exc c ns ds ρ => exact fun d σ H a b => h d σ H a b.pop2
  | stuck => exact h
/-- what an expression at the head of a statement must give -/
theorem PostS.of {α : Type} {o : Out α} {k : α → Sl → Out Fl} (h : PostS G W fx σ T D (o.bind k)) : Post G W σ T (fun a ρ => PostS G W fx σ T D (k a ρ)) o := by
  cases o with
  | ok a ρ => exact h
  | exc c ns ds ρ => exact fun d H sr => h d σ H .refl sr
  | stuck => exact h

/-! ### storing -/
theorem zip_set : ∀ (σ : L2.St) (ρ : Sl) (i : Nat) (v : V) (s : Slot), envL (σ.set i (some v)) (ρ.set i s) = (envL σ ρ).set i (v, s)
  | [], ρ, i, v, s => by simp [envL]
  | o :: σ, [], i, v, s => by simp [envL]
  | o :: σ, p :: ρ, 0, v, s => rfl
  | o :: σ, p :: ρ, i + 1, v, s => by
    show (o.getD .non, p) :: envL (σ.set i (some v)) (ρ.set i s) = (o.getD .non, p) :: (envL σ ρ).set i (v, s)
    rw [zip_set σ ρ i v s]
theorem set_holds {y : V × Slot} : ∀ {L : Hd} {i : Nat} {T : Hd}, Holds G H (y :: (L ++ T)) → Holds G H (L.set i y ++ T)
  | [], i, T, h => h.tail
  | p :: L, 0, T, h => (h.perm (.swap p y _)).tail
  | p :: L, i + 1, T, h => by
    have h1 : Holds G H ((p :: y :: (L ++ T))) := h.perm (.swap p y _)
    show Holds G H (p :: (L.set i y ++ T))
    have h2 : Holds G H (y :: (L ++ (p :: T))) := (h1.perm (.swap y p _)).perm (List.perm_middle.symm.cons y)
    exact (set_holds (i := i) (T := p :: T) h2).perm List.perm_middle
theorem SR.store {i : Nat} {v : V} {s : Slot} (sr : SR G σ ρ ((v, s) :: T) H) : SR G (σ.set i (some v)) (ρ.set i s) T H := by
  refine ⟨by rw [zip_set]; exact set_holds sr.pull, by rw [List.length_set, List.length_set]; exact sr.len, fun j u e n => ?_⟩
  by_cases q : i = j
  · subst q
    have hl : i < ρ.length := by
      have := (List.getElem?_eq_some_iff.mp e).1
      rwa [List.length_set] at this
    exact ⟨v, by rw [List.getElem?_set_self (by rw [← sr.len]; exact hl)]⟩
  · rw [List.getElem?_set_ne q] at e ⊢
    exact sr.as j u e n
theorem set_self {α : Type} : ∀ {l : List α} {i : Nat} {x : α}, l[i]? = some x → l.set i x = l
  | [], i, x, h => rfl
  | a :: l, 0, x, h => by
    have : a = x := by simpa using h
    subst this; rfl
  | a :: l, i + 1, x, h => by
    show a :: l.set i x = a :: l
    rw [set_self (l := l) (by simpa using h)]
theorem SR.storeAt {i : Nat} {v : V} {s : Slot} (sr : SR G σ ρ ((v, s) :: T) H) (a : σ[i]? = some (some v)) : SR G σ (ρ.set i s) T H := by
  have h := sr.store (i := i)
  rwa [set_self a] at h
end

section
variable {X : Cx} {G : Gm} {W : WX} {fx : FX} {a b c : Expr} {es : List Expr} {ta tb tc te : TE} {t u : TS} {tt : TT} {fa fb fc fe : Ev} {pt : Sl → Out Bool} {f g : SEv} {pos : Pos} {st : Stmt} {rest : List Stmt}

/-! ### blocks, small statements -/
def sSeq (f g : SEv) : SEv := fun ρ => match f ρ with
  | .ok .nx ρ1 => g ρ1
  | o => o
def sNil : SEv := fun ρ => .ok .nx ρ
def sPass : SEv := fun ρ => .ok .nx ρ
def sBk : SEv := fun ρ => .ok .bk ρ
def sCt : SEv := fun ρ => .ok .ct ρ
def sExpr (f : Ev) : SEv := fun ρ => (f ρ).bind fun _ ρ1 => .ok .nx ρ1
theorem dss_nil : DSs fx X G W [] tNext sNil := ⟨pss_nil, fun D σ H ρ T sr p => p σ H .refl sr⟩
theorem ok_seq (A : SsOk G W fx t f) (B : SsOk G W fx u g) : SsOk G W fx (tSeq t u) (sSeq f g) := by
  intro D σ H ρ T sr p
  refine A { D with nx := u D } σ H ρ T sr ?_
  unfold sSeq at p
  cases e : f ρ with
  | ok fl ρ1 =>
    rw [e] at p
    cases fl with
    | nx => exact fun σ1 H1 fi sr1 => B D σ1 H1 ρ1 T sr1 (p.fix fi)
    | bk => exact p
    | ct => exact p
    | ret s => exact p
  | exc c ns ds ρ1 => rw [e] at p; exact p
  | stuck => rw [e] at p; exact p
theorem dss_cons (A : DS fx X G W st t f) (B : DSs fx X G W rest u g) : DSs fx X G W (st :: rest) (tSeq t u) (sSeq f g) := ⟨pss_cons A.ps B.pss, ok_seq A.ok B.ok⟩
theorem dss_one (A : DS fx X G W st t f) : DSs fx X G W [st] t f := ⟨pss_one A.ps, A.ok⟩
theorem ds_pass : DS fx X G W (.Pass pos) tNext sPass := ⟨ps_pass, fun D σ H ρ T sr p => p σ H .refl sr⟩
theorem ds_break : DS fx X G W (.Break pos) tBreak sBk := ⟨ps_break, fun D σ H ρ T sr p => p σ H .refl sr⟩
theorem ds_continue : DS fx X G W (.Continue pos) tCont sCt := ⟨ps_continue, fun D σ H ρ T sr p => p σ H .refl sr⟩
theorem ds_expr (A : DE X G W a ta fa) (hs : swapsWith a none pos.line X.env = pure false := by rfl) : DS fx X G W (.Expr a pos) (tDrop ta) (sExpr fa) :=
  ⟨ps_expr A.pe hs, fun D σ H ρ T sr p => A.ok σ H ρ T _ sr ((PostS.of p).imp fun r ρ1 p1 v H1 sr1 _ => p1 σ H1 .refl sr1.pop)⟩
/-- x = e: a thing of its own goes into the slot as it is -/
def sSet (i : Nat) (fa : Ev) : SEv := fun ρ => (fa ρ).bind fun r ρ1 => match r with
  | .v s => .ok .nx (ρ1.set i s)
  | .r j => (cons (.r j) ρ1).bind fun d ρ2 => .ok .nx (ρ2.set i (.sh d))
theorem ok_set {i : Nat} (hf : fx i = false) (A : EvOk G W ta fa) : SsOk G W fx (tAsg ta (gName i)) (sSet i fa) := by
  intro D σ H ρ T sr p
  refine A σ H ρ T _ sr ((PostS.of p).imp fun r ρ1 p1 v H1 sr1 a1 => ?_)
  cases r with
  | v s => exact p1 _ H1 (.set hf) (sr1.store)
  | r j =>
    rcases cons_or (.r j) ρ1 with ⟨d, ρ2, e⟩ | e
    · simp only [e, Out.bind] at p1
      exact p1 _ H1 (.set hf) (sr1.take1 a1 e).store
    · simp only [e, Out.bind] at p1; exact p1.elim
theorem ds_set {k : Nat} (C : Cok k X G W) {i : Nat} {x : Str} {pos' : Pos} (hf : fx i = false) (A : DE X G W a ta fa) (hi : X.N[i]? = some x := by rfl) (hx : Loc X.env.scope x := by first | exact Or.inl rfl | exact Or.inr rfl) (hs : swapsWith a (some (.Name x pos')) pos.line X.env = pure false := by rfl)
    (hfn : X.fn x = true ∨ X.env.scope.names.lookup x = some .local := by first | exact .inl rfl | exact .inr rfl | assumption) : DS fx X G W (.Assign [.Name x pos'] a pos) (tAsg ta (gName i)) (sSet i fa) := ⟨ps_set C.nd hi hx A.pe hs hfn, ok_set hf A.ok⟩
/-- .. as data -/
def sSetF (i : Nat) (fa : Ev) : SEv := fun ρ => (fa ρ).bind fun r ρ1 => (cons r ρ1).bind fun d ρ2 => .ok .nx (ρ2.set i (.sh d))
theorem ok_setF {i : Nat} (hf : fx i = false) (A : EvOk G W ta fa) : SsOk G W fx (tAsg ta (gName i)) (sSetF i fa) := by
  intro D σ H ρ T sr p
  refine A σ H ρ T _ sr ((PostS.of p).imp fun r ρ1 p1 v H1 sr1 a1 => ?_)
  rcases cons_or r ρ1 with ⟨d, ρ2, e⟩ | e
  · simp only [e, Out.bind] at p1
    exact p1 _ H1 (.set hf) (sr1.take1 a1 e).store
  · simp only [e, Out.bind] at p1; exact p1.elim
theorem ds_setF {k : Nat} (C : Cok k X G W) {i : Nat} {x : Str} {pos' : Pos} (hf : fx i = false) (A : DE X G W a ta fa) (hi : X.N[i]? = some x := by rfl) (hx : Loc X.env.scope x := by first | exact Or.inl rfl | exact Or.inr rfl) (hs : swapsWith a (some (.Name x pos')) pos.line X.env = pure false := by rfl)
    (hfn : X.fn x = true ∨ X.env.scope.names.lookup x = some .local := by first | exact .inl rfl | exact .inr rfl | assumption) : DS fx X G W (.Assign [.Name x pos'] a pos) (tAsg ta (gName i)) (sSetF i fa) := ⟨ps_set C.nd hi hx A.pe hs hfn, ok_setF hf A.ok⟩
/-- return e: what stood in a slot is handed out as data -/
def sRet (fa : Ev) : SEv := fun ρ => (fa ρ).bind fun r ρ1 => match r with
  | .v s => .ok (.ret s) ρ1
  | .r j => (cons (.r j) ρ1).bind fun d ρ2 => .ok (.ret (.sh d)) ρ2
theorem ok_ret (A : EvOk G W ta fa) : SsOk G W fx (tRet ta) (sRet fa) := by
  intro D σ H ρ T sr p
  refine A σ H ρ T _ sr ((PostS.of p).imp fun r ρ1 p1 v H1 sr1 a1 => ?_)
  cases r with
  | v s => exact p1 v σ H1 .refl sr1
  | r j =>
    rcases cons_or (.r j) ρ1 with ⟨d, ρ2, e⟩ | e
    · simp only [e, Out.bind] at p1
      exact p1 v σ H1 .refl (sr1.take1 a1 e)
    · simp only [e, Out.bind] at p1; exact p1.elim
theorem ds_ret (A : DE X G W a ta fa) : DS fx X G W (.Return (some a) pos) (tRet ta) (sRet fa) := ⟨ps_ret A.pe, ok_ret A.ok⟩
/-- .. as data always -/
def sRetF (fa : Ev) : SEv := fun ρ => (fa ρ).bind fun r ρ1 => (cons r ρ1).bind fun d ρ2 => .ok (.ret (.sh d)) ρ2
theorem ok_retF (A : EvOk G W ta fa) : SsOk G W fx (tRet ta) (sRetF fa) := by
  intro D σ H ρ T sr p
  refine A σ H ρ T _ sr ((PostS.of p).imp fun r ρ1 p1 v H1 sr1 a1 => ?_)
  rcases cons_or r ρ1 with ⟨d, ρ2, e⟩ | e
  · simp only [e, Out.bind] at p1
    exact p1 v σ H1 .refl (sr1.take1 a1 e)
  · simp only [e, Out.bind] at p1; exact p1.elim
theorem ds_retF (A : DE X G W a ta fa) : DS fx X G W (.Return (some a) pos) (tRet ta) (sRetF fa) := ⟨ps_ret A.pe, ok_retF A.ok⟩
/-- .. the thing itself leaves its slot -/
def sRetM (fa : Ev) : SEv := fun ρ => (fa ρ).bind fun r ρ1 => match r with
  | .v s => .ok (.ret s) ρ1
  | .r j => match ρ1[j]? with
    | some s => .ok (.ret s) (ρ1.set j .no)
    | none => .stuck
theorem SR.lend {σ : L2.St} {ρ : Sl} {T : Hd} {H : Hp} {i : Nat} {v : V} {s : Slot} (sr : SR G σ ρ T H) (h1 : σ[i]? = some (some v)) (h2 : ρ[i]? = some s) : SR G σ (ρ.set i .no) ((v, s) :: T) H := by
  obtain ⟨L0, p1, p2⟩ := set_perm (u := v) (w := .no) h1 h2
  have a : Holds G H ((v, s) :: (L0 ++ T)) := sr.h.perm (p1.append_right T)
  have b : Holds G H ((v, .no) :: (v, s) :: (L0 ++ T)) := a.no
  refine ⟨b.perm ?_, by rw [List.length_set]; exact sr.len, as_set sr.as ⟨v, h1⟩⟩
  exact (List.Perm.swap _ _ _).trans (((p2.symm.append_right T).cons (v, s)).trans List.perm_middle.symm)
theorem ok_retM (A : EvOk G W ta fa) : SsOk G W fx (tRet ta) (sRetM fa) := by
  intro D σ H ρ T sr p
  refine A σ H ρ T _ sr ((PostS.of p).imp fun r ρ1 p1 v H1 sr1 a1 => ?_)
  cases r with
  | v s => exact p1 v σ H1 .refl sr1
  | r j =>
    cases e : ρ1[j]? with
    | none => simp only [e] at p1; exact p1.elim
    | some s =>
      simp only [e] at p1
      exact p1 v σ H1 .refl (sr1.pop.lend a1 e)
theorem ds_retM (A : DE X G W a ta fa) : DS fx X G W (.Return (some a) pos) (tRet ta) (sRetM fa) := ⟨ps_ret A.pe, ok_retM A.ok⟩
def sRetN : SEv := fun ρ => .ok (.ret (.sh .non)) ρ
theorem ds_retN : DS fx X G W (.Return none pos) tRetN sRetN := ⟨ps_retN, fun D σ H ρ T sr p => p .non σ H .refl (sr.scal fun _ => rfl)⟩
def sIf (p : Sl → Out Bool) (f g : SEv) : SEv := fun ρ => (p ρ).bind fun k ρ1 => if k then f ρ1 else g ρ1
theorem ok_ifS (P : TtOk G W tt pt) (A : SsOk G W fx t f) (B : SsOk G W fx u g) : SsOk G W fx (tIfS tt t u) (sIf pt f g) := by
  intro D σ H ρ T sr p
  refine P σ H ρ T _ sr ((PostS.of p).imp fun k ρ1 p1 H1 sr1 => ?_)
  cases k with
  | true => exact iteT (A D σ H1 ρ1 T sr1 p1)
  | false => exact iteF (B D σ H1 ρ1 T sr1 p1)
theorem ds_if {sa sb : List Stmt} (P : DT X G W c tt pt) (A : DSs fx X G W sa t f) (B : DSs fx X G W sb u g) : DS fx X G W (.If c sa sb pos) (tIfS tt t u) (sIf pt f g) := ⟨ps_if P.pt A.pss B.pss, ok_ifS P.ok A.ok B.ok⟩

/-! ### targets -/
def TgOk (G : Gm) (fx : FX) (t : TG) (g : D → Sl → Option Sl) : Prop := ∀ v σ H ρ T d ρ' Q, SR G σ ρ ((v, .sh d) :: T) H → g d ρ = some ρ' → (∀ σ' H', Fix fx σ σ' → SR G σ' ρ' T H' → Q σ' H') → t v σ H Q
def TgsOk (G : Gm) (fx : FX) (t : TGs) (g : List D → Sl → Option Sl) : Prop := ∀ vs σ H ρ T ds ρ' Q, SR G σ ρ (vs.zip (shs ds) ++ T) H → vs.length = ds.length → g ds ρ = some ρ' → (∀ σ' H', Fix fx σ σ' → SR G σ' ρ' T H' → Q σ' H') → t vs σ H Q
structure DG (fx : FX) (X : Cx) (G : Gm) (e : Expr) (t : TG) (g : D → Sl → Option Sl) : Prop where
  pg : PG X e t
  ok : TgOk G fx t g
structure DGs (fx : FX) (X : Cx) (G : Gm) (es : List Expr) (t : TGs) (g : List D → Sl → Option Sl) : Prop where
  pgs : PGs X es t
  ok : TgsOk G fx t g
def kName (i : Nat) : D → Sl → Option Sl := fun d ρ => some (ρ.set i (.sh d))
def kNil : List D → Sl → Option Sl := fun ds ρ => match ds with | [] => some ρ | _ => none
def kCons (g : D → Sl → Option Sl) (h : List D → Sl → Option Sl) : List D → Sl → Option Sl := fun ds ρ => match ds with
  | [] => none
  | d :: ds => (g d ρ).bind (h ds)
def kTup (n : Nat) (h : List D → Sl → Option Sl) : D → Sl → Option Sl := fun d ρ => match d with
  | .tup ds => if ds.length = n then h ds ρ else none
  | _ => none
theorem dg_name {k : Nat} (C : Cok k X G W) {i : Nat} {x : Str} {pos : Pos} (hf : fx i = false) (hi : X.N[i]? = some x := by rfl) (hx : Loc X.env.scope x := by first | exact Or.inl rfl | exact Or.inr rfl)
    (hfn : X.fn x = true ∨ X.env.scope.names.lookup x = some .local := by first | exact .inl rfl | exact .inr rfl | assumption) : DG fx X G (.Name x pos) (gName i) (kName i) :=
  ⟨pg_name C.nd hi hx hfn, fun v σ H ρ T d ρ' Q sr e q => by cases e; exact q _ _ (.set hf) sr.store⟩
theorem dgs_nil : DGs fx X G [] gNil kNil := ⟨pgs_nil, fun vs σ H ρ T ds ρ' Q sr hl e q => by
  cases ds with
  | nil =>
    cases e
    have ev : vs = [] := List.eq_nil_of_length_eq_zero hl
    subst ev
    exact ⟨rfl, q σ H .refl sr⟩
  | cons d ds => cases e⟩
theorem dgs_cons {e : Expr} {es : List Expr} {t : TG} {u : TGs} {g : D → Sl → Option Sl} {h : List D → Sl → Option Sl} (A : DG fx X G e t g) (B : DGs fx X G es u h) (hs : (assignEach (e :: es) X.env).map (·.2) = assign e X.env :: (assignEach es X.env).map (·.2) := by rfl) : DGs fx X G (e :: es) (gCons t u) (kCons g h) :=
  ⟨pgs_cons A.pg B.pgs hs, fun vs σ H ρ T ds ρ' Q sr hl e q => by
    cases ds with
    | nil => cases e
    | cons d ds =>
      cases vs with
      | nil => cases hl
      | cons v vs =>
        obtain ⟨ρ1, e1, e2⟩ := Option.bind_eq_some_iff.mp (show (g d ρ).bind (h ds) = some ρ' from e)
        refine ⟨v, vs, rfl, A.ok v σ H ρ (vs.zip (shs ds) ++ T) d ρ1 _ sr e1 fun σ1 H1 f1 sr1 => ?_⟩
        exact B.ok vs σ1 H1 ρ1 T ds ρ' Q sr1 (by simpa using hl) e2 fun σ2 H2 f2 sr2 => q σ2 H2 (f1.trans f2) sr2⟩
theorem RepDs.holds {O : List Addr} {H : Hp} {L : Hd} : ∀ {ds : List D} {vs : List V} {os : List Addr}, RepDs G H O ds vs → RepL G H O L os → RepL G H O (vs.zip (shs ds) ++ L) os
  | [], vs, os, h, h2 => by cases h; exact h2
  | d :: ds, vs, os, h, h2 => by
    obtain ⟨v, r, e, h3, h4⟩ := h
    subst e
    exact ⟨[], os, rfl, ⟨rfl, h3⟩, RepDs.holds h4 h2⟩
theorem SR.items {σ : L2.St} {ρ : Sl} {T : Hd} {H : Hp} {O : List Addr} {ds : List D} {vs : List V} (sr : SR G σ ρ T H) (h : Hold G H O (envL σ ρ ++ T)) (r : RepDs G H O ds vs) : SR G σ ρ (vs.zip (shs ds) ++ T) H := by
  refine ⟨Holds.perm (L := vs.zip (shs ds) ++ (envL σ ρ ++ T)) ⟨O, r.holds h.1, h.2⟩ ?_, sr.len, sr.as⟩
  rw [← List.append_assoc, ← List.append_assoc]
  exact List.perm_append_comm.append_right T
theorem SR.top {σ : L2.St} {ρ : Sl} {T : Hd} {H : Hp} {d : D} {v : V} (sr : SR G σ ρ ((v, .sh d) :: T) H) : ∃ O, Hold G H O (envL σ ρ ++ T) ∧ RepD G H O d v := by
  obtain ⟨O, ⟨o1, o2, eo, h1, h2⟩, nd⟩ := sr.pull
  have e1 : o1 = [] := h1.1
  subst e1
  have eo' : O = o2 := eo
  subst eo'
  exact ⟨O, ⟨h2, nd⟩, h1.2⟩
theorem dg_tup {k : Nat} (C : Cok k X G W) {es : List Expr} {kk : Nat} {t : TGs} {n : Nat} {h : List D → Sl → Option Sl} (A : DGs fx X G es t h) (hn : (assignEach es X.env).length = n := by rfl) (hst : (assignEach es X.env).findIdx? (·.1) = none := by rfl) : DG fx X G (.Tuple es kk pos) (gTup G.K n t) (kTup n h) := by
  refine ⟨by have := pg_tup (k := kk) (pos := pos) C.calm A.pgs hn hst; rw [C.hK] at this; exact this, fun v σ H ρ T d ρ' Q sr e q => ?_⟩
  cases d <;> first | (cases e; done) | skip
  rename_i ds
  have e' : (if ds.length = n then h ds ρ else none) = some ρ' := e
  split at e'
  · rename_i hl
    obtain ⟨O, ho, a, xs, ea, h1, h2⟩ := sr.top
    exact ⟨a, xs, ea, sqT_of h1, by rw [h2.length, hl], A.ok xs σ H ρ T ds ρ' Q (sr.pop.items ho h2) h2.length e' q⟩
  · cases e'
/-- target = e, the target of any form -/
def sAsg (g : D → Sl → Option Sl) (fa : Ev) : SEv := fun ρ => (fa ρ).bind fun r ρ1 => (cons r ρ1).bind fun d ρ2 => match g d ρ2 with
  | some ρ3 => .ok .nx ρ3
  | none => .stuck
theorem ok_asg {tg : TG} {gg : D → Sl → Option Sl} (A : EvOk G W ta fa) (B : TgOk G fx tg gg) : SsOk G W fx (tAsg ta tg) (sAsg gg fa) := by
  intro D σ H ρ T sr p
  refine A σ H ρ T _ sr ((PostS.of p).imp fun r ρ1 p1 v H1 sr1 a1 => ?_)
  rcases cons_or r ρ1 with ⟨d, ρ2, e⟩ | e
  · simp only [e, Out.bind] at p1
    cases e2 : gg d ρ2 with
    | none => simp only [e2] at p1; exact p1.elim
    | some ρ3 =>
      simp only [e2] at p1
      exact B v σ H1 ρ2 T d ρ3 _ (sr1.take1 a1 e) e2 fun σ' H' f' sr' => p1 σ' H' f' sr'
  · simp only [e, Out.bind] at p1; exact p1.elim
theorem ds_asg {tg : Expr} {gt : TG} {gg : D → Sl → Option Sl} (A : DE X G W a ta fa) (B : DG fx X G tg gt gg) (hs : swapsWithSole [tg] a pos.line X.env = pure false := by rfl) (hw : swappedStores [tg] a X.env = pure none := by rfl)
    (h1 : (assignEach [tg] X.env).map (·.2) = [assign tg X.env] := by rfl) : DS fx X G W (.Assign [tg] a pos) (tAsg ta gt) (sAsg gg fa) := ⟨ps_asg A.pe B.pg hs hw h1, ok_asg A.ok B.ok⟩

/-! ### what is walked -/
def WalksD (G : Gm) (J : It) (y : V × Slot) (ds : List D) : Prop := ∀ σ ρ T H i, SR G σ ρ (y :: T) H → i ≤ ds.length → (i = ds.length → J.stop i H) ∧
  (∀ d, ds[i]? = some d → J.go i H ∧ ∀ x H', J.yld i H x H' → SR G σ ρ ((x, .sh d) :: y :: T) H')
def ItOk (G : Gm) (W : WX) (wi : TI) (f : Sl → Out (List D)) : Prop := ∀ σ H ρ T R, SR G σ ρ T H →
  Post G W σ T (fun ds ρ' => ∀ J y H', SR G σ ρ' (y :: T) H' → WalksD G J y ds → R J H') (f ρ) → wi σ H R
structure DI (X : Cx) (G : Gm) (W : WX) (tg e : Expr) (wi : TI) (f : Sl → Out (List D)) : Prop where
  pi : PI X tg e wi
  ok : ItOk G W wi f
def iLst (fa : Ev) : Sl → Out (List D) := fun ρ => (fa ρ).bind fun r ρ1 => (cons r ρ1).bind fun d ρ2 => match d with
  | .lst ds => .ok ds ρ2
  | .rol ds => .ok ds ρ2
  | _ => .stuck
def iTupl (fa : Ev) : Sl → Out (List D) := fun ρ => (fa ρ).bind fun r ρ1 => (cons r ρ1).bind fun d ρ2 => match d with
  | .tup ds => .ok ds ρ2
  | _ => .stuck
theorem walks_seq {p : Addr} {ds : List D} {d0 : D} (hd : ∀ H O, RepD G H O d0 (.ref p) → ∃ xs, SqL G.K H p xs ∧ RepDs G H O ds xs) : WalksD G (Itl G.K p) (.ref p, .sh d0) ds := by
  intro σ ρ T H i sr hi
  obtain ⟨O, ho, r⟩ := sr.top
  obtain ⟨xs, h1, h2⟩ := hd H O r
  refine ⟨fun e => ⟨xs, h1, by rw [h2.length, e]; exact Nat.le_refl _⟩, fun d e => ?_⟩
  obtain ⟨v, e1, r1⟩ := h2.get e
  refine ⟨⟨xs, v, h1, e1⟩, fun x H' y => ?_⟩
  obtain ⟨rfl, y⟩ := y
  have e2 := y xs h1
  rw [e1] at e2
  cases e2
  have hh := (ho.add' r).add r1
  exact ⟨hh.perm ((List.Perm.cons _ List.perm_middle.symm).trans List.perm_middle.symm), sr.len, sr.as⟩
theorem ok_iLst (A : EvOk G W ta fa) : ItOk G W (iList G.K ta) (iLst fa) := by
  intro σ H ρ T R sr p
  refine A σ H ρ T _ sr ((Post.bind p).imp fun r ρ1 p1 v H1 sr1 a1 => ?_)
  rcases cons_or r ρ1 with ⟨d, ρ2, e⟩ | e
  · simp only [e, Out.bind] at p1
    have sr2 := sr1.take1 a1 e
    obtain ⟨O, ho, rd⟩ := sr2.top
    cases d <;> first | (exact p1.elim) | skip
    · rename_i ds
      obtain ⟨a, xs, ea, h1, h2⟩ := rd
      subst ea
      exact ⟨a, rfl, ⟨xs, .of h1.1⟩, p1 _ (.ref a, .sh (.lst ds)) H1 sr2 (walks_seq fun H O q => by
        obtain ⟨a', ys, e1, h1, h2⟩ := q
        cases e1
        exact ⟨ys, .of h1.1, h2⟩)⟩
    · rename_i ds
      obtain ⟨a, xs, ea, h1, h2⟩ := rd
      subst ea
      exact ⟨a, rfl, ⟨xs, sqL_of h1⟩, p1 _ (.ref a, .sh (.rol ds)) H1 sr2 (walks_seq fun H O q => by
        obtain ⟨a', ys, e1, h1, h2⟩ := q
        cases e1
        exact ⟨ys, sqL_of h1, h2⟩)⟩
  · simp only [e, Out.bind] at p1; exact p1.elim
theorem walks_tup {p : Addr} {ds : List D} : WalksD G (Itt G.K p) (.ref p, .sh (.tup ds)) ds := by
  intro σ ρ T H i sr hi
  obtain ⟨O, ho, r⟩ := sr.top
  obtain ⟨p', xs, e0, h1, h2⟩ := id r
  cases e0
  refine ⟨fun e => ⟨xs, sqT_of h1, by rw [h2.length, e]; exact Nat.le_refl _⟩, fun d e => ?_⟩
  obtain ⟨v, e1, r1⟩ := h2.get e
  refine ⟨⟨xs, v, sqT_of h1, e1⟩, fun x H' y => ?_⟩
  obtain ⟨rfl, y⟩ := y
  have e2 := y xs (sqT_of h1)
  rw [e1] at e2
  cases e2
  have hh := (ho.add' r).add r1
  exact ⟨hh.perm ((List.Perm.cons _ List.perm_middle.symm).trans List.perm_middle.symm), sr.len, sr.as⟩
theorem ok_iTupl (A : EvOk G W ta fa) : ItOk G W (iTup G.K ta) (iTupl fa) := by
  intro σ H ρ T R sr p
  refine A σ H ρ T _ sr ((Post.bind p).imp fun r ρ1 p1 v H1 sr1 a1 => ?_)
  rcases cons_or r ρ1 with ⟨d, ρ2, e⟩ | e
  · simp only [e, Out.bind] at p1
    have sr2 := sr1.take1 a1 e
    obtain ⟨O, ho, rd⟩ := sr2.top
    cases d <;> first | (exact p1.elim) | skip
    rename_i ds
    obtain ⟨a, xs, ea, h1, h2⟩ := rd
    subst ea
    exact ⟨a, rfl, ⟨xs, sqT_of h1⟩, p1 _ (.ref a, .sh (.tup ds)) H1 sr2 walks_tup⟩
  · simp only [e, Out.bind] at p1; exact p1.elim
theorem di_lst {tg : Expr} (hK : X.K = G.K) (A : DE X G W a ta fa) : DI X G W tg a (iList G.K ta) (iLst fa) := ⟨by have := pi_list (tg := tg) A.pe; rw [hK] at this; exact this, ok_iLst A.ok⟩
theorem di_tup {tg : Expr} (hK : X.K = G.K) (A : DE X G W a ta fa) : DI X G W tg a (iTup G.K ta) (iTupl fa) := ⟨by have := pi_tup (tg := tg) A.pe; rw [hK] at this; exact this, ok_iTupl A.ok⟩
/-- range -/
def rngD (lo : Int) (n : Nat) : List D := (List.range n).map fun (i : Nat) => .int (lo + i)
def iRange1 (fa : Ev) : Sl → Out (List D) := fun ρ => (fa ρ).bind fun r ρ1 => match look r ρ1 with
  | some (.int j) => if j < 2 ^ 62 ∧ -(2 ^ 62) ≤ j then .ok (rngD 0 j.toNat) ρ1 else .stuck
  | _ => .stuck
def iRange2 (fa fb : Ev) : Sl → Out (List D) := fun ρ => (fa ρ).bind fun r1 ρ1 => (fb ρ1).bind fun r2 ρ2 => match look r1 ρ2, look r2 ρ2 with
  | some (.int i), some (.int j) => if i < 2 ^ 62 ∧ j < 2 ^ 62 ∧ -(2 ^ 62) ≤ i ∧ -(2 ^ 62) ≤ j then .ok (rngD i (j - i).toNat) ρ2 else .stuck
  | _, _ => .stuck
theorem walks_rng {lo : Int} {n : Nat} : WalksD G (Itr lo n) (.non, .no) (rngD lo n) := by
  intro σ ρ T H i sr hi
  have hl : (rngD lo n).length = n := by unfold rngD; rw [List.length_map, List.length_range]
  refine ⟨fun e => by show n ≤ i; omega, fun d e => ?_⟩
  have hi2 := (List.getElem?_eq_some_iff.mp e).1
  rw [hl] at hi2
  refine ⟨hi2, fun x H' y => ?_⟩
  obtain ⟨rfl, rfl⟩ := y
  unfold rngD at e
  rw [List.getElem?_map, List.getElem?_range hi2] at e
  cases e
  exact sr.scal fun _ => rfl
theorem di_range1 {tg : Expr} {p : Pos} (hg : Gl X "range") (hm : X.mg "range" = none) (A : DE X G W a ta fa) (hs : starEach [a] X.env = (false, eval a X.env) :: starEach [] X.env := by rfl) : DI X G W tg (.Call (.Name "range" p) [a] [] pos) (iRng1 (tCons ta tNil)) (iRange1 fa) := by
  refine ⟨pi_range1 hg hm (pa_cons A.pe pa_nil hs) (by rw [hs]; rfl), fun σ H ρ T R sr p => ?_⟩
  refine A.ok σ H ρ T _ sr ((Post.bind p).imp fun r ρ1 p1 v H1 sr1 a1 => ?_)
  cases e : look r ρ1 with
  | none => simp only [e] at p1; exact p1.elim
  | some d =>
    simp only [e] at p1
    cases d <;> first | (exact p1.elim) | skip
    rename_i j
    obtain ⟨O, h⟩ := sr1.h
    have ev : v = .int j := sr1.lookP h a1 (fun s e => by subst e; exact List.mem_cons_self) e
    have p2 : Post G W σ T _ (if j < 2 ^ 62 ∧ -(2 ^ 62) ≤ j then Out.ok (rngD 0 j.toNat) ρ1 else Out.stuck) := p1
    split at p2
    · rename_i hj
      exact ⟨j, by rw [ev], hj.2, hj.1, p2 _ _ H1 sr1.pop.no walks_rng⟩
    · exact p2.elim
theorem di_range2 {tg : Expr} {p : Pos} (hg : Gl X "range") (hm : X.mg "range" = none) (A : DE X G W a ta fa) (B : DE X G W b tb fb) (hs : starEach [a, b] X.env = (false, eval a X.env) :: starEach [b] X.env := by rfl) (hs2 : starEach [b] X.env = (false, eval b X.env) :: starEach [] X.env := by rfl) : DI X G W tg (.Call (.Name "range" p) [a, b] [] pos) (iRng2 (tCons ta (tCons tb tNil))) (iRange2 fa fb) := by
  refine ⟨pi_range2 hg hm (pa_cons A.pe (pa_cons B.pe pa_nil hs2) hs) (by rw [hs, hs2]; rfl) (by rw [hs2]; rfl), fun σ H ρ T R sr p => ?_⟩
  refine A.ok σ H ρ T _ sr ((Post.bind p).imp fun r1 ρ1 p1 v H1 sr1 a1 => ?_)
  refine B.ok σ H1 ρ1 ((v, r1.slot) :: T) _ sr1 ((Post.bind p1).more.imp fun r2 ρ2 p2 w H2 sr2 a2 => ?_)
  cases e : look r1 ρ2 with
  | none => simp only [e] at p2; exact p2.elim
  | some d =>
    cases e2 : look r2 ρ2 with
    | none => simp only [e, e2] at p2; cases d <;> exact p2.elim
    | some d2 =>
      simp only [e, e2] at p2
      cases d <;> cases d2 <;> first | (exact p2.elim) | skip
      rename_i i j
      obtain ⟨O, h⟩ := sr2.h
      have ev : v = .int i := sr2.lookP h a1 (fun s e => by subst e; exact List.mem_cons_of_mem _ List.mem_cons_self) e
      have ew : w = .int j := sr2.lookP h a2 (fun s e => by subst e; exact List.mem_cons_self) e2
      have p3 : Post G W σ T _ (if i < 2 ^ 62 ∧ j < 2 ^ 62 ∧ -(2 ^ 62) ≤ i ∧ -(2 ^ 62) ≤ j then Out.ok (rngD i (j - i).toNat) ρ2 else Out.stuck) := p2
      split at p3
      · rename_i hj
        exact ⟨i, j, by rw [ev, ew], ⟨hj.2.2.1, hj.1, hj.2.2.2, hj.2.1⟩, p3 _ _ H2 sr2.pop.pop.no walks_rng⟩
      · exact p3.elim

/-! ### for, while -/
def forL (g : D → Sl → Option Sl) (body : SEv) : List D → Sl → Out Fl
  | [], ρ => .ok .nx ρ
  | d :: ds, ρ => match g d ρ with
    | none => .stuck
    | some ρ1 => match body ρ1 with
      | .ok .nx ρ2 => forL g body ds ρ2
      | .ok .ct ρ2 => forL g body ds ρ2
      | .ok .bk ρ2 => .ok .nx ρ2
      | .ok (.ret s) ρ2 => .ok (.ret s) ρ2
      | .exc c ns es ρ2 => .exc c ns es ρ2
      | .stuck => .stuck
def sFor (it : Sl → Out (List D)) (g : D → Sl → Option Sl) (body : SEv) : SEv := fun ρ => (it ρ).bind fun ds ρ1 => forL g body ds ρ1
theorem ok_for {wi : TI} {it : Sl → Out (List D)} {tg : TG} {gg : D → Sl → Option Sl} (I : ItOk G W wi it) (B : TgOk G fx tg gg) (S : SsOk G W fx t f) : SsOk G W fx (tFor wi tg t) (sFor it gg f) := by
  intro D σ0 H ρ T sr p
  refine I σ0 H ρ T _ sr ((PostS.of p).imp fun ds ρ1 p1 J y H1 sr1 wk => ?_)
  refine ⟨fun i m σ H => m = ds.length - i ∧ i ≤ ds.length ∧ ∃ ρ, Fix fx σ0 σ ∧ SR G σ ρ (y :: T) H ∧ PostS G W fx σ T D (forL gg f (ds.drop i) ρ), ⟨_, rfl, Nat.zero_le _, ρ1, .refl, sr1, p1⟩, ?_⟩
  rintro i m σ H ⟨rfl, hi, ρ2, fi, sr2, p2⟩
  obtain ⟨stop, go⟩ := wk σ ρ2 T H i sr2 hi
  by_cases hlt : i < ds.length
  · obtain ⟨hgo, hy⟩ := go ds[i] (List.getElem?_eq_getElem hlt)
    have ed : ds.drop i = ds[i] :: ds.drop (i + 1) := List.drop_eq_getElem_cons hlt
    rw [ed] at p2
    refine .inr ⟨hgo, fun σ' H' => ∃ ρ', Fix fx σ0 σ' ∧ SR G σ' ρ' (y :: T) H' ∧ PostS G W fx σ' T D (forL gg f (ds.drop (i + 1)) ρ'), fun σ' H' ⟨ρ', q1, q2, q3⟩ => ⟨ds.length - (i + 1), by omega, rfl, hlt, ρ', q1, q2, q3⟩, fun x H' hx => ?_⟩
    have sr3 := hy x H' hx
    unfold forL at p2
    cases eg : gg ds[i] ρ2 with
    | none => simp only [eg] at p2; exact p2.elim
    | some ρ3 =>
      simp only [eg] at p2
      refine B x σ H' ρ2 (y :: T) ds[i] ρ3 _ sr3 eg fun σ3 H3 f3 sr4 => ?_
      refine S _ σ3 H3 ρ3 (y :: T) sr4 ?_
      cases ef : f ρ3 with
      | stuck => simp only [ef] at p2; exact p2.elim
      | exc c ns es ρ4 =>
        simp only [ef] at p2
        exact fun d σ4 H4 f4 sr5 => p2 d σ4 H4 (f3.trans f4) sr5.pop2
      | ok fl ρ4 =>
        simp only [ef] at p2
        cases fl with
        | nx => exact fun σ4 H4 f4 sr5 => ⟨ρ4, (fi.trans f3).trans f4, sr5, p2.fix (f3.trans f4)⟩
        | ct => exact fun σ4 H4 f4 sr5 => ⟨ρ4, (fi.trans f3).trans f4, sr5, p2.fix (f3.trans f4)⟩
        | bk => exact fun σ4 H4 f4 sr5 => p2 σ4 H4 (f3.trans f4) sr5.pop
        | ret s => exact fun v σ4 H4 f4 sr5 => p2 v σ4 H4 (f3.trans f4) sr5.pop2
  · have e : i = ds.length := by omega
    refine .inl ⟨stop e, ?_⟩
    rw [e, List.drop_length] at p2
    exact p2 σ H .refl sr2.pop
theorem ds_for {k : Nat} (C : Cok k X G W) {tg it : Expr} {body : List Stmt} {wi : TI} {gt : TG} {fi : Sl → Out (List D)} {gg : D → Sl → Option Sl} (I : DI X G W tg it wi fi) (B : DG fx X G tg gt gg) (S : DSs fx X G W body t f) (hs : ∀ x, foldedSetIterable it X.env x = pure x := by intro _; rfl) :
    DS fx X G W (.For tg it body [] pos) (tFor wi gt t) (sFor fi gg f) := ⟨ps_for C.po C.calm I.pi B.pg S.pss hs, ok_for I.ok B.ok S.ok⟩
def whileL (p : Sl → Out Bool) (body : SEv) : Nat → Sl → Out Fl
  | 0, _ => .stuck
  | n + 1, ρ => (p ρ).bind fun k ρ1 => if k then (match body ρ1 with
      | .ok .nx ρ2 => whileL p body n ρ2
      | .ok .ct ρ2 => whileL p body n ρ2
      | .ok .bk ρ2 => .ok .nx ρ2
      | .ok (.ret s) ρ2 => .ok (.ret s) ρ2
      | .exc c ns es ρ2 => .exc c ns es ρ2
      | .stuck => .stuck) else .ok .nx ρ1
def sWhile (n : Nat) (p : Sl → Out Bool) (body : SEv) : SEv := fun ρ => whileL p body n ρ
theorem ok_while {n : Nat} (P : TtOk G W tt pt) (S : SsOk G W fx t f) : SsOk G W fx (tWhile tt t) (sWhile n pt f) := by
  intro D σ0 H ρ T sr p
  refine ⟨fun m σ H => ∃ ρ, Fix fx σ0 σ ∧ SR G σ ρ T H ∧ PostS G W fx σ T D (whileL pt f m ρ), ⟨n, ρ, .refl, sr, p⟩, ?_⟩
  rintro m σ H ⟨ρ1, fi, sr1, p1⟩
  cases m with
  | zero => exact p1.elim
  | succ m =>
    refine P σ H ρ1 T _ sr1 ((PostS.of p1).imp fun k ρ2 p2 H2 sr2 => ?_)
    cases k with
    | false => exact iteF (p2 σ H2 .refl sr2)
    | true =>
      refine iteT ⟨fun σ' H' => ∃ ρ', Fix fx σ0 σ' ∧ SR G σ' ρ' T H' ∧ PostS G W fx σ' T D (whileL pt f m ρ'), fun σ' H' q => ⟨m, Nat.lt_succ_self m, q⟩, ?_⟩
      refine S _ σ H2 ρ2 T sr2 ?_
      have p3 : PostS G W fx σ T D (match f ρ2 with
        | .ok .nx ρ2 => whileL pt f m ρ2
        | .ok .ct ρ2 => whileL pt f m ρ2
        | .ok .bk ρ2 => .ok .nx ρ2
        | .ok (.ret s) ρ2 => .ok (.ret s) ρ2
        | .exc c ns es ρ2 => .exc c ns es ρ2
        | .stuck => .stuck) := p2
      cases ef : f ρ2 with
      | stuck => simp only [ef] at p3; exact p3.elim
      | exc c ns es ρ4 => simp only [ef] at p3; exact p3
      | ok fl ρ4 =>
        simp only [ef] at p3
        cases fl with
        | nx => exact fun σ4 H4 f4 sr5 => ⟨ρ4, fi.trans f4, sr5, p3.fix f4⟩
        | ct => exact fun σ4 H4 f4 sr5 => ⟨ρ4, fi.trans f4, sr5, p3.fix f4⟩
        | bk => exact p3
        | ret s => exact p3
theorem ds_while {k : Nat} (C : Cok k X G W) (n : Nat) {body : List Stmt} (P : DT X G W c tt pt) (S : DSs fx X G W body t f) : DS fx X G W (.While c body [] pos) (tWhile tt t) (sWhile n pt f) := ⟨ps_while C.po P.pt S.pss, ok_while P.ok S.ok⟩
end
end Sep

/-! SepH: defs and their calls; comprehensions; lists of one's own. -/
namespace Sep
open PySem L2

/-! ### what a def does -/
abbrev FnD := Sl → Out Slot
def fins (fx : FX) : Nat → Nat → Sl → Sl
  | _, 0, _ => []
  | i, n + 1, [] => .no :: fins fx (i + 1) n []
  | i, n + 1, s :: ρ => (if fx i then s else .no) :: fins fx (i + 1) n ρ
def fnOf (n np : Nat) (fx : FX) (body : SEv) : FnD := fun args => match body (args ++ List.replicate (n - np) .no) with
  | .ok (.ret s) ρ => .ok s (fins fx 0 np ρ)
  | .ok .nx ρ => .ok (.sh .non) (fins fx 0 np ρ)
  | .exc c ns ds ρ => .exc c ns ds (fins fx 0 np ρ)
  | _ => .stuck
def PostN (G : Gm) (vs : List V) (T : Hd) (Q : VK) (E : XK) : Out Slot → Prop
  | .ok s ρ => ∀ v H, Holds G H ((v, s) :: (vs.zip ρ ++ T)) → Q v H
  | .exc c ns ds ρ => ∀ d H, Holds G H ((.ref d, .sh (.xd ns ds)) :: (vs.zip ρ ++ T)) → E (.ref (G.cls c)) (some d) H
  | .stuck => False
abbrev Gm.w (G : Gm) (fr : List Hd) : Gm := ⟨G.cls, G.K, fr⟩
def spF (G : Gm) (np : Nat) (F : FnD) : Sp := fun vs H Q E => vs.length = np ∧ ∃ ss T fr, Holds (G.w fr) H (vs.zip ss ++ T) ∧ ss.length = np ∧ PostN (G.w fr) vs T Q E (F ss)

section
variable {G : Gm} {H : Hp} {T L : Hd}
theorem Holds.dropL : ∀ {L : Hd}, Holds G H (L ++ T) → Holds G H T
  | [], h => h
  | _ :: L, h => Holds.dropL (L := L) h.tail
theorem fins_holds {fx : FX} : ∀ {vs : List V} {np i : Nat} {σ : L2.St} {ρ : Sl} {T : Hd}, vs.length = np → (∀ (j : Nat) v, vs[j]? = some v → fx (i + j) = true → σ[j]? = some (some v)) → Holds G H (envL σ ρ ++ T) → Holds G H (vs.zip (fins fx i np ρ) ++ T)
  | [], np, i, σ, ρ, T, hl, _, h => h.dropL
  | v :: vs, 0, i, σ, ρ, T, hl, _, h => by cases hl
  | v :: vs, np + 1, i, σ, [], T, hl, hf, h => by
    show Holds G H ((v, .no) :: (vs.zip (fins fx (i + 1) np []) ++ T))
    refine Holds.no (fins_holds (σ := σ.drop 1) (ρ := []) (by simpa using hl) (fun j u e q => ?_) ?_)
    · have := hf (j + 1) u (by simpa using e) (by rw [Nat.add_right_comm, Nat.add_assoc] at q; rw [← Nat.add_assoc, Nat.add_right_comm] ; rw [Nat.add_right_comm]; rw [Nat.add_assoc]; exact q)
      rw [List.getElem?_drop]; rw [Nat.add_comm]; exact this
    · have e : ∀ τ : L2.St, envL τ ([] : Sl) = [] := fun τ => by simp [envL]
      rw [e] at h ⊢; exact h
  | v :: vs, np + 1, i, [], s :: ρ, T, hl, hf, h => by
    have hfi : fx i = false := by
      cases q : fx i with
      | false => rfl
      | true => have := hf 0 v rfl q; simp at this
    show Holds G H ((v, if fx i = true then s else .no) :: (vs.zip (fins fx (i + 1) np ρ) ++ T))
    rw [hfi, if_neg Bool.false_ne_true]
    refine Holds.no (fins_holds (σ := []) (ρ := ρ) (by simpa using hl) (fun j u e q => ?_) h)
    have := hf (j + 1) u (by simpa using e) (by rw [show i + (j + 1) = i + 1 + j by omega]; exact q)
    simp at this
  | v :: vs, np + 1, i, o :: σ, s :: ρ, T, hl, hf, h => by
    show Holds G H ((v, if fx i = true then s else .no) :: (vs.zip (fins fx (i + 1) np ρ) ++ T))
    have hr : ∀ (j : Nat) u, vs[j]? = some u → fx (i + 1 + j) = true → σ[j]? = some (some u) := fun j u e q => by
      have := hf (j + 1) u (by simpa using e) (by rw [show i + (j + 1) = i + 1 + j by omega]; exact q)
      simpa using this
    have h' : Holds G H ((o.getD .non, s) :: (envL σ ρ ++ T)) := h
    cases q : fx i with
    | false =>
      rw [if_neg Bool.false_ne_true]
      exact Holds.no (fins_holds (by simpa using hl) hr h'.tail)
    | true =>
      rw [if_pos rfl]
      have e : o = some v := by have := hf 0 v rfl q; simpa using this
      subst e
      exact (fins_holds (T := (v, s) :: T) (by simpa using hl) hr (h'.perm List.perm_middle.symm)).perm List.perm_middle
theorem env_start {N : List Str} {vs : List V} {ss : Sl} {n np : Nat} (hn : N.length = n) (hv : vs.length = np) (hs : ss.length = np) (h : Holds G H (vs.zip ss ++ T)) (hnp : np ≤ n) : SR G (L2.start N vs) (ss ++ List.replicate (n - np) .no) T H := by
  have e1 : envL (L2.start N vs) (ss ++ List.replicate (n - np) .no) = vs.zip ss ++ List.replicate (n - np) (.non, .no) := by
    unfold envL L2.start
    rw [List.map_append, List.map_map]
    have e2 : ∀ us : List V, (List.map ((fun (o : Option V) => o.getD .non) ∘ some) us) = us := fun us => by
      induction us with
      | nil => rfl
      | cons v vs ih => rw [List.map_cons, ih]; rfl
    rw [e2, List.map_replicate, List.zip_append (by rw [hv, hs]), hn, hv]
    simp [List.zip_replicate]
  refine ⟨?_, ?_, ?_⟩
  · rw [e1]
    have : ∀ m, Holds G H (vs.zip ss ++ List.replicate m (.non, .no) ++ T) := fun m => by
      induction m with
      | zero => simpa using h
      | succ m ih =>
        rw [List.replicate_succ]
        refine (ih.no (v := .non)).perm ?_
        rw [List.append_assoc, List.append_assoc]
        exact List.perm_middle.symm
    exact this _
  · unfold L2.start
    rw [List.length_append, List.length_append, List.length_map, List.length_replicate, List.length_replicate, hs, hv, hn]
  · intro i s e n
    by_cases hi : i < np
    · refine ⟨vs[i]'(by omega), ?_⟩
      unfold L2.start
      rw [List.getElem?_append_left (by rw [List.length_map]; omega), List.getElem?_map, List.getElem?_eq_getElem (by omega)]; rfl
    · rw [List.getElem?_append_right (by omega), List.getElem?_replicate] at e
      split at e
      · cases e; exact absurd rfl n
      · cases e
end

section
variable {P : Program} {w : World} {K : PySem.W.Frag} {mg : Str → Option Value} {base : Heap} {G : Gm}
/-- the context at a def's entry -/
theorem cok_def {N : List Str} {qual : Str} {sc : Scope} {f : Addr} {cdv : Value} {A : Around} {outer : List PySem.Env} {s : Shared} {H : Hp} {E : XK} {k : Nat} (hK : K = G.K) (nd : N.Nodup) (hr : Room k (A.deeper (PyProof.Rows.envOfC qual sc s.heap.objs.size f cdv))) :
    Cok k (cxOf (L2.CX P w) P w K mg base N qual sc f cdv A outer s H E) G (fun cls d _ H => E cls d H) :=
  ⟨hK, rfl, takes_of rfl rfl rfl rfl, passes_of (K := fun e s'' => L2.CX P w outer H s E e s'') (E₁ := fun e' s'' => L2.CX P w outer H s E e' s'') rfl, nd, hr⟩
/-- THE RULE of a def -/
theorem fn_ok {x qual : Str} {st : Stmt} {f : Addr} {fd : FuncData} {N ps : List Str} {k n np : Nat} {fx : FX} {b : SEv} (hK : K = G.K) (Fu : Fun K x qual st f fd) (S : FnScope N ps (defScope st)) (hn : N.length = n) (hp : ps.length = np) (hnp : np ≤ n)
    (body : ∀ (cdv : Value) (A : Around) (outer : List PySem.Env) (s : Shared) (H : Hp) (E : XK) (fr : List Hd), Cok k (cxOf (L2.CX P w) P w K mg base N qual (defScope st) f cdv A outer s H E) (G.w fr) (fun cls d _ H => E cls d H) →
      ∃ t, DSs fx (cxOf (L2.CX P w) P w K mg base N qual (defScope st) f cdv A outer s H E) (G.w fr) (fun cls d _ H => E cls d H) (defBody st) t b) :
    FnOk P w K mg base (L2.CX P w) (k + 1) f fd ps (spF G np (fnOf n np fx b)) := by
  refine Fu.okX S (fun vs H Q E h => by rw [h.1, hp]) fun cdv A outer s H vs Q E hr h => ?_
  obtain ⟨hv, ss, T, fr, hh, hs, post⟩ := h
  obtain ⟨t, D⟩ := body cdv A outer s H E fr (cok_def hK S.nd hr)
  refine ⟨t, D.pss, D.ok _ _ _ _ T (env_start hn hv hs hh hnp) ?_⟩
  have fin : ∀ {σ : L2.St} {ρ : Sl} {H' : Hp} {y : V × Slot}, Fix fx (L2.start N vs) σ → SR (G.w fr) σ ρ (y :: T) H' → Holds (G.w fr) H' (y :: (vs.zip (fins fx 0 np ρ) ++ T)) := fun {σ ρ H' y} fi sr => by
    refine (fins_holds (T := y :: T) hv (fun j v e q => ?_) sr.h).perm List.perm_middle
    rw [Nat.zero_add] at q
    rw [fi.2 j q]
    unfold L2.start
    have hj := (List.getElem?_eq_some_iff.mp e).1
    rw [List.getElem?_append_left (by rw [List.length_map]; exact hj), List.getElem?_map, e]; rfl
  unfold fnOf at post
  cases e : b (ss ++ List.replicate (n - np) .no) with
  | stuck => rw [e] at post; exact post.elim
  | exc c ns ds ρ =>
    rw [e] at post
    exact fun d σ H' fi sr => post d H' (fin fi sr)
  | ok fl ρ =>
    rw [e] at post
    cases fl with
    | nx => exact fun σ H' fi sr => post .non H' (fin fi (sr.scal (d := .non) fun _ => rfl))
    | ret s => exact fun v σ H' fi sr => post v H' (fin fi sr)
    | bk => exact post.elim
    | ct => exact post.elim
theorem fn_stuck {f : Addr} {fd : FuncData} {ps : List Str} {k np : Nat} (hp : ps.length = np) : FnOk P w K mg base (L2.CX P w) k f fd ps (spF G np fun _ => .stuck) :=
  ⟨fun vs H Q E h => by rw [h.1, hp], fun A outer s H args us vs Q E hr e0 hb r h => by
    obtain ⟨_, ss, T, _, _, _, z⟩ := h
    exact z.elim⟩
end

/-! ### calls -/
def lend : List R → Sl → Sl × Sl
  | [], ρ => ([], ρ)
  | .v s :: rs, ρ => (s :: (lend rs ρ).1, (lend rs ρ).2)
  | .r i :: rs, ρ => ((ρ[i]?).getD .no :: (lend rs (ρ.set i .no)).1, (lend rs (ρ.set i .no)).2)
def giveB : List R → Sl → Sl → Sl
  | .v _ :: rs, _ :: fs, ρ => giveB rs fs ρ
  | .r i :: rs, s :: fs, ρ => giveB rs fs (ρ.set i s)
  | _, _, ρ => ρ
def callOn (F : FnD) (rs : List R) (ρ : Sl) : Out R := match F (lend rs ρ).1 with
  | .ok s fs => .ok (.v s) (giveB rs fs (lend rs ρ).2)
  | .exc c ns ds fs => .exc c ns ds (giveB rs fs (lend rs ρ).2)
  | .stuck => .stuck
def eCall (F : FnD) (fs : Sl → Out (List R)) : Ev := fun ρ => (fs ρ).bind fun rs ρ1 => callOn F rs ρ1
section
variable {X : Cx} {G : Gm} {W : WX} {fx : FX} {a b c : Expr} {es : List Expr} {ta tb tc te : TE} {t : TA} {fa fb fc fe : Ev} {fs : Sl → Out (List R)} {pos : Pos} {σ : L2.St} {H : Hp}
theorem lend_ok : ∀ {rs : List R} {vs : List V} {ρ : Sl} {T : Hd}, SR G σ ρ (zipR vs rs ++ T) H → Ats σ rs vs → SR G σ (lend rs ρ).2 (vs.zip (lend rs ρ).1 ++ T) H ∧ (lend rs ρ).1.length = vs.length
  | [], vs, ρ, T, sr, a => by cases (show vs = [] from a); exact ⟨sr, rfl⟩
  | .v s :: rs, vs, ρ, T, sr, a => by
    obtain ⟨v, w, ev, a1, a2⟩ := a
    subst ev
    have s1 : SR G σ ρ (zipR w rs ++ ((v, s) :: T)) H := (show SR G σ ρ ((v, s) :: (zipR w rs ++ T)) H from sr).permT List.perm_middle.symm
    obtain ⟨s2, hl⟩ := lend_ok (T := (v, s) :: T) s1 a2
    exact ⟨s2.permT List.perm_middle, by show (_ :: _).length = (_ :: _).length; rw [List.length_cons, List.length_cons, hl]⟩
  | .r i :: rs, vs, ρ, T, sr, a => by
    obtain ⟨v, w, ev, a1, a2⟩ := a
    subst ev
    have a1' : σ[i]? = some (some v) := a1
    have s0 : SR G σ ρ (zipR w rs ++ T) H := (show SR G σ ρ ((v, .no) :: (zipR w rs ++ T)) H from sr).pop
    have hi : i < ρ.length := by rw [sr.len]; exact (List.getElem?_eq_some_iff.mp a1').1
    have e : ρ[i]? = some ρ[i] := List.getElem?_eq_getElem hi
    have s1 : SR G σ (ρ.set i .no) ((v, (ρ[i]?).getD .no) :: (zipR w rs ++ T)) H := by rw [e]; exact s0.lend a1' e
    obtain ⟨s2, hl⟩ := lend_ok (T := (v, (ρ[i]?).getD .no) :: T) (s1.permT List.perm_middle.symm) a2
    exact ⟨s2.permT List.perm_middle, by show (_ :: _).length = (_ :: _).length; rw [List.length_cons, List.length_cons, hl]⟩
theorem back_ok : ∀ {rs : List R} {vs : List V} {fs ρ : Sl} {T : Hd}, SR G σ ρ (vs.zip fs ++ T) H → Ats σ rs vs → SR G σ (giveB rs fs ρ) T H
  | [], vs, fs, ρ, T, sr, a => by
    cases (show vs = [] from a)
    exact sr
  | r :: rs, vs, [], ρ, T, sr, a => by
    obtain ⟨v, w, ev, a1, a2⟩ := a
    subst ev
    cases r <;> exact sr
  | .v s :: rs, vs, f :: fs, ρ, T, sr, a => by
    obtain ⟨v, w, ev, a1, a2⟩ := a
    subst ev
    exact back_ok (rs := rs) (vs := w) (fs := fs) (SR.pop sr) a2
  | .r i :: rs, vs, f :: fs, ρ, T, sr, a => by
    obtain ⟨v, w, ev, a1, a2⟩ := a
    subst ev
    have s1 : SR G σ ρ ((v, f) :: (w.zip fs ++ T)) H := sr
    exact back_ok (rs := rs) (vs := w) (fs := fs) (s1.storeAt a1) a2
/-- the call's reading from what its def does -/
theorem call_post {F : FnD} {n : Nat} {ρ : Sl} {T : Hd} {Q : VK} {rs : List R} {vs : List V} (sr : SR G σ ρ (zipR vs rs ++ T) H) (a : Ats σ rs vs) (hn : vs.length = n) (p : Post G W σ T (Rt G σ T Q) (callOn F rs ρ)) : spF G n F vs H Q (WE W σ) := by
  obtain ⟨s1, hl⟩ := lend_ok sr a
  refine ⟨hn, (lend rs ρ).1, envL σ (lend rs ρ).2 ++ T, G.fr, s1.h.perm (by
    rw [← List.append_assoc, ← List.append_assoc]
    exact List.perm_append_comm.append_right T), by rw [hl, hn], ?_⟩
  have back : ∀ {H' : Hp} {y : V × Slot} {fs : Sl}, Holds G H' (y :: (vs.zip fs ++ (envL σ (lend rs ρ).2 ++ T))) → SR G σ (giveB rs fs (lend rs ρ).2) (y :: T) H' := fun {H' y fs} h => by
    refine back_ok (rs := rs) (vs := vs) (fs := fs) (T := y :: T) ⟨h.perm ?_, s1.len, s1.as⟩ a
    have p1 : (y :: (vs.zip fs ++ (envL σ (lend rs ρ).2 ++ T))).Perm (y :: (envL σ (lend rs ρ).2 ++ (vs.zip fs ++ T))) := by
      rw [← List.append_assoc, ← List.append_assoc]
      exact (List.perm_append_comm.append_right T).cons y
    refine p1.trans (List.perm_middle.symm.trans ?_)
    exact List.Perm.append_left _ List.perm_middle.symm
  unfold callOn at p
  cases e : F (lend rs ρ).1 with
  | stuck => rw [e] at p; exact p.elim
  | ok s fs => rw [e] at p; exact fun v H' h => p v H' (back h) trivial
  | exc c ns ds fs => rw [e] at p; exact fun d H' h => p d H' (back h)
theorem Ats.length : ∀ {rs : List R} {vs : List V}, Ats σ rs vs → vs.length = rs.length
  | [], vs, a => by cases (show vs = [] from a); rfl
  | r :: rs, vs, ⟨v, w, e, a1, a2⟩ => by rw [e, List.length_cons, List.length_cons, Ats.length a2]
def eCallN (n : Nat) (F : FnD) (fs : Sl → Out (List R)) : Ev := fun ρ => (fs ρ).bind fun rs ρ1 => if rs.length = n then callOn F rs ρ1 else .stuck
theorem ok_call {F : FnD} {n : Nat} (A : ArOk G W t fs) : EvOk G W (tCallSD (spF G n F) [] (WE W) t) (eCallN n F fs) := by
  intro σ H ρ T Q sr p
  refine A σ H ρ T _ sr ((Post.bind p).imp fun rs ρ1 p1 vs H1 sr1 a1 => ?_)
  rw [List.append_nil]
  have p2 : Post G W σ T (Rt G σ T Q) (if rs.length = n then callOn F rs ρ1 else .stuck) := p1
  split at p2
  · rename_i hl
    exact call_post sr1 a1 (by rw [a1.length, hl]) p2
  · exact p2.elim
/-- f(e, ..), f a def of the text -/
theorem de_call {k j n : Nat} {f : Addr} {fd : FuncData} {ps : List Str} {F : FnD} {x : Str} {p : Pos} (C : Cok k X G W) (Fo : FnOk X.prog X.w X.K X.mg X.base (L2.CX X.prog X.w) j f fd ps (spF G n F)) (hj : j ≤ k) (hg : Gl X x) (hm : X.mg x = some (.ref f)) (hk : PySem.W.keepIn X.K (.ref f) = true) (hb : Binds X.K fd ps [])
    (A : DA X G W (a :: es) t fs) (hdb : (x == ("__debug__" : Str)) = false := by decide) (he : starEach (a :: es) X.env = (false, eval a X.env) :: starEach es X.env := by rfl) (hpl : (backTo pos (starEach es X.env)).any (·.1) = false := by rfl) :
    DE X G W (.Call (.Name x p) (a :: es) [] pos) (tCallSD (spF G n F) [] (WE W) t) (eCallN n F fs) :=
  ⟨pe_callSD Fo (C.rm.mono hj) hg hm hk hb .nil (fun σ => passAt C.tk σ) A.pa hdb he hpl, ok_call A.ok⟩
end
end Sep

/-! SepI: comprehensions; lists of one's own; isinstance. -/
namespace Sep
open PySem L2

section
variable {G : Gm} {H H' : Hp} {T L : Hd} {O : List Addr}
/-! ### writing to a list of one's own -/
theorem RepSs.app : ∀ {ss : List Slot} {xs ys : List V} {os : List Addr} {ds : List D}, RepSs G H O ss xs os → RepDs G H O ds ys → RepSs G H O (ss ++ shs ds) (xs ++ ys) os
  | [], xs, ys, os, ds, h, h' => by
    rw [show xs = [] from h.1, show os = [] from h.2]
    exact h'.sh
  | s :: ss, xs, ys, os, ds, ⟨v, r, o1, o2, e, eo, h1, h2⟩, h' => ⟨v, r ++ ys, o1, o2, by rw [e]; rfl, eo, h1, RepSs.app h2 h'⟩
theorem Holds.wr {v : V} {ss : List Slot} (h : Hold G H O ((v, .lst ss) :: L)) : ∃ a xs os', v = .ref a ∧ H a = some (.lst xs) ∧ RepSs G H O ss xs os' ∧
    ∀ xs' ss', RepSs G H O ss' xs' os' → Holds G (upd H a (.lst xs')) ((v, .lst ss') :: L) := by
  obtain ⟨⟨o1, o2, eo, ⟨a, xs, os', ev, e1, h1, h2⟩, h3⟩, OF, hf, nd⟩ := h
  subst e1
  refine ⟨a, xs, os', ev, h1, h2, fun xs' ss' h4 => ?_⟩
  have nd0 := nd
  rw [eo] at nd
  have ndO := List.nodup_append.mp nd
  have nd1 := List.nodup_append.mp ndO.1
  have na : a ∉ os' := (List.nodup_cons.mp nd1.1).1
  have na2 : a ∉ o2 := fun z => nd1.2.2 a List.mem_cons_self a z rfl
  have na3 : a ∉ OF := fun z => ndO.2.2 a (List.mem_append_left _ List.mem_cons_self) a z rfl
  have k : Keep [a] H (upd H a (.lst xs')) := fun b o e n => by rw [upd_ne (fun (z : b = a) => n (by rw [z]; exact List.mem_cons_self))]; exact e
  have hW : ∀ b ∈ [a], b ∈ O := fun b z => by rw [List.mem_singleton.mp z, eo]; exact List.mem_append_left _ List.mem_cons_self
  refine ⟨O, ⟨a :: os', o2, eo, ⟨a, xs', os', ev, rfl, upd_same, ?_⟩, ?_⟩, OF, ?_, nd0⟩
  · exact RepSs.step k hW (fun b z => .inl z) ss' xs' os' h4 fun b z q => na (List.mem_singleton.mp q ▸ z)
  · exact RepL.step k hW (fun b z => .inl z) h3 fun b z q => na2 (List.mem_singleton.mp q ▸ z)
  · exact hf.step k hW (fun b z => .inl z) fun b z q => na3 (List.mem_singleton.mp q ▸ z)
theorem Holds.appendL {v w : V} {d : D} {ss : List Slot} (h : Holds G H ((w, .sh d) :: (v, .lst ss) :: L)) : ∃ a xs, v = .ref a ∧ H a = some (.lst xs) ∧ xs.length = ss.length ∧ Holds G (upd H a (.lst (xs ++ [w]))) ((v, .lst (ss ++ [.sh d])) :: L) := by
  obtain ⟨O, ⟨o1, o2, eo, h1, h2⟩, nd⟩ := h
  have e1 : o1 = [] := h1.1
  subst e1
  have eo' : O = o2 := eo
  subst eo'
  obtain ⟨a, xs, os', ev, ha, hr, k⟩ := Holds.wr (G := G) (H := H) (O := O) (v := v) (ss := ss) (L := L) ⟨h2, nd⟩
  exact ⟨a, xs, ev, ha, hr.length, k _ _ (hr.app (ds := [d]) (ys := [w]) ⟨w, [], rfl, h1.2, rfl⟩)⟩
theorem RepDs.setI : ∀ {ds : List D} {xs : List V} {j : Nat} {d : D} {w : V}, RepDs G H O ds xs → RepD G H O d w → RepDs G H O (ds.set j d) (xs.set j w)
  | [], xs, j, d, w, h, _ => by rw [show xs = [] from h]; rfl
  | d' :: ds, xs, 0, d, w, ⟨v, r, e, h1, h2⟩, h' => by rw [e]; exact ⟨w, r, rfl, h', h2⟩
  | d' :: ds, xs, j + 1, d, w, ⟨v, r, e, h1, h2⟩, h' => by rw [e]; exact ⟨v, r.set j w, rfl, h1, RepDs.setI h2 h'⟩
theorem Holds.setL {v w : V} {d : D} {ds : List D} {j : Nat} (h : Holds G H ((w, .sh d) :: (v, .lst (shs ds)) :: L)) : ∃ a xs, v = .ref a ∧ H a = some (.lst xs) ∧ xs.length = ds.length ∧ Holds G (upd H a (.lst (xs.set j w))) ((v, .lst (shs (ds.set j d))) :: L) := by
  obtain ⟨O, ⟨o1, o2, eo, h1, h2⟩, nd⟩ := h
  have e1 : o1 = [] := h1.1
  subst e1
  have eo' : O = o2 := eo
  subst eo'
  obtain ⟨a, xs, os', ev, ha, hr, k⟩ := Holds.wr (G := G) (H := H) (O := O) (v := v) (ss := shs ds) (L := L) ⟨h2, nd⟩
  obtain ⟨e2, rd⟩ := hr.flat
  subst e2
  exact ⟨a, xs, ev, ha, rd.length, k _ _ (rd.setI h1.2).sh⟩
theorem set_permW : ∀ {σ : L2.St} {ρ : Sl} {i : Nat} {v : V} {s : Slot}, σ[i]? = some (some v) → ρ[i]? = some s → ∃ L0, (envL σ ρ).Perm ((v, s) :: L0) ∧ ∀ w, (envL σ (ρ.set i w)).Perm ((v, w) :: L0)
  | o :: σ, s' :: ρ, 0, v, s, h1, h2 => by
    have e1 : o = some v := by simpa using h1
    have e2 : s' = s := by simpa using h2
    subst e1 e2
    exact ⟨envL σ ρ, .refl _, fun w => .refl _⟩
  | o :: σ, s' :: ρ, i + 1, v, s, h1, h2 => by
    obtain ⟨L0, p1, p2⟩ := set_permW (σ := σ) (ρ := ρ) (i := i) (by simpa using h1) (by simpa using h2)
    exact ⟨(o.getD .non, s') :: L0, (p1.cons _).trans (.swap _ _ _), fun w => ((p2 w).cons _).trans (.swap _ _ _)⟩
  | [], _, _, _, _, h1, _ => by simp at h1
  | _ :: _, [], _, _, _, _, h2 => by simp at h2
/-- a slot's thing as the first held; and back, changed -/
theorem SR.out {σ : L2.St} {ρ : Sl} {i : Nat} {v : V} {s : Slot} (sr : SR G σ ρ T H) (h1 : σ[i]? = some (some v)) (h2 : ρ[i]? = some s) : ∃ L0, Holds G H ((v, s) :: (L0 ++ T)) ∧ ∀ T' H' w, Holds G H' ((v, w) :: (L0 ++ T')) → SR G σ (ρ.set i w) T' H' := by
  obtain ⟨L0, p1, p2⟩ := set_permW h1 h2
  exact ⟨L0, sr.h.perm (p1.append_right T), fun T' H' w h => ⟨h.perm ((p2 w).symm.append_right T'), by rw [List.length_set]; exact sr.len, as_set sr.as ⟨v, h1⟩⟩⟩
end

section
variable {X : Cx} {G : Gm} {W : WX} {fx : FX} {a b c : Expr} {es : List Expr} {ta tb tc te : TE} {t : TA} {fa fb fc fe : Ev} {pos : Pos}
/-- x.append(e) -/
def eApp (fa fb : Ev) : Ev := fun ρ => (fa ρ).bind fun r1 ρ1 => match r1 with
  | .r i => (match ρ1[i]? with
    | some (.lst _) => (fb ρ1).bind fun r2 ρ2 => (cons r2 ρ2).bind fun d ρ3 => (match ρ3[i]? with
      | some (.lst ss) => if ss.length < LIM then .ok (.v (.sh .non)) (ρ3.set i (.lst (ss ++ [.sh d]))) else .stuck
      | _ => .stuck)
    | _ => .stuck)
  | _ => .stuck
theorem lst_at {σ : L2.St} {ρ : Sl} {T : Hd} {H : Hp} {i : Nat} {v : V} {ss : List Slot} (sr : SR G σ ρ T H) (h1 : σ[i]? = some (some v)) (h2 : ρ[i]? = some (.lst ss)) : ∃ a xs, v = .ref a ∧ H a = some (.lst xs) := by
  obtain ⟨L0, ⟨O, h⟩, _⟩ := sr.out h1 h2
  obtain ⟨a, xs, os', ev, ha, _, _⟩ := Holds.wr h
  exact ⟨a, xs, ev, ha⟩
theorem ok_app (A : EvOk G W ta fa) (B : EvOk G W tb fb) : EvOk G W (tBM G.K "list" rAppend ta (tCons tb tNil)) (eApp fa fb) := by
  intro σ H ρ T Q sr p
  refine A σ H ρ T _ sr ((Post.bind p).imp fun r1 ρ1 p1 x H1 sr1 a1 => ?_)
  cases r1 with
  | v s => exact p1.elim
  | r i =>
    have a1' : σ[i]? = some (some x) := a1
    cases e1 : ρ1[i]? with
    | none => simp only [e1] at p1; exact p1.elim
    | some s1 =>
      simp only [e1] at p1
      cases s1 <;> first | (exact p1.elim) | skip
      rename_i ss1
      obtain ⟨a, xs, ea, ha⟩ := lst_at sr1.pop a1' e1
      subst ea
      refine ⟨.inl ⟨rfl, _, .of ha⟩, B σ H1 ρ1 ((.ref a, .no) :: T) _ sr1 ((Post.bind p1).more.imp fun r2 ρ2 p2 y H2 sr2 a2 => ?_)⟩
      rcases cons_or r2 ρ2 with ⟨d, ρ3, e⟩ | e
      · simp only [e, Out.bind] at p2
        have sr3 := (sr2.take1 a2 e).pop2
        cases e3 : ρ3[i]? with
        | none => simp only [e3] at p2; exact p2.elim
        | some s3 =>
          simp only [e3] at p2
          cases s3 <;> first | (exact p2.elim) | skip
          rename_i ss
          simp only at p2
          split at p2
          · rename_i hz
            obtain ⟨L0, h1, back⟩ := sr3.out a1' e3
            obtain ⟨a', xs', ea', ha', hl, h2⟩ := Holds.appendL (L := L0 ++ T) (h1.perm ((List.Perm.cons _ List.perm_middle).trans (.swap _ _ _)))
            cases ea'
            refine ⟨a, xs', y, rfl, rfl, ha', by rw [hl]; exact Nat.lt_of_lt_of_le hz (by rw [sizeLine_eq]; exact Nat.le_refl _), p2 _ _ ?_ trivial⟩
            exact (back T _ _ h2).scal fun _ => rfl
          · exact p2.elim
      · simp only [e, Out.bind] at p2; exact p2.elim
theorem de_app {apos : Pos} (hK : X.K = G.K) (A : DE X G W a ta fa) (B : DE X G W b tb fb) (hbase : attributeBase a ("append" : Str) X.env (eval a X.env) = eval a X.env := by rfl)
    (hfew : ((backTo pos (starEach [b] X.env)).all (fun x => !x.1) && (backToKw pos (keywordEach [] X.env)).all (fun x => x.1.isSome) && decide (([b] : List Expr).length + ([] : List Keyword).length + (if ([] : List Keyword).isEmpty then 0 else 1) < 30)) = true := by rfl)
    (hline : (apos.endLine == pos.line) = true := by rfl) (h1 : starEach [b] X.env = (false, eval b X.env) :: starEach [] X.env := by rfl) (h2 : (backTo pos (starEach [] X.env)).any (·.1) = false := by rfl) : DE X G W (.Call (.Attribute a "append" apos) [b] [] pos) (tBM G.K "list" rAppend ta (tCons tb tNil)) (eApp fa fb) :=
  ⟨by have := pe_bm (cpos := pos) (apos := apos) PySem.F.plainAttrs_list PySem.F.slot_list_append PySem.F.type_list_append mt_append A.pe (pa_cons B.pe pa_nil h1) hbase hfew hline h1 h2; rw [hK] at this; exact this, ok_app A.ok B.ok⟩

/-! ### o[i] = .. -/
def kSub (fa fb : Ev) : D → Sl → Option Sl := fun d ρ => match fa ρ with
  | .ok (.r i) ρ1 => (match fb ρ1 with
    | .ok r2 ρ2 => (match look r2 ρ2, ρ2[i]? with
      | some (.int k), some (.lst ss) => (match flats ss with
        | some ds => (ixN ds.length k).map fun j => ρ2.set i (.lst (shs (ds.set j d)))
        | none => none)
      | _, _ => none)
    | _ => none)
  | _ => none
theorem tg_sub (A : EvOk G W ta fa) (B : EvOk G W tb fb) : TgOk G fx (gSub ta tb rSetL) (kSub fa fb) := by
  intro v σ H ρ T d ρ' Q sr e q
  unfold kSub at e
  refine A σ H ρ ((v, .sh d) :: T) _ sr ?_
  cases e1 : fa ρ with
  | stuck => simp only [e1] at e; cases e
  | exc => simp only [e1] at e; cases e
  | ok r1 ρ1 =>
    simp only [e1] at e
    cases r1 with
    | v s => cases e
    | r i =>
      intro x H1 sr1 a1
      simp only at e
      refine B σ H1 ρ1 ((x, .no) :: (v, .sh d) :: T) _ sr1 ?_
      cases e2 : fb ρ1 with
      | stuck => simp only [e2] at e; cases e
      | exc => simp only [e2] at e; cases e
      | ok r2 ρ2 =>
        simp only [e2] at e
        intro y H2 sr2 a2
        cases e3 : look r2 ρ2 with
        | none => simp only [e3] at e; cases e
        | some d2 =>
          cases d2 <;> first | (simp only [e3] at e; cases e; done) | skip
          rename_i k
          simp only [e3] at e
          cases e4 : ρ2[i]? with
          | none => simp only [e4] at e; cases e
          | some s4 =>
            simp only [e4] at e
            cases s4 <;> first | (cases e; done) | skip
            rename_i ss
            simp only at e
            cases e5 : flats ss with
            | none => simp only [e5] at e; cases e
            | some ds =>
              simp only [e5] at e
              obtain ⟨j, e6, e7⟩ := Option.map_eq_some_iff.mp e
              subst e7
              obtain ⟨O, ho⟩ := sr2.h
              have ey : y = .int k := sr2.lookP ho a2 (fun s e => by subst e; exact List.mem_cons_self) e3
              have sr3 : SR G σ ρ2 ((v, .sh d) :: T) H2 := sr2.pop.pop
              obtain ⟨L0, h1, back⟩ := sr3.out a1 e4
              rw [flats_eq e5] at h1
              obtain ⟨a', xs', ea', ha', hl, h2⟩ := Holds.setL (j := j) (L := L0 ++ T) (h1.perm ((List.Perm.cons _ List.perm_middle).trans (.swap _ _ _)))
              exact ⟨a', xs', k, j, ea', ey, ha', by rw [hl]; exact e6, q σ _ .refl (back T _ _ h2)⟩
theorem dg_sub {k : Nat} (_ : Cok k X G W) (A : DE X G W a ta fa) (B : DE X G W b tb fb) (ha : ∀ v, assign (.Subscript a b pos) X.env v = (do
      let ov ← holding [v] (eval a X.env)
      let iv ← holding [v, ov] (eval b X.env)
      standAt pos
      holding [v, ov, iv] (setItem ov iv v)
      release [v, ov, iv] []) := by intro _; rfl) : DG fx X G (.Subscript a b pos) (gSub ta tb rSetL) (kSub fa fb) := ⟨pg_sub A.pe B.pe set_list ha, tg_sub A.ok B.ok⟩

/-! ### isinstance(x, T), T a built-in type -/
def tyN : D → String
  | .non => "NoneType"
  | .bl _ => "bool"
  | .int _ => "int"
  | .str _ => "str"
  | .tup _ => "tuple"
  | .lst _ => "list"
  | .rol _ => "list"
  | .dct _ _ => "dict"
  | .obj _ _ _ => ""
  | .xd _ _ => ""
def isT (T : String) (d : D) : Option Bool := match d with
  | .obj _ _ _ => none
  | .xd _ _ => none
  | .non => some false
  | .bl _ => some (decide (T = "bool") || decide (T = "int"))
  | .int _ => some (decide (T = "int"))
  | .str _ => some (decide (T = "str"))
  | .tup _ => some (decide (T = "tuple"))
  | .lst _ => some (decide (T = "list"))
  | .rol _ => some (decide (T = "list"))
  | .dct _ _ => some (decide (T = "dict"))
abbrev tyNames : List String := ["bool", "int", "str", "tuple", "list", "dict"]
theorem kit_all : (tyNames.all fun T => (kitB "NoneType" T == some false) && (kitB "bool" T == some (decide (T = "bool") || decide (T = "int"))) && (kitB "int" T == some (decide (T = "int"))) && (kitB "str" T == some (decide (T = "str"))) && (kitB "tuple" T == some (decide (T = "tuple")))
    && (kitB "list" T == some (decide (T = "list"))) && (kitB "dict" T == some (decide (T = "dict")))) = true := by decide +kernel
theorem isT_kit {T : String} {d : D} {k : Bool} (hT : T ∈ tyNames) (e : isT T d = some k) : kitB (tyN d) T = some k := by
  have h := List.all_eq_true.mp kit_all T hT
  simp only [Bool.and_eq_true, beq_iff_eq] at h
  obtain ⟨⟨⟨⟨⟨⟨h1, h2⟩, h3⟩, h4⟩, h5⟩, h6⟩, h7⟩ := h
  cases d <;> first | (cases e; done) | (cases e; assumption)
theorem tyx_of {H : Hp} {O : List Addr} {d : D} {v : V} (h : RepP G H O d v) (n : ∀ c ns ds, d ≠ .obj c ns ds) (n2 : ∀ ns ds, d ≠ .xd ns ds) : TyX G.K H v (.type (tyN d)) := by
  cases d with
  | non => cases h; exact .base .non
  | bl b => cases h; exact .base (.bl b)
  | int i => cases h; exact .base (.int i)
  | str s => cases h; exact .base (.str s)
  | tup ds =>
    obtain ⟨a, xs, e, h1, _⟩ := h
    subst e
    rcases h1 with ⟨h1 | ⟨o, h1⟩, _⟩ | ⟨o, its, m, h1, h2, _⟩
    · exact .base (.tup h1)
    · exact .fTuple h1
    · exact .kTuple h1 h2
  | lst ds =>
    obtain ⟨a, xs, e, h1, _⟩ := h
    subst e
    exact .base (.lst h1)
  | rol ds =>
    obtain ⟨a, xs, e, h1, _⟩ := h
    subst e
    rcases h1 with ⟨h1 | ⟨o, h1⟩, _⟩ | ⟨o, its, m, h1, h2, _⟩
    · exact .base (.lst h1)
    · exact .base (.frz h1)
    · exact .kList h1 h2
  | obj c ns ds => exact absurd rfl (n c ns ds)
  | dct ks ds =>
    obtain ⟨a, xs, e, h1, _⟩ := h
    subst e
    rcases h1 with h1 | ⟨o, h1⟩
    · exact .base (.dK h1)
    · exact .fDict h1
  | xd ns ds => exact absurd rfl (n2 ns ds)
def gIsi (T : String) : D → Option Slot := fun d => (isT T d).map fun k => .sh (.bl k)
def tIsi (K : PySem.W.Frag) (T : String) (ta : TE) : TE := tCB (rIsi K) (tCons ta (tCons (tC (.ty T)) tNil))
theorem ok_isi {T : String} (hT : T ∈ tyNames) (A : EvOk G W ta fa) : EvOk G W (tIsi G.K T ta) (eUn (gIsi T) fa) := by
  intro σ H ρ Tp Q sr p
  refine A σ H ρ Tp _ sr ((Post.bind p).imp fun r ρ1 p1 x H1 sr1 a1 => ?_)
  cases e1 : look r ρ1 with
  | none => simp only [e1] at p1; exact p1.elim
  | some d =>
    simp only [e1] at p1
    cases e2 : isT T d with
    | none => unfold gIsi at p1; simp only [e2, Option.map_none] at p1; exact p1.elim
    | some k =>
      unfold gIsi at p1
      simp only [e2, Option.map_some] at p1
      obtain ⟨O, h⟩ := sr1.h
      have rp := sr1.lookP h a1 (fun s e => by subst e; exact List.mem_cons_self) e1
      refine ⟨x, .ty T, .type (tyN d), .type T, k, rfl, .ty T, tyx_of rp (fun c ns ds z => by rw [z] at e2; cases e2) (fun ns ds z => by rw [z] at e2; cases e2), kit_ty (isT_kit hT e2), p1 _ H1 (sr1.pop.scal fun _ => rfl) trivial⟩
theorem de_isi {p p2 : Pos} {T : String} {x : Str} (hT : T ∈ tyNames) (hK : X.K = G.K) (hg : Gl X "isinstance") (hm : X.mg "isinstance" = none) (hg2 : Gl X x) (hm2 : X.mg x = none) (hv : bootBuiltins x = some (.type T)) (A : DE X G W a ta fa) (hn : x ≠ "__name__" := by decide) (hd : (x == ("__debug__" : Str)) = false := by decide)
    (he : starEach [a, .Name x p2] X.env = (false, eval a X.env) :: starEach [.Name x p2] X.env := by rfl) (he1 : starEach [.Name x p2] X.env = (false, eval (.Name x p2) X.env) :: starEach [] X.env := by rfl) (hpl : (backTo pos (starEach [.Name x p2] X.env)).any (·.1) = false := by rfl) :
    DE X G W (.Call (.Name "isinstance" p) [a, .Name x p2] [] pos) (tIsi G.K T ta) (eUn (gIsi T) fa) :=
  ⟨pe_callB (by rw [← hK]; exact call_isi) hg hm boot_isi (pa_cons A.pe (pa_cons (pe_bltn hg2 hm2 hv rfl hn hd) pa_nil he1) he) (by decide) (by decide) he hpl, ok_isi hT A.ok⟩
end
end Sep

/-! SepJ: list comprehensions. -/
namespace Sep
open PySem L2

def wipeR (ρ : Sl) : List Nat → Sl
  | [] => ρ
  | v :: vs => (wipeR ρ vs).set v .no
def compL (vs : List Nat) (g : D → Sl → Option Sl) (p : Sl → Out Bool) (e : Ev) : List D → List D → Sl → Out (List D)
  | [], acc, ρ => .ok acc ρ
  | d :: ds, acc, ρ => match g d ρ with
    | none => .stuck
    | some ρ1 => match p ρ1 with
      | .ok true ρ2 => (match e ρ2 with
        | .ok r ρ3 => (cons r ρ3).bind fun y ρ4 => if acc.length < LIM then compL vs g p e ds (acc ++ [y]) (wipeR ρ4 vs) else .stuck
        | _ => .stuck)
      | .ok false ρ2 => compL vs g p e ds acc (wipeR ρ2 vs)
      | _ => .stuck
def eComp (vs : List Nat) (it : Sl → Out (List D)) (g : D → Sl → Option Sl) (p : Sl → Out Bool) (e : Ev) : Ev := fun ρ => (it ρ).bind fun ds ρ1 => (compL vs g p e ds [] (wipeR ρ1 vs)).bind fun ys ρ2 => .ok (.v (.lst (shs ys))) ρ2
def pYes : Sl → Out Bool := fun ρ => .ok true ρ
abbrev W0 : WX := fun _ _ _ _ => False
def outV (vs : List Nat) : FX := fun i => !vs.contains i

section
variable {G : Gm} {H : Hp} {T : Hd} {σ : L2.St} {ρ : Sl}
theorem env_set (i : Nat) (o : Option V) (s : Slot) : ∀ {σ : L2.St} {ρ : Sl}, envL (σ.set i o) (ρ.set i s) = (envL σ ρ).set i (o.getD .non, s) := by
  induction i with
  | zero =>
    intro σ ρ
    cases σ <;> cases ρ <;> rfl
  | succ i ih =>
    intro σ ρ
    cases σ with
    | nil => simp [envL]
    | cons a σ =>
      cases ρ with
      | nil => simp [envL]
      | cons b ρ =>
        show (a.getD .non, b) :: envL (σ.set i o) (ρ.set i s) = (a.getD .non, b) :: (envL σ ρ).set i (o.getD .non, s)
        rw [ih]
theorem SR.unset (sr : SR G σ ρ T H) (i : Nat) : SR G (σ.set i none) (ρ.set i .no) T H := by
  refine ⟨by rw [env_set]; exact set_holds (sr.h.no), by rw [List.length_set, List.length_set]; exact sr.len, fun j s e n => ?_⟩
  by_cases q : i = j
  · subst q
    by_cases hl : i < ρ.length
    · rw [List.getElem?_set_self hl] at e
      cases e
      exact absurd rfl n
    · rw [List.getElem?_eq_none (by rw [List.length_set]; omega)] at e
      cases e
  · rw [List.getElem?_set_ne q] at e ⊢
    exact sr.as j s e n
theorem SR.reset {i : Nat} (sr : SR G (σ.set i none) (ρ.set i .no) T H) : SR G σ (ρ.set i .no) T H := by
  have hl : ρ.length = σ.length := by have := sr.len; rwa [List.length_set, List.length_set] at this
  refine ⟨?_, by rw [List.length_set]; exact hl, fun j s e n => ?_⟩
  · have h := sr.h
    rw [env_set] at h
    cases q : σ[i]? with
    | none =>
      have : σ.length ≤ i := List.getElem?_eq_none_iff.mp q
      have e1 : ρ.set i .no = ρ := List.set_eq_of_length_le (by omega)
      have e2 : (envL σ ρ).set i ((none : Option V).getD .non, .no) = envL σ ρ := List.set_eq_of_length_le (by unfold envL; rw [List.length_zip, List.length_map]; omega)
      rw [e1]
      rw [e2] at h
      exact h
    | some o =>
      have e : envL σ (ρ.set i .no) = ((envL σ ρ).set i (V.non, Slot.no)).set i (o.getD .non, .no) := by
        have := env_set i o .no (σ := σ) (ρ := ρ)
        rw [set_self q] at this
        rw [this, List.set_set]
      rw [e]
      exact set_holds h.no
  · by_cases q : i = j
    · subst q
      by_cases hl : i < ρ.length
      · rw [List.getElem?_set_self hl] at e
        cases e
        exact absurd rfl n
      · rw [List.getElem?_eq_none (by rw [List.length_set]; omega)] at e
        cases e
    · obtain ⟨v, h⟩ := sr.as j s e n
      rw [List.getElem?_set_ne q] at h
      exact ⟨v, h⟩
theorem SR.wipe (sr : SR G σ ρ T H) : ∀ vs : List Nat, SR G (L2.wipe σ vs) (wipeR ρ vs) T H
  | [] => sr
  | v :: vs => (SR.wipe sr vs).unset v
theorem wipeR_set : ∀ (vs : List Nat) (ρ : Sl) (v : Nat), (wipeR ρ vs).set v .no = wipeR (ρ.set v .no) vs
  | [], ρ, v => rfl
  | u :: vs, ρ, v => by
    show ((wipeR ρ vs).set u .no).set v .no = (wipeR (ρ.set v .no) vs).set u .no
    rw [← wipeR_set vs ρ v]
    by_cases e : u = v
    · subst e; rfl
    · rw [List.set_comm _ _ e]
theorem SR.unwipe : ∀ {vs : List Nat} {ρ : Sl}, SR G (L2.wipe σ vs) (wipeR ρ vs) T H → SR G σ (wipeR ρ vs) T H
  | [], ρ, sr => sr
  | v :: vs, ρ, sr => by
    have h1 : SR G (L2.wipe σ vs) ((wipeR ρ vs).set v .no) T H := SR.reset sr
    rw [wipeR_set] at h1
    have h2 := SR.unwipe h1
    show SR G σ ((wipeR ρ vs).set v .no) T H
    rw [wipeR_set]
    exact h2
theorem wipe_in : ∀ {vs : List Nat} {τ : L2.St} {j : Nat}, j ∈ vs → j < τ.length → (L2.wipe τ vs)[j]? = some none
  | v :: vs, τ, j, h, hl => by
    show ((L2.wipe τ vs).set v none)[j]? = some none
    by_cases e : v = j
    · subst e
      rw [List.getElem?_set_self (by rw [L2.wipe_length]; exact hl)]
    · rw [List.getElem?_set_ne e]
      rcases List.mem_cons.mp h with q | q
      · exact absurd q.symm e
      · exact wipe_in q hl
theorem wipe_fix {vs : List Nat} {τ : L2.St} (f : Fix (outV vs) (L2.wipe σ vs) τ) : L2.wipe τ vs = L2.wipe σ vs := by
  have hl : τ.length = σ.length := by rw [f.1, L2.wipe_length]
  apply List.ext_getElem?
  intro j
  by_cases hj : j < σ.length
  · by_cases hm : j ∈ vs
    · rw [wipe_in hm (by omega), wipe_in hm hj]
    · rw [L2.wipe_out hm, f.2 j (by unfold outV; simp [hm])]
  · rw [List.getElem?_eq_none (by rw [L2.wipe_length]; omega), List.getElem?_eq_none (by rw [L2.wipe_length]; omega)]
end

structure DTs (X : Cx) (G : Gm) (W : WX) (ifs : List Expr) (t : TT) (f : Sl → Out Bool) : Prop where
  pts : PTs X ifs t
  ok : TtOk G W t f
section
variable {X : Cx} {G : Gm} {W : WX} {fx : FX} {a b c elt tg iter : Expr} {ta tb te : TE} {tt : TT} {wi : TI} {gt : TG} {fa fe : Ev} {pt : Sl → Out Bool} {fi : Sl → Out (List D)} {gg : D → Sl → Option Sl} {pos : Pos} {ifs : List Expr} {scope : Scope} {own : List (Str × Nat)}
theorem dts_nil : DTs X G W [] tYes pYes := ⟨pts_nil, fun σ H ρ T Q sr p => p H sr⟩
theorem dts_one (A : DT X G W c tt pt) : DTs X G W [c] tt pt := ⟨pts_one A.pt, A.ok⟩
theorem ok_comp {vs : List Nat} (I : ItOk G W wi fi) (B : TgOk G (outV vs) gt gg) (P : TtOk G W0 tt pt) (E : EvOk G W0 te fe) : EvOk G W (tLc wi gt tt te vs) (eComp vs fi gg pt fe) := by
  intro σ H ρ T Q sr p
  refine I σ H ρ T _ sr ((Post.bind p).imp fun ds ρ1 p1 J y H1 sr1 wk => ?_)
  intro Da hD
  have PC : ∃ ys ρ2, compL vs gg pt fe ds [] (wipeR ρ1 vs) = .ok ys ρ2 ∧ ∀ v H', SR G σ ρ2 ((v, .lst (shs ys)) :: T) H' → Q v H' := by
    have p2 := Post.bind p1
    have noexc : ∀ (ds acc : List D) (ρ : Sl), (∃ ys ρ2, compL vs gg pt fe ds acc ρ = .ok ys ρ2) ∨ compL vs gg pt fe ds acc ρ = .stuck := by
      intro ds
      induction ds with
      | nil => exact fun acc ρ => .inl ⟨acc, ρ, rfl⟩
      | cons d ds ih =>
        intro acc ρ
        unfold compL
        cases gg d ρ with
        | none => exact .inr rfl
        | some ρ1 =>
          simp only
          cases pt ρ1 with
          | stuck => exact .inr rfl
          | exc => exact .inr rfl
          | ok k ρ2 =>
            cases k with
            | false => exact ih acc _
            | true =>
              simp only
              cases fe ρ2 with
              | stuck => exact .inr rfl
              | exc => exact .inr rfl
              | ok r ρ3 =>
                simp only
                rcases cons_or r ρ3 with ⟨y, ρ4, e⟩ | e
                · rw [e]
                  simp only [Out.bind]
                  split
                  · exact ih _ _
                  · exact .inr rfl
                · rw [e]; exact .inr rfl
    rcases noexc ds [] (wipeR ρ1 vs) with ⟨ys, ρ2, e⟩ | e
    · rw [e] at p2
      exact ⟨ys, ρ2, e, fun v H' h => p2 v H' h trivial⟩
    · rw [e] at p2; exact p2.elim
  refine ⟨fun i m H => m = ds.length - i ∧ i ≤ ds.length ∧ ∃ ρ0 acc, SR G (L2.wipe σ vs) (wipeR ρ0 vs) ((.ref Da, .lst (shs acc)) :: y :: T) H ∧
    ∃ ys ρ2, compL vs gg pt fe (ds.drop i) acc (wipeR ρ0 vs) = .ok ys ρ2 ∧ ∀ v H', SR G σ ρ2 ((v, .lst (shs ys)) :: T) H' → Q v H', ⟨_, rfl, Nat.zero_le _, ρ1, [], ?_, PC⟩, ?_⟩
  · obtain ⟨O, h⟩ := sr1.h
    exact (sr1.push (h.newL (xs := []) (ss := []) hD ⟨rfl, rfl⟩)).wipe vs
  rintro i m H2 ⟨rfl, hi, ρ0, acc, sr2, ys, ρ2, ec, fin⟩
  have sr2' : SR G (L2.wipe σ vs) (wipeR ρ0 vs) (y :: (.ref Da, .lst (shs acc)) :: T) H2 := sr2.permT (.swap _ _ _)
  obtain ⟨stop, go⟩ := wk _ _ _ _ i sr2' hi
  by_cases hlt : i < ds.length
  · obtain ⟨hgo, hy⟩ := go ds[i] (List.getElem?_eq_getElem hlt)
    have ed : ds.drop i = ds[i] :: ds.drop (i + 1) := List.drop_eq_getElem_cons hlt
    rw [ed] at ec
    refine .inr ⟨hgo, fun H' => ∃ ρ0 acc, SR G (L2.wipe σ vs) (wipeR ρ0 vs) ((.ref Da, .lst (shs acc)) :: y :: T) H' ∧
      ∃ ys ρ2, compL vs gg pt fe (ds.drop (i + 1)) acc (wipeR ρ0 vs) = .ok ys ρ2 ∧ ∀ v H', SR G σ ρ2 ((v, .lst (shs ys)) :: T) H' → Q v H',
      fun H' q => ⟨ds.length - (i + 1), by omega, rfl, hlt, q⟩, fun x H' hx => ?_⟩
    have sr3 := hy x H' hx
    unfold compL at ec
    cases eg : gg ds[i] (wipeR ρ0 vs) with
    | none => simp only [eg] at ec; cases ec
    | some ρ3 =>
      simp only [eg] at ec
      refine B x _ H' _ (y :: (.ref Da, .lst (shs acc)) :: T) ds[i] ρ3 _ sr3 eg fun σ3 H3 f3 sr4 => ⟨wipe_fix f3, ?_⟩
      refine P σ3 H3 ρ3 _ _ sr4 ?_
      cases ep : pt ρ3 with
      | stuck => simp only [ep] at ec; cases ec
      | exc => simp only [ep] at ec; cases ec
      | ok k ρ4 =>
        intro H4 sr5
        cases k with
        | false =>
          simp only [ep] at ec
          refine iteF ⟨ρ4, acc, ?_, ys, ρ2, ec, fin⟩
          have := (sr5.permT (.swap _ _ _)).wipe vs
          rwa [wipe_fix f3] at this
        | true =>
          simp only [ep] at ec
          refine iteT (E σ3 H4 ρ4 _ _ sr5 ?_)
          cases ee : fe ρ4 with
          | stuck => simp only [ee] at ec; cases ec
          | exc => simp only [ee] at ec; cases ec
          | ok r ρ5 =>
            simp only [ee] at ec
            intro z H5 sr6 a6
            rcases cons_or r ρ5 with ⟨d, ρ6, e⟩ | e
            · simp only [e, Out.bind] at ec
              split at ec
              · rename_i hz
                have sr7 := sr6.take1 a6 e
                have h8 : Holds G H5 ((z, .sh d) :: (V.ref Da, .lst (shs acc)) :: (envL σ3 ρ6 ++ (y :: T))) := sr7.pull.perm (by
                  refine List.Perm.cons _ ?_
                  have p1 : (envL σ3 ρ6 ++ (y :: (V.ref Da, Slot.lst (shs acc)) :: T)).Perm (envL σ3 ρ6 ++ ((V.ref Da, Slot.lst (shs acc)) :: y :: T)) := List.Perm.append_left _ (.swap _ _ _)
                  exact p1.trans List.perm_middle)
                obtain ⟨a', xs, ea, ha, hl, h9⟩ := Holds.appendL h8
                cases ea
                refine ⟨xs, ha, by rw [hl, List.length_map]; exact Nat.lt_of_lt_of_le hz (by rw [sizeLine_eq]; exact Nat.le_refl _), ρ6, acc ++ [d], ?_, ys, ρ2, ec, fin⟩
                have e2 : shs acc ++ [Slot.sh d] = shs (acc ++ [d]) := by unfold shs; rw [List.map_append]; rfl
                rw [e2] at h9
                have sr10 : SR G σ3 ρ6 ((V.ref Da, .lst (shs (acc ++ [d]))) :: y :: T) (upd H5 Da (.lst (xs ++ [z]))) := ⟨h9.perm List.perm_middle.symm, sr7.len, sr7.as⟩
                have := sr10.wipe vs
                rwa [wipe_fix f3] at this
              · cases ec
            · simp only [e, Out.bind] at ec; cases ec
  · have e : i = ds.length := by omega
    refine .inl ⟨stop e, ?_⟩
    rw [e, List.drop_length] at ec
    cases ec
    exact fin _ _ (sr2.pop2.unwipe)
theorem cok_blk {k : Nat} (C : Cok k X G W) (s : Shared) (H : Hp) (sc : Scope) (ce : PySem.Env) (fp : List Addr) : Cok k (X.blk s H sc ce fp) G W0 :=
  ⟨C.hK, C.calm, fun _ _ ⟨_, _, _, _, _, _, _, _, _, _, _, _, _, _, _, _, w⟩ => w.elim, PassesOwn.never, C.nd, C.rm⟩
theorem de_comp {k : Nat} (C : Cok k X G W) (own : List (Str × Nat)) (I : DI X G W tg iter wi fi) (ok : BlkOk X.N X.env.scope scope own)
    (hg : ∀ (s : Shared) (H : Hp) (Ca : Addr) (cl : List (Str × Addr)) (fp : List Addr), Cok k (X.blk s H scope (compEnvC scope cl Ca X.env) fp) G W0 → DG (outV (own.map (·.2))) (X.blk s H scope (compEnvC scope cl Ca X.env) fp) G tg gt gg)
    (ht : ∀ (s : Shared) (H : Hp) (Ca : Addr) (cl : List (Str × Addr)) (fp : List Addr), Cok k (X.blk s H scope (compEnvC scope cl Ca X.env) fp) G W0 → DTs (X.blk s H scope (compEnvC scope cl Ca X.env) fp) G W0 ifs tt pt)
    (he : ∀ (s : Shared) (H : Hp) (Ca : Addr) (cl : List (Str × Addr)) (fp : List Addr), Cok k (X.blk s H scope (compEnvC scope cl Ca X.env) fp) G W0 → DE (X.blk s H scope (compEnvC scope cl Ca X.env) fp) G W0 elt te fe)
    (hs : ∀ x, foldedSetIterable iter X.env x = pure x := by intro _; rfl) : DE X G W (.ListComp elt [⟨tg, iter, ifs, 0⟩] scope pos) (tLc wi gt tt te (own.map (·.2))) (eComp (own.map (·.2)) fi gg pt fe) := by
  refine ⟨pe_lc C.calm C.nd I.pi ok (fun s H Ca cl fp => (hg s H Ca cl fp (cok_blk C s H _ _ fp)).pg) (fun s H Ca cl fp => (ht s H Ca cl fp (cok_blk C s H _ _ fp)).pts) (fun s H Ca cl fp => (he s H Ca cl fp (cok_blk C s H _ _ fp)).pe) hs, ?_⟩
  exact ok_comp I.ok (hg X.s_0 X.H_0 (0 : Nat) [] [] (cok_blk C _ _ _ _ _)).ok (ht X.s_0 X.H_0 (0 : Nat) [] [] (cok_blk C _ _ _ _ _)).ok (he X.s_0 X.H_0 (0 : Nat) [] [] (cok_blk C _ _ _ _ _)).ok
end
end Sep

/-! SepK: calls that only look, lists of lists of one's own, walks of lists or tuples. -/
namespace Sep
open PySem L2

section
variable {G : Gm} {H : Hp} {O : List Addr} {fr : List Hd}
mutual
theorem RepD_w : ∀ (d : D) (v : V), RepD (G.w fr) H O d v = RepD G H O d v
  | .non, _ => rfl
  | .bl _, _ => rfl
  | .int _, _ => rfl
  | .str _, _ => rfl
  | .tup ds, v => by simp only [RepD, RepDs_w ds]
  | .lst ds, v => by simp only [RepD, RepDs_w ds]
  | .rol ds, v => by simp only [RepD, RepDs_w ds]
  | .obj c ns ds, v => by simp only [RepD, RepDs_w ds]
  | .dct ks ds, v => by simp only [RepD, RepDs_w ds]
  | .xd ns ds, v => by simp only [RepD, RepDs_w ds]
theorem RepDs_w : ∀ (ds : List D) (xs : List V), RepDs (G.w fr) H O ds xs = RepDs G H O ds xs
  | [], _ => rfl
  | d :: ds, xs => by simp only [RepDs, RepD_w d, RepDs_w ds]
end
mutual
theorem RepS_w : ∀ (s : Slot) (v : V) (os : List Addr), RepS (G.w fr) H O s v os = RepS G H O s v os
  | .no, _, _ => rfl
  | .sh d, v, os => by simp only [RepS, RepD_w]
  | .lst ss, v, os => by simp only [RepS, RepSs_w ss]
  | .obj c ns ss, v, os => by simp only [RepS, RepSs_w ss]
  | .dct ks ss, v, os => by simp only [RepS, RepSs_w ss]
theorem RepSs_w : ∀ (ss : List Slot) (xs : List V) (os : List Addr), RepSs (G.w fr) H O ss xs os = RepSs G H O ss xs os
  | [], _, _ => rfl
  | s :: ss, xs, os => by simp only [RepSs, RepS_w s, RepSs_w ss]
end
theorem RepL_w : ∀ (L : Hd) (os : List Addr), RepL (G.w fr) H O L os = RepL G H O L os
  | [], _ => rfl
  | p :: L, os => by simp only [RepL, RepS_w, RepL_w L]
theorem RepF_w : ∀ (Ls : List Hd) (O os : List Addr), RepF (G.w fr) H O Ls os = RepF G H O Ls os
  | [], _, _ => rfl
  | L :: Ls, O, os => by simp only [RepF, RepL_w, RepF_w Ls]
/-- the things held become the nearest caller's level -/
theorem Holds.under {L : Hd} (h : Holds G H L) {ds : List D} {vs : List V} (r : RepDs G H [] ds vs) : Holds (G.w (L :: G.fr)) H (vs.zip (shs ds)) := by
  obtain ⟨O, h1, OF, hf, nd⟩ := h
  refine ⟨[], ?_, O ++ OF, ⟨O, OF, rfl, ?_, ?_⟩, by simpa using nd⟩
  · have := RepDs.holds (G := G.w (L :: G.fr)) (O := []) (L := []) (os := []) (by rw [RepDs_w]; exact r) rfl
    simpa using this
  · rw [List.nil_append, RepL_w]; exact h1
  · rw [List.nil_append, RepF_w]; exact hf
theorem Holds.out {L L' : Hd} (h : Holds (G.w (L :: G.fr)) H L') : Holds G H L := by
  obtain ⟨O, h1, OF, ⟨o1, o2, eo, h2, h3⟩, nd⟩ := h
  rw [RepL_w] at h2
  rw [RepF_w] at h3
  subst eo
  exact ⟨o1, h2.reO fun a z => List.mem_append_right _ z, o2, h3.reO fun a z => List.mem_append_right _ z, (List.nodup_append.mp nd).2.1⟩
end

def D.scal : D → Bool
  | .non => true
  | .bl _ => true
  | .int _ => true
  | .str _ => true
  | _ => false
def view (r : R) (ρ : Sl) : Option D := match r with
  | .v s => s.fr
  | .r i => (ρ[i]?).bind Slot.fr
def views : List R → Sl → Option (List D)
  | [], _ => some []
  | r :: rs, ρ => match view r ρ, views rs ρ with
    | some d, some ds => some (d :: ds)
    | _, _ => none
/-- f(e, ..) of a def that gives back a number, a truth, a text or nothing: the arguments are only looked at -/
def eCallV (n : Nat) (F : FnD) (fs : Sl → Out (List R)) : Ev := fun ρ => (fs ρ).bind fun rs ρ1 => if rs.length = n then (match views rs ρ1 with
  | some ds => (match F (shs ds) with
    | .ok (.sh d) _ => if d.scal then .ok (.v (.sh d)) ρ1 else .stuck
    | _ => .stuck)
  | none => .stuck) else .stuck
section
variable {X : Cx} {G : Gm} {W : WX} {fx : FX} {a b c : Expr} {es : List Expr} {ta tb tc te : TE} {t : TA} {fa fb fc fe : Ev} {fs : Sl → Out (List R)} {pos : Pos} {σ : L2.St} {H : Hp}
theorem view_rep {ρ : Sl} {T : Hd} {r : R} {v : V} {d : D} {O : List Addr} (h : Hold G H O (envL σ ρ ++ T)) (a : At σ r v) (hm : ∀ s, r = .v s → (v, s) ∈ T) (e : view r ρ = some d) : RepD G H [] d v := by
  have go : ∀ s, (v, s) ∈ envL σ ρ ++ T → s.fr = some d → RepD G H [] d v := fun s hm e => by
    obtain ⟨o1, h1, _⟩ := h.1.mem hm
    exact RepS.fr h1 e (fun a z => nomatch z) fun a _ z => nomatch z
  cases r with
  | v s => exact go s (List.mem_append_right _ (hm s rfl)) e
  | r i =>
    have e' : (ρ[i]?).bind Slot.fr = some d := e
    cases q : ρ[i]? with
    | none => rw [q] at e'; cases e'
    | some s =>
      rw [q] at e'
      exact go s (List.mem_append_left _ (env_mem a q)) e'
theorem views_rep {ρ : Sl} {T : Hd} {O : List Addr} (h : Hold G H O (envL σ ρ ++ T)) : ∀ {rs : List R} {vs : List V} {ds : List D}, Ats σ rs vs → (∀ x ∈ zipR vs rs, x ∈ T) → views rs ρ = some ds → RepDs G H [] ds vs
  | [], vs, ds, a, hm, e => by
    unfold views at e
    cases e
    exact a
  | r :: rs, vs, ds, a, hm, e => by
    unfold views at e
    obtain ⟨v, w, ev, a1, a2⟩ := a
    subst ev
    cases e1 : view r ρ with
    | none => rw [e1] at e; cases e
    | some d =>
      cases e2 : views rs ρ with
      | none => rw [e1, e2] at e; cases e
      | some ds' =>
        rw [e1, e2] at e
        cases e
        exact ⟨v, w, rfl, view_rep h a1 (fun s e => by subst e; exact hm _ List.mem_cons_self) e1, views_rep h a2 (fun x hx => hm x (List.mem_cons_of_mem _ hx)) e2⟩
theorem rep_scal {d : D} {v : V} {O O' : List Addr} {H H' : Hp} (hs : d.scal = true) (h : RepD G H O d v) : RepD G H' O' d v := by
  cases d <;> first | exact h | cases hs
theorem ok_callV {F : FnD} {n : Nat} (A : ArOk G W t fs) : EvOk G W (tCallSD (spF G n F) [] (WE W) t) (eCallV n F fs) := by
  intro σ H ρ T Q sr p
  refine A σ H ρ T _ sr ((Post.bind p).imp fun rs ρ1 p1 vs H1 sr1 a1 => ?_)
  rw [List.append_nil]
  have p2 : Post G W σ T (Rt G σ T Q) (if rs.length = n then (match views rs ρ1 with
    | some ds => (match F (shs ds) with
      | .ok (.sh d) _ => if d.scal then .ok (.v (.sh d)) ρ1 else .stuck
      | _ => .stuck)
    | none => .stuck) else .stuck) := p1
  split at p2
  · rename_i hl
    cases e : views rs ρ1 with
    | none => simp only [e] at p2; exact p2.elim
    | some ds =>
      simp only [e] at p2
      obtain ⟨O, h⟩ := sr1.h
      have rd := views_rep h a1 (fun x hx => List.mem_append_left _ hx) e
      refine ⟨by rw [a1.length, hl], shs ds, [], _, by rw [List.append_nil]; exact sr1.h.under rd, by rw [List.length_map, ← rd.length, a1.length, hl], ?_⟩
      cases ef : F (shs ds) with
      | stuck => simp only [ef] at p2; exact p2.elim
      | exc => simp only [ef] at p2; exact p2.elim
      | ok s fs' =>
        simp only [ef] at p2
        cases s <;> first | (exact p2.elim) | skip
        rename_i d
        simp only at p2
        split at p2
        · rename_i hs
          intro v H' hh
          have rv : RepD G H' [] d v := by
            obtain ⟨O', h', _⟩ := hh
            obtain ⟨o1, o2, _, r1, _⟩ := h'
            have r2 := r1.2
            rw [RepD_w] at r2
            exact rep_scal (O := O') hs r2
          have h2 : Holds G H' (envL σ ρ1 ++ (zipR vs rs ++ T)) := hh.out
          have sr2 : SR G σ ρ1 (zipR vs rs ++ T) H' := ⟨h2, sr1.len, sr1.as⟩
          exact p2 v H' (drops (sr2.scal fun O => rep_scal hs rv)) trivial
        · exact p2.elim
  · exact p2.elim
theorem de_callV {k j n : Nat} {f : Addr} {fd : FuncData} {ps : List Str} {F : FnD} {x : Str} {p : Pos} (C : Cok k X G W) (Fo : FnOk X.prog X.w X.K X.mg X.base (L2.CX X.prog X.w) j f fd ps (spF G n F)) (hj : j ≤ k) (hg : Gl X x) (hm : X.mg x = some (.ref f)) (hk : PySem.W.keepIn X.K (.ref f) = true) (hb : Binds X.K fd ps [])
    (A : DA X G W (a :: es) t fs) (hdb : (x == ("__debug__" : Str)) = false := by decide) (he : starEach (a :: es) X.env = (false, eval a X.env) :: starEach es X.env := by rfl) (hpl : (backTo pos (starEach es X.env)).any (·.1) = false := by rfl) :
    DE X G W (.Call (.Name x p) (a :: es) [] pos) (tCallSD (spF G n F) [] (WE W) t) (eCallV n F fs) :=
  ⟨pe_callSD Fo (C.rm.mono hj) hg hm hk hb .nil (fun σ => passAt C.tk σ) A.pa hdb he hpl, ok_callV A.ok⟩

/-! ### [a, b] of things of their own -/
def consO (r : R) (ρ : Sl) : Out Slot := match r with
  | .v s => .ok s ρ
  | .r i => (cons (.r i) ρ).bind fun d ρ' => .ok (.sh d) ρ'
def consOs : List R → Sl → Out (List Slot)
  | [], ρ => .ok [] ρ
  | r :: rs, ρ => (consO r ρ).bind fun s ρ1 => (consOs rs ρ1).bind fun ss ρ2 => .ok (s :: ss) ρ2
theorem consO_or (r : R) (ρ : Sl) : (∃ s ρ', consO r ρ = .ok s ρ') ∨ consO r ρ = .stuck := by
  cases r with
  | v s => exact .inl ⟨s, ρ, rfl⟩
  | r i =>
    rcases cons_or (.r i) ρ with ⟨d, ρ', e⟩ | e
    · exact .inl ⟨.sh d, ρ', by simp only [consO, e, Out.bind]⟩
    · exact .inr (by simp only [consO, e, Out.bind])
theorem consOs_or : ∀ (rs : List R) (ρ : Sl), (∃ s ρ', consOs rs ρ = .ok s ρ') ∨ consOs rs ρ = .stuck
  | [], ρ => .inl ⟨[], ρ, rfl⟩
  | r :: rs, ρ => by
    unfold consOs
    rcases consO_or r ρ with ⟨s, ρ1, e⟩ | e
    · rw [e]
      rcases consOs_or rs ρ1 with ⟨ds, ρ2, e2⟩ | e2
      · exact .inl ⟨s :: ds, ρ2, by simp only [Out.bind, e2]⟩
      · exact .inr (by simp only [Out.bind, e2])
    · rw [e]; exact .inr rfl
theorem SR.takeO {r : R} {v : V} {s : Slot} {ρ ρ' : Sl} {T : Hd} (sr : SR G σ ρ ((v, r.slot) :: T) H) (a : At σ r v) (e : consO r ρ = .ok s ρ') : SR G σ ρ' ((v, s) :: T) H := by
  cases r with
  | v s' => cases e; exact sr
  | r i =>
    rcases cons_or (.r i) ρ with ⟨d, ρ2, e1⟩ | e1
    · simp only [consO, e1, Out.bind] at e
      cases e
      exact sr.take1 a e1
    · simp only [consO, e1, Out.bind] at e; cases e
theorem SR.takeOs : ∀ {rs : List R} {vs : List V} {ρ ρ' : Sl} {ss : List Slot} {T : Hd}, SR G σ ρ (zipR vs rs ++ T) H → Ats σ rs vs → consOs rs ρ = .ok ss ρ' → SR G σ ρ' (vs.zip ss ++ T) H ∧ vs.length = ss.length
  | [], vs, ρ, ρ', ss, T, sr, a, e => by
    unfold consOs at e
    cases e
    cases (show vs = [] from a)
    exact ⟨sr, rfl⟩
  | r :: rs, vs, ρ, ρ', ss, T, sr, a, e => by
    unfold consOs at e
    obtain ⟨v, w, ev, a1, a2⟩ := a
    subst ev
    rcases consO_or r ρ with ⟨s, ρ1, e1⟩ | e1
    · rw [e1] at e
      rcases consOs_or rs ρ1 with ⟨ss', ρ2, e2⟩ | e2
      · simp only [Out.bind, e2] at e
        cases e
        have s1 : SR G σ ρ1 ((v, s) :: (zipR w rs ++ T)) H := SR.takeO (sr : SR G σ ρ ((v, r.slot) :: (zipR w rs ++ T)) H) a1 e1
        obtain ⟨s2, hl⟩ := SR.takeOs (T := (v, s) :: T) (s1.permT List.perm_middle.symm) a2 e2
        exact ⟨s2.permT List.perm_middle, by simp [hl]⟩
      · simp only [Out.bind, e2] at e
        cases e
    · rw [e1] at e; cases e
theorem RepL.slots {O : List Addr} {L : Hd} : ∀ {vs : List V} {ss : List Slot} {os : List Addr}, vs.length = ss.length → RepL G H O (vs.zip ss ++ L) os → ∃ o1 o2, os = o1 ++ o2 ∧ RepSs G H O ss vs o1 ∧ RepL G H O L o2
  | [], [], os, _, h => ⟨[], os, rfl, ⟨rfl, rfl⟩, h⟩
  | v :: vs, s :: ss, os, hl, h => by
    obtain ⟨o1, o2, eo, h1, h2⟩ := h
    obtain ⟨o3, o4, e2, r, h3⟩ := RepL.slots (vs := vs) (ss := ss) (by simpa using hl) h2
    exact ⟨o1 ++ o3, o4, by rw [eo, e2, List.append_assoc], ⟨v, vs, o1, o3, rfl, rfl, h1, r⟩, h3⟩
theorem Holds.newLO {L : Hd} {vs : List V} {ss : List Slot} {p : Addr} (h : Holds G H (vs.zip ss ++ L)) (hl : vs.length = ss.length) (hp : H p = none) : Holds G (upd H p (.lst vs)) ((.ref p, .lst ss) :: L) := by
  obtain ⟨O, h, OF, hf, nd⟩ := h
  obtain ⟨o1, o2, eo, h1, h2⟩ := RepL.slots hl h
  have k : Keep [] H (upd H p (.lst vs)) := fun a o q _ => Same.new hp a o q
  have hO : ∀ a ∈ p :: O, a ∈ O ∨ H a = none := fun a z => (List.mem_cons.mp z).elim (fun q => .inr (q ▸ hp)) .inl
  refine ⟨p :: O, ⟨p :: o1, o2, by rw [eo]; rfl, ⟨p, vs, o1, rfl, rfl, upd_same, ?_⟩, ?_⟩, OF, hf.step k (fun a z => nomatch z) hO (fun a _ z => nomatch z), List.nodup_cons.mpr ⟨fun z => ?_, nd⟩⟩
  · exact RepSs.step k (fun a z => nomatch z) hO ss vs o1 h1 fun a _ z => nomatch z
  · exact RepL.step k (fun a z => nomatch z) hO h2 fun a _ z => nomatch z
  · exact (List.mem_append.mp z).elim (notO h hp) fun q => hf.there p q hp
def eLstO (fs : Sl → Out (List R)) : Ev := fun ρ => (fs ρ).bind fun rs ρ1 => (consOs rs ρ1).bind fun ss ρ2 => if ss.length ≤ LIM then .ok (.v (.lst ss)) ρ2 else .stuck
theorem ok_lstO (A : ArOk G W t fs) : EvOk G W (tLst t) (eLstO fs) := by
  intro σ H ρ T Q sr p
  refine A σ H ρ T _ sr ((Post.bind p).imp fun rs ρ1 p1 vs H1 sr1 a1 => ?_)
  rcases consOs_or rs ρ1 with ⟨ss, ρ2, e⟩ | e
  · simp only [e, Out.bind] at p1
    obtain ⟨sr2, hl⟩ := sr1.takeOs a1 e
    split at p1
    · rename_i hz
      refine ⟨by rw [hl]; exact lim_le hz, fun q hq => p1 _ _ (SR.push ⟨(sr2.h.perm (L' := vs.zip ss ++ (envL σ ρ2 ++ T)) ?_).dropL, sr2.len, sr2.as⟩ (Holds.newLO (sr2.h.perm ?_) hl hq)) trivial⟩
      · rw [← List.append_assoc, ← List.append_assoc]
        exact List.perm_append_comm.append_right T
      · rw [← List.append_assoc, ← List.append_assoc]
        exact List.perm_append_comm.append_right T
    · exact p1.elim
  · simp only [e, Out.bind] at p1; exact p1.elim
theorem de_lstO (A : DA X G W es t fs) : DE X G W (.List es pos) (tLst t) (eLstO fs) := ⟨pe_lst A.pa, ok_lstO A.ok⟩

/-! ### for .. in a list or a tuple -/
theorem pi_or {tg iter : Expr} {w1 w2 : TI} (A : PI X tg iter w1) (B : PI X tg iter w2) : PI X tg iter (fun σ H R => w1 σ H R ∨ w2 σ H R) :=
  ⟨fun pins s σ H R I h => h.elim (A.run pins s σ H R I) (B.run pins s σ H R I)⟩
def iSeq (fa : Ev) : Sl → Out (List D) := fun ρ => (fa ρ).bind fun r ρ1 => (cons r ρ1).bind fun d ρ2 => match d with
  | .lst ds => .ok ds ρ2
  | .rol ds => .ok ds ρ2
  | .tup ds => .ok ds ρ2
  | _ => .stuck
def wSeq (K : PySem.W.Frag) (ta : TE) : TI := fun σ H R => ta σ H fun x H1 => (∃ a, x = .ref a ∧ (∃ xs, SqL K H1 a xs) ∧ R (Itl K a) H1) ∨ (∃ a, x = .ref a ∧ (∃ xs, SqT K H1 a xs) ∧ R (Itt K a) H1)
theorem pi_seq {tg : Expr} (A : PE X a ta) : PI X tg a (wSeq X.K ta) := by
  refine ⟨fun pins s σ H R I h => ?_⟩
  refine thn (A.run pins s σ H _ I h) fun v s1 ⟨x, H1, I1, r1, q1⟩ => ?_
  rcases q1 with ⟨a, e, ⟨xs, hq⟩, q⟩ | ⟨a, e, ⟨xs, hq⟩, q⟩
  · subst e
    cases r1
    obtain ⟨its, rv, p, hz⟩ := I1.list hq
    refine wpAny_pyIter_list p.isList ?_
    refine ⟨s1.heap.objs.size, [s1.heap.objs.size], _, _, H1, rfl, I1.kept (t' := s1.toks) fun b o e => Heap.get?_push_of_some _ e, turn_list a _, ⟨_, Heap.get?_push_size _ rfl, rfl, rfl⟩, fun b hb => ?_, q⟩
    have e : b = s1.heap.objs.size := by simpa using hb
    subst e
    exact I1.fpOk (Nat.le_refl _) (I1.hok.fresh (Nat.le_refl _))
  · subst e
    cases r1
    obtain ⟨its, rv, p, hz⟩ := I1.tuple hq
    refine wpAny_pyIter_tuple (show s1.heap.IsTuple a its.toArray from p) ?_
    refine ⟨s1.heap.objs.size, [s1.heap.objs.size], _, _, H1, rfl, I1.kept (t' := s1.toks) fun b o e => Heap.get?_push_of_some _ e, turn_tuple a _, ⟨_, Heap.get?_push_size _ rfl, rfl, rfl⟩, fun b hb => ?_, q⟩
    have e : b = s1.heap.objs.size := by simpa using hb
    subst e
    exact I1.fpOk (Nat.le_refl _) (I1.hok.fresh (Nat.le_refl _))
theorem ok_iSeq (A : EvOk G W ta fa) : ItOk G W (wSeq G.K ta) (iSeq fa) := by
  intro σ H ρ T R sr p
  refine A σ H ρ T _ sr ((Post.bind p).imp fun r ρ1 p1 v H1 sr1 a1 => ?_)
  rcases cons_or r ρ1 with ⟨d, ρ2, e⟩ | e
  · simp only [e, Out.bind] at p1
    have sr2 := sr1.take1 a1 e
    obtain ⟨O, ho, rd⟩ := sr2.top
    cases d <;> first | (exact p1.elim) | skip
    · rename_i ds
      obtain ⟨a, xs, ea, h1, h2⟩ := rd
      subst ea
      exact .inr ⟨a, rfl, ⟨xs, sqT_of h1⟩, p1 _ (.ref a, .sh (.tup ds)) H1 sr2 walks_tup⟩
    · rename_i ds
      obtain ⟨a, xs, ea, h1, h2⟩ := rd
      subst ea
      exact .inl ⟨a, rfl, ⟨xs, .of h1.1⟩, p1 _ (.ref a, .sh (.lst ds)) H1 sr2 (walks_seq fun H O q => by
        obtain ⟨a', ys, e1, h1, h2⟩ := q
        cases e1
        exact ⟨ys, .of h1.1, h2⟩)⟩
    · rename_i ds
      obtain ⟨a, xs, ea, h1, h2⟩ := rd
      subst ea
      exact .inl ⟨a, rfl, ⟨xs, sqL_of h1⟩, p1 _ (.ref a, .sh (.rol ds)) H1 sr2 (walks_seq fun H O q => by
        obtain ⟨a', ys, e1, h1, h2⟩ := q
        cases e1
        exact ⟨ys, sqL_of h1, h2⟩)⟩
  · simp only [e, Out.bind] at p1; exact p1.elim
theorem di_seq {tg : Expr} (hK : X.K = G.K) (A : DE X G W a ta fa) : DI X G W tg a (wSeq G.K ta) (iSeq fa) := ⟨by have := pi_seq (tg := tg) A.pe; rw [hK] at this; exact this, ok_iSeq A.ok⟩

/-! ### x[k].append(e), x a list of lists of one's own: behind it the item is no longer told -/
theorem RepSs.takeAt {O : List Addr} : ∀ {ss : List Slot} {xs : List V} {os : List Addr} {j : Nat} {s : Slot}, RepSs G H O ss xs os → ss[j]? = some s → ∃ v o1 o2, xs[j]? = some v ∧ os.Perm (o1 ++ o2) ∧ RepS G H O s v o1 ∧ RepSs G H O (ss.set j .no) xs o2
  | [], xs, os, j, s, h, e => by simp at e
  | s' :: ss, xs, os, 0, s, ⟨v, r, o1, o2, ex, eo, h1, h2⟩, e => by
    have e' : s' = s := by simpa using e
    subst e'
    exact ⟨v, o1, o2, by rw [ex]; rfl, by rw [eo], h1, v, r, [], o2, ex, rfl, rfl, h2⟩
  | s' :: ss, xs, os, j + 1, s, ⟨v, r, o1, o2, ex, eo, h1, h2⟩, e => by
    obtain ⟨u, o3, o4, e1, p, h3, h4⟩ := RepSs.takeAt (j := j) h2 (by simpa using e)
    refine ⟨u, o3, o1 ++ o4, by rw [ex]; simpa using e1, ?_, h3, v, r, o1, o4, ex, rfl, h1, h4⟩
    rw [eo]
    have q1 : (o1 ++ o2).Perm (o1 ++ (o3 ++ o4)) := p.append_left o1
    refine q1.trans ?_
    rw [← List.append_assoc, ← List.append_assoc]
    exact List.perm_append_comm.append_right o4
theorem Holds.takeAt {L : Hd} {v : V} {ss : List Slot} {j : Nat} {s : Slot} (h : Holds G H ((v, .lst ss) :: L)) (e : ss[j]? = some s) : ∃ a xs w, v = .ref a ∧ H a = some (.lst xs) ∧ xs.length = ss.length ∧ xs[j]? = some w ∧ Holds G H ((w, s) :: (v, .lst (ss.set j .no)) :: L) := by
  obtain ⟨O, ⟨o1, o2, eo, ⟨a, xs, os', ev, e1, h1, h2⟩, h3⟩, OF, hf, nd⟩ := h
  subst e1
  obtain ⟨w, o3, o4, e2, p, h4, h5⟩ := h2.takeAt e
  have pO : O.Perm (o3 ++ ((a :: o4) ++ o2)) := by
    rw [eo]
    have q : (a :: os' ++ o2).Perm (a :: ((o3 ++ o4) ++ o2)) := (p.append_right o2).cons a
    refine q.trans ?_
    rw [List.append_assoc]
    exact List.perm_middle.symm
  refine ⟨a, xs, w, ev, h1, h2.length, e2, o3 ++ ((a :: o4) ++ o2), ⟨o3, (a :: o4) ++ o2, rfl, ?_, a :: o4, o2, rfl, ⟨a, xs, o4, ev, rfl, h1, ?_⟩, ?_⟩, OF, hf.reO fun b z => pO.symm.subset z, (pO.append_right OF).nodup nd⟩
  · exact RepS.step (W := []) (fun a o q _ => q) (fun a z => nomatch z) (fun b z => .inl (pO.symm.subset z)) _ _ _ h4 fun a _ z => nomatch z
  · exact RepSs.step (W := []) (fun a o q _ => q) (fun a z => nomatch z) (fun b z => .inl (pO.symm.subset z)) _ _ _ h5 fun a _ z => nomatch z
  · exact h3.reO fun b z => pO.symm.subset z
def eApp2 (i : Nat) (fk fb : Ev) : Ev := fun ρ => match ρ[i]? with
  | some (.lst _) => (fk ρ).bind fun r1 ρ1 => (match look r1 ρ1, ρ1[i]? with
    | some (.int k), some (.lst ss) => (match (ixN ss.length k).bind fun j => (ss[j]?).map fun s => (j, s) with
      | some (j, .lst ss2) => if ss2.length < LIM then (fb (ρ1.set i (.lst (ss.set j .no)))).bind fun r2 ρ2 => (cons r2 ρ2).bind fun _ ρ3 => .ok (.v (.sh .non)) ρ3 else .stuck
      | _ => .stuck)
    | _, _ => .stuck)
  | _ => .stuck
theorem ok_app2 {i : Nat} {tk : TE} {fk : Ev} (K : EvOk G W tk fk) (B : EvOk G W tb fb) : EvOk G W (tBM G.K "list" rAppend (tOp (rIxL G.K) (tVar i) tk) (tCons tb tNil)) (eApp2 i fk fb) := by
  intro σ H ρ T Q sr p
  unfold eApp2 at p
  cases e0 : ρ[i]? with
  | none => simp only [e0] at p; exact p.elim
  | some s0 =>
    simp only [e0] at p
    cases s0 <;> first | (exact p.elim) | skip
    rename_i ss0
    obtain ⟨x, hx, _⟩ := sr.val e0 (by simp)
    refine ⟨x, hx, K σ H ρ T _ sr ((Post.bind p).imp fun r1 ρ1 p1 y H1 sr1 a1 => ?_)⟩
    cases e1 : look r1 ρ1 with
    | none => simp only [e1] at p1; exact p1.elim
    | some d1 =>
      cases e2 : ρ1[i]? with
      | none => simp only [e1, e2] at p1; cases d1 <;> exact p1.elim
      | some s1 =>
        simp only [e1, e2] at p1
        cases d1 <;> cases s1 <;> first | (exact p1.elim) | skip
        rename_i k ss
        simp only at p1
        obtain ⟨O, ho⟩ := sr1.h
        have ey : y = .int k := sr1.lookP ho a1 (fun s e => by subst e; exact List.mem_cons_self) e1
        cases e3 : (ixN ss.length k).bind fun j => (ss[j]?).map fun s => (j, s) with
        | none => simp only [e3] at p1; exact p1.elim
        | some q =>
          obtain ⟨j, s⟩ := q
          simp only [e3] at p1
          cases s <;> first | (exact p1.elim) | skip
          rename_i ss2
          simp only at p1
          obtain ⟨j', ej, e4⟩ := Option.bind_eq_some_iff.mp e3
          obtain ⟨s', es, e5⟩ := Option.map_eq_some_iff.mp e4
          cases e5
          split at p1
          · rename_i hz
            obtain ⟨L0, h1, back⟩ := sr1.pop.out hx e2
            obtain ⟨a, xs, w, ea, ha, hl, ew, h2⟩ := Holds.takeAt h1 es
            refine ⟨a, xs, k, w, ea, ey, .of ha, ?_, ?_⟩
            · unfold atI
              rw [hl, ej]; exact ew
            · have h3 : Holds G H1 ((x, .lst (ss.set j .no)) :: (L0 ++ ((w, .lst ss2) :: T))) := h2.perm ((List.Perm.swap _ _ _).trans (List.Perm.cons _ List.perm_middle.symm))
              have sr2 : SR G σ (ρ1.set i (.lst (ss.set j .no))) ((w, .lst ss2) :: T) H1 := back _ _ _ h3
              obtain ⟨l, ys, el, hl2⟩ : ∃ l ys, w = .ref l ∧ H1 l = some (.lst ys) := by
                obtain ⟨O, hh⟩ := sr2.pull
                obtain ⟨l, ys, os', ev, ha, _, _⟩ := Holds.wr hh
                exact ⟨l, ys, ev, ha⟩
              subst el
              refine ⟨.inl ⟨rfl, _, .of hl2⟩, B σ H1 _ ((.ref l, .lst ss2) :: T) _ sr2 ((Post.bind p1).more.imp fun r2 ρ2 p2 z H2 sr3 a2 => ?_)⟩
              rcases cons_or r2 ρ2 with ⟨d, ρ3, e⟩ | e
              · simp only [e, Out.bind] at p2
                have sr4 := sr3.take1 a2 e
                obtain ⟨l', ys', el', hl3, hlen, h5⟩ := Holds.appendL (L := envL σ ρ3 ++ T) (sr4.h.perm (by
                  refine List.perm_middle.trans (List.Perm.cons _ List.perm_middle)))
                cases el'
                refine ⟨l, ys', z, rfl, rfl, hl3, by rw [hlen]; exact Nat.lt_of_lt_of_le hz (by rw [sizeLine_eq]; exact Nat.le_refl _), p2 _ _ (SR.scal ⟨h5.tail, sr4.len, sr4.as⟩ fun _ => rfl) trivial⟩
              · simp only [e, Out.bind] at p2; exact p2.elim
          · exact p1.elim
theorem de_app2 {apos ipos vpos : Pos} {x : Str} {i : Nat} {kx : Expr} {tk : TE} {fk : Ev} (hK : X.K = G.K) (hN : X.N[i]? = some x) (hv : Vis X.env.scope x) (A : DE X G W kx tk fk) (B : DE X G W b tb fb) (hs : PlainIx kx := by exact fun _ _ => rfl)
    (hd : (x == ("__debug__" : Str)) = false := by decide) (hcd : (x == ("__classdict__" : Str)) = false := by decide)
    (hbase : attributeBase (.Subscript (.Name x vpos) kx ipos) ("append" : Str) X.env (eval (.Subscript (.Name x vpos) kx ipos) X.env) = eval (.Subscript (.Name x vpos) kx ipos) X.env := by rfl)
    (hfew : ((backTo pos (starEach [b] X.env)).all (fun x => !x.1) && (backToKw pos (keywordEach [] X.env)).all (fun x => x.1.isSome) && decide (([b] : List Expr).length + ([] : List Keyword).length + (if ([] : List Keyword).isEmpty then 0 else 1) < 30)) = true := by rfl)
    (hline : (apos.endLine == pos.line) = true := by rfl) (h1 : starEach [b] X.env = (false, eval b X.env) :: starEach [] X.env := by rfl) (h2 : (backTo pos (starEach [] X.env)).any (·.1) = false := by rfl) :
    DE X G W (.Call (.Attribute (.Subscript (.Name x vpos) kx ipos) "append" apos) [b] [] pos) (tBM G.K "list" rAppend (tOp (rIxL G.K) (tVar i) tk) (tCons tb tNil)) (eApp2 i fk fb) :=
  ⟨by
    have := pe_bm (cpos := pos) (apos := apos) PySem.F.plainAttrs_list PySem.F.slot_list_append PySem.F.type_list_append mt_append (pe_ix (pos := ipos) ix_list (pe_var (pos := vpos) hN hv hd hcd) A.pe hs) (pa_cons B.pe pa_nil h1) hbase hfew hline h1 h2
    rw [hK] at this; exact this, ok_app2 A.ok B.ok⟩

/-! ### x = [..] of a comprehension on one line -/
theorem ds_setLc {k : Nat} (C : Cok k X G W) {i : Nat} {y : Str} {py spos : Pos} {elt tg iter : Expr} {wi : TI} {gt : TG} {tt : TT} {fi : Sl → Out (List D)} {gg : D → Sl → Option Sl} {pt : Sl → Out Bool} {ifs : List Expr} {scope : Scope} (own : List (Str × Nat)) (hf : fx i = false) (I : DI X G W tg iter wi fi) (ok : BlkOk X.N X.env.scope scope own)
    (hg : ∀ (s : Shared) (H : Hp) (Ca : Addr) (cl : List (Str × Addr)) (fp : List Addr), Cok k (X.blk s H scope (compEnvC scope cl Ca X.env) fp) G W0 → DG (outV (own.map (·.2))) (X.blk s H scope (compEnvC scope cl Ca X.env) fp) G tg gt gg)
    (ht : ∀ (s : Shared) (H : Hp) (Ca : Addr) (cl : List (Str × Addr)) (fp : List Addr), Cok k (X.blk s H scope (compEnvC scope cl Ca X.env) fp) G W0 → DTs (X.blk s H scope (compEnvC scope cl Ca X.env) fp) G W0 ifs tt pt)
    (he : ∀ (s : Shared) (H : Hp) (Ca : Addr) (cl : List (Str × Addr)) (fp : List Addr), Cok k (X.blk s H scope (compEnvC scope cl Ca X.env) fp) G W0 → DE (X.blk s H scope (compEnvC scope cl Ca X.env) fp) G W0 elt te fe)
    (hy : X.N[i]? = some y := by rfl) (hyl : X.env.scope.names.lookup y = some .local := by rfl) (hsw : swapsWith (.ListComp elt [⟨tg, iter, ifs, 0⟩] scope pos) (some (.Name y py)) spos.line X.env = pure true := by exact sw_true rfl rfl rfl (by decide +kernel))
    (hs : ∀ x, foldedSetIterable iter X.env x = pure x := by intro _; rfl) : DS fx X G W (.Assign [.Name y py] (.ListComp elt [⟨tg, iter, ifs, 0⟩] scope pos) spos) (tAsg (tLc wi gt tt te (own.map (·.2))) (gName i)) (sSet i (eComp (own.map (·.2)) fi gg pt fe)) := by
  refine ⟨ps_setLc C.calm C.nd hy hyl hsw I.pi ok (fun s H Ca cl fp => (hg s H Ca cl fp (cok_blk C s H _ _ fp)).pg) (fun s H Ca cl fp => (ht s H Ca cl fp (cok_blk C s H _ _ fp)).pts) (fun s H Ca cl fp => (he s H Ca cl fp (cok_blk C s H _ _ fp)).pe) hs, ?_⟩
  exact ok_set hf (ok_comp I.ok (hg X.s_0 X.H_0 (0 : Nat) [] [] (cok_blk C _ _ _ _ _)).ok (ht X.s_0 X.H_0 (0 : Nat) [] [] (cok_blk C _ _ _ _ _)).ok (he X.s_0 X.H_0 (0 : Nat) [] [] (cok_blk C _ _ _ _ _)).ok)
theorem ds_setLcF {k : Nat} (C : Cok k X G W) {i : Nat} {y : Str} {py spos : Pos} {elt tg iter : Expr} {wi : TI} {gt : TG} {tt : TT} {fi : Sl → Out (List D)} {gg : D → Sl → Option Sl} {pt : Sl → Out Bool} {ifs : List Expr} {scope : Scope} (own : List (Str × Nat)) (hf : fx i = false) (I : DI X G W tg iter wi fi) (ok : BlkOk X.N X.env.scope scope own)
    (hg : ∀ (s : Shared) (H : Hp) (Ca : Addr) (cl : List (Str × Addr)) (fp : List Addr), Cok k (X.blk s H scope (compEnvC scope cl Ca X.env) fp) G W0 → DG (outV (own.map (·.2))) (X.blk s H scope (compEnvC scope cl Ca X.env) fp) G tg gt gg)
    (ht : ∀ (s : Shared) (H : Hp) (Ca : Addr) (cl : List (Str × Addr)) (fp : List Addr), Cok k (X.blk s H scope (compEnvC scope cl Ca X.env) fp) G W0 → DTs (X.blk s H scope (compEnvC scope cl Ca X.env) fp) G W0 ifs tt pt)
    (he : ∀ (s : Shared) (H : Hp) (Ca : Addr) (cl : List (Str × Addr)) (fp : List Addr), Cok k (X.blk s H scope (compEnvC scope cl Ca X.env) fp) G W0 → DE (X.blk s H scope (compEnvC scope cl Ca X.env) fp) G W0 elt te fe)
    (hy : X.N[i]? = some y := by rfl) (hyl : X.env.scope.names.lookup y = some .local := by rfl) (hsw : swapsWith (.ListComp elt [⟨tg, iter, ifs, 0⟩] scope pos) (some (.Name y py)) spos.line X.env = pure true := by exact sw_true rfl rfl rfl (by decide +kernel))
    (hs : ∀ x, foldedSetIterable iter X.env x = pure x := by intro _; rfl) : DS fx X G W (.Assign [.Name y py] (.ListComp elt [⟨tg, iter, ifs, 0⟩] scope pos) spos) (tAsg (tLc wi gt tt te (own.map (·.2))) (gName i)) (sSetF i (eComp (own.map (·.2)) fi gg pt fe)) := by
  refine ⟨ps_setLc C.calm C.nd hy hyl hsw I.pi ok (fun s H Ca cl fp => (hg s H Ca cl fp (cok_blk C s H _ _ fp)).pg) (fun s H Ca cl fp => (ht s H Ca cl fp (cok_blk C s H _ _ fp)).pts) (fun s H Ca cl fp => (he s H Ca cl fp (cok_blk C s H _ _ fp)).pe) hs, ?_⟩
  exact ok_setF hf (ok_comp I.ok (hg X.s_0 X.H_0 (0 : Nat) [] [] (cok_blk C _ _ _ _ _)).ok (ht X.s_0 X.H_0 (0 : Nat) [] [] (cok_blk C _ _ _ _ _)).ok (he X.s_0 X.H_0 (0 : Nat) [] [] (cok_blk C _ _ _ _ _)).ok)
/-- what is never come to -/
def sStuck : SEv := fun _ => .stuck
theorem ds_never {st : Stmt} : DS fx X G W st tNever sStuck := ⟨ps_never, fun _ _ _ _ _ _ p => p.elim⟩
theorem ds_doc {x j pos pos'} : DS fx X G W (.Expr (.Constant (.str x) j pos) pos') tNext sPass := ⟨ps_doc, fun D σ H ρ T sr p => p σ H .refl sr⟩
end
end Sep

/-! SepL: calls with arguments as data; the end of a law. -/
namespace Sep
open PySem L2
/-- f(e, ..), the arguments handed over as data -/
def eCallF (n : Nat) (F : FnD) (fs : Sl → Out (List R)) : Ev := fun ρ => (fs ρ).bind fun rs ρ1 => (consAll rs ρ1).bind fun ds ρ2 => if ds.length = n then (match F (shs ds) with
  | .ok s _ => .ok (.v s) ρ2
  | .exc c ns es _ => .exc c ns es ρ2
  | .stuck => .stuck) else .stuck
section
variable {X : Cx} {G : Gm} {W : WX} {fx : FX} {a b c : Expr} {es : List Expr} {ta tb tc te : TE} {t : TA} {fa fb fc fe : Ev} {fs : Sl → Out (List R)} {pos : Pos} {σ : L2.St} {H : Hp}
theorem ok_callF {F : FnD} {n : Nat} (A : ArOk G W t fs) : EvOk G W (tCallSD (spF G n F) [] (WE W) t) (eCallF n F fs) := by
  intro σ H ρ T Q sr p
  refine A σ H ρ T _ sr ((Post.bind p).imp fun rs ρ1 p1 vs H1 sr1 a1 => ?_)
  rw [List.append_nil]
  rcases consAll_or rs ρ1 with ⟨ds, ρ2, e⟩ | e
  · simp only [e, Out.bind] at p1
    obtain ⟨sr2, hl⟩ := sr1.takes a1 e
    split at p1
    · rename_i hn
      refine ⟨by rw [hl, hn], shs ds, envL σ ρ2 ++ T, G.fr, sr2.h.perm (by
        rw [← List.append_assoc, ← List.append_assoc]
        exact List.perm_append_comm.append_right T), by rw [List.length_map, hn], ?_⟩
      have back : ∀ {H' : Hp} {y : V × Slot} {fs : Sl}, Holds G H' (y :: (vs.zip fs ++ (envL σ ρ2 ++ T))) → SR G σ ρ2 (y :: T) H' := fun {H' y fs} h => by
        have h2 : Holds G H' (vs.zip fs ++ (y :: (envL σ ρ2 ++ T))) := h.perm List.perm_middle.symm
        exact ⟨h2.dropL.perm List.perm_middle.symm, sr2.len, sr2.as⟩
      cases ef : F (shs ds) with
      | stuck => simp only [ef] at p1; exact p1.elim
      | ok s fs => simp only [ef] at p1; exact fun v H' h => p1 v H' (back h) trivial
      | exc c ns es fs => simp only [ef] at p1; exact fun d H' h => p1 d H' (back h)
    · exact p1.elim
  · simp only [e, Out.bind] at p1; exact p1.elim
theorem de_callF {k j n : Nat} {f : Addr} {fd : FuncData} {ps : List Str} {F : FnD} {x : Str} {p : Pos} (C : Cok k X G W) (Fo : FnOk X.prog X.w X.K X.mg X.base (L2.CX X.prog X.w) j f fd ps (spF G n F)) (hj : j ≤ k) (hg : Gl X x) (hm : X.mg x = some (.ref f)) (hk : PySem.W.keepIn X.K (.ref f) = true) (hb : Binds X.K fd ps [])
    (A : DA X G W (a :: es) t fs) (hdb : (x == ("__debug__" : Str)) = false := by decide) (he : starEach (a :: es) X.env = (false, eval a X.env) :: starEach es X.env := by rfl) (hpl : (backTo pos (starEach es X.env)).any (·.1) = false := by rfl) :
    DE X G W (.Call (.Name x p) (a :: es) [] pos) (tCallSD (spF G n F) [] (WE W) t) (eCallF n F fs) :=
  ⟨pe_callSD Fo (C.rm.mono hj) hg hm hk hb .nil (fun σ => passAt C.tk σ) A.pa hdb he hpl, ok_callF A.ok⟩
end
/-- what is made, told to be data -/
def eFz (fa : Ev) : Ev := fun ρ => (fa ρ).bind fun r ρ1 => (cons r ρ1).bind fun d ρ2 => .ok (.v (.sh d)) ρ2
theorem ok_fz {G : Gm} {W : WX} {ta : TE} {fa : Ev} (A : EvOk G W ta fa) : EvOk G W ta (eFz fa) := by
  intro σ H ρ T Q sr p
  refine A σ H ρ T _ sr ((Post.bind p).imp fun r ρ1 p1 v H1 sr1 a1 => ?_)
  rcases cons_or r ρ1 with ⟨d, ρ2, e⟩ | e
  · simp only [e, Out.bind] at p1
    exact p1 v H1 (sr1.take1 a1 e) trivial
  · simp only [e, Out.bind] at p1; exact p1.elim
theorem de_fz {X : Cx} {G : Gm} {W : WX} {a : Expr} {ta : TE} {fa : Ev} (A : DE X G W a ta fa) : DE X G W a ta (eFz fa) := ⟨A.pe, ok_fz A.ok⟩
/-- a def of the text, as callers need it -/
structure Df (K : PySem.W.Frag) (mg : Str → Option Value) (x : Str) (st : Stmt) (ps : List Str) where
  f : Addr
  fd : FuncData
  fu : Fun K x x st f fd
  mgf : mg x = some (.ref f)
  bd : Binds K fd ps []
/-- the law's promise from what its def does -/
theorem law_sp {G : Gm} {F : FnD} {H : Hp} {a : Addr} {ns : List Int} (hO : Only H) (hS : SqL G.K H a (ns.map V.int)) (hF : ∃ fs, F [.sh (.rol (ns.map D.int))] = .ok (.sh (.bl true)) fs) : spF G 1 F [.ref a] H (fun v _ => v = .bl true) fun _ _ _ => False := by
  obtain ⟨fs, hF⟩ := hF
  refine ⟨rfl, [.sh (.rol (ns.map D.int))], [], [], ⟨[], ?_, [], rfl, List.nodup_nil⟩, rfl, ?_⟩
  · refine ⟨[], [], rfl, ⟨rfl, ?_⟩, rfl⟩
    refine ⟨a, ns.map V.int, rfl, ?_, ?_⟩
    · rcases hS with h | h
      · exact .inl ⟨h, by simp⟩
      · exact .inr h
    · exact reps_ints ns
  · rw [hF]
    intro v H' h
    obtain ⟨O, ⟨o1, o2, _, r1, _⟩, _⟩ := h
    exact r1.2
end Sep

/-! SepM: to evaluate what a text computes. -/
namespace Sep
open PySem L2
def kVar (i : Nat) (ρ : Sl) : Option Slot → Out R
  | some (.sh d) => .ok (.v (.sh d)) ρ
  | some .no => .stuck
  | none => .stuck
  | some _ => .ok (.r i) ρ
def kOpD (ρ : Sl) : Option Slot → Out R
  | some s => .ok (.v s) ρ
  | none => .stuck
def kOpC (g : D → D → Option Slot) (ρ : Sl) : Option D → Option D → Out R
  | some a, some b => kOpD ρ (g a b)
  | _, _ => .stuck
def kOpB (g : D → D → Option Slot) (r1 : R) (o : Out R) : Out R := o.bind fun r2 ρ2 => kOpC g ρ2 (look r1 ρ2) (look r2 ρ2)
def kOpA (g : D → D → Option Slot) (fb : Ev) (o : Out R) : Out R := o.bind fun r1 ρ1 => kOpB g r1 (fb ρ1)
def kUnC (g : D → Option Slot) (ρ : Sl) : Option D → Out R
  | some a => kOpD ρ (g a)
  | none => .stuck
def kUn (g : D → Option Slot) (o : Out R) : Out R := o.bind fun r1 ρ1 => kUnC g ρ1 (look r1 ρ1)
def kArB (r : R) (o : Out (List R)) : Out (List R) := o.bind fun rs ρ2 => .ok (r :: rs) ρ2
def kArA (g : Sl → Out (List R)) (o : Out R) : Out (List R) := o.bind fun r ρ1 => kArB r (g ρ1)
def kCB2 (g : List D → Option Slot) (ρ : Sl) : Option (List D) → Out R
  | some ds => kOpD ρ (g ds)
  | none => .stuck
def kCB (g : List D → Option Slot) (o : Out (List R)) : Out R := o.bind fun rs ρ1 => kCB2 g ρ1 (looks rs ρ1)
def kLk (d : Option D) (o : Option (List D)) : Option (List D) := match d, o with
  | some d, some ds => some (d :: ds)
  | _, _ => none
def kFr (ρ : Sl) : Option D → Out D
  | some d => .ok d ρ
  | none => .stuck
def kFrR (i : Nat) (ρ : Sl) : Option D → Out D
  | some d => .ok d (ρ.set i (.sh d))
  | none => .stuck
def kCoB (d : D) (o : Out (List D)) : Out (List D) := o.bind fun ds ρ2 => .ok (d :: ds) ρ2
def kCoA (rs : List R) (o : Out D) : Out (List D) := o.bind fun d ρ1 => kCoB d (consAll rs ρ1)
def kTupE (o : Out (List D)) : Out R := o.bind fun ds ρ2 => if ds.length ≤ LIM then .ok (.v (.sh (.tup ds))) ρ2 else .stuck
def kTupA (o : Out (List R)) : Out R := o.bind fun rs ρ1 => kTupE (consAll rs ρ1)
def kLstE (o : Out (List D)) : Out R := o.bind fun ds ρ2 => if ds.length ≤ LIM then .ok (.v (.lst (shs ds))) ρ2 else .stuck
def kLstA (o : Out (List R)) : Out R := o.bind fun rs ρ1 => kLstE (consAll rs ρ1)
def kTst (o : Out R) : Out Bool := o.bind fun r ρ1 => match r with
  | .v (.sh (.bl b)) => .ok b ρ1
  | _ => .stuck
def kTruC (ρ : Sl) : Option Bool → Out Bool
  | some b => .ok b ρ
  | none => .stuck
def kTruB (ρ : Sl) : Option D → Out Bool
  | some d => kTruC ρ (gTru d)
  | none => .stuck
def kTru (o : Out R) : Out Bool := o.bind fun r ρ1 => kTruB ρ1 (look r ρ1)
def kAnd (q : Sl → Out Bool) (o : Out Bool) : Out Bool := o.bind fun b ρ1 => if b then q ρ1 else .ok false ρ1
def kOr (q : Sl → Out Bool) (o : Out Bool) : Out Bool := o.bind fun b ρ1 => if b then .ok true ρ1 else q ρ1
def kNot (o : Out Bool) : Out Bool := o.bind fun b ρ1 => .ok (!b) ρ1
def kAndV (g : Ev) (o : Out R) : Out R := o.bind fun r ρ1 => match r with
  | .v (.sh (.bl b)) => if b then g ρ1 else .ok (.v (.sh (.bl false))) ρ1
  | _ => .stuck
def kOrV (g : Ev) (o : Out R) : Out R := o.bind fun r ρ1 => match r with
  | .v (.sh (.bl b)) => if b then .ok (.v (.sh (.bl true))) ρ1 else g ρ1
  | _ => .stuck
def kNotV (o : Out R) : Out R := o.bind fun r ρ1 => match r with
  | .v (.sh (.bl b)) => .ok (.v (.sh (.bl (!b)))) ρ1
  | _ => .stuck
def kIfE (f g : Ev) (o : Out Bool) : Out R := o.bind fun k ρ1 => if k then f ρ1 else g ρ1
def kSeq (g : SEv) : Out Fl → Out Fl
  | .ok .nx ρ1 => g ρ1
  | o => o
def kIf (f g : SEv) (o : Out Bool) : Out Fl := o.bind fun k ρ1 => if k then f ρ1 else g ρ1
def kExpr (o : Out R) : Out Fl := o.bind fun _ ρ1 => .ok .nx ρ1
def kSetC (i : Nat) (o : Out D) : Out Fl := o.bind fun d ρ2 => .ok .nx (ρ2.set i (.sh d))
def kSet (i : Nat) (o : Out R) : Out Fl := o.bind fun r ρ1 => match r with
  | .v s => .ok .nx (ρ1.set i s)
  | .r j => kSetC i (cons (.r j) ρ1)
def kSetF (i : Nat) (o : Out R) : Out Fl := o.bind fun r ρ1 => kSetC i (cons r ρ1)
def kRetM2 (j : Nat) (ρ1 : Sl) : Option Slot → Out Fl
  | some s => .ok (.ret s) (ρ1.set j .no)
  | none => .stuck
def kRetM (o : Out R) : Out Fl := o.bind fun r ρ1 => match r with
  | .v s => .ok (.ret s) ρ1
  | .r j => kRetM2 j ρ1 (ρ1[j]?)
def kAsgC : Option Sl → Out Fl
  | some ρ3 => .ok .nx ρ3
  | none => .stuck
def kAsgB (g : D → Sl → Option Sl) (o : Out D) : Out Fl := o.bind fun d ρ2 => kAsgC (g d ρ2)
def kAsg (g : D → Sl → Option Sl) (o : Out R) : Out Fl := o.bind fun r ρ1 => kAsgB g (cons r ρ1)
def kFor (g : D → Sl → Option Sl) (body : SEv) (o : Out (List D)) : Out Fl := o.bind fun ds ρ1 => forL g body ds ρ1
def kForB (g : D → Sl → Option Sl) (body : SEv) (ds : List D) : Out Fl → Out Fl
  | .ok .nx ρ2 => forL g body ds ρ2
  | .ok .ct ρ2 => forL g body ds ρ2
  | .ok .bk ρ2 => .ok .nx ρ2
  | .ok (.ret s) ρ2 => .ok (.ret s) ρ2
  | .exc c ns es ρ2 => .exc c ns es ρ2
  | .stuck => .stuck
def kForA (g : D → Sl → Option Sl) (body : SEv) (ds : List D) : Option Sl → Out Fl
  | none => .stuck
  | some ρ1 => kForB g body ds (body ρ1)
def kSeqI2 (ρ : Sl) : D → Out (List D)
  | .lst ds => .ok ds ρ
  | .rol ds => .ok ds ρ
  | .tup ds => .ok ds ρ
  | _ => .stuck
def kSeqI1 (o : Out D) : Out (List D) := o.bind fun d ρ2 => kSeqI2 ρ2 d
def kSeqI (o : Out R) : Out (List D) := o.bind fun r ρ1 => kSeqI1 (cons r ρ1)
def kRng1B (ρ : Sl) : Option D → Out (List D)
  | some (.int j) => if j < 2 ^ 62 ∧ -(2 ^ 62) ≤ j then .ok (rngD 0 j.toNat) ρ else .stuck
  | _ => .stuck
def kRng1 (o : Out R) : Out (List D) := o.bind fun r ρ1 => kRng1B ρ1 (look r ρ1)
def kRng2C (ρ : Sl) : Option D → Option D → Out (List D)
  | some (.int i), some (.int j) => if i < 2 ^ 62 ∧ j < 2 ^ 62 ∧ -(2 ^ 62) ≤ i ∧ -(2 ^ 62) ≤ j then .ok (rngD i (j - i).toNat) ρ else .stuck
  | _, _ => .stuck
def kRng2B (r1 : R) (o : Out R) : Out (List D) := o.bind fun r2 ρ2 => kRng2C ρ2 (look r1 ρ2) (look r2 ρ2)
def kRng2 (fb : Ev) (o : Out R) : Out (List D) := o.bind fun r1 ρ1 => kRng2B r1 (fb ρ1)
def kFn (np : Nat) (fx : FX) : Out Fl → Out Slot
  | .ok (.ret s) ρ => .ok s (fins fx 0 np ρ)
  | .ok .nx ρ => .ok (.sh .non) (fins fx 0 np ρ)
  | .exc c ns ds ρ => .exc c ns ds (fins fx 0 np ρ)
  | _ => .stuck
def kCallB (rs : List R) (ρ : Sl) : Out Slot → Out R
  | .ok s fs => .ok (.v s) (giveB rs fs ρ)
  | .exc c ns ds fs => .exc c ns ds (giveB rs fs ρ)
  | .stuck => .stuck
def kCallN (n : Nat) (F : FnD) (o : Out (List R)) : Out R := o.bind fun rs ρ1 => if rs.length = n then kCallB rs (lend rs ρ1).2 (F (lend rs ρ1).1) else .stuck
def kCallFC (ρ : Sl) : Out Slot → Out R
  | .ok s _ => .ok (.v s) ρ
  | .exc c ns es _ => .exc c ns es ρ
  | .stuck => .stuck
def kCallFB (n : Nat) (F : FnD) (o : Out (List D)) : Out R := o.bind fun ds ρ2 => if ds.length = n then kCallFC ρ2 (F (shs ds)) else .stuck
def kCallF (n : Nat) (F : FnD) (o : Out (List R)) : Out R := o.bind fun rs ρ1 => kCallFB n F (consAll rs ρ1)
def kCallVC (ρ : Sl) : Out Slot → Out R
  | .ok (.sh d) _ => if d.scal then .ok (.v (.sh d)) ρ else .stuck
  | _ => .stuck
def kCallVB (F : FnD) (ρ : Sl) : Option (List D) → Out R
  | some ds => kCallVC ρ (F (shs ds))
  | none => .stuck
def kCallV (n : Nat) (F : FnD) (o : Out (List R)) : Out R := o.bind fun rs ρ1 => if rs.length = n then kCallVB F ρ1 (views rs ρ1) else .stuck
def kAppC (i : Nat) (d : D) (ρ3 : Sl) : Option Slot → Out R
  | some (.lst ss) => if ss.length < LIM then .ok (.v (.sh .non)) (ρ3.set i (.lst (ss ++ [.sh d]))) else .stuck
  | _ => .stuck
def kAppB (i : Nat) (o : Out D) : Out R := o.bind fun d ρ3 => kAppC i d ρ3 (ρ3[i]?)
def kAppA (i : Nat) (o : Out R) : Out R := o.bind fun r2 ρ2 => kAppB i (cons r2 ρ2)
def kApp1 (i : Nat) (fb : Ev) (ρ : Sl) : Option Slot → Out R
  | some (.lst _) => kAppA i (fb ρ)
  | _ => .stuck
def kApp0 (fb : Ev) (o : Out R) : Out R := o.bind fun r1 ρ1 => match r1 with
  | .r i => kApp1 i fb ρ1 (ρ1[i]?)
  | _ => .stuck
def kSubD (i : Nat) (d : D) (k : Int) (ρ : Sl) : Option (List D) → Option Sl
  | some ds => (ixN ds.length k).map fun j => ρ.set i (.lst (shs (ds.set j d)))
  | none => none
def kSubC (i : Nat) (d : D) (ρ : Sl) : Option D → Option Slot → Option Sl
  | some (.int k), some (.lst ss) => kSubD i d k ρ (flats ss)
  | _, _ => none
def kSubB (i : Nat) (d : D) : Out R → Option Sl
  | .ok r2 ρ2 => kSubC i d ρ2 (look r2 ρ2) (ρ2[i]?)
  | _ => none
def kSubA (fb : Ev) (d : D) : Out R → Option Sl
  | .ok (.r i) ρ1 => kSubB i d (fb ρ1)
  | _ => none
def kCmpE (o : Out (List D)) : Out R := o.bind fun ys ρ2 => .ok (.v (.lst (shs ys))) ρ2
def kCmp (vs : List Nat) (g : D → Sl → Option Sl) (p : Sl → Out Bool) (e : Ev) (o : Out (List D)) : Out R := o.bind fun ds ρ1 => kCmpE (compL vs g p e ds [] (wipeR ρ1 vs))
def kCmD (vs : List Nat) (g : D → Sl → Option Sl) (p : Sl → Out Bool) (e : Ev) (ds acc : List D) (o : Out D) : Out (List D) := o.bind fun y ρ4 => if acc.length < LIM then compL vs g p e ds (acc ++ [y]) (wipeR ρ4 vs) else .stuck
def kCmC (vs : List Nat) (g : D → Sl → Option Sl) (p : Sl → Out Bool) (e : Ev) (ds acc : List D) : Out R → Out (List D)
  | .ok r ρ3 => kCmD vs g p e ds acc (cons r ρ3)
  | _ => .stuck
def kCmB (vs : List Nat) (g : D → Sl → Option Sl) (p : Sl → Out Bool) (e : Ev) (ds acc : List D) : Out Bool → Out (List D)
  | .ok true ρ2 => kCmC vs g p e ds acc (e ρ2)
  | .ok false ρ2 => compL vs g p e ds acc (wipeR ρ2 vs)
  | _ => .stuck
def kCmA (vs : List Nat) (g : D → Sl → Option Sl) (p : Sl → Out Bool) (e : Ev) (ds acc : List D) : Option Sl → Out (List D)
  | none => .stuck
  | some ρ1 => kCmB vs g p e ds acc (p ρ1)

theorem bind_ok {α β : Type} (a : α) (ρ : Sl) (k : α → Sl → Out β) : (Out.ok a ρ).bind k = k a ρ := rfl
theorem bind_exc {α β : Type} (c ns ds) (ρ : Sl) (k : α → Sl → Out β) : (Out.exc c ns ds ρ).bind k = .exc c ns ds ρ := rfl

/-- one step of each -/
theorem ev1 :
    (∀ i ρ, eVar i ρ = kVar i ρ (ρ[i]?)) ∧
    (∀ d ρ, eC d ρ = .ok (.v (.sh d)) ρ) ∧
    (∀ i ρ d, kVar i ρ (some (.sh d)) = .ok (.v (.sh d)) ρ) ∧
    (∀ i ρ ss, kVar i ρ (some (.lst ss)) = .ok (.r i) ρ) ∧
    (∀ i ρ c ns ss, kVar i ρ (some (.obj c ns ss)) = .ok (.r i) ρ) ∧
    (∀ i ρ ks ss, kVar i ρ (some (.dct ks ss)) = .ok (.r i) ρ) ∧
    (∀ g fa fb ρ, eOp g fa fb ρ = kOpA g fb (fa ρ)) ∧
    (∀ g fb r ρ, kOpA g fb (.ok r ρ) = kOpB g r (fb ρ)) ∧
    (∀ g r1 r ρ, kOpB g r1 (.ok r ρ) = kOpC g ρ (look r1 ρ) (look r ρ)) ∧
    (∀ g fb c ns ds ρ, kOpA g fb (.exc c ns ds ρ) = .exc c ns ds ρ) ∧
    (∀ g r1 c ns ds ρ, kOpB g r1 (.exc c ns ds ρ) = .exc c ns ds ρ) ∧
    (∀ g ρ a b, kOpC g ρ (some a) (some b) = kOpD ρ (g a b)) ∧
    (∀ ρ s, kOpD ρ (some s) = .ok (.v s) ρ) ∧
    (∀ s ρ, look (.v s) ρ = s.flat) ∧
    (∀ i ρ, look (.r i) ρ = (ρ[i]?).bind Slot.flat) ∧
    (∀ d, Slot.flat (.sh d) = some d) ∧
    (∀ ss, Slot.flat (.lst ss) = (flats ss).map D.lst) ∧
    (∀ c ns ss, Slot.flat (.obj c ns ss) = (flats ss).map (D.obj c ns)) ∧
    (flats [] = some []) ∧
    (∀ d ss, flats (.sh d :: ss) = (flats ss).map (d :: ·)) ∧
    (∀ ds, flats (shs ds) = some ds) ∧
    (∀ (ds : List D), flats (ds.map Slot.sh) = some ds) ∧
    (∀ d, Slot.fr (.sh d) = some d) ∧
    (∀ ss, Slot.fr (.lst ss) = (frs ss).map D.lst) ∧
    (∀ c ns ss, Slot.fr (.obj c ns ss) = (frs ss).map (D.obj c ns)) ∧
    (frs [] = some []) ∧
    (∀ ds, frs (shs ds) = some ds) ∧
    (∀ (ds : List D), frs (ds.map Slot.sh) = some ds) ∧
    (∀ g fa ρ, eUn g fa ρ = kUn g (fa ρ)) ∧
    (∀ g r ρ, kUn g (.ok r ρ) = kUnC g ρ (look r ρ)) ∧
    (∀ g ρ a, kUnC g ρ (some a) = kOpD ρ (g a)) ∧
    (∀ ρ, aNil ρ = .ok [] ρ) ∧
    (∀ f g ρ, aCons f g ρ = kArA g (f ρ)) ∧
    (∀ g r ρ, kArA g (.ok r ρ) = kArB r (g ρ)) ∧
    (∀ g c ns ds ρ, kArA g (.exc c ns ds ρ) = .exc c ns ds ρ) ∧
    (∀ r rs ρ, kArB r (.ok rs ρ) = .ok (r :: rs) ρ) ∧
    (∀ r c ns ds ρ, kArB r (.exc c ns ds ρ) = .exc c ns ds ρ) ∧
    (∀ g fs ρ, eCB g fs ρ = kCB g (fs ρ)) ∧
    (∀ g rs ρ, kCB g (.ok rs ρ) = kCB2 g ρ (looks rs ρ)) ∧
    (∀ g c ns ds ρ, kCB g (.exc c ns ds ρ) = .exc c ns ds ρ) ∧
    (∀ g ds ρ, kCB2 g ρ (some ds) = kOpD ρ (g ds)) ∧
    (∀ ρ, looks [] ρ = some []) ∧
    (∀ r rs ρ, looks (r :: rs) ρ = kLk (look r ρ) (looks rs ρ)) ∧
    (∀ d ds, kLk (some d) (some ds) = some (d :: ds)) ∧
    (∀ g d, g1 g [d] = g d) ∧
    (∀ g d e, g2 g [d, e] = g d e) := by
  refine ⟨fun i ρ => ?_, fun _ _ => rfl, fun _ _ _ => rfl, fun _ _ _ => rfl, fun _ _ _ _ _ => rfl, fun _ _ _ _ => rfl, fun _ _ _ _ => ?_, fun _ _ _ _ => rfl, fun _ _ _ _ => rfl, fun _ _ _ _ _ _ => rfl, fun _ _ _ _ _ _ => rfl, fun _ _ _ _ => rfl, fun _ _ => rfl, fun _ _ => rfl, fun _ _ => rfl, fun _ => rfl, fun _ => rfl, fun _ _ _ => rfl, rfl, fun _ _ => rfl, flats_sh, flats_sh, fun _ => rfl, fun _ => rfl, fun _ _ _ => rfl, rfl, frs_sh, frs_sh, fun _ _ _ => ?_, fun _ _ _ => rfl, fun _ _ _ => rfl, fun _ => rfl, fun _ _ _ => rfl, fun _ _ _ => rfl, fun _ _ _ _ _ => rfl, fun _ _ _ => rfl, fun _ _ _ _ _ => rfl, fun _ _ _ => ?_, fun _ _ _ => rfl, fun _ _ _ _ _ => rfl, fun _ _ _ => rfl, fun _ => rfl, fun _ _ _ => rfl, fun _ _ => rfl, fun _ _ => rfl, fun _ _ _ => rfl⟩
  · unfold eVar kVar; split <;> simp_all
  · unfold eOp kOpA kOpB kOpC kOpD; rfl
  · unfold eUn kUn kUnC kOpD; rfl
  · unfold eCB kCB kCB2 kOpD; rfl
theorem ev2 :
    (∀ fs ρ, eTup fs ρ = kTupA (fs ρ)) ∧
    (∀ rs ρ, kTupA (.ok rs ρ) = kTupE (consAll rs ρ)) ∧
    (∀ c ns ds ρ, kTupA (.exc c ns ds ρ) = .exc c ns ds ρ) ∧
    (∀ ds ρ, kTupE (.ok ds ρ) = if ds.length ≤ LIM then .ok (.v (.sh (.tup ds))) ρ else .stuck) ∧
    (∀ fs ρ, eLst fs ρ = kLstA (fs ρ)) ∧
    (∀ rs ρ, kLstA (.ok rs ρ) = kLstE (consAll rs ρ)) ∧
    (∀ c ns ds ρ, kLstA (.exc c ns ds ρ) = .exc c ns ds ρ) ∧
    (∀ ds ρ, kLstE (.ok ds ρ) = if ds.length ≤ LIM then .ok (.v (.lst (shs ds))) ρ else .stuck) ∧
    (∀ ρ, consAll [] ρ = .ok [] ρ) ∧
    (∀ r rs ρ, consAll (r :: rs) ρ = kCoA rs (cons r ρ)) ∧
    (∀ rs d ρ, kCoA rs (.ok d ρ) = kCoB d (consAll rs ρ)) ∧
    (∀ d ds ρ, kCoB d (.ok ds ρ) = .ok (d :: ds) ρ) ∧
    (∀ s ρ, cons (.v s) ρ = kFr ρ s.fr) ∧
    (∀ i ρ, cons (.r i) ρ = kFrR i ρ ((ρ[i]?).bind Slot.fr)) ∧
    (∀ d ρ, kFr ρ (some d) = .ok d ρ) ∧
    (∀ i d ρ, kFrR i ρ (some d) = .ok d (ρ.set i (.sh d))) ∧
    (∀ f ρ, tOfE f ρ = kTst (f ρ)) ∧
    (∀ b ρ, kTst (.ok (.v (.sh (.bl b))) ρ) = .ok b ρ) ∧
    (∀ c ns ds ρ, kTst (.exc c ns ds ρ) = .exc c ns ds ρ) ∧
    (∀ f ρ, eTru f ρ = kTru (f ρ)) ∧
    (∀ r ρ, kTru (.ok r ρ) = kTruB ρ (look r ρ)) ∧
    (∀ d ρ, kTruB ρ (some d) = kTruC ρ (gTru d)) ∧
    (∀ b ρ, kTruC ρ (some b) = .ok b ρ) ∧
    (∀ p q ρ, eAnd p q ρ = kAnd q (p ρ)) ∧
    (∀ q ρ, kAnd q (.ok true ρ) = q ρ) ∧
    (∀ q ρ, kAnd q (.ok false ρ) = .ok false ρ) ∧
    (∀ p q ρ, eOr p q ρ = kOr q (p ρ)) ∧
    (∀ q ρ, kOr q (.ok true ρ) = .ok true ρ) ∧
    (∀ q ρ, kOr q (.ok false ρ) = q ρ) ∧
    (∀ p ρ, eNot p ρ = kNot (p ρ)) ∧
    (∀ b ρ, kNot (.ok b ρ) = .ok (!b) ρ) ∧
    (∀ p q ρ, eAndV p q ρ = kAndV q (p ρ)) ∧
    (∀ q ρ, kAndV q (.ok (.v (.sh (.bl true))) ρ) = q ρ) ∧
    (∀ q ρ, kAndV q (.ok (.v (.sh (.bl false))) ρ) = .ok (.v (.sh (.bl false))) ρ) ∧
    (∀ p q ρ, eOrV p q ρ = kOrV q (p ρ)) ∧
    (∀ q ρ, kOrV q (.ok (.v (.sh (.bl true))) ρ) = .ok (.v (.sh (.bl true))) ρ) ∧
    (∀ q ρ, kOrV q (.ok (.v (.sh (.bl false))) ρ) = q ρ) ∧
    (∀ p ρ, eNotV p ρ = kNotV (p ρ)) ∧
    (∀ b ρ, kNotV (.ok (.v (.sh (.bl b))) ρ) = .ok (.v (.sh (.bl (!b)))) ρ) ∧
    (∀ p f g ρ, eIf p f g ρ = kIfE f g (p ρ)) ∧
    (∀ f g ρ, kIfE f g (.ok true ρ) = f ρ) ∧
    (∀ f g ρ, kIfE f g (.ok false ρ) = g ρ) ∧
    (∀ n F fs ρ, eCallN n F fs ρ = kCallN n F (fs ρ)) ∧
    (∀ n F rs ρ, kCallN n F (.ok rs ρ) = if rs.length = n then kCallB rs (lend rs ρ).2 (F (lend rs ρ).1) else .stuck) ∧
    (∀ rs s fs ρ, kCallB rs ρ (.ok s fs) = .ok (.v s) (giveB rs fs ρ)) ∧
    (∀ rs c ns ds fs ρ, kCallB rs ρ (.exc c ns ds fs) = .exc c ns ds (giveB rs fs ρ)) ∧
    (∀ ρ, lend [] ρ = ([], ρ)) ∧
    (∀ s rs ρ, lend (.v s :: rs) ρ = (s :: (lend rs ρ).1, (lend rs ρ).2)) ∧
    (∀ i rs ρ, lend (.r i :: rs) ρ = ((ρ[i]?).getD .no :: (lend rs (ρ.set i .no)).1, (lend rs (ρ.set i .no)).2)) ∧
    (∀ ρ fs, giveB [] fs ρ = ρ) ∧
    (∀ s rs f fs ρ, giveB (.v s :: rs) (f :: fs) ρ = giveB rs fs ρ) ∧
    (∀ i rs f fs ρ, giveB (.r i :: rs) (f :: fs) ρ = giveB rs fs (ρ.set i f)) ∧
    (∀ n F fs ρ, eCallF n F fs ρ = kCallF n F (fs ρ)) ∧
    (∀ n F rs ρ, kCallF n F (.ok rs ρ) = kCallFB n F (consAll rs ρ)) ∧
    (∀ n F ds ρ, kCallFB n F (.ok ds ρ) = if ds.length = n then kCallFC ρ (F (shs ds)) else .stuck) ∧
    (∀ s fs ρ, kCallFC ρ (.ok s fs) = .ok (.v s) ρ) ∧
    (∀ c ns es fs ρ, kCallFC ρ (.exc c ns es fs) = .exc c ns es ρ) ∧
    (∀ n F fs ρ, eCallV n F fs ρ = kCallV n F (fs ρ)) ∧
    (∀ n F rs ρ, kCallV n F (.ok rs ρ) = if rs.length = n then kCallVB F ρ (views rs ρ) else .stuck) ∧
    (∀ F ds ρ, kCallVB F ρ (some ds) = kCallVC ρ (F (shs ds))) ∧
    (∀ d fs ρ, kCallVC ρ (.ok (.sh d) fs) = if d.scal then .ok (.v (.sh d)) ρ else .stuck) ∧
    (∀ ρ, views [] ρ = some []) ∧
    (∀ r rs ρ, views (r :: rs) ρ = kLk (view r ρ) (views rs ρ)) ∧
    (∀ s ρ, view (.v s) ρ = s.fr) ∧
    (∀ i ρ, view (.r i) ρ = (ρ[i]?).bind Slot.fr) := by
  refine ⟨fun _ _ => rfl, fun _ _ => rfl, fun _ _ _ _ => rfl, fun _ _ => rfl, fun _ _ => rfl, fun _ _ => rfl, fun _ _ _ _ => rfl, fun _ _ => rfl, fun _ => rfl, fun _ _ _ => rfl, fun _ _ _ => rfl, fun _ _ _ => rfl, fun s ρ => ?_, fun i ρ => ?_, fun _ _ => rfl, fun _ _ _ => rfl, fun _ _ => rfl, fun _ _ => rfl, fun _ _ _ _ => rfl,
    fun _ _ => ?_, fun _ _ => rfl, fun _ _ => rfl, fun _ _ => rfl, fun _ _ _ => rfl, fun _ _ => rfl, fun _ _ => rfl, fun _ _ _ => rfl, fun _ _ => rfl, fun _ _ => rfl, fun _ _ => rfl, fun _ _ => rfl, fun _ _ _ => rfl, fun _ _ => rfl, fun _ _ => rfl, fun _ _ _ => rfl, fun _ _ => rfl, fun _ _ => rfl, fun _ _ => rfl, fun _ _ => rfl, fun _ _ _ _ => rfl, fun _ _ _ => rfl, fun _ _ _ => rfl,
    fun _ _ _ _ => ?_, fun _ _ _ _ => rfl, fun _ _ _ _ => rfl, fun _ _ _ _ _ _ => rfl, fun _ => rfl, fun _ _ _ => rfl, fun _ _ _ => rfl, fun ρ fs => ?_, fun _ _ _ _ _ => rfl, fun _ _ _ _ _ => rfl, fun _ _ _ _ => ?_, fun _ _ _ _ => rfl, fun _ _ _ _ => rfl, fun _ _ _ => rfl, fun _ _ _ _ _ => rfl, fun _ _ _ _ => ?_, fun _ _ _ _ => rfl, fun _ _ _ => rfl, fun _ _ _ => rfl, fun _ => rfl, fun _ _ _ => rfl, fun _ _ => rfl, fun _ _ => rfl⟩
  · cases h : s.fr with
    | none => simp [cons, kFr, h]
    | some d => simp [cons, kFr, h]
  · simp only [cons, kFrR]
    cases h0 : ρ[i]? with
    | none => simp
    | some s => cases h : s.fr <;> simp [h]
  · unfold eTru kTru kTruB kTruC; rfl
  · unfold eCallN kCallN callOn kCallB; rfl
  · cases fs <;> rfl
  · unfold eCallF kCallF kCallFB kCallFC; rfl
  · unfold eCallV kCallV kCallVB kCallVC; rfl
theorem ev3 :
    (∀ f g ρ, sSeq f g ρ = kSeq g (f ρ)) ∧
    (∀ g ρ, kSeq g (.ok .nx ρ) = g ρ) ∧
    (∀ g s ρ, kSeq g (.ok (.ret s) ρ) = .ok (.ret s) ρ) ∧
    (∀ g ρ, kSeq g (.ok .bk ρ) = .ok .bk ρ) ∧
    (∀ g ρ, kSeq g (.ok .ct ρ) = .ok .ct ρ) ∧
    (∀ g c ns ds ρ, kSeq g (.exc c ns ds ρ) = .exc c ns ds ρ) ∧
    (∀ ρ, sNil ρ = .ok .nx ρ) ∧ (∀ ρ, sPass ρ = .ok .nx ρ) ∧ (∀ ρ, sBk ρ = .ok .bk ρ) ∧ (∀ ρ, sCt ρ = .ok .ct ρ) ∧
    (∀ f ρ, sExpr f ρ = kExpr (f ρ)) ∧
    (∀ r ρ, kExpr (.ok r ρ) = .ok .nx ρ) ∧
    (∀ c ns ds ρ, kExpr (.exc c ns ds ρ) = .exc c ns ds ρ) ∧
    (∀ i f ρ, sSet i f ρ = kSet i (f ρ)) ∧
    (∀ i s ρ, kSet i (.ok (.v s) ρ) = .ok .nx (ρ.set i s)) ∧
    (∀ i j ρ, kSet i (.ok (.r j) ρ) = kSetC i (cons (.r j) ρ)) ∧
    (∀ i c ns ds ρ, kSet i (.exc c ns ds ρ) = .exc c ns ds ρ) ∧
    (∀ i d ρ, kSetC i (.ok d ρ) = .ok .nx (ρ.set i (.sh d))) ∧
    (∀ i f ρ, sSetF i f ρ = kSetF i (f ρ)) ∧
    (∀ i r ρ, kSetF i (.ok r ρ) = kSetC i (cons r ρ)) ∧
    (∀ i c ns ds ρ, kSetF i (.exc c ns ds ρ) = .exc c ns ds ρ) ∧
    (∀ f ρ, sRetM f ρ = kRetM (f ρ)) ∧
    (∀ s ρ, kRetM (.ok (.v s) ρ) = .ok (.ret s) ρ) ∧
    (∀ j ρ, kRetM (.ok (.r j) ρ) = kRetM2 j ρ (ρ[j]?)) ∧
    (∀ c ns ds ρ, kRetM (.exc c ns ds ρ) = .exc c ns ds ρ) ∧
    (∀ j s ρ, kRetM2 j ρ (some s) = .ok (.ret s) (ρ.set j .no)) ∧
    (∀ ρ, sRetN ρ = .ok (.ret (.sh .non)) ρ) ∧
    (∀ p f g ρ, sIf p f g ρ = kIf f g (p ρ)) ∧
    (∀ f g ρ, kIf f g (.ok true ρ) = f ρ) ∧
    (∀ f g ρ, kIf f g (.ok false ρ) = g ρ) ∧
    (∀ f g c ns ds ρ, kIf f g (.exc c ns ds ρ) = .exc c ns ds ρ) ∧
    (∀ g f ρ, sAsg g f ρ = kAsg g (f ρ)) ∧
    (∀ g r ρ, kAsg g (.ok r ρ) = kAsgB g (cons r ρ)) ∧
    (∀ g d ρ, kAsgB g (.ok d ρ) = kAsgC (g d ρ)) ∧
    (∀ ρ, kAsgC (some ρ) = .ok .nx ρ) ∧
    (∀ g c ns ds ρ, kAsg g (.exc c ns ds ρ) = .exc c ns ds ρ) ∧
    (∀ i d ρ, kName i d ρ = some (ρ.set i (.sh d))) ∧
    (∀ ρ, kNil [] ρ = some ρ) ∧
    (∀ g h d ds ρ, kCons g h (d :: ds) ρ = (g d ρ).bind (h ds)) ∧
    (∀ n h ds ρ, kTup n h (.tup ds) ρ = if ds.length = n then h ds ρ else none) ∧
    (∀ it g b ρ, sFor it g b ρ = kFor g b (it ρ)) ∧
    (∀ g b ds ρ, kFor g b (.ok ds ρ) = forL g b ds ρ) ∧
    (∀ g b ρ, forL g b [] ρ = .ok .nx ρ) ∧
    (∀ g b d ds ρ, forL g b (d :: ds) ρ = kForA g b ds (g d ρ)) ∧
    (∀ g b ds ρ, kForA g b ds (some ρ) = kForB g b ds (b ρ)) ∧
    (∀ g b ds ρ, kForB g b ds (.ok .nx ρ) = forL g b ds ρ) ∧
    (∀ g b ds ρ, kForB g b ds (.ok .ct ρ) = forL g b ds ρ) ∧
    (∀ g b ds ρ, kForB g b ds (.ok .bk ρ) = .ok .nx ρ) ∧
    (∀ g b ds s ρ, kForB g b ds (.ok (.ret s) ρ) = .ok (.ret s) ρ) ∧
    (∀ g b ds c ns es ρ, kForB g b ds (.exc c ns es ρ) = .exc c ns es ρ) ∧
    (∀ f ρ, iSeq f ρ = kSeqI (f ρ)) ∧
    (∀ r ρ, kSeqI (.ok r ρ) = kSeqI1 (cons r ρ)) ∧
    (∀ d ρ, kSeqI1 (.ok d ρ) = kSeqI2 ρ d) ∧
    (∀ ds ρ, kSeqI2 ρ (.lst ds) = .ok ds ρ) ∧ (∀ ds ρ, kSeqI2 ρ (.rol ds) = .ok ds ρ) ∧ (∀ ds ρ, kSeqI2 ρ (.tup ds) = .ok ds ρ) ∧
    (∀ f ρ, iRange1 f ρ = kRng1 (f ρ)) ∧
    (∀ r ρ, kRng1 (.ok r ρ) = kRng1B ρ (look r ρ)) ∧
    (∀ j ρ, kRng1B ρ (some (.int j)) = if j < 2 ^ 62 ∧ -(2 ^ 62) ≤ j then .ok (rngD 0 j.toNat) ρ else .stuck) ∧
    (∀ f g ρ, iRange2 f g ρ = kRng2 g (f ρ)) ∧
    (∀ g r ρ, kRng2 g (.ok r ρ) = kRng2B r (g ρ)) ∧
    (∀ r r2 ρ, kRng2B r (.ok r2 ρ) = kRng2C ρ (look r ρ) (look r2 ρ)) ∧
    (∀ i j ρ, kRng2C ρ (some (.int i)) (some (.int j)) = if i < 2 ^ 62 ∧ j < 2 ^ 62 ∧ -(2 ^ 62) ≤ i ∧ -(2 ^ 62) ≤ j then .ok (rngD i (j - i).toNat) ρ else .stuck) ∧
    (∀ n np fx b args, fnOf n np fx b args = kFn np fx (b (args ++ List.replicate (n - np) .no))) ∧
    (∀ np fx s ρ, kFn np fx (.ok (.ret s) ρ) = .ok s (fins fx 0 np ρ)) ∧
    (∀ np fx ρ, kFn np fx (.ok .nx ρ) = .ok (.sh .non) (fins fx 0 np ρ)) ∧
    (∀ np fx c ns ds ρ, kFn np fx (.exc c ns ds ρ) = .exc c ns ds (fins fx 0 np ρ)) := by
  refine ⟨fun f g ρ => ?_, fun _ _ => rfl, fun _ _ _ => rfl, fun _ _ => rfl, fun _ _ => rfl, fun _ _ _ _ _ => rfl, fun _ => rfl, fun _ => rfl, fun _ => rfl, fun _ => rfl, fun _ _ => rfl, fun _ _ => rfl, fun _ _ _ _ => rfl, fun _ _ _ => rfl, fun _ _ _ => rfl, fun _ _ _ => rfl, fun _ _ _ _ _ => rfl, fun _ _ _ => rfl, fun _ _ _ => rfl, fun _ _ _ => rfl, fun _ _ _ _ _ => rfl, fun _ _ => ?_, fun _ _ => rfl, fun _ _ => rfl, fun _ _ _ _ => rfl, fun _ _ _ => rfl, fun _ => rfl, fun _ _ _ _ => rfl, fun _ _ _ => rfl, fun _ _ _ => rfl, fun _ _ _ _ _ _ => rfl, fun _ _ _ => ?_, fun _ _ _ => rfl, fun _ _ _ => rfl, fun _ => rfl, fun _ _ _ _ _ => rfl, fun _ _ _ => rfl, fun _ => rfl, fun _ _ _ _ _ => rfl, fun _ _ _ _ => rfl, fun _ _ _ _ => rfl, fun _ _ _ _ => rfl, fun _ _ _ => rfl, fun _ _ _ _ _ => ?_, fun _ _ _ _ => rfl, fun _ _ _ _ => rfl, fun _ _ _ _ => rfl, fun _ _ _ _ => rfl, fun _ _ _ _ _ => rfl, fun _ _ _ _ _ _ _ => rfl, fun _ _ => ?_, fun _ _ => rfl, fun _ _ => rfl, fun _ _ => rfl, fun _ _ => rfl, fun _ _ => rfl, fun _ _ => ?_, fun _ _ => rfl, fun _ _ => rfl, fun _ _ _ => ?_, fun _ _ _ => rfl, fun _ _ _ => rfl, fun _ _ _ => rfl, fun _ _ _ _ _ => ?_, fun _ _ _ _ => rfl, fun _ _ _ => rfl, fun _ _ _ _ _ _ => rfl⟩
  · unfold sSeq kSeq; rfl
  · unfold sRetM kRetM kRetM2; rfl
  · unfold sAsg kAsg kAsgB kAsgC; rfl
  · conv => lhs; unfold forL
    unfold kForA kForB; rfl
  · unfold iSeq kSeqI kSeqI1 kSeqI2; rfl
  · unfold iRange1 kRng1 kRng1B; rfl
  · unfold iRange2 kRng2 kRng2B kRng2C; rfl
  · unfold fnOf kFn; rfl
theorem ev4 :
    (∀ fa fb ρ, eApp fa fb ρ = kApp0 fb (fa ρ)) ∧
    (∀ fb i ρ, kApp0 fb (.ok (.r i) ρ) = kApp1 i fb ρ (ρ[i]?)) ∧
    (∀ fb i ss ρ, kApp1 i fb ρ (some (.lst ss)) = kAppA i (fb ρ)) ∧
    (∀ i r ρ, kAppA i (.ok r ρ) = kAppB i (cons r ρ)) ∧
    (∀ i c ns ds ρ, kAppA i (.exc c ns ds ρ) = .exc c ns ds ρ) ∧
    (∀ i d ρ, kAppB i (.ok d ρ) = kAppC i d ρ (ρ[i]?)) ∧
    (∀ i d ρ ss, kAppC i d ρ (some (.lst ss)) = if ss.length < LIM then .ok (.v (.sh .non)) (ρ.set i (.lst (ss ++ [.sh d]))) else .stuck) ∧
    (∀ fa fb d ρ, kSub fa fb d ρ = kSubA fb d (fa ρ)) ∧
    (∀ fb d i ρ, kSubA fb d (.ok (.r i) ρ) = kSubB i d (fb ρ)) ∧
    (∀ i d r ρ, kSubB i d (.ok r ρ) = kSubC i d ρ (look r ρ) (ρ[i]?)) ∧
    (∀ i d ρ k ss, kSubC i d ρ (some (.int k)) (some (.lst ss)) = kSubD i d k ρ (flats ss)) ∧
    (∀ i d k ρ ds, kSubD i d k ρ (some ds) = (ixN ds.length k).map fun j => ρ.set i (.lst (shs (ds.set j d)))) ∧
    (∀ vs it g p e ρ, eComp vs it g p e ρ = kCmp vs g p e (it ρ)) ∧
    (∀ vs g p e ds ρ, kCmp vs g p e (.ok ds ρ) = kCmpE (compL vs g p e ds [] (wipeR ρ vs))) ∧
    (∀ ds ρ, kCmpE (.ok ds ρ) = .ok (.v (.lst (shs ds))) ρ) ∧
    (∀ vs g p e acc ρ, compL vs g p e [] acc ρ = .ok acc ρ) ∧
    (∀ vs g p e d ds acc ρ, compL vs g p e (d :: ds) acc ρ = kCmA vs g p e ds acc (g d ρ)) ∧
    (∀ vs g p e ds acc ρ, kCmA vs g p e ds acc (some ρ) = kCmB vs g p e ds acc (p ρ)) ∧
    (∀ vs g p e ds acc ρ, kCmB vs g p e ds acc (.ok true ρ) = kCmC vs g p e ds acc (e ρ)) ∧
    (∀ vs g p e ds acc ρ, kCmB vs g p e ds acc (.ok false ρ) = compL vs g p e ds acc (wipeR ρ vs)) ∧
    (∀ vs g p e ds acc r ρ, kCmC vs g p e ds acc (.ok r ρ) = kCmD vs g p e ds acc (cons r ρ)) ∧
    (∀ vs g p e ds acc y ρ, kCmD vs g p e ds acc (.ok y ρ) = if acc.length < LIM then compL vs g p e ds (acc ++ [y]) (wipeR ρ vs) else .stuck) ∧
    (∀ ρ, pYes ρ = .ok true ρ) ∧
    (∀ ρ, wipeR ρ [] = ρ) ∧
    (∀ ρ v vs, wipeR ρ (v :: vs) = (wipeR ρ vs).set v .no) ∧
    (∀ ρ, oNone ρ = .ok none ρ) := by
  refine ⟨fun _ _ _ => ?_, fun _ _ _ => rfl, fun _ _ _ _ => rfl, fun _ _ _ => rfl, fun _ _ _ _ _ => rfl, fun _ _ _ => rfl, fun _ _ _ _ => rfl, fun _ _ _ _ => ?_, fun _ _ _ _ => rfl, fun _ _ _ _ => rfl, fun _ _ _ _ _ => rfl, fun _ _ _ _ _ => rfl, fun _ _ _ _ _ _ => rfl, fun _ _ _ _ _ _ => rfl, fun _ _ => rfl, fun _ _ _ _ _ _ => rfl, fun _ _ _ _ _ _ _ _ => ?_, fun _ _ _ _ _ _ _ => rfl, fun _ _ _ _ _ _ _ => rfl, fun _ _ _ _ _ _ _ => rfl, fun _ _ _ _ _ _ _ _ => rfl, fun _ _ _ _ _ _ _ _ => rfl, fun _ => rfl, fun _ => rfl, fun _ _ _ => rfl, fun _ => rfl⟩
  · unfold eApp kApp0 kApp1 kAppA kAppB kAppC; rfl
  · unfold kSub kSubA kSubB kSubC kSubD; rfl
  · conv => lhs; unfold compL
    unfold kCmA kCmB kCmC kCmD; rfl

end Sep

/-! SepN: operations on data; draw. -/
namespace Sep
open PySem L2
theorem eq_int (i j : Int) : gEq (.int i) (.int j) = some (.sh (.bl (i == j))) := rfl
theorem ne_int (i j : Int) : gNe (.int i) (.int j) = some (.sh (.bl (!(i == j)))) := rfl
theorem eq_bl (i j : Bool) : gEq (.bl i) (.bl j) = some (.sh (.bl (i == j))) := rfl
theorem fins_s (fx : FX) (i n : Nat) (s : Slot) (ρ : Sl) : fins fx i (n + 1) (s :: ρ) = (if fx i then s else .no) :: fins fx (i + 1) n ρ := rfl
theorem fins_0 (fx : FX) (i : Nat) (ρ : Sl) : fins fx i 0 ρ = [] := by cases ρ <;> rfl
theorem atI_nn {α : Type} (xs : List α) (i : Int) (h0 : 0 ≤ i) (h1 : i < xs.length) : atI xs i = xs[i.toNat]? := by
  unfold atI ixN; rw [if_pos h0, if_pos h1]; rfl
theorem atI_nat {α : Type} (xs : List α) (i : Nat) (h : i < xs.length) : atI xs (i : Int) = xs[i]? := by
  rw [atI_nn xs i (by omega) (by omega), Int.toNat_natCast]
theorem ev5 :
    (∀ i j, gAdd (.int i) (.int j) = some (.sh (.int (i + j)))) ∧
    (∀ x y, gAdd (.lst x) (.lst y) = if x.length + y.length ≤ LIM then some (.lst (shs (x ++ y))) else none) ∧
    (∀ x y, gAdd (.tup x) (.tup y) = if x.length + y.length ≤ LIM then some (.sh (.tup (x ++ y))) else none) ∧
    (∀ i j, gSubt (.int i) (.int j) = some (.sh (.int (i - j)))) ∧
    (∀ C g i j, gInt C g (.int i) (.int j) = if C i j then some (.sh (.int (g i j))) else none) ∧
    (∀ g i j, gCmp g (.int i) (.int j) = some (.sh (.bl (g i j)))) ∧
    (∀ i j, gEq (.int i) (.int j) = some (.sh (.bl (i == j)))) ∧
    (∀ i j, gNe (.int i) (.int j) = some (.sh (.bl (!(i == j))))) ∧
    (∀ i j, gEq (.bl i) (.bl j) = some (.sh (.bl (i == j)))) ∧
    (∀ ds i, gIx (.lst ds) (.int i) = (atI ds i).map Slot.sh) ∧
    (∀ ds i, gIx (.rol ds) (.int i) = (atI ds i).map Slot.sh) ∧
    (∀ ds i, gIx (.tup ds) (.int i) = (atI ds i).map Slot.sh) ∧
    (∀ i, gNeg (.int i) = some (.sh (.int (-i)))) ∧
    (∀ ds, gLen (.lst ds) = some (.sh (.int (ds.length : Nat)))) ∧
    (∀ ds, gLen (.rol ds) = some (.sh (.int (ds.length : Nat)))) ∧
    (∀ ds, gLen (.tup ds) = some (.sh (.int (ds.length : Nat)))) ∧
    (∀ i, gToInt (.int i) = some (.sh (.int i))) ∧
    (∀ i, gToInt (.bl i) = some (.sh (.int (if i then 1 else 0)))) ∧
    (∀ i, gAbs (.int i) = some (.sh (.int (if i < 0 then -i else i)))) ∧
    (∀ f i j, gM2 f (.int i) (.int j) = some (.sh (.int (f i j)))) ∧
    (∀ ds, gToL (.lst ds) = some (.lst (shs ds))) ∧
    (∀ ds, gToL (.rol ds) = some (.lst (shs ds))) ∧
    (∀ ds, gToL (.tup ds) = some (.lst (shs ds))) ∧
    (∀ ds, gToT (.lst ds) = some (.sh (.tup ds))) ∧
    (∀ ds, gToT (.rol ds) = some (.sh (.tup ds))) ∧
    (∀ ds, gToT (.tup ds) = some (.sh (.tup ds))) ∧
    (∀ b, gTru (.bl b) = some b) ∧
    (∀ b, gTru (.int b) = some (b != 0)) ∧
    (∀ ds, gTru (.lst ds) = some (!ds.isEmpty)) ∧
    (∀ ds, gTru (.tup ds) = some (!ds.isEmpty)) ∧
    (gTru .non = some false) ∧
    (∀ fx i n s ρ, fins fx i (n + 1) (s :: ρ) = (if fx i then s else .no) :: fins fx (i + 1) n ρ) ∧
    (∀ fx i ρ, fins fx i 0 ρ = []) ∧
    (∀ k, gIsN k .non .non = some (.sh (.bl (!k)))) ∧
    (∀ k i, gIsN k (.int i) .non = some (.sh (.bl k))) ∧
    (∀ k i, gIsN k (.bl i) .non = some (.sh (.bl k))) ∧
    (∀ k i, gIsN k (.str i) .non = some (.sh (.bl k))) ∧
    (∀ k i, gIsN k (.tup i) .non = some (.sh (.bl k))) ∧
    (∀ k i, gIsN k (.lst i) .non = some (.sh (.bl k))) ∧
    (∀ k i, gIsN k (.rol i) .non = some (.sh (.bl k))) ∧
    (∀ k c ns i, gIsN k (.obj c ns i) .non = some (.sh (.bl k))) ∧
    (∀ k ks i, gIsN k (.dct ks i) .non = some (.sh (.bl k))) ∧
    (∀ (α β : Type) (f : α → β) (a : α), Option.map f (some a) = some (f a)) ∧
    (∀ (α β : Type) (f : α → Option β) (a : α), Option.bind (some a) f = f a) ∧
    (∀ (α : Type) (a : α) l, (a :: l)[0]? = some a) ∧
    (∀ (α : Type) (a : α) l i, (a :: l)[i+1]? = l[i]?) ∧
    (∀ (α : Type) (a b : α) l, (a :: l).set 0 b = b :: l) ∧
    (∀ (α : Type) (a b : α) l i, (a :: l).set (i+1) b = a :: l.set i b) ∧
    (∀ (α : Type) (l : List α), [] ++ l = l) ∧
    (∀ (α : Type) (a : α) (l m : List α), (a :: l) ++ m = a :: (l ++ m)) ∧
    (∀ (α : Type) (a : α), List.replicate 0 a = []) ∧
    (∀ (α : Type) (a : α) n, List.replicate (n+1) a = a :: List.replicate n a) ∧
    (∀ (α : Type), ([] : List α).length = 0) ∧
    (∀ (α : Type) (a : α) l, (a :: l).length = l.length + 1) ∧
    (∀ (α β : Type) (f : α → β), List.map f [] = []) ∧
    (∀ (α β : Type) (f : α → β) a l, List.map f (a :: l) = f a :: List.map f l) :=
  ⟨fun _ _ => rfl, fun _ _ => rfl, fun _ _ => rfl, fun _ _ => rfl, fun _ _ _ _ => rfl, fun _ _ _ => rfl, eq_int, ne_int, eq_bl, fun _ _ => rfl, fun _ _ => rfl, fun _ _ => rfl, fun _ => rfl, fun _ => rfl, fun _ => rfl, fun _ => rfl, fun _ => rfl, fun _ => rfl, fun _ => rfl, fun _ _ _ => rfl, fun _ => rfl, fun _ => rfl, fun _ => rfl, fun _ => rfl, fun _ => rfl, fun _ => rfl, fun _ => rfl, fun _ => rfl, fun _ => rfl, fun _ => rfl, rfl, fins_s, fins_0, fun _ => rfl, fun _ _ => rfl, fun _ _ => rfl, fun _ _ => rfl, fun _ _ => rfl, fun _ _ => rfl, fun _ _ => rfl, fun _ _ _ _ => rfl, fun _ _ _ => rfl,
   fun _ _ _ _ => rfl, fun _ _ _ _ => rfl, fun _ _ _ => rfl, fun _ _ _ _ => rfl, fun _ _ _ _ => rfl, fun _ _ _ _ _ => rfl, fun _ _ => rfl, fun _ _ _ _ => rfl, fun _ _ => rfl, fun _ _ _ => rfl, fun _ => rfl, fun _ _ _ => rfl, fun _ _ _ => rfl, fun _ _ _ _ _ => rfl⟩
theorem ixN_lit {n : Nat} (i : Nat) (h : i < n) : ixN n (i : Int) = some i := by
  unfold ixN; rw [if_pos (by omega), if_pos (by omega), Int.toNat_natCast]
theorem atI_lit {α : Type} {xs : List α} {a : α} (i : Nat) (h : i < xs.length) (e : xs[i]? = some a) : atI xs (i : Int) = some a := by
  rw [atI_nat xs i h, e]
theorem ev6 :
    (∀ (α : Type) (a0 : α) l, atI (a0 :: l) 0 = some a0) ∧
    (∀ (α : Type) (a0 a1 : α) l, atI (a0 :: a1 :: l) 1 = some a1) ∧
    (∀ (α : Type) (a0 a1 a2 : α) l, atI (a0 :: a1 :: a2 :: l) 2 = some a2) ∧
    (∀ (α : Type) (a0 a1 a2 a3 : α) l, atI (a0 :: a1 :: a2 :: a3 :: l) 3 = some a3) ∧
    (∀ (α : Type) (a0 a1 a2 a3 a4 : α) l, atI (a0 :: a1 :: a2 :: a3 :: a4 :: l) 4 = some a4) ∧
    (∀ (α : Type) (a0 a1 a2 a3 a4 a5 : α) l, atI (a0 :: a1 :: a2 :: a3 :: a4 :: a5 :: l) 5 = some a5) ∧
    (∀ (α : Type) (a0 a1 a2 a3 a4 a5 a6 : α) l, atI (a0 :: a1 :: a2 :: a3 :: a4 :: a5 :: a6 :: l) 6 = some a6) ∧
    (∀ (α : Type) (a0 a1 a2 a3 a4 a5 a6 a7 : α) l, atI (a0 :: a1 :: a2 :: a3 :: a4 :: a5 :: a6 :: a7 :: l) 7 = some a7) ∧
    (∀ (α : Type) (a0 a1 a2 a3 a4 a5 a6 a7 a8 : α) l, atI (a0 :: a1 :: a2 :: a3 :: a4 :: a5 :: a6 :: a7 :: a8 :: l) 8 = some a8) ∧
    (∀ (α : Type) (a0 a1 a2 a3 a4 a5 a6 a7 a8 a9 : α) l, atI (a0 :: a1 :: a2 :: a3 :: a4 :: a5 :: a6 :: a7 :: a8 :: a9 :: l) 9 = some a9) ∧
    (∀ n, ixN (n + 1) 0 = some 0) ∧
    (∀ n, ixN (n + 2) 1 = some 1) ∧
    (∀ n, ixN (n + 3) 2 = some 2) ∧
    (∀ n, ixN (n + 4) 3 = some 3) ∧
    (∀ n, ixN (n + 5) 4 = some 4) ∧
    (∀ n, ixN (n + 6) 5 = some 5) ∧
    (∀ n, ixN (n + 7) 6 = some 6) ∧
    (∀ n, ixN (n + 8) 7 = some 7) ∧
    (∀ n, ixN (n + 9) 8 = some 8) ∧
    (∀ n, ixN (n + 10) 9 = some 9) :=
  ⟨fun _ _ l => atI_lit 0 (by simp) rfl, fun _ _ _ l => atI_lit 1 (by simp) rfl, fun _ _ _ _ l => atI_lit 2 (by simp) rfl, fun _ _ _ _ _ l => atI_lit 3 (by simp) rfl, fun _ _ _ _ _ _ l => atI_lit 4 (by simp) rfl, fun _ _ _ _ _ _ _ l => atI_lit 5 (by simp) rfl, fun _ _ _ _ _ _ _ _ l => atI_lit 6 (by simp) rfl, fun _ _ _ _ _ _ _ _ _ l => atI_lit 7 (by simp) rfl, fun _ _ _ _ _ _ _ _ _ _ l => atI_lit 8 (by simp) rfl, fun _ _ _ _ _ _ _ _ _ _ _ l => atI_lit 9 (by simp) rfl, fun n => ixN_lit 0 (by omega), fun n => ixN_lit 1 (by omega), fun n => ixN_lit 2 (by omega), fun n => ixN_lit 3 (by omega), fun n => ixN_lit 4 (by omega), fun n => ixN_lit 5 (by omega), fun n => ixN_lit 6 (by omega), fun n => ixN_lit 7 (by omega), fun n => ixN_lit 8 (by omega), fun n => ixN_lit 9 (by omega)⟩
end Sep
namespace Lw
open PySem L2 Sep
def fx__law_box : FX := fun i => match i with | 0 => true | _ => false
def F__law_box : FnD := fnOf 1 1 fx__law_box (sRetM (eLst (aCons (eCB (g1 gToL) (aCons (eVar 0) aNil)) (aCons (eC (.int 0)) (aCons (eC (.int 0)) (aCons (eC (.int 0)) (aCons (eC (.int 0)) aNil)))))))
def fx__law_draw : FX := fun i => match i with | 0 => true | 1 => true | _ => false
def draw_b : SEv := (sSeq (sAsg (kSub (eVar 0) (eC (.int 3))) (eOp gSubt (eOp gIx (eVar 0) (eC (.int 3))) (eC (.int 1))))
  (sSeq (sIf (tOfE (eOp gEq (eOp gIx (eVar 0) (eC (.int 4))) (eC (.int 1))))
  (sSeq (sSetF 3 (eOp gMod (eCB (g1 gToInt) (aCons (eOp gIx (eVar 0) (eC (.int 2))) aNil)) (eVar 1)))
  (sSeq (sAsg (kSub (eVar 0) (eC (.int 2))) (eOp gDiv (eCB (g1 gToInt) (aCons (eOp gIx (eVar 0) (eC (.int 2))) aNil)) (eVar 1)))
  (sSeq (sIf (tOfE (eOp gEq (eOp gIx (eVar 0) (eC (.int 2))) (eC (.int 0))))
  (sAsg (kSub (eVar 0) (eC (.int 3))) (eC (.int 0)))
  sNil)
  (sRetM (eVar 3)))))
  sNil)
  (sSeq (sSetF 2 (eOp gMod (eCB (g1 gToInt) (aCons (eOp gAdd (eOp gAdd (eOp gMul (eCB (g1 gToInt) (aCons (eOp gIx (eVar 0) (eC (.int 2))) aNil)) (eC (.int 48271))) (eOp gMul (eOp gIx (eVar 0) (eC (.int 3))) (eC (.int 69621)))) (eC (.int 13))) aNil)) (eC (.int 2147483647))))
  (sSeq (sSetF 2 (eOp gMod (eCB (g1 gToInt) (aCons (eOp gAdd (eOp gAdd (eOp gMul (eVar 2) (eC (.int 16807))) (eOp gMul (eOp gIx (eVar 0) (eC (.int 3))) (eC (.int 40692)))) (eC (.int 7))) aNil)) (eC (.int 2147483629))))
  (sRetM (eOp gMod (eCB (g1 gToInt) (aCons (eVar 2) aNil)) (eVar 1)))))))
def draw_a : SEv := (sIf (tOfE (eOp gEq (eOp gIx (eVar 0) (eC (.int 3))) (eC (.int 0))))
  (sSeq (sIf (tOfE (eOp gGe (eOp gIx (eVar 0) (eC (.int 1))) (eCB (g1 gLen) (aCons (eOp gIx (eVar 0) (eC (.int 0))) aNil))))
  (sRetM (eC (.int 0)))
  sNil)
  (sSeq (sAsg (kSub (eVar 0) (eC (.int 2))) (eCB (g1 gAbs) (aCons (eCB (g1 gToInt) (aCons (eOp gIx (eOp gIx (eVar 0) (eC (.int 0))) (eOp gIx (eVar 0) (eC (.int 1)))) aNil)) aNil)))
  (sSeq (sAsg (kSub (eVar 0) (eC (.int 1))) (eOp gAdd (eOp gIx (eVar 0) (eC (.int 1))) (eC (.int 1))))
  (sSeq (sAsg (kSub (eVar 0) (eC (.int 4))) (eCB (g1 gToInt) (aCons (eOp gGe (eOp gIx (eVar 0) (eC (.int 2))) (eOp gPow (eC (.int 10)) (eC (.int 18)))) aNil)))
  (sAsg (kSub (eVar 0) (eC (.int 3))) (eOp gAdd (eC (.int 12)) (eOp gMul (eC (.int 48)) (eOp gIx (eVar 0) (eC (.int 4))))))))))
  sNil)
def F__law_draw : FnD := fnOf 4 2 fx__law_draw (sSeq draw_a draw_b)
def Bx (ns : List Int) (p v n w : Int) : Slot := .lst [.sh (.lst (ns.map D.int)), .sh (.int p), .sh (.int v), .sh (.int n), .sh (.int w)]
theorem box_ok (ns : List Int) : F__law_box [.sh (.rol (ns.map D.int))] = .ok (Bx ns 0 0 0 0) [.sh (.rol (ns.map D.int))] := by
  unfold F__law_box
  simp only [ev1, ev2, ev3, ev4, ev5, ev6, LIM, ↓reduceIte, Nat.reduceAdd, Nat.reduceSub, Nat.reduceLeDiff, Nat.reduceLT, Nat.reduceEqDiff, Int.reduceEq, Int.reduceLT, Int.reduceLE, Int.reduceNeg, Int.reduceBEq, decide_true, decide_false, Bool.not_true, Bool.not_false, Option.getD_some, eq_self, Bool.false_eq_true]
  simp [fx__law_box, Bx, shs]
theorem log2_lt {a k : Nat} (h : a < 2 ^ k) (hk : 0 < k) : a.log2 < k := by
  by_cases e : a = 0
  · subst e; simpa using hk
  · exact (Nat.log2_lt e).mpr h
structure Bok (p v n w : Int) : Prop where
  p0 : 0 ≤ p
  v0 : 0 ≤ v
  n0 : 0 ≤ n
  n1 : n ≤ 60
  w1 : w = 1 ∨ w = 0 ∧ v < 10 ^ 18
theorem draw_b1 {ns : List Int} {p v n size : Int} (h : Bok p v n 1) (hs : 0 < size) (hl : size.natAbs.log2 < 9000) (hn : 1 ≤ n) : ∃ z v' n' m d, draw_b [Bx ns p v n 1, .sh (.int size), .no, .no] = .ok (.ret (.sh (.int z))) [Bx ns p v' n' 1, .sh (.int size), m, d] ∧ 0 ≤ z ∧ z < size ∧ Bok p v' n' 1 := by
  have hv : 0 ≤ v / size := Int.ediv_nonneg h.v0 (by omega)
  by_cases q : v / size = 0
  · refine ⟨v % size, v / size, 0, .no, .sh (.int (v % size)), ?_, Int.emod_nonneg _ (by omega), Int.emod_lt_of_pos _ hs, ⟨h.p0, hv, by omega, by omega, .inl rfl⟩⟩
    unfold draw_b Bx
    simp only [ev1, ev2, ev3, ev4, ev5, ev6, LIM, ↓reduceIte, Nat.reduceAdd, Nat.reduceSub, Nat.reduceLeDiff, Nat.reduceLT, Nat.reduceEqDiff, Int.reduceEq, Int.reduceLT, Int.reduceLE, Int.reduceNeg, Int.reduceBEq, decide_true, decide_false, Bool.not_true, Bool.not_false, Option.getD_some, eq_self, Bool.false_eq_true, shs, cMod, cDiv, hs, hl, true_and, beq_self_eq_true, q]
  · refine ⟨v % size, v / size, n - 1, .no, .sh (.int (v % size)), ?_, Int.emod_nonneg _ (by omega), Int.emod_lt_of_pos _ hs, ⟨h.p0, hv, by omega, by have := h.n1; omega, .inl rfl⟩⟩
    unfold draw_b Bx
    have q' : (v / size == 0) = false := by simpa using q
    simp only [ev1, ev2, ev3, ev4, ev5, ev6, LIM, ↓reduceIte, Nat.reduceAdd, Nat.reduceSub, Nat.reduceLeDiff, Nat.reduceLT, Nat.reduceEqDiff, Int.reduceEq, Int.reduceLT, Int.reduceLE, Int.reduceNeg, Int.reduceBEq, decide_true, decide_false, Bool.not_true, Bool.not_false, Option.getD_some, eq_self, Bool.false_eq_true, shs, cMod, cDiv, hs, hl, true_and, beq_self_eq_true, q']
theorem draw_b0 {ns : List Int} {p v n size : Int} (h : Bok p v n 0) (hs : 0 < size) (hl : size.natAbs.log2 < 9000) (hn : 1 ≤ n) : ∃ z v' n' m d, draw_b [Bx ns p v n 0, .sh (.int size), .no, .no] = .ok (.ret (.sh (.int z))) [Bx ns p v' n' 0, .sh (.int size), m, d] ∧ 0 ≤ z ∧ z < size ∧ Bok p v' n' 0 := by
  have hv : v < 10 ^ 18 := by rcases h.w1 with h | h; (cases h); exact h.2
  have h0 := h.v0
  have hn1 := h.n1
  have g : ∀ (a : Int) (b : Nat), 0 ≤ a → a < 2 ^ 64 → b < 2 ^ 64 → a.natAbs.log2 + b.log2 < 1000000 := fun a b h1 h2 h3 => by
    have e1 : a.natAbs.log2 < 64 := log2_lt (by omega) (by decide)
    have e2 : b.log2 < 64 := log2_lt h3 (by decide)
    omega
  have c1 : v.natAbs.log2 + (48271 : Int).natAbs.log2 < 1000000 := g v 48271 h0 (by omega) (by decide)
  have c2 : (n - 1).natAbs.log2 + (69621 : Int).natAbs.log2 < 1000000 := g (n - 1) 69621 (by omega) (by omega) (by decide)
  have c3 : (n - 1).natAbs.log2 + (40692 : Int).natAbs.log2 < 1000000 := g (n - 1) 40692 (by omega) (by omega) (by decide)
  generalize e1 : (v * 48271 + (n - 1) * 69621 + 13) % 2147483647 = m1
  have m0 : 0 ≤ m1 ∧ m1 < 2147483647 := by omega
  have c4 : m1.natAbs.log2 + (16807 : Int).natAbs.log2 < 1000000 := g m1 16807 (by omega) (by omega) (by decide)
  generalize e2 : (m1 * 16807 + (n - 1) * 40692 + 7) % 2147483629 = m2
  refine ⟨m2 % size, v, n - 1, .sh (.int m2), .no, ?_, Int.emod_nonneg _ (by omega), Int.emod_lt_of_pos _ hs, ⟨h.p0, h0, by omega, by omega, h.w1⟩⟩
  unfold draw_b Bx
  simp only [ev1, ev2, ev3, ev4, ev5, ev6, LIM, ↓reduceIte, Nat.reduceAdd, Nat.reduceSub, Nat.reduceLeDiff, Nat.reduceLT, Nat.reduceEqDiff, Int.reduceEq, Int.reduceLT, Int.reduceLE, Int.reduceNeg, Int.reduceBEq, decide_true, decide_false, Bool.not_true, Bool.not_false, Option.getD_some, eq_self, Bool.false_eq_true, shs, cMod, cDiv, cMul, hs, hl, true_and, c1, c2, c3, c4, e1, e2]
theorem draw_b2 {ns : List Int} {p v n w size : Int} (h : Bok p v n w) (hs : 0 < size) (hl : size.natAbs.log2 < 9000) (hn : 1 ≤ n) : ∃ z v' n' m d, draw_b [Bx ns p v n w, .sh (.int size), .no, .no] = .ok (.ret (.sh (.int z))) [Bx ns p v' n' w, .sh (.int size), m, d] ∧ 0 ≤ z ∧ z < size ∧ Bok p v' n' w := by
  rcases h.w1 with e | ⟨e, _⟩
  · subst e; exact draw_b1 h hs hl hn
  · subst e; exact draw_b0 h hs hl hn
/-- a draw: a number below its size, and the box stays sound -/
theorem draw_ok {ns : List Int} {p v n w size : Int} (h : Bok p v n w) (hs : 0 < size) (hl : size.natAbs.log2 < 9000) : ∃ z p' v' n' w', F__law_draw [Bx ns p v n w, .sh (.int size)] = .ok (.sh (.int z)) [Bx ns p' v' n' w', .sh (.int size)] ∧ 0 ≤ z ∧ z < size ∧ Bok p' v' n' w' := by
  unfold F__law_draw
  by_cases q : n = 0
  · subst q
    by_cases c : (ns.length : Int) ≤ p
    · refine ⟨0, p, v, 0, w, ?_, by omega, hs, h⟩
      unfold draw_a Bx
      simp only [ev1, ev2, ev3, ev4, ev5, ev6, LIM, ↓reduceIte, Nat.reduceAdd, Nat.reduceSub, Nat.reduceLeDiff, Nat.reduceLT, Nat.reduceEqDiff, Int.reduceEq, Int.reduceLT, Int.reduceLE, Int.reduceNeg, Int.reduceBEq, decide_true, decide_false, Bool.not_true, Bool.not_false, Option.getD_some, eq_self, Bool.false_eq_true, shs, c, List.length_map, fx__law_draw]
    · have hp := h.p0
      obtain ⟨x, hx⟩ : ∃ x, ns[p.toNat]? = some x := ⟨ns[p.toNat]'(by omega), List.getElem?_eq_getElem (by omega)⟩
      have ha : atI (ns.map D.int) p = some (.int x) := by
        rw [atI_nn _ _ hp (by rw [List.length_map]; omega), List.getElem?_map, hx]; rfl
      generalize ev : (if x < 0 then -x else x) = v1
      have hv1 : 0 ≤ v1 := by subst ev; split <;> omega
      have hb : ∃ w1 : Int, (if decide ((10 : Int) ^ 18 ≤ v1) then (1 : Int) else 0) = w1 ∧ Bok (p + 1) v1 (12 + 48 * w1) w1 := by
        by_cases z : (10 : Int) ^ 18 ≤ v1
        · exact ⟨1, by rw [if_pos (by simpa using z)], ⟨by omega, hv1, by omega, by omega, .inl rfl⟩⟩
        · exact ⟨0, by rw [if_neg (by simpa using z)], ⟨by omega, hv1, by omega, by omega, .inr ⟨rfl, by omega⟩⟩⟩
      obtain ⟨w1, ew, hb⟩ := hb
      have hw : 0 ≤ w1 ∧ w1 ≤ 1 := by rcases hb.w1 with e | ⟨e, _⟩ <;> subst e <;> decide
      have cm : (48 : Int).natAbs.log2 + w1.natAbs.log2 < 1000000 := by
        have e1 : w1.natAbs.log2 < 64 := log2_lt (by omega) (by decide)
        have e2 : (48 : Int).natAbs.log2 < 64 := by decide
        omega
      obtain ⟨z, v', n', m, d, e, z0, z1, hb'⟩ := draw_b2 (ns := ns) (size := size) hb hs hl (by omega)
      refine ⟨z, p + 1, v', n', w1, ?_, z0, z1, hb'⟩
      have cp : cPow 10 18 = true := by decide +kernel
      have tn : (18 : Int).toNat = 18 := rfl
      have st : draw_a [Bx ns p v 0 w, .sh (.int size), .no, .no] = .ok .nx [Bx ns (p + 1) v1 (12 + 48 * w1) w1, .sh (.int size), .no, .no] := by
        unfold draw_a Bx
        simp only [ev1, ev2, ev3, ev4, ev5, ev6, LIM, ↓reduceIte, Nat.reduceAdd, Nat.reduceSub, Nat.reduceLeDiff, Nat.reduceLT, Nat.reduceEqDiff, Int.reduceEq, Int.reduceLT, Int.reduceLE, Int.reduceNeg, Int.reduceBEq, decide_true, decide_false, Bool.not_true, Bool.not_false, Option.getD_some, eq_self, Bool.false_eq_true, shs, c, List.length_map, ha, ev, cp, tn, ew, cMul, cm, beq_self_eq_true]
      simp only [ev1, ev2, ev3, ev4, ev5, ev6, LIM, ↓reduceIte, Nat.reduceAdd, Nat.reduceSub, Nat.reduceLeDiff, Nat.reduceLT, Nat.reduceEqDiff, Int.reduceEq, Int.reduceLT, Int.reduceLE, Int.reduceNeg, Int.reduceBEq, decide_true, decide_false, Bool.not_true, Bool.not_false, Option.getD_some, eq_self, Bool.false_eq_true, st, e, fx__law_draw]
  · have hn := h.n0
    obtain ⟨z, v', n', m, d, e, z0, z1, hb'⟩ := draw_b2 (ns := ns) (size := size) h hs hl (by omega)
    refine ⟨z, p, v', n', w, ?_, z0, z1, hb'⟩
    have q' : (n == 0) = false := by simpa using q
    have st : draw_a [Bx ns p v n w, .sh (.int size), .no, .no] = .ok .nx [Bx ns p v n w, .sh (.int size), .no, .no] := by
      unfold draw_a Bx
      simp only [ev1, ev2, ev3, ev4, ev5, ev6, LIM, ↓reduceIte, Nat.reduceAdd, Nat.reduceSub, Nat.reduceLeDiff, Nat.reduceLT, Nat.reduceEqDiff, Int.reduceEq, Int.reduceLT, Int.reduceLE, Int.reduceNeg, Int.reduceBEq, decide_true, decide_false, Bool.not_true, Bool.not_false, Option.getD_some, eq_self, Bool.false_eq_true, q']
    simp only [ev1, ev2, ev3, ev4, ev5, ev6, LIM, ↓reduceIte, Nat.reduceAdd, Nat.reduceSub, Nat.reduceLeDiff, Nat.reduceLT, Nat.reduceEqDiff, Int.reduceEq, Int.reduceLT, Int.reduceLE, Int.reduceNeg, Int.reduceBEq, decide_true, decide_false, Bool.not_true, Bool.not_false, Option.getD_some, eq_self, Bool.false_eq_true, st, e, fx__law_draw]
end Lw

/-! SepO: the compare of a law. -/
namespace Sep
open PySem L2
/-- data that equality knows, no deeper than n -/
def plainN : Nat → D → Bool
  | _, .non => true
  | _, .bl _ => true
  | _, .int _ => true
  | _, .str s => PyData.canLay0 (.str s)
  | n + 1, .tup ds => decide (ds.length < 2 ^ 62) && ds.all (plainN n)
  | n + 1, .lst ds => decide (ds.length < 2 ^ 62) && ds.all (plainN n)
  | _, _ => false
theorem isI_eqs : (∀ T, gIsi T .non = some (.sh (.bl false))) ∧ (∀ T b, gIsi T (.bl b) = some (.sh (.bl (decide (T = "bool") || decide (T = "int"))))) ∧ (∀ T i, gIsi T (.int i) = some (.sh (.bl (decide (T = "int"))))) ∧ (∀ T i, gIsi T (.str i) = some (.sh (.bl (decide (T = "str"))))) ∧ (∀ T i, gIsi T (.tup i) = some (.sh (.bl (decide (T = "tuple"))))) ∧ (∀ T i, gIsi T (.lst i) = some (.sh (.bl (decide (T = "list"))))) ∧ (∀ T i, gIsi T (.rol i) = some (.sh (.bl (decide (T = "list"))))) ∧ (∀ T ks i, gIsi T (.dct ks i) = some (.sh (.bl (decide (T = "dict"))))) ∧
    ("bool" = "int") = False ∧ ("bool" = "str") = False ∧ ("bool" = "tuple") = False ∧ ("bool" = "list") = False ∧ ("int" = "bool") = False ∧ ("int" = "str") = False ∧ ("int" = "tuple") = False ∧ ("int" = "list") = False ∧ ("tuple" = "bool") = False ∧ ("tuple" = "int") = False ∧ ("tuple" = "str") = False ∧ ("tuple" = "list") = False ∧ ("list" = "bool") = False ∧ ("list" = "int") = False ∧ ("list" = "str") = False ∧ ("list" = "tuple") = False ∧ ("str" = "bool") = False ∧ ("str" = "int") = False ∧ ("str" = "tuple") = False ∧ ("str" = "list") = False := by
  refine ⟨fun _ => rfl, fun _ _ => rfl, fun _ _ => rfl, fun _ _ => rfl, fun _ _ => rfl, fun _ _ => rfl, fun _ _ => rfl, fun _ _ _ => rfl, ?_⟩
  simp
theorem eq_str {x : Str} (h : PyData.canLay0 (.str x) = true) (y : Str) (h2 : PyData.canLay0 (.str y) = true) : gEq (.str x) (.str y) = some (.sh (.bl (x == y))) := by
  unfold gEq
  simp only [D.py, SeqAt.shaped, h, h2, PyData.depth, Bool.true_and, PyData.eqv]
  rfl
theorem rng_get {d : D} {n i : Nat} {lo : Int} (h : (rngD lo n)[i]? = some d) : d = .int (lo + i) := by
  unfold rngD at h
  rw [List.getElem?_map] at h
  by_cases q : i < n
  · rw [List.getElem?_range q] at h
    exact (Option.some.inj h).symm
  · rw [List.getElem?_eq_none (by rw [List.length_range]; omega)] at h
    cases h
theorem rngD_nat (m n : Nat) : rngD (m : Int) n = (List.range' m n).map fun (i : Nat) => D.int i := by
  unfold rngD
  rw [List.range'_eq_map_range, List.map_map]
  refine List.map_congr_left fun i _ => ?_
  show D.int _ = D.int _
  congr 1
end Sep
namespace LwA
open PySem L2 Sep
def fx__law_same : FX := fun i => match i with | 0 => true | 1 => true | _ => false
def F__law_same : Nat → FnD
  | 0 => fun _ => .stuck
  | n + 1 => fnOf 3 2 fx__law_same (sSeq (sIf (tOfE (eOp (gIsN false) (eVar 1) (eC .non)))
  (sRetM (eOp (gIsN false) (eVar 0) (eC .non)))
  sNil)
  (sSeq (sIf (eTru (eUn (gIsi "bool") (eVar 1)))
  (sRetM (eAndV (eUn (gIsi "bool") (eVar 0)) (eOp gEq (eVar 0) (eVar 1))))
  sNil)
  (sSeq (sIf (eTru (eUn (gIsi "int") (eVar 1)))
  (sRetM (eAndV (eUn (gIsi "int") (eVar 0)) (eAndV (eNotV (eUn (gIsi "bool") (eVar 0))) (eOp gEq (eVar 0) (eVar 1)))))
  sNil)
  (sSeq (sIf (eTru (eUn (gIsi "str") (eVar 1)))
  (sRetM (eAndV (eUn (gIsi "str") (eVar 0)) (eOp gEq (eVar 0) (eVar 1))))
  sNil)
  (sSeq (sIf (eAnd (eTru (eUn (gIsi "tuple") (eVar 1))) (eNot (eTru (eUn (gIsi "tuple") (eVar 0)))))
  (sRetM (eC (.bl false)))
  sNil)
  (sSeq (sIf (eOr (eAnd (eTru (eUn (gIsi "list") (eVar 1))) (eNot (eTru (eUn (gIsi "list") (eVar 0))))) (tOfE (eOp gNe (eCB (g1 gLen) (aCons (eVar 0) aNil)) (eCB (g1 gLen) (aCons (eVar 1) aNil)))))
  (sRetM (eC (.bl false)))
  sNil)
  (sSeq (sFor (iRange1 (eCB (g1 gLen) (aCons (eVar 1) aNil))) (kName 2)
  (sIf (eNot (eTru (eCallF 2 (F__law_same n) (aCons (eOp gIx (eVar 0) (eVar 2)) (aCons (eOp gIx (eVar 1) (eVar 2)) aNil)))))
  (sRetM (eC (.bl false)))
  sNil))
  (sRetM (eC (.bl true))))))))))

abbrev bodyS (F : FnD) : SEv := sIf (eNot (eTru (eCallF 2 F (aCons (eOp gIx (eVar 0) (eVar 2)) (aCons (eOp gIx (eVar 1) (eVar 2)) aNil))))) (sRetM (eC (D.bl false))) sNil
theorem loopS {F : FnD} {a : D} {ds : List D} (hix : ∀ (i : Nat) d, ds[i]? = some d → gIx a (.int i) = some (.sh d)) (hF : ∀ d ∈ ds, ∃ fs, F [.sh d, .sh d] = .ok (.sh (.bl true)) fs) : ∀ (m i : Nat) (s : Slot), i + m = ds.length → ∃ s', forL (kName 2) (bodyS F) ((List.range' i m).map fun (i : Nat) => D.int i) [.sh a, .sh a, s] = .ok .nx [.sh a, .sh a, s']
  | 0, i, s, h => ⟨s, rfl⟩
  | m + 1, i, s, h => by
    obtain ⟨d, hd⟩ : ∃ d, ds[i]? = some d := ⟨ds[i]'(by omega), List.getElem?_eq_getElem (by omega)⟩
    obtain ⟨fs, hf⟩ := hF d (List.mem_of_getElem? hd)
    obtain ⟨s', h'⟩ := loopS hix hF m (i + 1) (.sh (.int i)) (by omega)
    refine ⟨s', ?_⟩
    rw [List.range'_succ, List.map_cons]
    simp only [ev1, ev2, ev3, ev4, ev5, ev6, LIM, ↓reduceIte, Nat.reduceAdd, Nat.reduceSub, Nat.reduceLeDiff, Nat.reduceLT, Nat.reduceEqDiff, Int.reduceEq, Int.reduceLT, Int.reduceLE, Int.reduceNeg, Int.reduceBEq, decide_true, decide_false, Bool.not_true, Bool.not_false, Option.getD_some, eq_self, Bool.false_eq_true, hix i d hd, shs, hf]
    exact h'
theorem ix_tup {ds : List D} (i : Nat) (d : D) (h : ds[i]? = some d) : gIx (.tup ds) (.int i) = some (.sh d) := by
  have hi := (List.getElem?_eq_some_iff.mp h).1
  show (atI ds (i : Int)).map Slot.sh = _
  rw [atI_nat ds i hi, h]; rfl
theorem ix_lst {ds : List D} (i : Nat) (d : D) (h : ds[i]? = some d) : gIx (.lst ds) (.int i) = some (.sh d) := ix_tup i d h
theorem ix_rol {ds : List D} (i : Nat) (d : D) (h : ds[i]? = some d) : gIx (.rol ds) (.int i) = some (.sh d) := ix_tup i d h
theorem same_ok : ∀ n d, plainN n d = true → F__law_same (n + 1) [.sh d, .sh d] = .ok (.sh (.bl true)) [.sh d, .sh d] := by
  intro n
  induction n with
  | zero =>
    intro d h
    cases d with
    | non => unfold F__law_same; simp only [ev1, ev2, ev3, ev4, ev5, ev6, LIM, ↓reduceIte, Nat.reduceAdd, Nat.reduceSub, Nat.reduceLeDiff, Nat.reduceLT, Nat.reduceEqDiff, Int.reduceEq, Int.reduceLT, Int.reduceLE, Int.reduceNeg, Int.reduceBEq, decide_true, decide_false, Bool.not_true, Bool.not_false, Option.getD_some, eq_self, Bool.false_eq_true, isI_eqs, fx__law_same]
    | bl b => unfold F__law_same; simp only [ev1, ev2, ev3, ev4, ev5, ev6, LIM, ↓reduceIte, Nat.reduceAdd, Nat.reduceSub, Nat.reduceLeDiff, Nat.reduceLT, Nat.reduceEqDiff, Int.reduceEq, Int.reduceLT, Int.reduceLE, Int.reduceNeg, Int.reduceBEq, decide_true, decide_false, Bool.not_true, Bool.not_false, Option.getD_some, eq_self, Bool.false_eq_true, isI_eqs, fx__law_same, beq_self_eq_true, Bool.or_false]
    | int i => unfold F__law_same; simp only [ev1, ev2, ev3, ev4, ev5, ev6, LIM, ↓reduceIte, Nat.reduceAdd, Nat.reduceSub, Nat.reduceLeDiff, Nat.reduceLT, Nat.reduceEqDiff, Int.reduceEq, Int.reduceLT, Int.reduceLE, Int.reduceNeg, Int.reduceBEq, decide_true, decide_false, Bool.not_true, Bool.not_false, Option.getD_some, eq_self, Bool.false_eq_true, isI_eqs, fx__law_same, beq_self_eq_true, Bool.or_false]
    | str s =>
      have e : gEq (.str s) (.str s) = some (.sh (.bl true)) := by
        rw [eq_str h s h]; simp
      unfold F__law_same; simp only [ev1, ev2, ev3, ev4, ev5, ev6, LIM, ↓reduceIte, Nat.reduceAdd, Nat.reduceSub, Nat.reduceLeDiff, Nat.reduceLT, Nat.reduceEqDiff, Int.reduceEq, Int.reduceLT, Int.reduceLE, Int.reduceNeg, Int.reduceBEq, decide_true, decide_false, Bool.not_true, Bool.not_false, Option.getD_some, eq_self, Bool.false_eq_true, isI_eqs, fx__law_same, beq_self_eq_true, Bool.or_false, e]
    | _ => cases h
  | succ n ih =>
    intro d h
    cases d with
    | non => unfold F__law_same; simp only [ev1, ev2, ev3, ev4, ev5, ev6, LIM, ↓reduceIte, Nat.reduceAdd, Nat.reduceSub, Nat.reduceLeDiff, Nat.reduceLT, Nat.reduceEqDiff, Int.reduceEq, Int.reduceLT, Int.reduceLE, Int.reduceNeg, Int.reduceBEq, decide_true, decide_false, Bool.not_true, Bool.not_false, Option.getD_some, eq_self, Bool.false_eq_true, isI_eqs, fx__law_same]
    | bl b => unfold F__law_same; simp only [ev1, ev2, ev3, ev4, ev5, ev6, LIM, ↓reduceIte, Nat.reduceAdd, Nat.reduceSub, Nat.reduceLeDiff, Nat.reduceLT, Nat.reduceEqDiff, Int.reduceEq, Int.reduceLT, Int.reduceLE, Int.reduceNeg, Int.reduceBEq, decide_true, decide_false, Bool.not_true, Bool.not_false, Option.getD_some, eq_self, Bool.false_eq_true, isI_eqs, fx__law_same, beq_self_eq_true, Bool.or_false]
    | int i => unfold F__law_same; simp only [ev1, ev2, ev3, ev4, ev5, ev6, LIM, ↓reduceIte, Nat.reduceAdd, Nat.reduceSub, Nat.reduceLeDiff, Nat.reduceLT, Nat.reduceEqDiff, Int.reduceEq, Int.reduceLT, Int.reduceLE, Int.reduceNeg, Int.reduceBEq, decide_true, decide_false, Bool.not_true, Bool.not_false, Option.getD_some, eq_self, Bool.false_eq_true, isI_eqs, fx__law_same, beq_self_eq_true, Bool.or_false]
    | str s =>
      have e : gEq (.str s) (.str s) = some (.sh (.bl true)) := by
        rw [eq_str h s h]; simp
      unfold F__law_same; simp only [ev1, ev2, ev3, ev4, ev5, ev6, LIM, ↓reduceIte, Nat.reduceAdd, Nat.reduceSub, Nat.reduceLeDiff, Nat.reduceLT, Nat.reduceEqDiff, Int.reduceEq, Int.reduceLT, Int.reduceLE, Int.reduceNeg, Int.reduceBEq, decide_true, decide_false, Bool.not_true, Bool.not_false, Option.getD_some, eq_self, Bool.false_eq_true, isI_eqs, fx__law_same, beq_self_eq_true, Bool.or_false, e]
    | tup ds =>
      unfold plainN at h
      obtain ⟨hl, hp⟩ := Bool.and_eq_true_iff.mp h
      have hl := of_decide_eq_true hl
      have hl2 : (ds.length : Int) < 2 ^ 62 ∧ -(2 ^ 62) ≤ (ds.length : Int) := by omega
      obtain ⟨s', e⟩ := loopS (F := F__law_same (n + 1)) (a := .tup ds) ix_tup (fun d hd => ⟨_, ih d (List.all_eq_true.mp hp d hd)⟩) ds.length 0 .no (by omega)
      have er : rngD 0 ds.length = (List.range' 0 ds.length).map fun (i : Nat) => D.int i := rngD_nat 0 _
      unfold F__law_same
      simp only [ev1, ev2, ev3, ev4, ev5, ev6, LIM, ↓reduceIte, Nat.reduceAdd, Nat.reduceSub, Nat.reduceLeDiff, Nat.reduceLT, Nat.reduceEqDiff, Int.reduceEq, Int.reduceLT, Int.reduceLE, Int.reduceNeg, Int.reduceBEq, decide_true, decide_false, Bool.not_true, Bool.not_false, Option.getD_some, eq_self, Bool.false_eq_true, isI_eqs, fx__law_same, beq_self_eq_true, Bool.or_false, hl2, Int.toNat_natCast, er, e, and_self]
    | lst ds =>
      unfold plainN at h
      obtain ⟨hl, hp⟩ := Bool.and_eq_true_iff.mp h
      have hl := of_decide_eq_true hl
      have hl2 : (ds.length : Int) < 2 ^ 62 ∧ -(2 ^ 62) ≤ (ds.length : Int) := by omega
      obtain ⟨s', e⟩ := loopS (F := F__law_same (n + 1)) (a := .lst ds) ix_lst (fun d hd => ⟨_, ih d (List.all_eq_true.mp hp d hd)⟩) ds.length 0 .no (by omega)
      have er : rngD 0 ds.length = (List.range' 0 ds.length).map fun (i : Nat) => D.int i := rngD_nat 0 _
      unfold F__law_same
      simp only [ev1, ev2, ev3, ev4, ev5, ev6, LIM, ↓reduceIte, Nat.reduceAdd, Nat.reduceSub, Nat.reduceLeDiff, Nat.reduceLT, Nat.reduceEqDiff, Int.reduceEq, Int.reduceLT, Int.reduceLE, Int.reduceNeg, Int.reduceBEq, decide_true, decide_false, Bool.not_true, Bool.not_false, Option.getD_some, eq_self, Bool.false_eq_true, isI_eqs, fx__law_same, beq_self_eq_true, Bool.or_false, hl2, Int.toNat_natCast, er, e, and_self]
    | _ => cases h
end LwA

/-! SepP: more rules of evaluation. -/
namespace Sep
open PySem L2
def kChF (ρ : Sl) : Option Slot → Out R
  | some s => .ok (.v s) ρ
  | none => .stuck
def kChE (g' : D → D → Option Slot) (ρ : Sl) : Option D → Option D → Out R
  | some a, some b => kChF ρ (g' a b)
  | _, _ => .stuck
def kChC (g' : D → D → Option Slot) (r2 : R) (o : Out R) : Out R := o.bind fun r3 ρ3 => kChE g' ρ3 (look r2 ρ3) (look r3 ρ3)
def kChB (g' : D → D → Option Slot) (r2 : R) (fc : Ev) (ρ : Sl) : Option Slot → Out R
  | some (.sh (.bl k)) => if k then kChC g' r2 (fc ρ) else .ok (.v (.sh (.bl false))) ρ
  | _ => .stuck
def kChA (g g' : D → D → Option Slot) (r2 : R) (fc : Ev) (ρ : Sl) : Option D → Option D → Out R
  | some a, some b => kChB g' r2 fc ρ (g a b)
  | _, _ => .stuck
def kCh2 (g g' : D → D → Option Slot) (r1 : R) (fc : Ev) (o : Out R) : Out R := o.bind fun r2 ρ2 => kChA g g' r2 fc ρ2 (look r1 ρ2) (look r2 ρ2)
def kCh1 (g g' : D → D → Option Slot) (fb fc : Ev) (o : Out R) : Out R := o.bind fun r1 ρ1 => kCh2 g g' r1 fc (fb ρ1)
def kPart2 (ρ : Sl) : Option D → Out (Option Int)
  | some (.int i) => .ok (some i) ρ
  | _ => .stuck
def kPart (o : Out R) : Out (Option Int) := o.bind fun r ρ1 => kPart2 ρ1 (look r ρ1)
def kSl4 (lo hi : Option Int) (ρ : Sl) : Option D → Out R
  | some d => kOpD ρ (gSl d lo hi)
  | none => .stuck
def kSl3 (r : R) (lo : Option Int) (o : Out (Option Int)) : Out R := o.bind fun hi ρ3 => kSl4 lo hi ρ3 (look r ρ3)
def kSl2 (r : R) (fh : Sl → Out (Option Int)) (o : Out (Option Int)) : Out R := o.bind fun lo ρ2 => kSl3 r lo (fh ρ2)
def kSl1 (fl fh : Sl → Out (Option Int)) (o : Out R) : Out R := o.bind fun r ρ1 => kSl2 r fh (fl ρ1)
def kLoE (o : Out (List Slot)) : Out R := o.bind fun ss ρ2 => if ss.length ≤ LIM then .ok (.v (.lst ss)) ρ2 else .stuck
def kLoA (o : Out (List R)) : Out R := o.bind fun rs ρ1 => kLoE (consOs rs ρ1)
def kOsB (s : Slot) (o : Out (List Slot)) : Out (List Slot) := o.bind fun ss ρ2 => .ok (s :: ss) ρ2
def kOsA (rs : List R) (o : Out Slot) : Out (List Slot) := o.bind fun s ρ1 => kOsB s (consOs rs ρ1)
def kOsC (o : Out D) : Out Slot := o.bind fun d ρ' => .ok (.sh d) ρ'
theorem ev7 :
    (∀ g g' fa fb fc ρ, eChain g g' fa fb fc ρ = kCh1 g g' fb fc (fa ρ)) ∧
    (∀ g g' fb fc r ρ, kCh1 g g' fb fc (.ok r ρ) = kCh2 g g' r fc (fb ρ)) ∧
    (∀ g g' r1 fc r ρ, kCh2 g g' r1 fc (.ok r ρ) = kChA g g' r fc ρ (look r1 ρ) (look r ρ)) ∧
    (∀ g g' r fc ρ a b, kChA g g' r fc ρ (some a) (some b) = kChB g' r fc ρ (g a b)) ∧
    (∀ g' r fc ρ, kChB g' r fc ρ (some (.sh (.bl true))) = kChC g' r (fc ρ)) ∧
    (∀ g' r fc ρ, kChB g' r fc ρ (some (.sh (.bl false))) = .ok (.v (.sh (.bl false))) ρ) ∧
    (∀ g' r2 r ρ, kChC g' r2 (.ok r ρ) = kChE g' ρ (look r2 ρ) (look r ρ)) ∧
    (∀ g' ρ a b, kChE g' ρ (some a) (some b) = kChF ρ (g' a b)) ∧
    (∀ ρ s, kChF ρ (some s) = .ok (.v s) ρ) ∧
    (∀ f ρ, oSome f ρ = kPart (f ρ)) ∧
    (∀ r ρ, kPart (.ok r ρ) = kPart2 ρ (look r ρ)) ∧
    (∀ i ρ, kPart2 ρ (some (.int i)) = .ok (some i) ρ) ∧
    (∀ fe fl fh ρ, eSl fe fl fh ρ = kSl1 fl fh (fe ρ)) ∧
    (∀ fl fh r ρ, kSl1 fl fh (.ok r ρ) = kSl2 r fh (fl ρ)) ∧
    (∀ fh r lo ρ, kSl2 r fh (.ok lo ρ) = kSl3 r lo (fh ρ)) ∧
    (∀ r lo hi ρ, kSl3 r lo (.ok hi ρ) = kSl4 lo hi ρ (look r ρ)) ∧
    (∀ lo hi ρ d, kSl4 lo hi ρ (some d) = kOpD ρ (gSl d lo hi)) ∧
    (∀ ds lo hi, gSl (.lst ds) lo hi = some (.lst (shs (cutD ds lo hi)))) ∧
    (∀ ds lo hi, gSl (.rol ds) lo hi = some (.lst (shs (cutD ds lo hi)))) ∧
    (∀ ds lo hi, gSl (.tup ds) lo hi = some (.sh (.tup (cutD ds lo hi)))) ∧
    (∀ fs ρ, eLstO fs ρ = kLoA (fs ρ)) ∧
    (∀ rs ρ, kLoA (.ok rs ρ) = kLoE (consOs rs ρ)) ∧
    (∀ ss ρ, kLoE (.ok ss ρ) = if ss.length ≤ LIM then .ok (.v (.lst ss)) ρ else .stuck) ∧
    (∀ ρ, consOs [] ρ = .ok [] ρ) ∧
    (∀ r rs ρ, consOs (r :: rs) ρ = kOsA rs (consO r ρ)) ∧
    (∀ rs s ρ, kOsA rs (.ok s ρ) = kOsB s (consOs rs ρ)) ∧
    (∀ s ss ρ, kOsB s (.ok ss ρ) = .ok (s :: ss) ρ) ∧
    (∀ s ρ, consO (.v s) ρ = .ok s ρ) ∧
    (∀ i ρ, consO (.r i) ρ = kOsC (cons (.r i) ρ)) ∧
    (∀ d ρ, kOsC (.ok d ρ) = .ok (.sh d) ρ) := by
  refine ⟨fun _ _ _ _ _ _ => ?_, fun _ _ _ _ _ _ => rfl, fun _ _ _ _ _ _ => rfl, fun _ _ _ _ _ _ _ => rfl, fun _ _ _ _ => rfl, fun _ _ _ _ => rfl, fun _ _ _ _ => rfl, fun _ _ _ _ => rfl, fun _ _ => rfl, fun _ _ => ?_, fun _ _ => rfl, fun _ _ => rfl, fun _ _ _ _ => ?_, fun _ _ _ _ => rfl, fun _ _ _ _ => rfl, fun _ _ _ _ => rfl, fun _ _ _ _ => rfl, fun _ _ _ => rfl, fun _ _ _ => rfl, fun _ _ _ => rfl, fun _ _ => rfl, fun _ _ => rfl, fun _ _ => rfl, fun _ => rfl, fun _ _ _ => rfl, fun _ _ _ => rfl, fun _ _ _ => rfl, fun _ _ => rfl, fun _ _ => rfl, fun _ _ => rfl⟩
  · unfold eChain kCh1 kCh2 kChA kChB kChC kChE kChF; rfl
  · unfold oSome kPart kPart2; rfl
  · unfold eSl kSl1 kSl2 kSl3 kSl4 kOpD; rfl
theorem app2_ok {i : Nat} {fk fb : Ev} {ρ ρ2 ρ3 : Sl} {ss ss2 : List Slot} {k : Int} {j : Nat} {r : R} {d : D} (h0 : ρ[i]? = some (.lst ss)) (hk : fk ρ = .ok (.v (.sh (.int k))) ρ) (hj : ixN ss.length k = some j) (hs : ss[j]? = some (.lst ss2)) (hl : ss2.length < LIM) (hb : fb (ρ.set i (.lst (ss.set j .no))) = .ok r ρ2) (hc : cons r ρ2 = .ok d ρ3) : eApp2 i fk fb ρ = .ok (.v (.sh .non)) ρ3 := by
  unfold eApp2
  simp only [h0, hk, Out.bind, look, Slot.flat, hj, Option.bind_some, hs, Option.map_some, hl, ↓reduceIte, hb, hc]
/-- what a for walks -/
structure Sq (d : D) (ds : List D) : Prop where
  i : ∀ ρ, kSeqI2 ρ d = .ok ds ρ
  l : gToL d = some (.lst (shs ds))
  t : gToT d = some (.sh (.tup ds))
  n : gLen d = some (.sh (.int (ds.length : Nat)))
  x : ∀ i, gIx d (.int i) = (atI ds i).map Slot.sh
theorem sq_lst (ds : List D) : Sq (.lst ds) ds := ⟨fun _ => rfl, rfl, rfl, rfl, fun _ => rfl⟩
theorem sq_rol (ds : List D) : Sq (.rol ds) ds := ⟨fun _ => rfl, rfl, rfl, rfl, fun _ => rfl⟩
theorem sq_tup (ds : List D) : Sq (.tup ds) ds := ⟨fun _ => rfl, rfl, rfl, rfl, fun _ => rfl⟩
end Sep

/-! SepQ: loops and comprehensions, as folds. -/
namespace Sep
open PySem L2
/-- a call's result, whatever becomes of the arguments -/
def Ret (o : Out Slot) (s : Slot) : Prop := ∃ fs, o = .ok s fs
theorem Ret.mk {s t : Slot} {fs : Sl} (h : s = t) : Ret (.ok s fs) t := ⟨fs, by rw [h]⟩
section
variable {α β : Type} {g : D → Sl → Option Sl} {b : SEv} {en : α → D}
theorem forL_fold {S : β → Sl → Prop} {f : β → α → β} : ∀ (xs : List α) (hs : ∀ a ∈ xs, ∀ acc ρ ds, S acc ρ → ∃ ρ', S (f acc a) ρ' ∧ forL g b (en a :: ds) ρ = forL g b ds ρ') (acc : β) (ρ : Sl), S acc ρ → ∃ ρ', S (xs.foldl f acc) ρ' ∧ forL g b (xs.map en) ρ = .ok .nx ρ'
  | [], hs, acc, ρ, h => ⟨ρ, h, rfl⟩
  | a :: xs, hs, acc, ρ, h => by
    obtain ⟨ρ1, h1, e1⟩ := hs a (by simp) acc ρ (xs.map en) h
    obtain ⟨ρ2, h2, e2⟩ := forL_fold xs (fun a ha => hs a (by simp [ha])) (f acc a) ρ1 h1
    exact ⟨ρ2, h2, by rw [List.map_cons, e1, e2]⟩
theorem forL_rem {S : List α → β → Sl → Prop} {f : β → α → β} (hs : ∀ a as acc ρ, S (a :: as) acc ρ → ∃ ρ', S as (f acc a) ρ' ∧ forL g b (en a :: as.map en) ρ = forL g b (as.map en) ρ') : ∀ (xs : List α) (acc : β) (ρ : Sl), S xs acc ρ → ∃ ρ', S [] (xs.foldl f acc) ρ' ∧ forL g b (xs.map en) ρ = .ok .nx ρ'
  | [], acc, ρ, h => ⟨ρ, h, rfl⟩
  | a :: xs, acc, ρ, h => by
    obtain ⟨ρ1, h1, e1⟩ := hs a xs acc ρ h
    obtain ⟨ρ2, h2, e2⟩ := forL_rem hs xs (f acc a) ρ1 h1
    exact ⟨ρ2, h2, by rw [List.map_cons, e1, e2]⟩
/-- the same, with what is made along the way not told -/
theorem forL_inv {S : List α → Sl → Prop} (hs : ∀ a as ρ, S (a :: as) ρ → ∃ ρ', S as ρ' ∧ forL g b (en a :: as.map en) ρ = forL g b (as.map en) ρ') : ∀ (xs : List α) (ρ : Sl), S xs ρ → ∃ ρ', S [] ρ' ∧ forL g b (xs.map en) ρ = .ok .nx ρ'
  | [], ρ, h => ⟨ρ, h, rfl⟩
  | a :: xs, ρ, h => by
    obtain ⟨ρ1, h1, e1⟩ := hs a xs ρ h
    obtain ⟨ρ2, h2, e2⟩ := forL_inv hs xs ρ1 h1
    exact ⟨ρ2, h2, by rw [List.map_cons, e1, e2]⟩
theorem forL_any {S : Sl → Prop} {c : α → Bool} {s : Slot} : ∀ (xs : List α) (hs : ∀ a ∈ xs, ∀ ρ ds, S ρ → (c a = true → ∃ ρ', forL g b (en a :: ds) ρ = .ok (.ret s) ρ' ∧ S ρ') ∧ (c a = false → ∃ ρ', S ρ' ∧ forL g b (en a :: ds) ρ = forL g b ds ρ')) (ρ : Sl), S ρ → (xs.any c = true → ∃ ρ', forL g b (xs.map en) ρ = .ok (.ret s) ρ' ∧ S ρ') ∧ (xs.any c = false → ∃ ρ', S ρ' ∧ forL g b (xs.map en) ρ = .ok .nx ρ')
  | [], hs, ρ, h => ⟨(fun e => by cases e), fun _ => ⟨ρ, h, rfl⟩⟩
  | a :: xs, hs, ρ, h => by
    obtain ⟨h1, h2⟩ := hs a (by simp) ρ (xs.map en) h
    cases q : c a with
    | true =>
      obtain ⟨ρ', e, k⟩ := h1 q
      refine ⟨fun _ => ⟨ρ', by rw [List.map_cons, e], k⟩, fun e => ?_⟩
      rw [List.any_cons, q] at e; cases e
    | false =>
      obtain ⟨ρ1, k, e⟩ := h2 q
      obtain ⟨i1, i2⟩ := forL_any xs (fun a ha => hs a (by simp [ha])) ρ1 k
      rw [List.map_cons, List.any_cons, q, Bool.false_or, e]
      exact ⟨i1, i2⟩
theorem compL_fm {vs : List Nat} {p : Sl → Out Bool} {e : Ev} {f : α → Option D} {ρ : Sl} : ∀ (xs : List α) (hs : ∀ a ∈ xs, ∀ ds acc, acc.length < LIM → compL vs g p e (en a :: ds) acc ρ = compL vs g p e ds (acc ++ (f a).toList) ρ) (acc : List D), acc.length + xs.length ≤ LIM → compL vs g p e (xs.map en) acc ρ = .ok (acc ++ xs.filterMap f) ρ
  | [], hs, acc, h => by rw [List.map_nil, List.filterMap_nil, List.append_nil]; unfold compL; rfl
  | a :: xs, hs, acc, h => by
    rw [List.length_cons] at h
    rw [List.map_cons, hs a (by simp) _ _ (by omega), compL_fm xs (fun a ha => hs a (by simp [ha])) _ (by
      have : (f a).toList.length ≤ 1 := by cases f a <;> simp
      rw [List.length_append]; omega), List.append_assoc]
    congr 2
    rw [List.filterMap_cons]
    cases f a <;> rfl
/-- a comprehension whose state moves along -/
theorem compL_st {vs : List Nat} {p : Sl → Out Bool} {e : Ev} {S : Sl → Prop} {P : D → Prop} : ∀ (xs : List α) (hs : ∀ a ∈ xs, ∀ ρ ds acc, S ρ → acc.length < LIM → ∃ d ρ', P d ∧ S ρ' ∧ compL vs g p e (en a :: ds) acc ρ = compL vs g p e ds (acc ++ [d]) ρ') (acc : List D) (ρ : Sl), S ρ → acc.length + xs.length ≤ LIM → ∃ ys ρ', (ys.length = xs.length ∧ ∀ d ∈ ys, P d) ∧ S ρ' ∧ compL vs g p e (xs.map en) acc ρ = .ok (acc ++ ys) ρ'
  | [], hs, acc, ρ, h, hl => ⟨[], ρ, ⟨rfl, fun _ h => by cases h⟩, h, by rw [List.append_nil, List.map_nil]; unfold compL; rfl⟩
  | a :: xs, hs, acc, ρ, h, hl => by
    rw [List.length_cons] at hl
    obtain ⟨d, ρ1, h1, h2, e1⟩ := hs a (by simp) ρ (xs.map en) acc h (by omega)
    obtain ⟨ys, ρ2, h3, h4, e2⟩ := compL_st xs (fun a ha => hs a (by simp [ha])) (acc ++ [d]) ρ1 h2 (by rw [List.length_append, List.length_singleton]; omega)
    exact ⟨d :: ys, ρ2, ⟨by rw [List.length_cons, List.length_cons, h3.1], fun z hz => by
      rcases List.mem_cons.mp hz with rfl | hz
      · exact h1
      · exact h3.2 z hz⟩, h4, by rw [List.map_cons, e1, e2, List.append_assoc]; rfl⟩
end
theorem rngD0 (n : Nat) : rngD 0 n = (List.range' 0 n).map fun (i : Nat) => D.int i := rngD_nat 0 n
theorem rngD1 (n : Nat) : rngD 1 n = (List.range' 1 n).map fun (i : Nat) => D.int i := rngD_nat 1 n
theorem mem_isort {x : Int} {xs : List Int} : x ∈ isort xs ↔ x ∈ xs := (isort_perm xs).mem_iff
theorem len_isort (xs : List Int) : (isort xs).length = xs.length := (isort_perm xs).length_eq
end Sep
namespace Sep
open PySem L2
theorem ev8 : (∀ s ss, Sep.frs (s :: ss) = kLk s.fr (Sep.frs ss)) ∧ (∀ n i, plainN n (.int i) = true) ∧ (∀ n i, plainN n (.bl i) = true) ∧ (∀ n, plainN n .non = true) ∧ (∀ n ds, plainN (n + 1) (.tup ds) = (decide (ds.length < 2 ^ 62) && ds.all (plainN n))) ∧ (∀ n ds, plainN (n + 1) (.lst ds) = (decide (ds.length < 2 ^ 62) && ds.all (plainN n))) := by
  refine ⟨fun s ss => ?_, fun n i => ?_, fun n i => ?_, fun n => ?_, fun n ds => ?_, fun n ds => ?_⟩
  · conv => lhs; unfold Sep.frs
    cases s.fr <;> cases Sep.frs ss <;> rfl
  · cases n <;> simp [plainN]
  · cases n <;> simp [plainN]
  · cases n <;> simp [plainN]
  · simp only [plainN]
  · simp only [plainN]
def kA2f (o : Out D) : Out R := o.bind fun _ ρ3 => .ok (.v (.sh .non)) ρ3
def kA2e (o : Out R) : Out R := o.bind fun r2 ρ2 => kA2f (cons r2 ρ2)
def kA2d (i : Nat) (fb : Ev) (ρ1 : Sl) (ss : List Slot) : Option (Nat × Slot) → Out R
  | some (j, .lst ss2) => if ss2.length < LIM then kA2e (fb (ρ1.set i (.lst (ss.set j .no)))) else .stuck
  | _ => .stuck
def kPick2 (ss : List Slot) : Option Nat → Option (Nat × Slot)
  | some j => (ss[j]?).map fun s => (j, s)
  | none => none
def kPick (ss : List Slot) (k : Int) : Option (Nat × Slot) := kPick2 ss (ixN ss.length k)
def kA2c (i : Nat) (fb : Ev) (ρ1 : Sl) : Option D → Option Slot → Out R
  | some (.int k), some (.lst ss) => kA2d i fb ρ1 ss (kPick ss k)
  | _, _ => .stuck
def kA2b (i : Nat) (fb : Ev) (o : Out R) : Out R := o.bind fun r1 ρ1 => kA2c i fb ρ1 (look r1 ρ1) (ρ1[i]?)
def kA2 (i : Nat) (fk fb : Ev) (ρ : Sl) : Option Slot → Out R
  | some (.lst _) => kA2b i fb (fk ρ)
  | _ => .stuck
theorem ev9 :
    (∀ i fk fb ρ, eApp2 i fk fb ρ = kA2 i fk fb ρ (ρ[i]?)) ∧
    (∀ i fk fb ρ ss, kA2 i fk fb ρ (some (.lst ss)) = kA2b i fb (fk ρ)) ∧
    (∀ i fb r ρ, kA2b i fb (.ok r ρ) = kA2c i fb ρ (look r ρ) (ρ[i]?)) ∧
    (∀ i fb ρ k ss, kA2c i fb ρ (some (.int k)) (some (.lst ss)) = kA2d i fb ρ ss (kPick ss k)) ∧
    (∀ ss k, kPick ss k = kPick2 ss (ixN ss.length k)) ∧
    (∀ ss j, kPick2 ss (some j) = (ss[j]?).map fun s => (j, s)) ∧
    (∀ i fb ρ ss j ss2, kA2d i fb ρ ss (some (j, .lst ss2)) = if ss2.length < LIM then kA2e (fb (ρ.set i (.lst (ss.set j .no)))) else .stuck) ∧
    (∀ r ρ, kA2e (.ok r ρ) = kA2f (cons r ρ)) ∧
    (∀ d ρ, kA2f (.ok d ρ) = .ok (.v (.sh .non)) ρ) := by
  refine ⟨fun i fk fb ρ => ?_, fun _ _ _ _ _ => rfl, fun _ _ _ _ => rfl, fun _ _ _ _ _ => rfl, fun _ _ => rfl, fun _ _ => rfl, fun _ _ _ _ _ _ => rfl, fun _ _ => rfl, fun _ _ => rfl⟩
  unfold eApp2
  cases h : ρ[i]? with
  | none => rfl
  | some s =>
    cases s with
    | lst ss =>
      show Out.bind (fk ρ) _ = Out.bind (fk ρ) _
      congr 1
      funext r1 ρ1
      unfold kA2c
      cases look r1 ρ1 with
      | none => rfl
      | some d =>
        cases d with
        | int k =>
          cases ρ1[i]? with
          | none => rfl
          | some s =>
            cases s with
            | lst ss =>
              show (match (ixN ss.length k).bind fun j => (ss[j]?).map fun s => (j, s) with
                | some (j, .lst ss2) => _
                | _ => _) = kA2d i fb ρ1 ss (kPick2 ss (ixN ss.length k))
              have : ((ixN ss.length k).bind fun j => (ss[j]?).map fun s => (j, s)) = kPick2 ss (ixN ss.length k) := by cases ixN ss.length k <;> rfl
              rw [this]
              unfold kA2d kA2e kA2f
              rfl
            | _ => rfl
        | _ => rfl
    | _ => rfl
def kFz2 (o : Out D) : Out R := o.bind fun d ρ2 => .ok (.v (.sh d)) ρ2
def kFz (o : Out R) : Out R := o.bind fun r ρ1 => kFz2 (cons r ρ1)
theorem ev10 : (∀ f ρ, eFz f ρ = kFz (f ρ)) ∧ (∀ r ρ, kFz (.ok r ρ) = kFz2 (cons r ρ)) ∧ (∀ d ρ, kFz2 (.ok d ρ) = .ok (.v (.sh d)) ρ) := ⟨fun _ _ => rfl, fun _ _ => rfl, fun _ _ => rfl⟩
theorem str_eq (a b : Str) (k : Bool) (ha : PyData.canLay0 (.str a) = true) (hb : PyData.canLay0 (.str b) = true) (h : (a == b) = k) : gEq (.str a) (.str b) = some (.sh (.bl k)) := by rw [eq_str ha b hb, h]
theorem plain_lst {ds : List D} {n : Nat} (h : ds.length < 2 ^ 62) (k : ∀ d ∈ ds, plainN n d = true) : plainN (n + 1) (.lst ds) = true := by
  rw [ev8.2.2.2.2.2, Bool.and_eq_true]
  exact ⟨decide_eq_true h, List.all_eq_true.mpr k⟩
theorem plain_tup {ds : List D} {n : Nat} (h : ds.length < 2 ^ 62) (k : ∀ d ∈ ds, plainN n d = true) : plainN (n + 1) (.tup ds) = true := by
  rw [ev8.2.2.2.2.1, Bool.and_eq_true]
  exact ⟨decide_eq_true h, List.all_eq_true.mpr k⟩
end Sep
namespace Lw
open PySem L2 Sep
/-- a box in order -/
structure BOK (ns : List Int) (s : Slot) : Prop where
  ex : ∃ p v n w, s = Bx ns p v n w ∧ Bok p v n w
theorem BOK.start (ns : List Int) : BOK ns (Bx ns 0 0 0 0) := ⟨0, 0, 0, 0, rfl, ⟨by decide, by decide, by decide, by decide, .inr ⟨rfl, by decide⟩⟩⟩
theorem BOK.var {ns : List Int} {s : Slot} (h : BOK ns s) (i : Nat) (ρ : Sl) : kVar i ρ (some s) = .ok (.r i) ρ := by
  obtain ⟨p, v, n, w, e, _⟩ := h.ex
  subst e; rfl
theorem BOK.draw {ns : List Int} {s : Slot} (h : BOK ns s) (size : Int) (hs : 0 < size) (hl : size.natAbs.log2 < 9000) : ∃ z s', F__law_draw [s, .sh (.int size)] = .ok (.sh (.int z)) [s', .sh (.int size)] ∧ 0 ≤ z ∧ z < size ∧ BOK ns s' := by
  obtain ⟨p, v, n, w, e, b⟩ := h.ex
  subst e
  obtain ⟨z, p', v', n', w', e, z0, z1, b'⟩ := draw_ok (ns := ns) b hs hl
  exact ⟨z, _, e, z0, z1, p', v', n', w', rfl, b'⟩
end Lw

namespace Lw
open PySem L2 Sep LwA
def fx__law_number : FX := fun i => match i with | 0 => true | _ => false
def F__law_number : FnD := fnOf 2 1 fx__law_number (sSeq (sSetF 1 (eCallN 2 F__law_draw (aCons (eVar 0) (aCons (eC (.int 5)) aNil))))
  (sSeq (sIf (tOfE (eOp gLt (eVar 1) (eC (.int 2))))
  (sRetM (eOp gSubt (eCallN 2 F__law_draw (aCons (eVar 0) (aCons (eC (.int 13)) aNil))) (eC (.int 6))))
  sNil)
  (sSeq (sIf (tOfE (eOp gEq (eVar 1) (eC (.int 2))))
  (sRetM (eOp gSubt (eCallN 2 F__law_draw (aCons (eVar 0) (aCons (eC (.int 2001)) aNil))) (eC (.int 1000))))
  sNil)
  (sSeq (sIf (tOfE (eOp gEq (eVar 1) (eC (.int 3))))
  (sRetM (eOp gSubt (eCallN 2 F__law_draw (aCons (eVar 0) (aCons (eFz (eOp gAdd (eOp gMul (eC (.int 2)) (eOp gPow (eC (.int 10)) (eC (.int 12)))) (eC (.int 1)))) aNil))) (eOp gPow (eC (.int 10)) (eC (.int 12)))))
  sNil)
  (sRetM (eOp gSubt (eCallN 2 F__law_draw (aCons (eVar 0) (aCons (eFz (eOp gAdd (eOp gMul (eC (.int 2)) (eOp gPow (eC (.int 10)) (eC (.int 30)))) (eC (.int 1)))) aNil))) (eOp gPow (eC (.int 10)) (eC (.int 30)))))))))
def fx__law_spans : FX := fun i => match i with | 0 => true | 1 => true | 2 => true | _ => false
def B__law_spans_1 : SEv := (sIf (tOfE (eOp gEq (eVar 4) (eC (.int 2))))
  (sSetF 6 (eCallN 1 F__law_number (aCons (eVar 0) aNil)))
  sNil)
def B__law_spans_2 : SEv := (sIf (tOfE (eOp gEq (eVar 7) (eC (.int 8))))
  (sSetF 7 (eCallN 2 F__law_draw (aCons (eVar 0) (aCons (eOp gPow (eC (.int 10)) (eC (.int 30))) aNil))))
  sNil)
def B__law_spans_3 : SEv := (sIf (eAnd (tOfE (eOp gNe (eVar 8) (eLst aNil))) (tOfE (eOp gGt (eVar 9) (eC (.int 2)))))
  (sSeq (sSetF 10 (eOp gIx (eVar 8) (eCallN 2 F__law_draw (aCons (eVar 0) (aCons (eFz (eCB (g1 gLen) (aCons (eVar 8) aNil))) aNil)))))
  (sSetF 6 (eOp gIx (eLst (aCons (eOp gAdd (eOp gIx (eVar 10) (eC (.int 1))) (eC (.int 1))) (aCons (eOp gSubt (eOp gSubt (eOp gIx (eVar 10) (eC (.int 0))) (eC (.int 1))) (eVar 7)) (aCons (eOp gIx (eVar 10) (eC (.int 0))) aNil)))) (eOp gSubt (eVar 9) (eC (.int 3))))))
  sNil)
def B__law_spans_4 : SEv := (sSeq (sSetF 6 (eOp gSubt (eCallN 2 F__law_draw (aCons (eVar 0) (aCons (eC (.int 31)) aNil))) (eC (.int 15))))
  (sSeq B__law_spans_1
  (sSeq (sSetF 7 (eCallN 2 F__law_draw (aCons (eVar 0) (aCons (eC (.int 9)) aNil))))
  (sSeq B__law_spans_2
  (sSeq (sSetF 8 (eOp gAdd (eVar 2) (eVar 3)))
  (sSeq (sSetF 9 (eCallN 2 F__law_draw (aCons (eVar 0) (aCons (eC (.int 6)) aNil))))
  (sSeq B__law_spans_3
  (sExpr (eApp (eVar 3) (eTup (aCons (eVar 6) (aCons (eOp gAdd (eVar 6) (eVar 7)) aNil))))))))))))
def F__law_spans : FnD := fnOf 11 3 fx__law_spans (sSeq (sSet 3 (eLst aNil))
  (sSeq (sSetF 4 (eCallN 2 F__law_draw (aCons (eVar 0) (aCons (eC (.int 3)) aNil))))
  (sSeq (sFor (iRange1 (eCallN 2 F__law_draw (aCons (eVar 0) (aCons (eFz (eOp gAdd (eVar 1) (eC (.int 1)))) aNil)))) (kName 5)
  B__law_spans_4)
  (sRetM (eVar 3)))))
def fx__law_has : FX := fun i => match i with | 0 => true | 1 => true | _ => false
def B__law_has_1 : SEv := (sIf (tOfE (eChain gLe gLe (eVar 2) (eVar 1) (eVar 3)))
  (sRetM (eC (.bl true)))
  sNil)
def F__law_has : FnD := fnOf 4 2 fx__law_has (sSeq (sFor (iSeq (eVar 0)) (kTup 2 (kCons (kName 2) (kCons (kName 3) kNil)))
  B__law_has_1)
  (sRetM (eC (.bl false))))
def fx__law_starts : FX := fun i => match i with | 0 => true | _ => false
def B__law_starts_1 : SEv := (sSetF 1 (eOp gAdd (eVar 1) (eLst (aCons (eVar 2) (aCons (eOp gAdd (eVar 3) (eC (.int 1))) aNil)))))
def F__law_starts : FnD := fnOf 4 1 fx__law_starts (sSeq (sSetF 1 (eLst aNil))
  (sSeq (sFor (iSeq (eVar 0)) (kTup 2 (kCons (kName 2) (kCons (kName 3) kNil)))
  B__law_starts_1)
  (sRetM (eVar 1))))
def fx__law_parts : FX := fun i => match i with | 0 => true | 1 => true | 2 => true | _ => false
def B__law_parts_1 : SEv := (sSeq (sSetF 6 (eOp gIx (eVar 3) (eVar 5)))
  (sSeq (sSetF 7 (eOp gSubt (eOp gIx (eVar 3) (eOp gAdd (eVar 5) (eC (.int 1)))) (eC (.int 1))))
  (sSeq (sSetF 8 (eCallF 2 F__law_has (aCons (eVar 0) (aCons (eVar 6) aNil))))
  (sSeq (sSetF 9 (eCallF 2 F__law_has (aCons (eVar 1) (aCons (eVar 6) aNil))))
  (sSeq (sIf (tOfE (eOp gEq (eVar 2) (eC (.str "joined"))))
  (sSetF 8 (eOrV (eVar 8) (eVar 9)))
  (sIf (tOfE (eOp gEq (eVar 2) (eC (.str "common"))))
  (sSetF 8 (eAndV (eVar 8) (eVar 9)))
  (sSetF 8 (eAndV (eVar 8) (eNotV (eVar 9))))))
  (sIf (eAnd (eTru (eVar 8)) (tOfE (eOp gLe (eVar 6) (eVar 7))))
  (sIf (eAnd (tOfE (eOp gNe (eVar 4) (eLst aNil))) (tOfE (eOp gEq (eOp gAdd (eOp gIx (eOp gIx (eVar 4) (eUn gNeg (eC (.int 1)))) (eC (.int 1))) (eC (.int 1))) (eVar 6))))
  (sAsg (kSub (eVar 4) (eUn gNeg (eC (.int 1)))) (eTup (aCons (eOp gIx (eOp gIx (eVar 4) (eUn gNeg (eC (.int 1)))) (eC (.int 0))) (aCons (eVar 7) aNil))))
  (sExpr (eApp (eVar 4) (eTup (aCons (eVar 6) (aCons (eVar 7) aNil))))))
  sNil))))))
def F__law_parts : FnD := fnOf 11 3 fx__law_parts (sSeq (sSetF 3 (eCB (g1 gSorted) (aCons (eComp [10] (iSeq (eOp gAdd (eCallF 1 F__law_starts (aCons (eVar 0) aNil)) (eCallF 1 F__law_starts (aCons (eVar 1) aNil)))) (kName 10) pYes (eCB (g1 gToInt) (aCons (eVar 10) aNil))) aNil)))
  (sSeq (sSet 4 (eLst aNil))
  (sSeq (sFor (iRange1 (eOp gSubt (eCB (g1 gLen) (aCons (eVar 3) aNil)) (eC (.int 1)))) (kName 5)
  B__law_parts_1)
  (sRetM (eVar 4)))))
def fx__check : FX := fun i => match i with | 0 => true | _ => false
def B__check_1 : SEv := (sIf (tOfE (eOp gGt (eVar 1) (eVar 2)))
  sStuck
  sNil)
def F__check : FnD := fnOf 3 1 fx__check (sFor (iSeq (eVar 0)) (kTup 2 (kCons (kName 1) (kCons (kName 2) kNil)))
  B__check_1)
def fx__merged : FX := fun i => match i with | 0 => true | _ => false
def B__merged_1 : SEv := (sSeq (sSetF 1 (eCB (g2 (gM2 mn)) (aCons (eCB (g1 gToInt) (aCons (eVar 1) aNil)) (aCons (eVar 5) aNil))))
  (sSetF 2 (eCB (g2 (gM2 mx)) (aCons (eCB (g1 gToInt) (aCons (eVar 2) aNil)) (aCons (eVar 6) aNil)))))
def F__merged : FnD := fnOf 8 3 fx__merged (sSeq (sSetF 3 (eComp [7] (iSeq (eVar 0)) (kName 7) (tOfE (eOp gLt (eOp gAdd (eOp gIx (eVar 7) (eC (.int 1))) (eC (.int 1))) (eVar 1))) (eVar 7)))
  (sSeq (sSetF 4 (eComp [7] (iSeq (eVar 0)) (kName 7) (tOfE (eOp gGt (eOp gIx (eVar 7) (eC (.int 0))) (eOp gAdd (eVar 2) (eC (.int 1))))) (eVar 7)))
  (sSeq (sFor (iSeq (eSl (eVar 0) (oSome (eCB (g1 gLen) (aCons (eVar 3) aNil))) (oSome (eOp gSubt (eCB (g1 gLen) (aCons (eVar 0) aNil)) (eCB (g1 gLen) (aCons (eVar 4) aNil)))))) (kTup 2 (kCons (kName 5) (kCons (kName 6) kNil)))
  B__merged_1)
  (sRetM (eOp gAdd (eOp gAdd (eVar 3) (eLst (aCons (eTup (aCons (eVar 1) (aCons (eVar 2) aNil))) aNil))) (eVar 4))))))
def fx_tidy : FX := fun i => match i with | 0 => true | _ => false
def B_tidy_1 : SEv := (sSet 1 (eCallF 3 F__merged (aCons (eVar 1) (aCons (eVar 2) (aCons (eVar 3) aNil)))))
def F_tidy : FnD := fnOf 4 1 fx_tidy (sSeq (sExpr (eCallF 1 F__check (aCons (eVar 0) aNil)))
  (sSeq (sSet 1 (eLst aNil))
  (sSeq (sFor (iSeq (eVar 0)) (kTup 2 (kCons (kName 2) (kCons (kName 3) kNil)))
  B_tidy_1)
  (sRetM (eVar 1)))))
def fx_joined : FX := fun i => match i with | 0 => true | 1 => true | _ => false
def F_joined : FnD := fnOf 2 2 fx_joined (sSeq (sExpr (eCallF 1 F__check (aCons (eVar 0) aNil)))
  (sRetM (eCallF 1 F_tidy (aCons (eOp gAdd (eCB (g1 gToL) (aCons (eVar 0) aNil)) (eCallF 1 F_tidy (aCons (eVar 1) aNil))) aNil))))
def fx__cut : FX := fun i => match i with | 0 => true | 1 => true | 2 => true | _ => false
def B__cut_1 : SEv := (sSeq (sIf (eOr (tOfE (eOp gLt (eVar 5) (eVar 1))) (tOfE (eOp gGt (eVar 4) (eVar 2))))
  (sSeq (sExpr (eApp (eVar 3) (eTup (aCons (eVar 4) (aCons (eVar 5) aNil)))))
  sCt)
  sNil)
  (sSeq (sIf (tOfE (eOp gLt (eVar 4) (eVar 1)))
  (sExpr (eApp (eVar 3) (eTup (aCons (eVar 4) (aCons (eOp gSubt (eVar 1) (eC (.int 1))) aNil)))))
  sNil)
  (sIf (tOfE (eOp gGt (eVar 5) (eVar 2)))
  (sExpr (eApp (eVar 3) (eTup (aCons (eOp gAdd (eVar 2) (eC (.int 1))) (aCons (eVar 5) aNil)))))
  sNil)))
def F__cut : FnD := fnOf 6 3 fx__cut (sSeq (sSet 3 (eLst aNil))
  (sSeq (sFor (iSeq (eVar 0)) (kTup 2 (kCons (kName 4) (kCons (kName 5) kNil)))
  B__cut_1)
  (sRetM (eVar 3))))
def fx_without : FX := fun i => match i with | 0 => true | 1 => true | _ => false
def B_without_1 : SEv := (sSet 2 (eCallF 3 F__cut (aCons (eVar 2) (aCons (eVar 3) (aCons (eVar 4) aNil)))))
def F_without : FnD := fnOf 5 2 fx_without (sSeq (sSet 2 (eCallF 1 F_tidy (aCons (eVar 0) aNil)))
  (sSeq (sFor (iSeq (eCallF 1 F_tidy (aCons (eVar 1) aNil))) (kTup 2 (kCons (kName 3) (kCons (kName 4) kNil)))
  B_without_1)
  (sRetM (eVar 2))))
def fx_common : FX := fun i => match i with | 0 => true | 1 => true | _ => false
def F_common : FnD := fnOf 3 2 fx_common (sSeq (sSetF 2 (eCallF 1 F_tidy (aCons (eVar 0) aNil)))
  (sRetM (eCallF 2 F_without (aCons (eVar 2) (aCons (eCallF 2 F_without (aCons (eVar 2) (aCons (eVar 1) aNil))) aNil)))))
def fx__law_answers : FX := fun i => match i with | 0 => true | 1 => true | _ => false
def F__law_answers : FnD := fnOf 2 2 fx__law_answers (sRetM (eLstO (aCons (eCallF 2 F_joined (aCons (eVar 0) (aCons (eVar 1) aNil))) (aCons (eCallF 2 F_common (aCons (eVar 0) (aCons (eVar 1) aNil))) (aCons (eCallF 2 F_without (aCons (eVar 0) (aCons (eVar 1) aNil))) aNil)))))
def fx_holds : FX := fun i => match i with | 0 => true | 1 => true | _ => false
def F_holds : FnD := fnOf 4 2 fx_holds (sRetM (eCB (g1 gAny) (aCons (eComp [2, 3] (iSeq (eCallF 1 F_tidy (aCons (eVar 0) aNil))) (kTup 2 (kCons (kName 2) (kCons (kName 3) kNil))) pYes (eChain gLe gLe (eVar 2) (eVar 1) (eVar 3))) aNil)))
def fx_law : FX := fun i => match i with | 0 => true | _ => false
def B_law_1 : SEv := (sExpr (eApp2 9 (eVar 10) (eTup (aCons (eVar 6) (aCons (eC (.int 3)) aNil)))))
def B_law_2 : SEv := (sSeq (sSet 9 (eCallF 2 F__law_answers (aCons (eOp gIx (eVar 4) (eC (.int 0))) (aCons (eOp gIx (eVar 4) (eC (.int 1))) aNil))))
  (sSeq (sIf (eOr (eNot (eTru (eCallV 2 (F__law_same 6) (aCons (eVar 9) (aCons (eVar 5) aNil))))) (eNot (eTru (eCallF 2 (F__law_same 6) (aCons (eVar 4) (aCons (eLst (aCons (eVar 2) (aCons (eVar 3) aNil))) aNil))))))
  (sRetM (eC (.bl false)))
  sNil)
  (sFor (iRange1 (eC (.int 3))) (kName 10)
  B_law_1)))
def B_law_3 : SEv := (sSetF 7 (eOp gAdd (eVar 7) (eLst (aCons (eOp gSubt (eVar 11) (eC (.int 1))) (aCons (eVar 11) (aCons (eVar 12) (aCons (eOp gAdd (eVar 12) (eC (.int 1))) aNil)))))))
def B_law_4 : SEv := (sSeq (sSetF 13 (eCallF 2 F__law_has (aCons (eVar 2) (aCons (eVar 8) aNil))))
  (sSeq (sSetF 14 (eCallF 2 F__law_has (aCons (eVar 3) (aCons (eVar 8) aNil))))
  (sSeq (sIf (eOr (eNot (eTru (eCallF 2 (F__law_same 6) (aCons (eCallF 2 F_holds (aCons (eOp gIx (eVar 4) (eC (.int 0))) (aCons (eVar 8) aNil))) (aCons (eVar 13) aNil))))) (eNot (eTru (eCallF 2 (F__law_same 6) (aCons (eCallF 2 F_holds (aCons (eOp gIx (eVar 4) (eC (.int 1))) (aCons (eVar 8) aNil))) (aCons (eVar 14) aNil))))))
  (sRetM (eC (.bl false)))
  sNil)
  (sIf (eNot (eTru (eCallF 2 (F__law_same 6) (aCons (eLst (aCons (eCallF 2 F_holds (aCons (eCB (g1 gToL) (aCons (eOp gIx (eVar 5) (eC (.int 0))) aNil)) (aCons (eVar 8) aNil))) (aCons (eCallF 2 F_holds (aCons (eCB (g1 gToT) (aCons (eVar 2) aNil)) (aCons (eVar 8) aNil))) aNil))) (aCons (eLst (aCons (eOrV (eVar 13) (eVar 14)) (aCons (eVar 13) aNil))) aNil)))))
  (sRetM (eC (.bl false)))
  sNil))))
def F_law : FnD := fnOf 16 1 fx_law (sSeq (sSet 1 (eCallF 1 F__law_box (aCons (eVar 0) aNil)))
  (sSeq (sSetF 2 (eCallN 3 F__law_spans (aCons (eVar 1) (aCons (eC (.int 5)) (aCons (eFz (eLst aNil)) aNil)))))
  (sSeq (sSetF 3 (eCallN 3 F__law_spans (aCons (eVar 1) (aCons (eC (.int 5)) (aCons (eVar 2) aNil)))))
  (sSeq (sSetF 4 (eLst (aCons (eCB (g1 gToL) (aCons (eVar 2) aNil)) (aCons (eCB (g1 gToL) (aCons (eVar 3) aNil)) aNil))))
  (sSeq (sSetF 5 (eComp [15] (iSeq (eLst (aCons (eC (.str "joined")) (aCons (eC (.str "common")) (aCons (eC (.str "without")) aNil))))) (kName 15) pYes (eCallF 3 F__law_parts (aCons (eVar 2) (aCons (eVar 3) (aCons (eVar 15) aNil))))))
  (sSeq (sFor (iRange1 (eC (.int 2))) (kName 6)
  B_law_2)
  (sSeq (sIf (eNot (eTru (eCallF 2 (F__law_same 6) (aCons (eCallF 2 F__law_answers (aCons (eCB (g1 gToT) (aCons (eVar 2) aNil)) (aCons (eCB (g1 gToT) (aCons (eVar 3) aNil)) aNil))) (aCons (eVar 5) aNil)))))
  (sRetM (eC (.bl false)))
  sNil)
  (sSeq (sSetF 7 (eLst (aCons (eCallN 1 F__law_number (aCons (eVar 1) aNil)) aNil)))
  (sSeq (sFor (iSeq (eOp gAdd (eVar 2) (eVar 3))) (kTup 2 (kCons (kName 11) (kCons (kName 12) kNil)))
  B_law_3)
  (sSeq (sFor (iSeq (eVar 7)) (kName 8)
  B_law_4)
  (sRetM (eCallF 2 (F__law_same 6) (aCons (eVar 4) (aCons (eLst (aCons (eVar 2) (aCons (eVar 3) aNil))) aNil))))))))))))))
end Lw

/-! spans as plain data -/
namespace Spn
abbrev SpL := List (Int × Int)
abbrev Gap (p q : Int × Int) : Prop := p.2 + 1 < q.1
structure Can (s : SpL) : Prop where
  v : ∀ p ∈ s, p.1 ≤ p.2
  g : s.Pairwise Gap
def Val (s : SpL) : Prop := ∀ p ∈ s, p.1 ≤ p.2
def Mem (s : SpL) (x : Int) : Prop := ∃ p ∈ s, p.1 ≤ x ∧ x ≤ p.2
theorem Mem.nil (x : Int) : Mem [] x ↔ False := by simp [Mem]
theorem Mem.cons (p : Int × Int) (s : SpL) (x : Int) : Mem (p :: s) x ↔ (p.1 ≤ x ∧ x ≤ p.2) ∨ Mem s x := by simp [Mem]
theorem Mem.app (s t : SpL) (x : Int) : Mem (s ++ t) x ↔ Mem s x ∨ Mem t x := by simp [Mem, or_and_right, exists_or]
theorem Can.tail {p : Int × Int} {s : SpL} (h : Can (p :: s)) : Can s := ⟨fun q hq => h.v q (List.mem_cons_of_mem _ hq), (List.pairwise_cons.mp h.g).2⟩
theorem Can.head {p : Int × Int} {s : SpL} (h : Can (p :: s)) : p.1 ≤ p.2 := h.v p (by simp)
theorem Can.lt {p : Int × Int} {s : SpL} (h : Can (p :: s)) {x : Int} (m : Mem s x) : p.2 + 1 < x := by
  obtain ⟨q, hq, h1, h2⟩ := m
  have := (List.pairwise_cons.mp h.g).1 q hq
  show p.2 + 1 < x
  have : p.2 + 1 < q.1 := this
  omega
theorem Can.nil : Can [] := ⟨by simp, .nil⟩
theorem can_unique : ∀ {s t : SpL}, Can s → Can t → (∀ x, Mem s x ↔ Mem t x) → s = t
  | [], [], _, _, _ => rfl
  | [], q :: t, _, b, h => by
    have := (h q.1).mpr ((Mem.cons ..).mpr (.inl ⟨Int.le_refl _, b.head⟩))
    simp [Mem] at this
  | p :: s, [], a, _, h => by
    have := (h p.1).mp ((Mem.cons ..).mpr (.inl ⟨Int.le_refl _, a.head⟩))
    simp [Mem] at this
  | p :: s, q :: t, a, b, h => by
    have ha := a.head
    have hb := b.head
    have e1 : p.1 = q.1 := by
      have h1 := (Mem.cons ..).mp ((h p.1).mp ((Mem.cons ..).mpr (.inl ⟨Int.le_refl _, a.head⟩)))
      have h2 := (Mem.cons ..).mp ((h q.1).mpr ((Mem.cons ..).mpr (.inl ⟨Int.le_refl _, b.head⟩)))
      rcases h1 with h1 | h1 <;> rcases h2 with h2 | h2
      · omega
      · have := a.lt h2; omega
      · have := b.lt h1; omega
      · have := b.lt h1; have := a.lt h2; omega
    have e2 : p.2 = q.2 := by
      rcases Int.lt_trichotomy p.2 q.2 with c | c | c
      · have h2 := (Mem.cons ..).mp ((h (p.2 + 1)).mpr ((Mem.cons ..).mpr (.inl ⟨by omega, by omega⟩)))
        rcases h2 with h2 | h2
        · omega
        · have := a.lt h2; omega
      · exact c
      · have h2 := (Mem.cons ..).mp ((h (q.2 + 1)).mp ((Mem.cons ..).mpr (.inl ⟨by omega, by omega⟩)))
        rcases h2 with h2 | h2
        · omega
        · have := b.lt h2; omega
    have e : p = q := Prod.ext e1 e2
    subst e
    congr 1
    refine can_unique a.tail b.tail fun x => ⟨fun m => ?_, fun m => ?_⟩
    · rcases (Mem.cons ..).mp ((h x).mp ((Mem.cons ..).mpr (.inr m))) with h1 | h1
      · have := a.lt m; omega
      · exact h1
    · rcases (Mem.cons ..).mp ((h x).mpr ((Mem.cons ..).mpr (.inr m))) with h1 | h1
      · have := b.lt m; omega
      · exact h1
/-! the merge -/
def ahead (s : SpL) (lo : Int) : SpL := s.filter fun p => decide (p.2 + 1 < lo)
def behind (s : SpL) (hi : Int) : SpL := s.filter fun p => decide (hi + 1 < p.1)
def middle (s : SpL) (lo hi : Int) : SpL := s.filter fun p => !decide (p.2 + 1 < lo) && !decide (hi + 1 < p.1)
def los (lo : Int) (m : SpL) : Int := m.foldl (fun l p => if p.1 < l then p.1 else l) lo
def his (hi : Int) (m : SpL) : Int := m.foldl (fun h p => if p.2 > h then p.2 else h) hi
def merged (s : SpL) (lo hi : Int) : SpL := ahead s lo ++ [(los lo (middle s lo hi), his hi (middle s lo hi))] ++ behind s hi
theorem split3 {lo hi : Int} (hl : lo ≤ hi) : ∀ {s : SpL}, Can s → s = ahead s lo ++ (middle s lo hi ++ behind s hi)
  | [], _ => rfl
  | p :: s, h => by
    have ih := split3 hl h.tail
    have hp := h.head
    have hg := (List.pairwise_cons.mp h.g).1
    by_cases a : p.2 + 1 < lo
    · have b : ¬ hi + 1 < p.1 := by omega
      simp only [ahead, middle, behind, List.filter_cons, a, b, decide_true, decide_false, Bool.not_true, Bool.not_false, Bool.false_and, Bool.and_true, ↓reduceIte, List.cons_append, Bool.false_eq_true]
      congr 1
    · have a0 : ahead s lo = [] := by
        unfold ahead
        rw [List.filter_eq_nil_iff]
        intro q hq
        have : p.2 + 1 < q.1 := hg q hq
        have := h.v q (List.mem_cons_of_mem _ hq)
        simp only [decide_eq_true_eq]; omega
      by_cases b : hi + 1 < p.1
      · have b1 : behind s hi = s := by
          unfold behind
          rw [List.filter_eq_self]
          intro q hq
          have : p.2 + 1 < q.1 := hg q hq
          simp only [decide_eq_true_eq]; omega
        have m0 : middle s lo hi = [] := by
          unfold middle
          rw [List.filter_eq_nil_iff]
          intro q hq
          have : p.2 + 1 < q.1 := hg q hq
          have : hi + 1 < q.1 := by omega
          simp [this]
        unfold ahead at a0; unfold behind at b1; unfold middle at m0
        simp only [ahead, middle, behind, List.filter_cons, a, b, decide_true, decide_false, Bool.not_true, Bool.not_false, Bool.and_false, ↓reduceIte, a0, b1, m0, List.nil_append, Bool.false_eq_true]
      · rw [a0] at ih
        unfold ahead at a0
        simp only [ahead, middle, behind, List.filter_cons, a, b, decide_false, Bool.not_false, Bool.and_true, ↓reduceIte, a0, List.nil_append, List.cons_append, Bool.false_eq_true]
        congr 1
theorem fold_spec : ∀ (m : SpL) (lo hi : Int), lo ≤ hi → (∀ p ∈ m, p.1 ≤ p.2 ∧ lo ≤ p.2 + 1 ∧ p.1 ≤ hi + 1) → los lo m ≤ lo ∧ hi ≤ his hi m ∧ (∀ p ∈ m, los lo m ≤ p.1 ∧ p.2 ≤ his hi m) ∧ (∀ z, z ≤ lo → (∀ p ∈ m, z ≤ p.1) → z ≤ los lo m) ∧ (∀ z, hi ≤ z → (∀ p ∈ m, p.2 ≤ z) → his hi m ≤ z) ∧ ∀ x, (los lo m ≤ x ∧ x ≤ his hi m) ↔ (lo ≤ x ∧ x ≤ hi) ∨ Mem m x
  | [], lo, hi, h, _ => ⟨Int.le_refl _, Int.le_refl _, by simp, fun z h _ => h, fun z h _ => h, fun x => by simp [los, his, Mem]⟩
  | p :: m, lo, hi, h, hm => by
    obtain ⟨p1, p2, p3⟩ := hm p (by simp)
    have e1 : los lo (p :: m) = los (if p.1 < lo then p.1 else lo) m := rfl
    have e2 : his hi (p :: m) = his (if p.2 > hi then p.2 else hi) m := rfl
    generalize el : (if p.1 < lo then p.1 else lo) = l at e1
    generalize eh : (if p.2 > hi then p.2 else hi) = k at e2
    have l1 : l ≤ lo ∧ l ≤ p.1 ∧ (l = lo ∨ l = p.1) := by subst el; split <;> omega
    have k1 : hi ≤ k ∧ p.2 ≤ k ∧ (k = hi ∨ k = p.2) := by subst eh; split <;> omega
    obtain ⟨a, b, c, d, e, f⟩ := fold_spec m l k (by omega) fun q hq => by
      obtain ⟨q1, q2, q3⟩ := hm q (by simp [hq])
      omega
    rw [e1, e2]
    refine ⟨by omega, by omega, fun q hq => ?_, fun z z1 z2 => d z ?_ fun q hq => z2 q (by simp [hq]), fun z z1 z2 => e z ?_ fun q hq => z2 q (by simp [hq]), fun x => ?_⟩
    · rcases List.mem_cons.mp hq with rfl | hq
      · omega
      · exact c q hq
    · have := z2 p (by simp); rcases l1.2.2 with r | r <;> omega
    · have := z2 p (by simp); rcases k1.2.2 with r | r <;> omega
    · rw [f x, Mem.cons]
      constructor
      · rintro (r | r)
        · rcases l1.2.2 with t | t <;> rcases k1.2.2 with u | u <;> omega
        · exact .inr (.inr r)
      · rintro (r | r | r)
        · exact .inl (by omega)
        · exact .inl (by omega)
        · exact .inr r
theorem mem_middle {s : SpL} {lo hi : Int} {p : Int × Int} : p ∈ middle s lo hi ↔ p ∈ s ∧ lo ≤ p.2 + 1 ∧ p.1 ≤ hi + 1 := by
  simp [middle, List.mem_filter]
theorem mem_ahead {s : SpL} {lo : Int} {p : Int × Int} : p ∈ ahead s lo ↔ p ∈ s ∧ p.2 + 1 < lo := by simp [ahead, List.mem_filter]
theorem mem_behind {s : SpL} {hi : Int} {p : Int × Int} : p ∈ behind s hi ↔ p ∈ s ∧ hi + 1 < p.1 := by simp [behind, List.mem_filter]
theorem merged_spec {s : SpL} {lo hi : Int} (h : Can s) (hl : lo ≤ hi) : Can (merged s lo hi) ∧ ∀ x, Mem (merged s lo hi) x ↔ Mem s x ∨ (lo ≤ x ∧ x ≤ hi) := by
  obtain ⟨a, b, c, d, e, f⟩ := fold_spec (middle s lo hi) lo hi hl fun p hp => ⟨h.v p (mem_middle.mp hp).1, (mem_middle.mp hp).2⟩
  have sp := split3 hl h
  have g := h.g
  rw [sp, List.pairwise_append, List.pairwise_append] at g
  obtain ⟨g1, ⟨g2, g3, g4⟩, g5⟩ := g
  refine ⟨⟨fun p hp => ?_, ?_⟩, fun x => ?_⟩
  · unfold merged at hp
    rcases List.mem_append.mp hp with hp | hp
    · rcases List.mem_append.mp hp with hp | hp
      · exact h.v p (mem_ahead.mp hp).1
      · cases List.mem_singleton.mp hp; show los _ _ ≤ his _ _; omega
    · exact h.v p (mem_behind.mp hp).1
  · unfold merged
    rw [List.pairwise_append, List.pairwise_append]
    refine ⟨⟨g1, List.pairwise_singleton _ _, fun p hp q hq => ?_⟩, g3, fun p hp q hq => ?_⟩
    · cases List.mem_singleton.mp hq
      show p.2 + 1 < los _ _
      have := d (p.2 + 2) (by have := (mem_ahead.mp hp).2; omega) fun q hq => by
        have : p.2 + 1 < q.1 := g5 p hp q (List.mem_append_left _ hq)
        omega
      omega
    · rcases List.mem_append.mp hp with hp | hp
      · exact g5 p hp q (List.mem_append_right _ hq)
      · cases List.mem_singleton.mp hp
        show his _ _ + 1 < q.1
        have := e (q.1 - 2) (by have := (mem_behind.mp hq).2; omega) fun p hp => by
          have : p.2 + 1 < q.1 := g4 p hp q hq
          omega
        omega
  · have e1 : Mem s x ↔ Mem (ahead s lo) x ∨ Mem (middle s lo hi) x ∨ Mem (behind s hi) x := by
      conv => lhs; rw [sp]
      rw [Mem.app, Mem.app]
    unfold merged
    rw [Mem.app, Mem.app, Mem.cons, Mem.nil, e1]
    have := f x
    simp only [or_false]
    rw [this]
    constructor
    · rintro ((r | r | r) | r)
      · exact .inl (.inl r)
      · exact .inr r
      · exact .inl (.inr (.inl r))
      · exact .inl (.inr (.inr r))
    · rintro ((r | r | r) | r)
      · exact .inl (.inl r)
      · exact .inl (.inr (.inr r))
      · exact .inr r
      · exact .inl (.inr (.inl r))
theorem merged_len {s : SpL} {lo hi : Int} (h : Can s) (hl : lo ≤ hi) : (merged s lo hi).length ≤ s.length + 1 := by
  have := congrArg List.length (split3 hl h)
  simp only [List.length_append] at this
  unfold merged
  simp only [List.length_append, List.length_singleton]
  omega
def tidy (s : SpL) : SpL := s.foldl (fun r p => merged r p.1 p.2) []
theorem tidy_go : ∀ (s r : SpL), Can r → Val s → Can (s.foldl (fun r p => merged r p.1 p.2) r) ∧ (∀ x, Mem (s.foldl (fun r p => merged r p.1 p.2) r) x ↔ Mem r x ∨ Mem s x) ∧ (s.foldl (fun r p => merged r p.1 p.2) r).length ≤ r.length + s.length
  | [], r, h, _ => ⟨h, fun x => by simp [Mem], by simp⟩
  | p :: s, r, h, hv => by
    have hp := hv p (by simp)
    obtain ⟨a, b⟩ := merged_spec h hp
    have l := merged_len h hp
    obtain ⟨c, d, e⟩ := tidy_go s _ a fun q hq => hv q (by simp [hq])
    refine ⟨c, fun x => ?_, ?_⟩
    · show Mem (s.foldl _ (merged r p.1 p.2)) x ↔ _
      rw [d x, b x, Mem.cons, or_assoc]
    · simp only [List.foldl_cons, List.length_cons] at e ⊢; omega
theorem tidy_can {s : SpL} (h : Val s) : Can (tidy s) := (tidy_go s [] .nil h).1
theorem tidy_mem {s : SpL} (h : Val s) (x : Int) : Mem (tidy s) x ↔ Mem s x := by
  rw [show tidy s = s.foldl (fun r p => merged r p.1 p.2) [] from rfl, (tidy_go s [] .nil h).2.1 x, Mem.nil, false_or]
theorem tidy_len {s : SpL} (h : Val s) : (tidy s).length ≤ s.length := by
  have := (tidy_go s [] .nil h).2.2
  rw [List.length_nil, Nat.zero_add] at this
  exact this
/-! the cut -/
def cut1 (lo hi : Int) (p : Int × Int) : SpL := if p.2 < lo ∨ hi < p.1 then [p] else (if p.1 < lo then [(p.1, lo - 1)] else []) ++ (if hi < p.2 then [(hi + 1, p.2)] else [])
def cut (s : SpL) (lo hi : Int) : SpL := s.flatMap (cut1 lo hi)
theorem cut1_in {lo hi : Int} {p q : Int × Int} (hl : lo ≤ hi) (hp : p.1 ≤ p.2) (h : q ∈ cut1 lo hi p) : p.1 ≤ q.1 ∧ q.1 ≤ q.2 ∧ q.2 ≤ p.2 := by
  unfold cut1 at h
  split at h
  · cases List.mem_singleton.mp h; exact ⟨Int.le_refl _, hp, Int.le_refl _⟩
  · rcases List.mem_append.mp h with h | h
    · split at h
      · cases List.mem_singleton.mp h; dsimp only; omega
      · cases h
    · split at h
      · cases List.mem_singleton.mp h; dsimp only; omega
      · cases h
theorem cut1_mem {lo hi : Int} {p : Int × Int} (hl : lo ≤ hi) (hp : p.1 ≤ p.2) (x : Int) : Mem (cut1 lo hi p) x ↔ (p.1 ≤ x ∧ x ≤ p.2) ∧ ¬(lo ≤ x ∧ x ≤ hi) := by
  unfold cut1
  split
  · simp only [Mem.cons, Mem.nil, or_false]; omega
  · rw [Mem.app]
    split <;> split <;> simp only [Mem.cons, Mem.nil, or_false, false_or, false_iff] <;> omega
theorem cut1_gap {lo hi : Int} {p : Int × Int} (hl : lo ≤ hi) : (cut1 lo hi p).Pairwise Gap := by
  unfold cut1
  split
  · exact List.pairwise_singleton _ _
  · split <;> split <;> simp [Gap]
    omega
theorem cut_mem {lo hi : Int} (hl : lo ≤ hi) (s : SpL) (hv : Val s) (x : Int) : Mem (cut s lo hi) x ↔ Mem s x ∧ ¬(lo ≤ x ∧ x ≤ hi) := by
  induction s with
  | nil => simp [cut, Mem]
  | cons p s ih =>
    have ih := ih fun q hq => hv q (by simp [hq])
    have hp := hv p (by simp)
    have : cut (p :: s) lo hi = cut1 lo hi p ++ cut s lo hi := rfl
    rw [this, Mem.app, ih, cut1_mem hl hp, Mem.cons]
    constructor
    · rintro (h | h)
      · exact ⟨.inl h.1, h.2⟩
      · exact ⟨.inr h.1, h.2⟩
    · rintro ⟨h | h, k⟩
      · exact .inl ⟨h, k⟩
      · exact .inr ⟨h, k⟩
theorem cut_can {lo hi : Int} (hl : lo ≤ hi) : ∀ {s : SpL}, Can s → Can (cut s lo hi)
  | [], _ => .nil
  | p :: s, h => by
    have ih := cut_can hl h.tail
    have e : cut (p :: s) lo hi = cut1 lo hi p ++ cut s lo hi := rfl
    rw [e]
    refine ⟨fun q hq => ?_, ?_⟩
    · rcases List.mem_append.mp hq with hq | hq
      · exact (cut1_in hl h.head hq).2.1
      · exact ih.v q hq
    · rw [List.pairwise_append]
      refine ⟨cut1_gap hl, ih.g, fun a ha b hb => ?_⟩
      have h1 := cut1_in hl h.head ha
      obtain ⟨q, hq, hb⟩ := List.mem_flatMap.mp hb
      have h2 := cut1_in hl (h.v q (by simp [hq])) hb
      have : p.2 + 1 < q.1 := (List.pairwise_cons.mp h.g).1 q hq
      show a.2 + 1 < b.1
      omega
theorem cut_off {lo hi : Int} : ∀ {s : SpL}, (∀ q ∈ s, hi < q.1) → cut s lo hi = s
  | [], _ => rfl
  | p :: s, h => by
    have e : cut (p :: s) lo hi = cut1 lo hi p ++ cut s lo hi := rfl
    rw [e, cut_off fun q hq => h q (by simp [hq])]
    unfold cut1
    rw [if_pos (.inr (h p (by simp)))]; rfl
theorem cut_len {lo hi : Int} (hl : lo ≤ hi) : ∀ {s : SpL}, Can s → (cut s lo hi).length ≤ s.length + 1
  | [], _ => by simp [cut]
  | p :: s, h => by
    have e : cut (p :: s) lo hi = cut1 lo hi p ++ cut s lo hi := rfl
    have ih := cut_len hl h.tail
    rw [e, List.length_append, List.length_cons]
    by_cases c : hi < p.2
    · have : cut s lo hi = s := cut_off fun q hq => by
        have : p.2 + 1 < q.1 := (List.pairwise_cons.mp h.g).1 q hq
        omega
      rw [this]
      have : (cut1 lo hi p).length ≤ 2 := by
        unfold cut1; split
        · simp
        · split <;> simp
      omega
    · have : (cut1 lo hi p).length ≤ 1 := by
        unfold cut1; split
        · simp
        · split <;> simp
      omega
def cuts (r t : SpL) : SpL := t.foldl (fun r p => cut r p.1 p.2) r
theorem cuts_spec : ∀ {t r : SpL}, Can r → Val t → Can (cuts r t) ∧ (∀ x, Mem (cuts r t) x ↔ Mem r x ∧ ¬ Mem t x) ∧ (cuts r t).length ≤ r.length + t.length
  | [], r, h, _ => ⟨h, fun x => by simp [cuts, Mem], by simp [cuts]⟩
  | p :: t, r, h, hv => by
    have hp := hv p (by simp)
    have l := cut_len hp h
    obtain ⟨a, b, c⟩ := cuts_spec (t := t) (cut_can hp h) fun q hq => hv q (by simp [hq])
    refine ⟨a, fun x => ?_, ?_⟩
    · show Mem (cuts (cut r p.1 p.2) t) x ↔ _
      rw [b x, cut_mem hp r h.v, Mem.cons, and_assoc, not_or]
    · show (cuts (cut r p.1 p.2) t).length ≤ _
      rw [List.length_cons]; omega
def without (s t : SpL) : SpL := cuts (tidy s) (tidy t)
theorem Can.val {s : SpL} (h : Can s) : Val s := h.v
theorem without_spec {s t : SpL} (hs : Val s) (ht : Val t) : Can (without s t) ∧ (∀ x, Mem (without s t) x ↔ Mem s x ∧ ¬ Mem t x) ∧ (without s t).length ≤ s.length + t.length := by
  obtain ⟨a, b, c⟩ := cuts_spec (tidy_can hs) (tidy_can ht).val
  refine ⟨a, fun x => ?_, ?_⟩
  · unfold without; rw [b x, tidy_mem hs, tidy_mem ht]
  · have := tidy_len hs; have := tidy_len ht; unfold without; omega
def joined (s t : SpL) : SpL := tidy (s ++ tidy t)
theorem val_app {s t : SpL} (hs : Val s) (ht : Val t) : Val (s ++ t) := fun p hp => by
  rcases List.mem_append.mp hp with h | h
  · exact hs p h
  · exact ht p h
theorem joined_spec {s t : SpL} (hs : Val s) (ht : Val t) : Can (joined s t) ∧ (∀ x, Mem (joined s t) x ↔ Mem s x ∨ Mem t x) ∧ (joined s t).length ≤ s.length + t.length := by
  have v := val_app hs (tidy_can ht).val
  refine ⟨tidy_can v, fun x => ?_, ?_⟩
  · unfold joined; rw [tidy_mem v, Mem.app, tidy_mem ht]
  · have l1 := tidy_len v; have l2 := tidy_len ht; unfold joined; rw [List.length_append] at l1; omega
def common (s t : SpL) : SpL := without (tidy s) (without (tidy s) t)
theorem common_spec {s t : SpL} (hs : Val s) (ht : Val t) : Can (common s t) ∧ (∀ x, Mem (common s t) x ↔ Mem s x ∧ Mem t x) := by
  obtain ⟨a, b, c⟩ := without_spec (tidy_can hs).val ht
  obtain ⟨d, e, f⟩ := without_spec (tidy_can hs).val a.val
  refine ⟨d, fun x => ?_⟩
  unfold common
  rw [e x, b x, tidy_mem hs]
  by_cases p : Mem s x <;> by_cases q : Mem t x <;> simp [p, q]
end Spn

namespace Lw
open PySem L2 Sep LwA Spn
abbrev e1 (p : Int × Int) : D := .tup [.int p.1, .int p.2]
abbrev en (s : SpL) : List D := s.map e1
theorem en_len (s : SpL) : (en s).length = s.length := by simp
theorem check_ok {d : D} {s : SpL} (hd : Sq d (en s)) (hv : Val s) : Ret (F__check [.sh d]) (.sh .non) := by
  obtain ⟨ρ', h, e⟩ := forL_fold (g := kTup 2 (kCons (kName 1) (kCons (kName 2) kNil))) (b := B__check_1) (en := e1) (S := fun (_ : Unit) ρ => ∃ a b, ρ = [.sh d, a, b]) (f := fun _ _ => ()) s (fun p hp _ ρ ds ⟨a, b, e⟩ => by
    subst e
    have : decide (p.2 < p.1) = false := by have := hv p hp; simp; omega
    refine ⟨_, ⟨.sh (.int p.1), .sh (.int p.2), rfl⟩, ?_⟩
    simp only [ev1, ev2, ev3, ev4, ev5, ev6, ev7, LIM, ↓reduceIte, Nat.reduceAdd, Nat.reduceSub, Nat.reduceLeDiff, Nat.reduceLT, Nat.reduceEqDiff, Int.reduceEq, Int.reduceLT, Int.reduceLE, Int.reduceNeg, Int.reduceBEq, decide_true, decide_false, Bool.not_true, Bool.not_false, Option.getD_some, eq_self, Bool.false_eq_true, B__check_1, this]) () [.sh d, .no, .no] ⟨_, _, rfl⟩
  unfold F__check
  simp only [ev1, ev2, ev3, ev4, ev5, ev6, ev7, LIM, ↓reduceIte, Nat.reduceAdd, Nat.reduceSub, Nat.reduceLeDiff, Nat.reduceLT, Nat.reduceEqDiff, Int.reduceEq, Int.reduceLT, Int.reduceLE, Int.reduceNeg, Int.reduceBEq, decide_true, decide_false, Bool.not_true, Bool.not_false, Option.getD_some, eq_self, Bool.false_eq_true, hd.i, e]
  exact .mk rfl
theorem len_le {s : SpL} (h : s.length ≤ 1000) : (en s).length ≤ 16777216 := by rw [en_len]; omega
theorem fm_filter {α : Type} (f : α → D) (c : α → Bool) (xs : List α) : xs.filterMap (fun a => if c a then some (f a) else none) = (xs.filter c).map f := by
  induction xs with
  | nil => rfl
  | cons a xs ih => rw [List.filterMap_cons, List.filter_cons]; cases c a <;> simp [ih]
theorem cut_mid {s : SpL} {lo hi : Int} (h : Can s) (hl : lo ≤ hi) : cutD (en s) (some ((ahead s lo).length : Nat)) (some ((s.length : Int) - ((behind s hi).length : Nat))) = en (middle s lo hi) := by
  have sp := split3 hl h
  have l := congrArg List.length sp
  simp only [List.length_append] at l
  unfold cutD
  have e : (s.length : Int) - ((behind s hi).length : Nat) = (((ahead s lo).length + (middle s lo hi).length : Nat) : Int) := by omega
  rw [e]
  rw [HT.sIx_nat, HT.sIx_nat, en_len, Nat.min_eq_left (by omega), Nat.min_eq_left (by omega)]
  have ee : en s = en (ahead s lo) ++ (en (middle s lo hi) ++ en (behind s hi)) := by
    rw [← List.map_append, ← List.map_append]; exact congrArg en sp
  have key : ∀ A M B : List D, ((A ++ (M ++ B)).drop A.length).take (A.length + M.length - A.length) = M := fun A M B => by simp
  have := key (en (ahead s lo)) (en (middle s lo hi)) (en (behind s hi))
  rw [← ee, en_len, en_len] at this
  exact this
theorem merged_ok {s : SpL} {lo hi : Int} (h : Can s) (hl : lo ≤ hi) (hn : s.length ≤ 1000) : Ret (F__merged [.sh (.lst (en s)), .sh (.int lo), .sh (.int hi)]) (.lst (shs (en (merged s lo hi)))) := by
  have l3 := congrArg List.length (split3 hl h)
  simp only [List.length_append] at l3
  have c1 := compL_fm (g := kName 7) (vs := [7]) (p := tOfE (eOp gLt (eOp gAdd (eOp gIx (eVar 7) (eC (.int 1))) (eC (.int 1))) (eVar 1))) (e := eVar 7) (en := e1) (ρ := [.sh (.lst (en s)), .sh (.int lo), .sh (.int hi), .no, .no, .no, .no, .no]) (f := fun p => if decide (p.2 + 1 < lo) then some (e1 p) else none) s (fun p hp ds acc hl => by
    by_cases c : p.2 + 1 < lo
    · simp only [ev1, ev2, ev3, ev4, ev5, ev6, ev7, LIM, ↓reduceIte, Nat.reduceAdd, Nat.reduceSub, Nat.reduceLeDiff, Nat.reduceLT, Nat.reduceEqDiff, Int.reduceEq, Int.reduceLT, Int.reduceLE, Int.reduceNeg, Int.reduceBEq, decide_true, decide_false, Bool.not_true, Bool.not_false, Option.getD_some, eq_self, Bool.false_eq_true, c, hl, Option.toList_some]
    · simp only [ev1, ev2, ev3, ev4, ev5, ev6, ev7, LIM, ↓reduceIte, Nat.reduceAdd, Nat.reduceSub, Nat.reduceLeDiff, Nat.reduceLT, Nat.reduceEqDiff, Int.reduceEq, Int.reduceLT, Int.reduceLE, Int.reduceNeg, Int.reduceBEq, decide_true, decide_false, Bool.not_true, Bool.not_false, Option.getD_some, eq_self, Bool.false_eq_true, c, Option.toList_none, List.append_nil]) [] (by rw [List.length_nil]; show 0 + s.length ≤ 16777216; omega)
  rw [fm_filter, List.nil_append] at c1
  have c2 := compL_fm (g := kName 7) (vs := [7]) (p := tOfE (eOp gGt (eOp gIx (eVar 7) (eC (.int 0))) (eOp gAdd (eVar 2) (eC (.int 1))))) (e := eVar 7) (en := e1) (ρ := [.sh (.lst (en s)), .sh (.int lo), .sh (.int hi), .sh (.lst (en (ahead s lo))), .no, .no, .no, .no]) (f := fun p => if decide (hi + 1 < p.1) then some (e1 p) else none) s (fun p hp ds acc hl => by
    by_cases c : hi + 1 < p.1
    · simp only [ev1, ev2, ev3, ev4, ev5, ev6, ev7, LIM, ↓reduceIte, Nat.reduceAdd, Nat.reduceSub, Nat.reduceLeDiff, Nat.reduceLT, Nat.reduceEqDiff, Int.reduceEq, Int.reduceLT, Int.reduceLE, Int.reduceNeg, Int.reduceBEq, decide_true, decide_false, Bool.not_true, Bool.not_false, Option.getD_some, eq_self, Bool.false_eq_true, c, hl, Option.toList_some]
    · simp only [ev1, ev2, ev3, ev4, ev5, ev6, ev7, LIM, ↓reduceIte, Nat.reduceAdd, Nat.reduceSub, Nat.reduceLeDiff, Nat.reduceLT, Nat.reduceEqDiff, Int.reduceEq, Int.reduceLT, Int.reduceLE, Int.reduceNeg, Int.reduceBEq, decide_true, decide_false, Bool.not_true, Bool.not_false, Option.getD_some, eq_self, Bool.false_eq_true, c, Option.toList_none, List.append_nil]) [] (by rw [List.length_nil]; show 0 + s.length ≤ 16777216; omega)
  rw [fm_filter, List.nil_append] at c2
  obtain ⟨ρ', ⟨x, y, hρ⟩, e⟩ := forL_fold (g := kTup 2 (kCons (kName 5) (kCons (kName 6) kNil))) (b := B__merged_1) (en := e1) (S := fun (q : Int × Int) ρ => ∃ a b, ρ = [.sh (.lst (en s)), .sh (.int q.1), .sh (.int q.2), .sh (.lst (en (ahead s lo))), .sh (.lst (en (behind s hi))), a, b, .no]) (f := fun q p => (mn q.1 p.1, mx q.2 p.2)) (middle s lo hi) (fun p hp q ρ ds ⟨a, b, e⟩ => by
    subst e
    refine ⟨_, ⟨.sh (.int p.1), .sh (.int p.2), rfl⟩, ?_⟩
    simp only [ev1, ev2, ev3, ev4, ev5, ev6, ev7, LIM, ↓reduceIte, Nat.reduceAdd, Nat.reduceSub, Nat.reduceLeDiff, Nat.reduceLT, Nat.reduceEqDiff, Int.reduceEq, Int.reduceLT, Int.reduceLE, Int.reduceNeg, Int.reduceBEq, decide_true, decide_false, Bool.not_true, Bool.not_false, Option.getD_some, eq_self, Bool.false_eq_true, B__merged_1]) (lo, hi) [.sh (.lst (en s)), .sh (.int lo), .sh (.int hi), .sh (.lst (en (ahead s lo))), .sh (.lst (en (behind s hi))), .no, .no, .no] ⟨_, _, rfl⟩
  have ef : ∀ (m : SpL) (a b : Int), m.foldl (fun (q p : Int × Int) => (mn q.1 p.1, mx q.2 p.2)) (a, b) = (los a m, his b m) := fun m => by
    induction m with
    | nil => intros; rfl
    | cons p m ih => intro a b; rw [List.foldl_cons, ih]; rfl
  rw [ef] at hρ
  subst hρ
  unfold F__merged
  have la : (en (ahead s lo)).length + 1 ≤ 16777216 := by rw [en_len]; omega
  have lb : (en (ahead s lo)).length + 1 + (en (behind s hi)).length ≤ 16777216 := by rw [en_len, en_len]; omega
  have ea : s.filter (fun p => decide (p.2 + 1 < lo)) = ahead s lo := rfl
  have eb : s.filter (fun p => decide (hi + 1 < p.1)) = behind s hi := rfl
  rw [ea] at c1; rw [eb] at c2
  have cm := cut_mid h hl
  rw [en_len] at la lb
  rw [en_len] at lb
  simp only [ev1, ev2, ev3, ev4, ev5, ev6, ev7, LIM, ↓reduceIte, Nat.reduceAdd, Nat.reduceSub, Nat.reduceLeDiff, Nat.reduceLT, Nat.reduceEqDiff, Int.reduceEq, Int.reduceLT, Int.reduceLE, Int.reduceNeg, Int.reduceBEq, decide_true, decide_false, Bool.not_true, Bool.not_false, Option.getD_some, eq_self, Bool.false_eq_true, shs, c1, c2, en_len, cm, e, List.length_append, List.length_map, la, lb]
  exact .mk (by simp [Spn.merged, shs])
abbrev k2 (i j : Nat) := kTup 2 (kCons (kName i) (kCons (kName j) kNil))
theorem tidy_ok {d : D} {s : SpL} (hd : Sq d (en s)) (hv : Val s) (hn : s.length ≤ 1000) : Ret (F_tidy [.sh d]) (.lst (shs (en (tidy s)))) := by
  obtain ⟨fs, c⟩ := check_ok hd hv
  obtain ⟨ρ', ⟨x, y, hρ, _, _⟩, e⟩ := forL_rem (g := k2 2 3) (b := B_tidy_1) (en := e1) (S := fun as (acc : SpL) ρ => ∃ a b, ρ = [.sh d, .lst (shs (en acc)), a, b] ∧ (Can acc ∧ Val as) ∧ acc.length + as.length ≤ 1000) (f := fun r p => merged r p.1 p.2) (fun p as acc ρ ⟨a, b, e, ⟨h1, h2⟩, h3⟩ => by
    subst e
    have hp := h2 p (by simp)
    obtain ⟨fs, e⟩ := merged_ok h1 hp (by rw [List.length_cons] at h3; omega)
    refine ⟨_, ⟨.sh (.int p.1), .sh (.int p.2), rfl, ⟨(merged_spec h1 hp).1, fun q hq => h2 q (by simp [hq])⟩, ?_⟩, ?_⟩
    · have := merged_len h1 hp; rw [List.length_cons] at h3; omega
    · simp only [ev1, ev2, ev3, ev4, ev5, ev6, ev7, LIM, ↓reduceIte, Nat.reduceAdd, Nat.reduceSub, Nat.reduceLeDiff, Nat.reduceLT, Nat.reduceEqDiff, Int.reduceEq, Int.reduceLT, Int.reduceLE, Int.reduceNeg, Int.reduceBEq, decide_true, decide_false, Bool.not_true, Bool.not_false, Option.getD_some, eq_self, Bool.false_eq_true, B_tidy_1, shs] at e ⊢
      simp only [ev1, ev2, ev3, ev4, ev5, ev6, ev7, LIM, ↓reduceIte, Nat.reduceAdd, Nat.reduceSub, Nat.reduceLeDiff, Nat.reduceLT, Nat.reduceEqDiff, Int.reduceEq, Int.reduceLT, Int.reduceLE, Int.reduceNeg, Int.reduceBEq, decide_true, decide_false, Bool.not_true, Bool.not_false, Option.getD_some, eq_self, Bool.false_eq_true, e]) s [] [.sh d, .lst [], .no, .no] ⟨.no, .no, rfl, ⟨.nil, hv⟩, by simpa using hn⟩
  subst hρ
  unfold F_tidy
  simp only [ev1, ev2, ev3, ev4, ev5, ev6, ev7, LIM, ↓reduceIte, Nat.reduceAdd, Nat.reduceSub, Nat.reduceLeDiff, Nat.reduceLT, Nat.reduceEqDiff, Int.reduceEq, Int.reduceLT, Int.reduceLE, Int.reduceNeg, Int.reduceBEq, decide_true, decide_false, Bool.not_true, Bool.not_false, Option.getD_some, eq_self, Bool.false_eq_true, c, shs, hd.i, e]
  exact .mk rfl
theorem joined_ok {d d2 : D} {s t : SpL} (hd : Sq d (en s)) (hd2 : Sq d2 (en t)) (hv : Val s) (hv2 : Val t) (hn : s.length + t.length ≤ 1000) : Ret (F_joined [.sh d, .sh d2]) (.lst (shs (en (joined s t)))) := by
  obtain ⟨fs, c⟩ := check_ok hd hv
  obtain ⟨fs2, c2⟩ := tidy_ok hd2 hv2 (by omega)
  have l2 := tidy_len hv2
  obtain ⟨fs3, c3⟩ := tidy_ok (s := s ++ tidy t) (sq_lst _) (val_app hv (tidy_can hv2).val) (by rw [List.length_append]; omega)
  unfold F_joined
  have : s.length + (tidy t).length ≤ 16777216 := by omega
  have en_app : en s ++ en (tidy t) = en (s ++ tidy t) := List.map_append.symm
  simp only [ev1, ev2, ev3, ev4, ev5, ev6, ev7, LIM, ↓reduceIte, Nat.reduceAdd, Nat.reduceSub, Nat.reduceLeDiff, Nat.reduceLT, Nat.reduceEqDiff, Int.reduceEq, Int.reduceLT, Int.reduceLE, Int.reduceNeg, Int.reduceBEq, decide_true, decide_false, Bool.not_true, Bool.not_false, Option.getD_some, eq_self, Bool.false_eq_true, c, shs] at c2 c3 ⊢
  simp only [ev1, ev2, ev3, ev4, ev5, ev6, ev7, LIM, ↓reduceIte, Nat.reduceAdd, Nat.reduceSub, Nat.reduceLeDiff, Nat.reduceLT, Nat.reduceEqDiff, Int.reduceEq, Int.reduceLT, Int.reduceLE, Int.reduceNeg, Int.reduceBEq, decide_true, decide_false, Bool.not_true, Bool.not_false, Option.getD_some, eq_self, Bool.false_eq_true, c, hd.l, shs, c2, en_len, this, en_app, c3]
  exact .mk rfl
theorem cut_ok {s : SpL} {lo hi : Int} (hl : lo ≤ hi) (hn : s.length ≤ 1000) : Ret (F__cut [.sh (.lst (en s)), .sh (.int lo), .sh (.int hi)]) (.lst (shs (en (cut s lo hi)))) := by
  obtain ⟨ρ', ⟨x, y, hρ, _⟩, e⟩ := forL_rem (g := k2 4 5) (b := B__cut_1) (en := e1) (S := fun as (acc : SpL) ρ => ∃ a b, ρ = [.sh (.lst (en s)), .sh (.int lo), .sh (.int hi), .lst (shs (en acc)), a, b] ∧ acc.length + 2 * as.length ≤ 2000) (f := fun r p => r ++ cut1 lo hi p) (fun p as acc ρ ⟨a, b, e, h⟩ => by
    subst e
    rw [List.length_cons] at h
    refine ⟨_, ⟨.sh (.int p.1), .sh (.int p.2), rfl, ?_⟩, ?_⟩
    · have : (cut1 lo hi p).length ≤ 2 := by
        unfold cut1; split
        · simp
        · split <;> split <;> simp
      rw [List.length_append]; omega
    · have l1 : acc.length < 16777216 := by omega
      have l2 : acc.length + 1 < 16777216 := by omega
      by_cases q1 : p.2 < lo
      · simp only [ev1, ev2, ev3, ev4, ev5, ev6, ev7, LIM, ↓reduceIte, Nat.reduceAdd, Nat.reduceSub, Nat.reduceLeDiff, Nat.reduceLT, Nat.reduceEqDiff, Int.reduceEq, Int.reduceLT, Int.reduceLE, Int.reduceNeg, Int.reduceBEq, decide_true, decide_false, Bool.not_true, Bool.not_false, Option.getD_some, eq_self, Bool.false_eq_true, B__cut_1, q1, shs, List.length_map, l1, cut1, true_or, List.map_append]
      · by_cases q2 : hi < p.1
        · simp only [ev1, ev2, ev3, ev4, ev5, ev6, ev7, LIM, ↓reduceIte, Nat.reduceAdd, Nat.reduceSub, Nat.reduceLeDiff, Nat.reduceLT, Nat.reduceEqDiff, Int.reduceEq, Int.reduceLT, Int.reduceLE, Int.reduceNeg, Int.reduceBEq, decide_true, decide_false, Bool.not_true, Bool.not_false, Option.getD_some, eq_self, Bool.false_eq_true, B__cut_1, q1, q2, shs, List.length_map, l1, cut1, or_true, List.map_append]
        · by_cases q3 : p.1 < lo <;> by_cases q4 : hi < p.2 <;> simp only [ev1, ev2, ev3, ev4, ev5, ev6, ev7, LIM, ↓reduceIte, Nat.reduceAdd, Nat.reduceSub, Nat.reduceLeDiff, Nat.reduceLT, Nat.reduceEqDiff, Int.reduceEq, Int.reduceLT, Int.reduceLE, Int.reduceNeg, Int.reduceBEq, decide_true, decide_false, Bool.not_true, Bool.not_false, Option.getD_some, eq_self, Bool.false_eq_true, B__cut_1, q1, q2, q3, q4, shs, List.length_map, l1, cut1, or_self, List.map_append, List.length_append, l2, List.append_assoc, List.append_nil]) s [] [.sh (.lst (en s)), .sh (.int lo), .sh (.int hi), .lst [], .no, .no] ⟨.no, .no, rfl, by simp; omega⟩
  subst hρ
  unfold F__cut
  simp only [ev1, ev2, ev3, ev4, ev5, ev6, ev7, LIM, ↓reduceIte, Nat.reduceAdd, Nat.reduceSub, Nat.reduceLeDiff, Nat.reduceLT, Nat.reduceEqDiff, Int.reduceEq, Int.reduceLT, Int.reduceLE, Int.reduceNeg, Int.reduceBEq, decide_true, decide_false, Bool.not_true, Bool.not_false, Option.getD_some, eq_self, Bool.false_eq_true, shs, e]
  refine .mk ?_
  have : ∀ (t r : SpL), t.foldl (fun r p => r ++ cut1 lo hi p) r = r ++ cut t lo hi := fun t => by
    induction t with
    | nil => intro r; simp [cut]
    | cons p t ih => intro r; rw [List.foldl_cons, ih, List.append_assoc]; rfl
  rw [this]; rfl
theorem without_ok {d d2 : D} {s t : SpL} (hd : Sq d (en s)) (hd2 : Sq d2 (en t)) (hv : Val s) (hv2 : Val t) (hn : s.length + t.length ≤ 1000) : Ret (F_without [.sh d, .sh d2]) (.lst (shs (en (without s t)))) := by
  obtain ⟨fs, c⟩ := tidy_ok hd hv (by omega)
  obtain ⟨fs2, c2⟩ := tidy_ok hd2 hv2 (by omega)
  have l1 := tidy_len hv
  have l2 := tidy_len hv2
  obtain ⟨ρ', ⟨x, y, hρ, _, _⟩, e⟩ := forL_rem (g := k2 3 4) (b := B_without_1) (en := e1) (S := fun as (acc : SpL) ρ => ∃ a b, ρ = [.sh d, .sh d2, .lst (shs (en acc)), a, b] ∧ (Can acc ∧ Val as) ∧ acc.length + as.length ≤ 1000) (f := fun r p => cut r p.1 p.2) (fun p as acc ρ ⟨a, b, e, ⟨h1, h2⟩, h3⟩ => by
    subst e
    have hp := h2 p (by simp)
    rw [List.length_cons] at h3
    obtain ⟨fs, e⟩ := cut_ok (s := acc) hp (by omega)
    refine ⟨_, ⟨.sh (.int p.1), .sh (.int p.2), rfl, ⟨cut_can hp h1, fun q hq => h2 q (by simp [hq])⟩, ?_⟩, ?_⟩
    · have := cut_len hp h1; omega
    · simp only [ev1, ev2, ev3, ev4, ev5, ev6, ev7, LIM, ↓reduceIte, Nat.reduceAdd, Nat.reduceSub, Nat.reduceLeDiff, Nat.reduceLT, Nat.reduceEqDiff, Int.reduceEq, Int.reduceLT, Int.reduceLE, Int.reduceNeg, Int.reduceBEq, decide_true, decide_false, Bool.not_true, Bool.not_false, Option.getD_some, eq_self, Bool.false_eq_true, B_without_1, shs] at e ⊢
      simp only [ev1, ev2, ev3, ev4, ev5, ev6, ev7, LIM, ↓reduceIte, Nat.reduceAdd, Nat.reduceSub, Nat.reduceLeDiff, Nat.reduceLT, Nat.reduceEqDiff, Int.reduceEq, Int.reduceLT, Int.reduceLE, Int.reduceNeg, Int.reduceBEq, decide_true, decide_false, Bool.not_true, Bool.not_false, Option.getD_some, eq_self, Bool.false_eq_true, e]) (tidy t) (tidy s) [.sh d, .sh d2, .lst (shs (en (tidy s))), .no, .no] ⟨.no, .no, rfl, ⟨tidy_can hv, (tidy_can hv2).val⟩, by omega⟩
  subst hρ
  unfold F_without
  simp only [shs] at c c2 e
  simp only [ev1, ev2, ev3, ev4, ev5, ev6, ev7, LIM, ↓reduceIte, Nat.reduceAdd, Nat.reduceSub, Nat.reduceLeDiff, Nat.reduceLT, Nat.reduceEqDiff, Int.reduceEq, Int.reduceLT, Int.reduceLE, Int.reduceNeg, Int.reduceBEq, decide_true, decide_false, Bool.not_true, Bool.not_false, Option.getD_some, eq_self, Bool.false_eq_true, c, c2, shs, e]
  exact .mk rfl
theorem common_ok {d d2 : D} {s t : SpL} (hd : Sq d (en s)) (hd2 : Sq d2 (en t)) (hv : Val s) (hv2 : Val t) (hn : s.length + t.length ≤ 300) : Ret (F_common [.sh d, .sh d2]) (.lst (shs (en (common s t)))) := by
  have l1 := tidy_len hv
  have v1 := (tidy_can hv).val
  obtain ⟨a, b, l3⟩ := without_spec v1 hv2
  obtain ⟨fs, c⟩ := tidy_ok hd hv (by omega)
  obtain ⟨fs2, c2⟩ := without_ok (sq_lst (en (tidy s))) hd2 v1 hv2 (by omega)
  obtain ⟨fs3, c3⟩ := without_ok (sq_lst (en (tidy s))) (sq_lst (en (without (tidy s) t))) v1 a.val (by omega)
  unfold F_common
  simp only [shs] at c c2 c3
  simp only [ev1, ev2, ev3, ev4, ev5, ev6, ev7, LIM, ↓reduceIte, Nat.reduceAdd, Nat.reduceSub, Nat.reduceLeDiff, Nat.reduceLT, Nat.reduceEqDiff, Int.reduceEq, Int.reduceLT, Int.reduceLE, Int.reduceNeg, Int.reduceBEq, decide_true, decide_false, Bool.not_true, Bool.not_false, Option.getD_some, eq_self, Bool.false_eq_true, c, c2, c3, shs]
  exact .mk rfl
/-- the three answers -/
abbrev ans (s t : SpL) : List SpL := [joined s t, common s t, without s t]
theorem answers_ok {d d2 : D} {s t : SpL} (hd : Sq d (en s)) (hd2 : Sq d2 (en t)) (hv : Val s) (hv2 : Val t) (hn : s.length + t.length ≤ 300) : Ret (F__law_answers [.sh d, .sh d2]) (.lst ((ans s t).map fun s => .lst (shs (en s)))) := by
  obtain ⟨fs, c⟩ := joined_ok hd hd2 hv hv2 (by omega)
  obtain ⟨fs2, c2⟩ := common_ok hd hd2 hv hv2 hn
  obtain ⟨fs3, c3⟩ := without_ok hd hd2 hv hv2 (by omega)
  unfold F__law_answers
  simp only [shs] at c c2 c3
  simp only [ev1, ev2, ev3, ev4, ev5, ev6, ev7, LIM, ↓reduceIte, Nat.reduceAdd, Nat.reduceSub, Nat.reduceLeDiff, Nat.reduceLT, Nat.reduceEqDiff, Int.reduceEq, Int.reduceLT, Int.reduceLE, Int.reduceNeg, Int.reduceBEq, decide_true, decide_false, Bool.not_true, Bool.not_false, Option.getD_some, eq_self, Bool.false_eq_true, c, c2, c3, shs]
  exact .mk rfl
def hasB (s : SpL) (x : Int) : Bool := s.any fun p => decide (p.1 ≤ x) && decide (x ≤ p.2)
theorem hasB_iff (s : SpL) (x : Int) : hasB s x = true ↔ Mem s x := by
  simp [hasB, Mem, List.any_eq_true]
theorem blsOf_bl (s : List Bool) : blsOf (s.map D.bl) = some s := blsOf_map s
theorem holds_ok {d : D} {s : SpL} {x : Int} (hd : Sq d (en s)) (hv : Val s) (hn : s.length ≤ 1000) : Ret (F_holds [.sh d, .sh (.int x)]) (.sh (.bl (hasB s x))) := by
  obtain ⟨fs, c⟩ := tidy_ok hd hv hn
  have l1 := tidy_len hv
  have c1 := compL_fm (g := k2 2 3) (vs := [2, 3]) (p := pYes) (e := eChain gLe gLe (eVar 2) (eVar 1) (eVar 3)) (en := e1) (ρ := [.sh d, .sh (.int x), .no, .no]) (f := fun p => some (.bl (decide (p.1 ≤ x) && decide (x ≤ p.2)))) (tidy s) (fun p hp ds acc hl => by
    by_cases c : p.1 ≤ x
    · simp only [ev1, ev2, ev3, ev4, ev5, ev6, ev7, LIM, ↓reduceIte, Nat.reduceAdd, Nat.reduceSub, Nat.reduceLeDiff, Nat.reduceLT, Nat.reduceEqDiff, Int.reduceEq, Int.reduceLT, Int.reduceLE, Int.reduceNeg, Int.reduceBEq, decide_true, decide_false, Bool.not_true, Bool.not_false, Option.getD_some, eq_self, Bool.false_eq_true, c, hl, Option.toList_some, Bool.true_and]
    · simp only [ev1, ev2, ev3, ev4, ev5, ev6, ev7, LIM, ↓reduceIte, Nat.reduceAdd, Nat.reduceSub, Nat.reduceLeDiff, Nat.reduceLT, Nat.reduceEqDiff, Int.reduceEq, Int.reduceLT, Int.reduceLE, Int.reduceNeg, Int.reduceBEq, decide_true, decide_false, Bool.not_true, Bool.not_false, Option.getD_some, eq_self, Bool.false_eq_true, c, hl, Option.toList_some, Bool.false_and]) [] (by rw [List.length_nil]; show 0 + (tidy s).length ≤ 16777216; omega)
  have eb : ∀ t : SpL, t.filterMap (fun p => some (D.bl (decide (p.1 ≤ x) && decide (x ≤ p.2)))) = (t.map fun p => decide (p.1 ≤ x) && decide (x ≤ p.2)).map D.bl := fun t => by
    rw [List.filterMap_eq_map', List.map_map]; rfl
  rw [eb, List.nil_append] at c1
  unfold F_holds
  simp only [shs] at c
  have ga : ∀ t : List Bool, gAny (.lst (t.map D.bl)) = some (.sh (.bl (t.any id))) := fun t => by
    show (blsOf _).map _ = _
    rw [blsOf_map]; rfl
  simp only [ev1, ev2, ev3, ev4, ev5, ev6, ev7, LIM, ↓reduceIte, Nat.reduceAdd, Nat.reduceSub, Nat.reduceLeDiff, Nat.reduceLT, Nat.reduceEqDiff, Int.reduceEq, Int.reduceLT, Int.reduceLE, Int.reduceNeg, Int.reduceBEq, decide_true, decide_false, Bool.not_true, Bool.not_false, Option.getD_some, eq_self, Bool.false_eq_true, c, shs, c1, ga]
  refine .mk ?_
  congr 2
  rw [List.any_map]
  have e1 : (tidy s).any (id ∘ fun p => decide (p.1 ≤ x) && decide (x ≤ p.2)) = hasB (tidy s) x := rfl
  rw [e1, Bool.eq_iff_iff, hasB_iff, hasB_iff, tidy_mem hv]
theorem has_ok {d : D} {s : SpL} {x : Int} (hd : Sq d (en s)) : Ret (F__law_has [.sh d, .sh (.int x)]) (.sh (.bl (hasB s x))) := by
  have k := forL_any (g := k2 2 3) (b := B__law_has_1) (en := e1) (S := fun ρ => ∃ a b, ρ = [.sh d, .sh (.int x), a, b]) (c := fun p => decide (p.1 ≤ x) && decide (x ≤ p.2)) (s := .sh (.bl true)) s (fun p hp ρ ds ⟨a, b, e⟩ => by
    subst e
    refine ⟨fun q => ⟨_, ?_, ⟨.sh (.int p.1), .sh (.int p.2), rfl⟩⟩, fun q => ⟨_, ⟨.sh (.int p.1), .sh (.int p.2), rfl⟩, ?_⟩⟩
    · rw [Bool.and_eq_true, decide_eq_true_eq, decide_eq_true_eq] at q
      simp only [ev1, ev2, ev3, ev4, ev5, ev6, ev7, LIM, ↓reduceIte, Nat.reduceAdd, Nat.reduceSub, Nat.reduceLeDiff, Nat.reduceLT, Nat.reduceEqDiff, Int.reduceEq, Int.reduceLT, Int.reduceLE, Int.reduceNeg, Int.reduceBEq, decide_true, decide_false, Bool.not_true, Bool.not_false, Option.getD_some, eq_self, Bool.false_eq_true, B__law_has_1, q.1, q.2]
    · by_cases c : p.1 ≤ x
      · have : decide (x ≤ p.2) = false := by simpa [c] using q
        simp only [ev1, ev2, ev3, ev4, ev5, ev6, ev7, LIM, ↓reduceIte, Nat.reduceAdd, Nat.reduceSub, Nat.reduceLeDiff, Nat.reduceLT, Nat.reduceEqDiff, Int.reduceEq, Int.reduceLT, Int.reduceLE, Int.reduceNeg, Int.reduceBEq, decide_true, decide_false, Bool.not_true, Bool.not_false, Option.getD_some, eq_self, Bool.false_eq_true, B__law_has_1, c, this]
      · simp only [ev1, ev2, ev3, ev4, ev5, ev6, ev7, LIM, ↓reduceIte, Nat.reduceAdd, Nat.reduceSub, Nat.reduceLeDiff, Nat.reduceLT, Nat.reduceEqDiff, Int.reduceEq, Int.reduceLT, Int.reduceLE, Int.reduceNeg, Int.reduceBEq, decide_true, decide_false, Bool.not_true, Bool.not_false, Option.getD_some, eq_self, Bool.false_eq_true, B__law_has_1, c]) [.sh d, .sh (.int x), .no, .no] ⟨.no, .no, rfl⟩
  unfold F__law_has
  cases q : hasB s x with
  | true =>
    obtain ⟨ρ', e, _⟩ := k.1 q
    simp only [ev1, ev2, ev3, ev4, ev5, ev6, ev7, LIM, ↓reduceIte, Nat.reduceAdd, Nat.reduceSub, Nat.reduceLeDiff, Nat.reduceLT, Nat.reduceEqDiff, Int.reduceEq, Int.reduceLT, Int.reduceLE, Int.reduceNeg, Int.reduceBEq, decide_true, decide_false, Bool.not_true, Bool.not_false, Option.getD_some, eq_self, Bool.false_eq_true, hd.i, e]
    exact .mk rfl
  | false =>
    obtain ⟨ρ', ⟨a, b, e1⟩, e⟩ := k.2 q
    simp only [ev1, ev2, ev3, ev4, ev5, ev6, ev7, LIM, ↓reduceIte, Nat.reduceAdd, Nat.reduceSub, Nat.reduceLeDiff, Nat.reduceLT, Nat.reduceEqDiff, Int.reduceEq, Int.reduceLT, Int.reduceLE, Int.reduceNeg, Int.reduceBEq, decide_true, decide_false, Bool.not_true, Bool.not_false, Option.getD_some, eq_self, Bool.false_eq_true, hd.i, e]
    exact .mk rfl
def startsL (s : SpL) : List Int := s.flatMap fun p => [p.1, p.2 + 1]
theorem starts_ok {d : D} {s : SpL} (hd : Sq d (en s)) (hn : s.length ≤ 1000) : Ret (F__law_starts [.sh d]) (.sh (.lst ((startsL s).map D.int))) := by
  obtain ⟨ρ', ⟨x, y, hρ, _⟩, e⟩ := forL_rem (g := k2 2 3) (b := B__law_starts_1) (en := e1) (S := fun as (acc : List Int) ρ => ∃ a b, ρ = [.sh d, .sh (.lst (acc.map D.int)), a, b] ∧ acc.length + 2 * as.length ≤ 2000) (f := fun r p => r ++ [p.1, p.2 + 1]) (fun p as acc ρ ⟨a, b, e, h3⟩ => by
    subst e
    rw [List.length_cons] at h3
    refine ⟨_, ⟨.sh (.int p.1), .sh (.int p.2), rfl, ?_⟩, ?_⟩
    · rw [List.length_append]; simp only [List.length_cons, List.length_nil]; omega
    · have l1 : acc.length + 2 ≤ 16777216 := by omega
      have e2 : (acc ++ [p.1, p.2 + 1]).map D.int = acc.map D.int ++ [.int p.1, .int (p.2 + 1)] := by rw [List.map_append]; rfl
      rw [e2]
      simp only [ev1, ev2, ev3, ev4, ev5, ev6, ev7, LIM, ↓reduceIte, Nat.reduceAdd, Nat.reduceSub, Nat.reduceLeDiff, Nat.reduceLT, Nat.reduceEqDiff, Int.reduceEq, Int.reduceLT, Int.reduceLE, Int.reduceNeg, Int.reduceBEq, decide_true, decide_false, Bool.not_true, Bool.not_false, Option.getD_some, eq_self, Bool.false_eq_true, B__law_starts_1, List.length_map, l1]) s [] [.sh d, .sh (.lst []), .no, .no] ⟨.no, .no, rfl, by simp; omega⟩
  subst hρ
  unfold F__law_starts
  simp only [ev1, ev2, ev3, ev4, ev5, ev6, ev7, LIM, ↓reduceIte, Nat.reduceAdd, Nat.reduceSub, Nat.reduceLeDiff, Nat.reduceLT, Nat.reduceEqDiff, Int.reduceEq, Int.reduceLT, Int.reduceLE, Int.reduceNeg, Int.reduceBEq, decide_true, decide_false, Bool.not_true, Bool.not_false, Option.getD_some, eq_self, Bool.false_eq_true, hd.i, e, shs]
  refine .mk ?_
  have : ∀ (t : SpL) (r : List Int), t.foldl (fun r p => r ++ [p.1, p.2 + 1]) r = r ++ startsL t := fun t => by
    induction t with
    | nil => intro r; simp [startsL]
    | cons p t ih => intro r; rw [List.foldl_cons, ih, List.append_assoc]; rfl
  rw [this]; rfl
end Lw

namespace Spn
def addp (acc : SpL) (a b : Int) : SpL := match acc.getLast? with
  | some q => if q.2 + 1 = a then acc.dropLast ++ [(q.1, b)] else acc ++ [(a, b)]
  | none => [(a, b)]
theorem addp_nil (a b : Int) : addp [] a b = [(a, b)] := rfl
theorem addp_app (s : SpL) (q : Int × Int) (a b : Int) : addp (s ++ [q]) a b = if q.2 + 1 = a then s ++ [(q.1, b)] else s ++ [q] ++ [(a, b)] := by
  unfold addp
  rw [List.getLast?_concat]
  simp only [List.dropLast_concat]
theorem last_or (s : SpL) : s = [] ∨ ∃ t q, s = t ++ [q] := by
  rcases List.eq_nil_or_concat s with h | ⟨t, q, h⟩
  · exact .inl h
  · exact .inr ⟨t, q, by rw [h, List.concat_eq_append]⟩
theorem can_app {s : SpL} {q : Int × Int} : Can (s ++ [q]) ↔ Can s ∧ q.1 ≤ q.2 ∧ ∀ p ∈ s, p.2 + 1 < q.1 := by
  constructor
  · rintro ⟨v, g⟩
    rw [List.pairwise_append] at g
    exact ⟨⟨fun p hp => v p (by simp [hp]), g.1⟩, v q (by simp), fun p hp => g.2.2 p hp q (by simp)⟩
  · rintro ⟨⟨v, g⟩, h1, h2⟩
    refine ⟨fun p hp => ?_, ?_⟩
    · rcases List.mem_append.mp hp with hp | hp
      · exact v p hp
      · cases List.mem_singleton.mp hp; exact h1
    · rw [List.pairwise_append]
      refine ⟨g, List.pairwise_singleton _ _, fun p hp r hr => ?_⟩
      cases List.mem_singleton.mp hr
      exact h2 p hp
theorem addp_spec {acc : SpL} {a b : Int} (h : Can acc) (ha : ∀ p ∈ acc, p.2 < a) (hab : a ≤ b) : Can (addp acc a b) ∧ (∀ p ∈ addp acc a b, p.2 ≤ b) ∧ (∀ x, Mem (addp acc a b) x ↔ Mem acc x ∨ (a ≤ x ∧ x ≤ b)) ∧ (addp acc a b).length ≤ acc.length + 1 := by
  rcases last_or acc with e | ⟨t, q, e⟩
  · subst e
    rw [addp_nil]
    refine ⟨⟨by simp [hab], List.pairwise_singleton _ _⟩, by simp, fun x => by simp [Mem], by simp⟩
  · subst e
    rw [addp_app]
    obtain ⟨c1, c2, c3⟩ := can_app.mp h
    have hq := ha q (by simp)
    split
    · rename_i c
      refine ⟨can_app.mpr ⟨c1, by dsimp only; omega, fun p hp => c3 p hp⟩, fun p hp => ?_, fun x => ?_, by simp⟩
      · rcases List.mem_append.mp hp with hp | hp
        · have := ha p (by simp [hp]); omega
        · cases List.mem_singleton.mp hp; exact Int.le_refl _
      · rw [Mem.app, Mem.app, Mem.cons, Mem.cons, Mem.nil]
        dsimp only
        simp only [or_false]
        constructor
        · rintro (r | r)
          · exact .inl (.inl r)
          · by_cases z : x ≤ q.2
            · exact .inl (.inr ⟨r.1, z⟩)
            · exact .inr ⟨by omega, r.2⟩
        · rintro ((r | r) | r)
          · exact .inl r
          · exact .inr (by omega)
          · exact .inr (by omega)
    · rename_i c
      refine ⟨can_app.mpr ⟨h, hab, fun p hp => ?_⟩, fun p hp => ?_, fun x => ?_, by simp⟩
      · dsimp only
        rcases List.mem_append.mp hp with hp | hp
        · have := c3 p hp; omega
        · cases List.mem_singleton.mp hp; omega
      · rcases List.mem_append.mp hp with hp | hp
        · have := ha p hp; omega
        · cases List.mem_singleton.mp hp; exact Int.le_refl _
      · rw [Mem.app, Mem.cons (a, b), Mem.nil, or_false]
def stp (W : Int → Bool) (f : Nat → Int) (acc : SpL) (k : Nat) : SpL := if W (f k) && decide (f k ≤ f (k + 1) - 1) then addp acc (f k) (f (k + 1) - 1) else acc
theorem stp_go {W : Int → Bool} {f : Nat → Int} {n : Nat} (mono : ∀ k, k < n → f k ≤ f (k + 1)) (hc : ∀ k x, k < n → f k ≤ x → x < f (k + 1) → W x = W (f k)) : ∀ (m k : Nat) (acc : SpL), k + m = n → Can acc → (∀ p ∈ acc, p.2 < f k) → Can ((List.range' k m).foldl (stp W f) acc) ∧ ∀ x, Mem ((List.range' k m).foldl (stp W f) acc) x ↔ Mem acc x ∨ (f k ≤ x ∧ x < f n ∧ W x = true)
  | 0, k, acc, e, h, _ => ⟨h, fun x => by
      have : k = n := by omega
      subst this
      show Mem acc x ↔ _
      constructor
      · exact .inl
      · rintro (r | r)
        · exact r
        · omega⟩
  | m + 1, k, acc, e, h, ha => by
    rw [List.range'_succ, List.foldl_cons]
    have mk := mono k (by omega)
    have mn : ∀ j, j ≤ n → k ≤ j → f k ≤ f j := fun j => by
      induction j with
      | zero => intro _ h; have : k = 0 := by omega
                subst this; exact Int.le_refl _
      | succ j ih =>
        intro h1 h2
        by_cases q : k = j + 1
        · subst q; exact Int.le_refl _
        · have := ih (by omega) (by omega); have := mono j (by omega); omega
    have mn1 : f (k + 1) ≤ f n := by
      have : ∀ j, k + 1 + j ≤ n → f (k + 1) ≤ f (k + 1 + j) := fun j => by
        induction j with
        | zero => intro _; exact Int.le_refl _
        | succ j ih => intro h; have := ih (by omega); have := mono (k + 1 + j) (by omega); rw [← Nat.add_assoc]; omega
      have := this (n - (k + 1)) (by omega)
      rw [show k + 1 + (n - (k + 1)) = n by omega] at this
      exact this
    unfold stp
    split
    · rename_i c
      obtain ⟨w, c⟩ := Bool.and_eq_true_iff.mp c
      have c := of_decide_eq_true c
      obtain ⟨a1, a2, a3, _⟩ := addp_spec h ha c
      obtain ⟨b1, b2⟩ := stp_go mono hc m (k + 1) _ (by omega) a1 fun p hp => by have := a2 p hp; omega
      refine ⟨b1, fun x => (b2 x).trans ?_⟩
      rw [a3 x, or_assoc]
      refine or_congr_right ?_
      constructor
      · rintro (r | r)
        · exact ⟨r.1, by omega, by rw [hc k x (by omega) r.1 (by omega)]; exact w⟩
        · exact ⟨by omega, r.2.1, r.2.2⟩
      · rintro ⟨r1, r2, r3⟩
        by_cases z : x < f (k + 1)
        · exact .inl (by omega)
        · exact .inr ⟨by omega, r2, r3⟩
    · rename_i c
      obtain ⟨b1, b2⟩ := stp_go mono hc m (k + 1) _ (by omega) h fun p hp => by have := ha p hp; omega
      refine ⟨b1, fun x => (b2 x).trans ?_⟩
      refine or_congr_right ?_
      constructor
      · rintro ⟨r1, r2, r3⟩
        exact ⟨by omega, r2, r3⟩
      · rintro ⟨r1, r2, r3⟩
        refine ⟨?_, r2, r3⟩
        by_cases z : x < f (k + 1)
        · exfalso
          apply c
          rw [hc k x (by omega) r1 z] at r3
          rw [r3, Bool.true_and, decide_eq_true_eq]
          omega
        · omega
end Spn
namespace Lw
open PySem L2 Sep LwA Spn
theorem mem_starts {s : SpL} {p : Int × Int} (h : p ∈ s) : p.1 ∈ startsL s ∧ p.2 + 1 ∈ startsL s := by
  constructor <;> exact List.mem_flatMap.mpr ⟨p, h, by simp⟩
theorem starts_len (s : SpL) : (startsL s).length = 2 * s.length := by
  induction s with
  | nil => rfl
  | cons p s ih => show ([p.1, p.2 + 1] ++ startsL s).length = _; rw [List.length_append, ih, List.length_cons, List.length_cons, List.length_cons, List.length_nil]; omega
abbrev pts (s t : SpL) : List Int := isort (startsL s ++ startsL t)
abbrev pf (s t : SpL) : Nat → Int := fun k => (pts s t).getD k 0
abbrev cw (c : Bool → Bool → Bool) (s t : SpL) : Int → Bool := fun x => c (hasB s x) (hasB t x)
def partsL (c : Bool → Bool → Bool) (s t : SpL) : SpL := (List.range' 0 ((pts s t).length - 1)).foldl (stp (cw c s t) (pf s t)) []
theorem getD_el {xs : List Int} {k : Nat} (h : k < xs.length) : xs.getD k 0 = xs[k] := by simp [h]
theorem pf_mono {s t : SpL} {i j : Nat} (h : i ≤ j) (hj : j < (pts s t).length) : pf s t i ≤ pf s t j := by
  have hi : i < (pts s t).length := by omega
  unfold pf
  rw [getD_el hi, getD_el hj]
  by_cases e : i = j
  · subst e; exact Int.le_refl _
  · exact List.pairwise_iff_getElem.mp (isort_sorted _) i j (by omega) hj (by omega)
theorem pf_mem {s t : SpL} {q : Int} (h : q ∈ pts s t) : ∃ i, i < (pts s t).length ∧ pf s t i = q := by
  obtain ⟨i, hi, e⟩ := List.getElem_of_mem h
  exact ⟨i, hi, by unfold pf; rw [getD_el hi]; exact e⟩
theorem pts_l {s t : SpL} {q : Int} (h : q ∈ startsL s) : q ∈ pts s t := mem_isort.mpr (List.mem_append_left _ h)
theorem pts_r {s t : SpL} {q : Int} (h : q ∈ startsL t) : q ∈ pts s t := mem_isort.mpr (List.mem_append_right _ h)
theorem no_cut {s t : SpL} {q x : Int} {k : Nat} (h : q ∈ pts s t) (hk : k + 1 < (pts s t).length) (h1 : pf s t k ≤ x) (h2 : x < pf s t (k + 1)) : q ≤ x ↔ q ≤ pf s t k := by
  obtain ⟨i, hi, e⟩ := pf_mem h
  by_cases c : i ≤ k
  · have := pf_mono (s := s) (t := t) c (by omega); omega
  · have := pf_mono (s := s) (t := t) (show k + 1 ≤ i by omega) hi; omega
theorem has_const {s t u : SpL} {x : Int} {k : Nat} (hu : ∀ q ∈ startsL u, q ∈ pts s t) (hk : k + 1 < (pts s t).length) (h1 : pf s t k ≤ x) (h2 : x < pf s t (k + 1)) : hasB u x = hasB u (pf s t k) := by
  unfold hasB
  rw [Bool.eq_iff_iff, List.any_eq_true, List.any_eq_true]
  have key : ∀ p ∈ u, (decide (p.1 ≤ x) && decide (x ≤ p.2)) = (decide (p.1 ≤ pf s t k) && decide (pf s t k ≤ p.2)) := fun p hp => by
    have a := no_cut (hu _ (mem_starts hp).1) hk h1 h2
    have b := no_cut (hu _ (mem_starts hp).2) hk h1 h2
    rw [Bool.eq_iff_iff, Bool.and_eq_true, Bool.and_eq_true, decide_eq_true_eq, decide_eq_true_eq, decide_eq_true_eq, decide_eq_true_eq]
    omega
  constructor
  · rintro ⟨p, hp, e⟩; exact ⟨p, hp, by rw [← key p hp]; exact e⟩
  · rintro ⟨p, hp, e⟩; exact ⟨p, hp, by rw [key p hp]; exact e⟩
theorem has_bounds {s t u : SpL} {x : Int} (hu : ∀ q ∈ startsL u, q ∈ pts s t) (h : hasB u x = true) : pf s t 0 ≤ x ∧ x < pf s t ((pts s t).length - 1) := by
  obtain ⟨p, hp, h1, h2⟩ := (hasB_iff u x).mp h
  obtain ⟨i, hi, e⟩ := pf_mem (hu _ (mem_starts hp).1)
  obtain ⟨j, hj, e2⟩ := pf_mem (hu _ (mem_starts hp).2)
  have a := pf_mono (s := s) (t := t) (Nat.zero_le i) hi
  have b := pf_mono (s := s) (t := t) (show j ≤ (pts s t).length - 1 by omega) (by omega)
  omega
theorem parts_spec {c : Bool → Bool → Bool} (h0 : c false false = false) (s t : SpL) : Can (partsL c s t) ∧ ∀ x, Mem (partsL c s t) x ↔ c (hasB s x) (hasB t x) = true := by
  obtain ⟨a, b⟩ := stp_go (W := cw c s t) (f := pf s t) (n := (pts s t).length - 1) (fun k hk => pf_mono (by omega) (by omega)) (fun k x hk h1 h2 => by
    unfold cw
    rw [has_const (u := s) (fun q => pts_l) (by omega) h1 h2, has_const (u := t) (fun q => pts_r) (by omega) h1 h2]) ((pts s t).length - 1) 0 [] (by omega) .nil (by simp)
  refine ⟨a, fun x => (b x).trans ?_⟩
  rw [Mem.nil, false_or]
  constructor
  · exact fun h => h.2.2
  · intro h
    have hb : hasB s x = true ∨ hasB t x = true := by
      cases e1 : hasB s x with
      | true => exact .inl rfl
      | false =>
        cases e2 : hasB t x with
        | true => exact .inr rfl
        | false => rw [e1, e2, h0] at h; cases h
    have : pf s t 0 ≤ x ∧ x < pf s t ((pts s t).length - 1) := by
      rcases hb with e | e
      · exact has_bounds (fun q => pts_l) e
      · exact has_bounds (fun q => pts_r) e
    exact ⟨this.1, this.2, h⟩
theorem pys_en (s : SpL) : pys (en s) = some (s.map fun p => PyData.tuple [.int p.1, .int p.2]) := by
  induction s with
  | nil => rfl
  | cons p s ih => rw [en, List.map_cons, pys, show List.map e1 s = en s from rfl, ih]; rfl
theorem lay_en (s : SpL) : PyData.canLayAll0 (s.map fun p => PyData.tuple [.int p.1, .int p.2]) = true ∧ PyData.depthAll (s.map fun p => PyData.tuple [.int p.1, .int p.2]) ≤ 1 := by
  induction s with
  | nil => exact ⟨rfl, Nat.zero_le _⟩
  | cons p s ih =>
    refine ⟨?_, ?_⟩
    · rw [List.map_cons, PyData.canLayAll0, ih.1]; rfl
    · rw [List.map_cons, PyData.depthAll]
      have : PyData.depth (PyData.tuple [.int p.1, .int p.2]) = 1 := rfl
      rw [this]; omega
theorem ne_nil_en (s : SpL) : gNe (.lst (en s)) (.lst []) = some (.sh (.bl (!s.isEmpty))) := by
  unfold gNe
  have e2 : D.py (.lst (en s)) = some (.list (s.map fun p => PyData.tuple [.int p.1, .int p.2])) := by
    show (pys (en s)).map PyData.list = _
    rw [pys_en]; rfl
  have e3 : D.py (.lst []) = some (.list []) := rfl
  have e4 : SeqAt.shaped (.list (s.map fun p => PyData.tuple [.int p.1, .int p.2])) = true := by
    unfold SeqAt.shaped
    rw [Bool.and_eq_true, decide_eq_true_eq]
    refine ⟨(lay_en s).1, ?_⟩
    show PyData.depthAll _ + 1 ≤ 64
    have := (lay_en s).2; omega
  have e5 : SeqAt.shaped (.list []) = true := rfl
  rw [e2, e3]
  simp only [e4, e5, Bool.and_self, ↓reduceIte]
  cases s <;> rfl
theorem atI_last {α : Type} (xs : List α) (a : α) : atI (xs ++ [a]) (-1) = some a := by
  unfold atI ixN
  rw [if_neg (by omega), if_pos (by simp; omega)]
  have : (-1 + ((xs ++ [a]).length : Int)).toNat = xs.length := by rw [List.length_append, List.length_singleton]; omega
  rw [this]; simp
theorem ixN_last (n : Nat) : ixN (n + 1) (-1) = some n := by
  unfold ixN
  rw [if_neg (by omega), if_pos (by omega)]
  congr 1; omega
theorem set_last {α : Type} (xs : List α) (a b : α) : (xs ++ [a]).set xs.length b = xs ++ [b] := by simp
theorem gat_i {xs : List Int} {k : Nat} (h : k < xs.length) : gIx (.lst (xs.map D.int)) (.int (k : Int)) = some (.sh (.int (xs.getD k 0))) := by
  show (atI (xs.map D.int) (k : Int)).map Slot.sh = _
  rw [atI_nat _ _ (by rw [List.length_map]; exact h), List.getElem?_map, List.getElem?_eq_getElem h, getD_el h]; rfl
abbrev tlP : SEv := (sIf (eAnd (eTru (eVar 8)) (tOfE (eOp gLe (eVar 6) (eVar 7))))
  (sIf (eAnd (tOfE (eOp gNe (eVar 4) (eLst aNil))) (tOfE (eOp gEq (eOp gAdd (eOp gIx (eOp gIx (eVar 4) (eUn gNeg (eC (.int 1)))) (eC (.int 1))) (eC (.int 1))) (eVar 6))))
  (sAsg (kSub (eVar 4) (eUn gNeg (eC (.int 1)))) (eTup (aCons (eOp gIx (eOp gIx (eVar 4) (eUn gNeg (eC (.int 1)))) (eC (.int 0))) (aCons (eVar 7) aNil))))
  (sExpr (eApp (eVar 4) (eTup (aCons (eVar 6) (aCons (eVar 7) aNil))))))
  sNil)
theorem tl_ok (acc : SpL) (lo hi : Int) (wb : Bool) (la : acc.length < 16777216) (r0 r1 r2 r3 r5 r9 r10 : Slot) : tlP [r0, r1, r2, r3, .lst (shs (en acc)), r5, .sh (.int lo), .sh (.int hi), .sh (.bl wb), r9, r10] = .ok .nx [r0, r1, r2, r3, .lst (shs (en (if wb && decide (lo ≤ hi) then addp acc lo hi else acc))), r5, .sh (.int lo), .sh (.int hi), .sh (.bl wb), r9, r10] := by
  unfold tlP
  cases wb with
  | false => simp only [ev1, ev2, ev3, ev4, ev5, ev6, ev7, LIM, ↓reduceIte, Nat.reduceAdd, Nat.reduceSub, Nat.reduceLeDiff, Nat.reduceLT, Nat.reduceEqDiff, Int.reduceEq, Int.reduceLT, Int.reduceLE, Int.reduceNeg, Int.reduceBEq, decide_true, decide_false, Bool.not_true, Bool.not_false, Option.getD_some, eq_self, Bool.false_eq_true, Bool.false_and]
  | true =>
    by_cases c : lo ≤ hi
    · rcases last_or acc with e | ⟨u, q, e⟩
      · subst e
        have n0 : gNe (.lst []) (.lst []) = some (.sh (.bl false)) := ne_nil_en []
        rw [addp_nil]
        simp only [ev1, ev2, ev3, ev4, ev5, ev6, ev7, LIM, ↓reduceIte, Nat.reduceAdd, Nat.reduceSub, Nat.reduceLeDiff, Nat.reduceLT, Nat.reduceEqDiff, Int.reduceEq, Int.reduceLT, Int.reduceLE, Int.reduceNeg, Int.reduceBEq, decide_true, decide_false, Bool.not_true, Bool.not_false, Option.getD_some, eq_self, Bool.false_eq_true, c, shs, n0, Bool.and_self]
      · subst e
        have n1 : gNe (.lst (en (u ++ [q]))) (.lst []) = some (.sh (.bl true)) := (ne_nil_en (u ++ [q])).trans (by simp)
        have ee : en (u ++ [q]) = en u ++ [e1 q] := by rw [en, List.map_append]; rfl
        have ln : (en u ++ [e1 q]).length = u.length + 1 := by rw [List.length_append, en_len]; rfl
        have al := atI_last (en u) (e1 q)
        have il := ixN_last u.length
        have sl := fun z => set_last (en u) (e1 q) z
        rw [en_len] at sl
        rw [addp_app]
        rw [ee] at n1 ⊢
        by_cases z : q.2 + 1 = lo
        · have ea : en u ++ [.tup [.int q.1, .int hi]] = en (u ++ [(q.1, hi)]) := by simp [en]
          simp only [ev1, ev2, ev3, ev4, ev5, ev6, ev7, LIM, ↓reduceIte, Nat.reduceAdd, Nat.reduceSub, Nat.reduceLeDiff, Nat.reduceLT, Nat.reduceEqDiff, Int.reduceEq, Int.reduceLT, Int.reduceLE, Int.reduceNeg, Int.reduceBEq, decide_true, decide_false, Bool.not_true, Bool.not_false, Option.getD_some, eq_self, Bool.false_eq_true, c, n1, al, ln, il, sl, z, beq_self_eq_true, Bool.and_self]
          rw [← ea]
        · have zb : (q.2 + 1 == lo) = false := by simpa using z
          have eb : shs (en (u ++ [q] ++ [(lo, hi)])) = shs (en u ++ [e1 q]) ++ [.sh (.tup [.int lo, .int hi])] := by simp [shs, en]
          have la' : (shs (en u ++ [e1 q])).length < 16777216 := by rw [List.length_map, ln]; rw [List.length_append] at la; exact la
          simp only [ev1, ev2, ev3, ev4, ev5, ev6, ev7, LIM, ↓reduceIte, Nat.reduceAdd, Nat.reduceSub, Nat.reduceLeDiff, Nat.reduceLT, Nat.reduceEqDiff, Int.reduceEq, Int.reduceLT, Int.reduceLE, Int.reduceNeg, Int.reduceBEq, decide_true, decide_false, Bool.not_true, Bool.not_false, Option.getD_some, eq_self, Bool.false_eq_true, c, n1, al, zb, z, la', Bool.and_self]
          rw [eb]
    · simp only [ev1, ev2, ev3, ev4, ev5, ev6, ev7, LIM, ↓reduceIte, Nat.reduceAdd, Nat.reduceSub, Nat.reduceLeDiff, Nat.reduceLT, Nat.reduceEqDiff, Int.reduceEq, Int.reduceLT, Int.reduceLE, Int.reduceNeg, Int.reduceBEq, decide_true, decide_false, Bool.not_true, Bool.not_false, Option.getD_some, eq_self, Bool.false_eq_true, c, Bool.and_false]
theorem parts_loop {d d2 w : D} {s t : SpL} {c : Bool → Bool → Bool} (hd : Sq d (en s)) (hd2 : Sq d2 (en t)) (hn : s.length + t.length ≤ 400)
    (hw : ∀ (a b : Bool) (ρ0 ρ1 ρ3 ρ4 ρ5 ρ6 ρ7 ρ10 : Slot) (rest : SEv), kSeq rest (sIf (tOfE (eOp gEq (eVar 2) (eC (.str "joined"))))
  (sSetF 8 (eOrV (eVar 8) (eVar 9)))
  (sIf (tOfE (eOp gEq (eVar 2) (eC (.str "common"))))
  (sSetF 8 (eAndV (eVar 8) (eVar 9)))
  (sSetF 8 (eAndV (eVar 8) (eNotV (eVar 9))))) [ρ0, ρ1, .sh w, ρ3, ρ4, ρ5, ρ6, ρ7, .sh (.bl a), .sh (.bl b), ρ10]) = rest [ρ0, ρ1, .sh w, ρ3, ρ4, ρ5, ρ6, ρ7, .sh (.bl (c a b)), .sh (.bl b), ρ10]) : ∃ a5 a6 a7 a8 a9, forL (kName 5) B__law_parts_1 ((List.range' 0 ((pts s t).length - 1)).map fun (i : Nat) => D.int i) [.sh d, .sh d2, .sh w, .sh (.lst ((pts s t).map D.int)), .lst [], .no, .no, .no, .no, .no, .no] = .ok .nx [.sh d, .sh d2, .sh w, .sh (.lst ((pts s t).map D.int)), .lst (shs (en (partsL c s t))), a5, a6, a7, a8, a9, .no] := by
  have lp : (pts s t).length ≤ 800 := by
    show (isort _).length ≤ _
    rw [len_isort, List.length_append, starts_len, starts_len]; omega
  obtain ⟨ρ', ⟨x5, x6, x7, x8, x9, hρ, _⟩, e⟩ := forL_rem (g := kName 5) (b := B__law_parts_1) (en := fun (i : Nat) => D.int i) (S := fun as (acc : SpL) ρ => ∃ a5 a6 a7 a8 a9, ρ = [.sh d, .sh d2, .sh w, .sh (.lst ((pts s t).map D.int)), .lst (shs (en acc)), a5, a6, a7, a8, a9, .no] ∧ (∀ k ∈ as, k + 1 < (pts s t).length) ∧ acc.length + as.length ≤ 800 ) (f := stp (cw c s t) (pf s t)) (fun k as acc ρ ⟨a5, a6, a7, a8, a9, e, hk, hl⟩ => by
    subst e
    have hk1 := hk k (by simp)
    rw [List.length_cons] at hl
    obtain ⟨fs, h1⟩ := has_ok (x := pf s t k) hd
    obtain ⟨fs2, h2⟩ := has_ok (x := pf s t k) hd2
    have i1 : gIx (.lst ((pts s t).map D.int)) (.int (k : Int)) = some (.sh (.int (pf s t k))) := gat_i (by omega)
    have i2 : gIx (.lst ((pts s t).map D.int)) (.int ((k : Int) + 1)) = some (.sh (.int (pf s t (k + 1)))) := gat_i (k := k + 1) hk1
    have la : acc.length < 16777216 := by omega
    refine ⟨[.sh d, .sh d2, .sh w, .sh (.lst ((pts s t).map D.int)), .lst (shs (en (stp (cw c s t) (pf s t) acc k))), .sh (.int k), .sh (.int (pf s t k)), .sh (.int (pf s t (k + 1) - 1)), .sh (.bl (cw c s t (pf s t k))), .sh (.bl (hasB t (pf s t k))), .no], ⟨_, _, _, _, _, rfl, fun j hj => hk j (by simp [hj]), ?_⟩, ?_⟩
    · unfold stp
      split
      · rcases last_or acc with e | ⟨u, q, e⟩
        · subst e; rw [addp_nil]; simp at hl ⊢; omega
        · subst e; rw [addp_app]; split <;> simp at hl ⊢ <;> omega
      · omega
    · have hw' := fun a b ρ0 ρ1 ρ2 ρ3 ρ4 ρ5 ρ6 ρ7 ρ10 => hw a b ρ0 ρ1 ρ2 ρ3 ρ4 ρ5 ρ6 ρ7 ρ10
      unfold B__law_parts_1
      have tlk := fun r0 r1 r2 r3 r5 r9 r10 => tl_ok acc (pf s t k) (pf s t (k + 1) - 1) (cw c s t (pf s t k)) la r0 r1 r2 r3 r5 r9 r10
      generalize hmid : (sIf (tOfE (eOp gEq (eVar 2) (eC (.str "joined"))))
        (sSetF 8 (eOrV (eVar 8) (eVar 9)))
        (sIf (tOfE (eOp gEq (eVar 2) (eC (.str "common"))))
        (sSetF 8 (eAndV (eVar 8) (eVar 9)))
        (sSetF 8 (eAndV (eVar 8) (eNotV (eVar 9)))))) = mid at hw ⊢
      unfold tlP at tlk
      generalize hb : (sIf (eAnd (eTru (eVar 8)) (tOfE (eOp gLe (eVar 6) (eVar 7))))
  (sIf (eAnd (tOfE (eOp gNe (eVar 4) (eLst aNil))) (tOfE (eOp gEq (eOp gAdd (eOp gIx (eOp gIx (eVar 4) (eUn gNeg (eC (.int 1)))) (eC (.int 1))) (eC (.int 1))) (eVar 6))))
  (sAsg (kSub (eVar 4) (eUn gNeg (eC (.int 1)))) (eTup (aCons (eOp gIx (eOp gIx (eVar 4) (eUn gNeg (eC (.int 1)))) (eC (.int 0))) (aCons (eVar 7) aNil))))
  (sExpr (eApp (eVar 4) (eTup (aCons (eVar 6) (aCons (eVar 7) aNil))))))
  sNil) = tl at tlk ⊢
      simp only [ev1, ev2, ev3, ev4, ev5, ev6, ev7, LIM, ↓reduceIte, Nat.reduceAdd, Nat.reduceSub, Nat.reduceLeDiff, Nat.reduceLT, Nat.reduceEqDiff, Int.reduceEq, Int.reduceLT, Int.reduceLE, Int.reduceNeg, Int.reduceBEq, decide_true, decide_false, Bool.not_true, Bool.not_false, Option.getD_some, eq_self, Bool.false_eq_true, i1, i2, h1, h2, shs]
      rw [hw]
      rw [show List.map Slot.sh (en acc) = shs (en acc) from rfl, show c (hasB s (pf s t k)) (hasB t (pf s t k)) = cw c s t (pf s t k) from rfl, tlk]
      simp only [ev1, ev2, ev3, ev4, ev5, ev6, ev7, LIM, ↓reduceIte, Nat.reduceAdd, Nat.reduceSub, Nat.reduceLeDiff, Nat.reduceLT, Nat.reduceEqDiff, Int.reduceEq, Int.reduceLT, Int.reduceLE, Int.reduceNeg, Int.reduceBEq, decide_true, decide_false, Bool.not_true, Bool.not_false, Option.getD_some, eq_self, Bool.false_eq_true]
      rfl) (List.range' 0 ((pts s t).length - 1)) [] [.sh d, .sh d2, .sh w, .sh (.lst ((pts s t).map D.int)), .lst [], .no, .no, .no, .no, .no, .no] ⟨_, _, _, _, _, rfl, by
        intro k hk
        rw [List.mem_range'_1] at hk; omega, by rw [List.length_nil, List.length_range']; omega⟩
  exact ⟨x5, x6, x7, x8, x9, by rw [e, hρ]; rfl⟩
end Lw

namespace Lw
open PySem L2 Sep LwA Spn
theorem number_ok {ns : List Int} {s : Slot} (h : BOK ns s) : ∃ z s', F__law_number [s] = .ok (.sh (.int z)) [s'] ∧ BOK ns s' := by
  obtain ⟨z, s1, e1, a, b, h1⟩ := h.draw 5 (by decide) (by decide +kernel)
  have p12 : cPow 10 12 = true := by decide +kernel
  have p30 : cPow 10 30 = true := by decide +kernel
  have t12 : (12 : Int).toNat = 12 := rfl
  have t30 : (30 : Int).toNat = 30 := rfl
  have m12 : cMul 2 (10 ^ 12) = true := by decide +kernel
  have m30 : cMul 2 (10 ^ 30) = true := by decide +kernel
  by_cases c1 : z < 2
  · obtain ⟨z2, s2, e2, _, _, h2⟩ := h1.draw 13 (by decide) (by decide +kernel)
    refine ⟨z2 - 6, s2, ?_, h2⟩
    unfold F__law_number
    simp only [ev1, ev2, ev3, ev4, ev5, ev6, ev7, LIM, ↓reduceIte, Nat.reduceAdd, Nat.reduceSub, Nat.reduceLeDiff, Nat.reduceLT, Nat.reduceEqDiff, Int.reduceEq, Int.reduceLT, Int.reduceLE, Int.reduceNeg, Int.reduceBEq, decide_true, decide_false, Bool.not_true, Bool.not_false, Option.getD_some, eq_self, Bool.false_eq_true, ev8, ev9, ev10, h.var, e1, h1.var, c1, e2, fx__law_number]
  · by_cases c2 : z = 2
    · subst c2
      obtain ⟨z2, s2, e2, _, _, h2⟩ := h1.draw 2001 (by decide) (by decide +kernel)
      refine ⟨z2 - 1000, s2, ?_, h2⟩
      unfold F__law_number
      simp only [ev1, ev2, ev3, ev4, ev5, ev6, ev7, LIM, ↓reduceIte, Nat.reduceAdd, Nat.reduceSub, Nat.reduceLeDiff, Nat.reduceLT, Nat.reduceEqDiff, Int.reduceEq, Int.reduceLT, Int.reduceLE, Int.reduceNeg, Int.reduceBEq, decide_true, decide_false, Bool.not_true, Bool.not_false, Option.getD_some, eq_self, Bool.false_eq_true, ev8, ev9, ev10, h.var, e1, h1.var, e2, fx__law_number]
    · have c2' : (z == 2) = false := by simpa using c2
      by_cases c3 : z = 3
      · subst c3
        obtain ⟨z2, s2, e2, _, _, h2⟩ := h1.draw (2 * 10 ^ 12 + 1) (by decide) (by decide +kernel)
        refine ⟨z2 - 10 ^ 12, s2, ?_, h2⟩
        unfold F__law_number
        simp only [ev1, ev2, ev3, ev4, ev5, ev6, ev7, LIM, ↓reduceIte, Nat.reduceAdd, Nat.reduceSub, Nat.reduceLeDiff, Nat.reduceLT, Nat.reduceEqDiff, Int.reduceEq, Int.reduceLT, Int.reduceLE, Int.reduceNeg, Int.reduceBEq, decide_true, decide_false, Bool.not_true, Bool.not_false, Option.getD_some, eq_self, Bool.false_eq_true, ev8, ev9, ev10, h.var, e1, h1.var, e2, fx__law_number, p12, t12, m12]
      · have c3' : (z == 3) = false := by simpa using c3
        obtain ⟨z2, s2, e2, _, _, h2⟩ := h1.draw (2 * 10 ^ 30 + 1) (by decide) (by decide +kernel)
        refine ⟨z2 - 10 ^ 30, s2, ?_, h2⟩
        unfold F__law_number
        simp only [ev1, ev2, ev3, ev4, ev5, ev6, ev7, LIM, ↓reduceIte, Nat.reduceAdd, Nat.reduceSub, Nat.reduceLeDiff, Nat.reduceLT, Nat.reduceEqDiff, Int.reduceEq, Int.reduceLT, Int.reduceLE, Int.reduceNeg, Int.reduceBEq, decide_true, decide_false, Bool.not_true, Bool.not_false, Option.getD_some, eq_self, Bool.false_eq_true, ev8, ev9, ev10, h.var, e1, h1.var, c1, c2', c3', e2, fx__law_number, p30, t30, m30]
theorem draw_idx {xs : List D} {z : Int} (h0 : 0 ≤ z) (h1 : z < xs.length) : ∃ d, d ∈ xs ∧ atI xs z = some d := by
  refine ⟨xs[z.toNat]'(by omega), List.getElem_mem _, ?_⟩
  rw [atI_nn _ _ h0 h1, List.getElem?_eq_getElem (by omega)]
theorem mem_en {d : D} {s : SpL} (h : d ∈ en s) : ∃ p ∈ s, d = e1 p := by
  obtain ⟨p, hp, e⟩ := List.mem_map.mp h
  exact ⟨p, hp, e.symm⟩
theorem spans_body {ns : List Int} {s s2 : Slot} {most wide k : Int} {kn acc : SpL} {b5 b6 b7 b8 b9 b10 : Slot} (h : BOK ns s) (hk : kn.length + acc.length ≤ 1000) :
    ∃ s' low size c7 c8 c9 c10, 0 ≤ size ∧ BOK ns s' ∧ B__law_spans_4 [s, .sh (.int most), .sh (.lst (en kn)), .lst (shs (en acc)), .sh (.int wide), b5, b6, b7, b8, b9, b10] = .ok .nx [s', .sh (.int most), .sh (.lst (en kn)), .lst (shs (en (acc ++ [(low, low + size)]))), .sh (.int wide), b5, .sh (.int low), c7, c8, c9, c10] := by
  obtain ⟨z1, s1, e1', _, _, h1⟩ := h.draw 31 (by decide) (by decide +kernel)
  have seg1 : ∀ low, ∃ low' s2, BOK ns s2 ∧ B__law_spans_1 [s1, .sh (.int most), .sh (.lst (en kn)), .lst (shs (en acc)), .sh (.int wide), b5, .sh (.int low), b7, b8, b9, b10] = .ok .nx [s2, .sh (.int most), .sh (.lst (en kn)), .lst (shs (en acc)), .sh (.int wide), b5, .sh (.int low'), b7, b8, b9, b10] := fun low => by
    by_cases c : wide = 2
    · subst c
      obtain ⟨z, s2, e, h2⟩ := number_ok h1
      refine ⟨z, s2, h2, ?_⟩
      simp only [ev1, ev2, ev3, ev4, ev5, ev6, ev7, LIM, ↓reduceIte, Nat.reduceAdd, Nat.reduceSub, Nat.reduceLeDiff, Nat.reduceLT, Nat.reduceEqDiff, Int.reduceEq, Int.reduceLT, Int.reduceLE, Int.reduceNeg, Int.reduceBEq, decide_true, decide_false, Bool.not_true, Bool.not_false, Option.getD_some, eq_self, Bool.false_eq_true, ev8, ev9, ev10, B__law_spans_1, h1.var, e]
    · have c' : (wide == 2) = false := by simpa using c
      refine ⟨low, s1, h1, ?_⟩
      simp only [ev1, ev2, ev3, ev4, ev5, ev6, ev7, LIM, ↓reduceIte, Nat.reduceAdd, Nat.reduceSub, Nat.reduceLeDiff, Nat.reduceLT, Nat.reduceEqDiff, Int.reduceEq, Int.reduceLT, Int.reduceLE, Int.reduceNeg, Int.reduceBEq, decide_true, decide_false, Bool.not_true, Bool.not_false, Option.getD_some, eq_self, Bool.false_eq_true, ev8, ev9, ev10, B__law_spans_1, c']
  obtain ⟨low2, s2, h2, eb1⟩ := seg1 (z1 - 15)
  obtain ⟨z3, s3, e3, z30, z31, h3⟩ := h2.draw 9 (by decide) (by decide +kernel)
  have p30 : cPow 10 30 = true := by decide +kernel
  have t30 : (30 : Int).toNat = 30 := rfl
  have seg2 : ∃ size s4, BOK ns s4 ∧ 0 ≤ size ∧ B__law_spans_2 [s3, .sh (.int most), .sh (.lst (en kn)), .lst (shs (en acc)), .sh (.int wide), b5, .sh (.int low2), .sh (.int z3), b8, b9, b10] = .ok .nx [s4, .sh (.int most), .sh (.lst (en kn)), .lst (shs (en acc)), .sh (.int wide), b5, .sh (.int low2), .sh (.int size), b8, b9, b10] := by
    by_cases c : z3 = 8
    · subst c
      obtain ⟨z, s4, e, z0, _, h4⟩ := h3.draw (10 ^ 30) (by decide) (by decide +kernel)
      refine ⟨z, s4, h4, z0, ?_⟩
      simp only [ev1, ev2, ev3, ev4, ev5, ev6, ev7, LIM, ↓reduceIte, Nat.reduceAdd, Nat.reduceSub, Nat.reduceLeDiff, Nat.reduceLT, Nat.reduceEqDiff, Int.reduceEq, Int.reduceLT, Int.reduceLE, Int.reduceNeg, Int.reduceBEq, decide_true, decide_false, Bool.not_true, Bool.not_false, Option.getD_some, eq_self, Bool.false_eq_true, ev8, ev9, ev10, B__law_spans_2, h3.var, e, p30, t30]
    · have c' : (z3 == 8) = false := by simpa using c
      refine ⟨z3, s3, h3, z30, ?_⟩
      simp only [ev1, ev2, ev3, ev4, ev5, ev6, ev7, LIM, ↓reduceIte, Nat.reduceAdd, Nat.reduceSub, Nat.reduceLeDiff, Nat.reduceLT, Nat.reduceEqDiff, Int.reduceEq, Int.reduceLT, Int.reduceLE, Int.reduceNeg, Int.reduceBEq, decide_true, decide_false, Bool.not_true, Bool.not_false, Option.getD_some, eq_self, Bool.false_eq_true, ev8, ev9, ev10, B__law_spans_2, c']
  obtain ⟨size, s4, h4, sz, eb2⟩ := seg2
  obtain ⟨way, s5, e5, w0, w1, h5⟩ := h4.draw 6 (by decide) (by decide +kernel)
  have len : kn.length + acc.length ≤ 16777216 := by omega
  have eo : en kn ++ en acc = en (kn ++ acc) := List.map_append.symm
  have seg3 : ∃ low' s6 c10, BOK ns s6 ∧ B__law_spans_3 [s5, .sh (.int most), .sh (.lst (en kn)), .lst (shs (en acc)), .sh (.int wide), b5, .sh (.int low2), .sh (.int size), .sh (.lst (en (kn ++ acc))), .sh (.int way), b10] = .ok .nx [s6, .sh (.int most), .sh (.lst (en kn)), .lst (shs (en acc)), .sh (.int wide), b5, .sh (.int low'), .sh (.int size), .sh (.lst (en (kn ++ acc))), .sh (.int way), c10] := by
    have nn := ne_nil_en (kn ++ acc)
    by_cases c : (kn ++ acc).isEmpty = true
    · rw [c] at nn
      refine ⟨low2, s5, b10, h5, ?_⟩
      simp only [ev1, ev2, ev3, ev4, ev5, ev6, ev7, LIM, ↓reduceIte, Nat.reduceAdd, Nat.reduceSub, Nat.reduceLeDiff, Nat.reduceLT, Nat.reduceEqDiff, Int.reduceEq, Int.reduceLT, Int.reduceLE, Int.reduceNeg, Int.reduceBEq, decide_true, decide_false, Bool.not_true, Bool.not_false, Option.getD_some, eq_self, Bool.false_eq_true, ev8, ev9, ev10, B__law_spans_3, nn]
    · have c' : (kn ++ acc).isEmpty = false := by simpa using c
      rw [c'] at nn
      by_cases cw : 2 < way
      · have lp : 0 < (kn ++ acc).length := by
          cases q : kn ++ acc with
          | nil => rw [q] at c'; cases c'
          | cons _ _ => simp
        obtain ⟨z, s6, e, z0, z1, h6⟩ := h5.draw ((kn ++ acc).length : Nat) (by omega) (by
          have : (kn ++ acc).length < 2 ^ 12 := by rw [List.length_append]; omega
          have := log2_lt (a := ((kn ++ acc).length : Int).natAbs) (k := 12) (by omega) (by decide)
          omega)
        obtain ⟨d, hd, ed⟩ := draw_idx (xs := en (kn ++ acc)) z0 (by rw [en_len]; exact z1)
        obtain ⟨p, hp, rfl⟩ := mem_en hd
        have : way = 3 ∨ way = 4 ∨ way = 5 := by omega
        rcases this with rfl | rfl | rfl
        · refine ⟨p.2 + 1, s6, .sh (e1 p), h6, ?_⟩
          simp only [ev1, ev2, ev3, ev4, ev5, ev6, ev7, LIM, ↓reduceIte, Nat.reduceAdd, Nat.reduceSub, Nat.reduceLeDiff, Nat.reduceLT, Nat.reduceEqDiff, Int.reduceEq, Int.reduceLT, Int.reduceLE, Int.reduceNeg, Int.reduceBEq, decide_true, decide_false, Bool.not_true, Bool.not_false, Option.getD_some, eq_self, Bool.false_eq_true, ev8, ev9, ev10, B__law_spans_3, nn, h5.var, en_len, e, ed, Int.reduceSub]
        · refine ⟨p.1 - 1 - size, s6, .sh (e1 p), h6, ?_⟩
          simp only [ev1, ev2, ev3, ev4, ev5, ev6, ev7, LIM, ↓reduceIte, Nat.reduceAdd, Nat.reduceSub, Nat.reduceLeDiff, Nat.reduceLT, Nat.reduceEqDiff, Int.reduceEq, Int.reduceLT, Int.reduceLE, Int.reduceNeg, Int.reduceBEq, decide_true, decide_false, Bool.not_true, Bool.not_false, Option.getD_some, eq_self, Bool.false_eq_true, ev8, ev9, ev10, B__law_spans_3, nn, h5.var, en_len, e, ed, Int.reduceSub]
        · refine ⟨p.1, s6, .sh (e1 p), h6, ?_⟩
          simp only [ev1, ev2, ev3, ev4, ev5, ev6, ev7, LIM, ↓reduceIte, Nat.reduceAdd, Nat.reduceSub, Nat.reduceLeDiff, Nat.reduceLT, Nat.reduceEqDiff, Int.reduceEq, Int.reduceLT, Int.reduceLE, Int.reduceNeg, Int.reduceBEq, decide_true, decide_false, Bool.not_true, Bool.not_false, Option.getD_some, eq_self, Bool.false_eq_true, ev8, ev9, ev10, B__law_spans_3, nn, h5.var, en_len, e, ed, Int.reduceSub]
      · refine ⟨low2, s5, b10, h5, ?_⟩
        simp only [ev1, ev2, ev3, ev4, ev5, ev6, ev7, LIM, ↓reduceIte, Nat.reduceAdd, Nat.reduceSub, Nat.reduceLeDiff, Nat.reduceLT, Nat.reduceEqDiff, Int.reduceEq, Int.reduceLT, Int.reduceLE, Int.reduceNeg, Int.reduceBEq, decide_true, decide_false, Bool.not_true, Bool.not_false, Option.getD_some, eq_self, Bool.false_eq_true, ev8, ev9, ev10, B__law_spans_3, nn, cw]
  obtain ⟨low, s6, c10, h6, eb3⟩ := seg3
  have la : acc.length < 16777216 := by omega
  refine ⟨s6, low, size, .sh (.int size), .sh (.lst (en (kn ++ acc))), .sh (.int way), c10, sz, h6, ?_⟩
  have ea : shs (en (acc ++ [(low, low + size)])) = shs (en acc) ++ [.sh (.tup [.int low, .int (low + size)])] := by simp [shs, en]
  rw [ea]
  simp only [ev1, ev2, ev3, ev4, ev5, ev6, ev7, LIM, ↓reduceIte, Nat.reduceAdd, Nat.reduceSub, Nat.reduceLeDiff, Nat.reduceLT, Nat.reduceEqDiff, Int.reduceEq, Int.reduceLT, Int.reduceLE, Int.reduceNeg, Int.reduceBEq, decide_true, decide_false, Bool.not_true, Bool.not_false, Option.getD_some, eq_self, Bool.false_eq_true, ev8, ev9, ev10, B__law_spans_4, h.var, e1', eb1, h2.var, e3, eb2, en_len, len, eo, h4.var, e5, eb3, List.length_map, la]
theorem spans_ok {ns : List Int} {s : Slot} {kn : SpL} (h : BOK ns s) (hk : kn.length ≤ 5) : ∃ s' acc, BOK ns s' ∧ Val acc ∧ acc.length ≤ 5 ∧ F__law_spans [s, .sh (.int 5), .sh (.lst (en kn))] = .ok (.lst (shs (en acc))) [s', .sh (.int 5), .sh (.lst (en kn))] := by
  obtain ⟨wide, s1, e1', _, _, h1⟩ := h.draw 3 (by decide) (by decide +kernel)
  obtain ⟨many, s2, e2', m0, m1, h2⟩ := h1.draw 6 (by decide) (by decide +kernel)
  obtain ⟨ρ', ⟨s3, acc, a5, a6, a7, a8, a9, a10, e, h3, hv, hl⟩, el⟩ := forL_inv (g := kName 5) (b := B__law_spans_4) (en := fun (i : Nat) => D.int i) (S := fun as ρ => ∃ s' acc a5 a6 a7 a8 a9 a10, ρ = [s', .sh (.int 5), .sh (.lst (en kn)), .lst (shs (en acc)), .sh (.int wide), a5, a6, a7, a8, a9, a10] ∧ BOK ns s' ∧ Val acc ∧ acc.length + as.length ≤ 5) (fun k as ρ ⟨s', acc, a5, a6, a7, a8, a9, a10, e, h, hv, hl⟩ => by
    subst e
    rw [List.length_cons] at hl
    obtain ⟨s'', low, size, c7, c8, c9, c10, sz, h', eb⟩ := spans_body (most := 5) (wide := wide) (kn := kn) (acc := acc) (b5 := .sh (.int k)) (b6 := a6) (b7 := a7) (b8 := a8) (b9 := a9) (b10 := a10) (k := 0) (s2 := .no) h (by omega)
    refine ⟨_, ⟨s'', acc ++ [(low, low + size)], .sh (.int k), .sh (.int low), c7, c8, c9, c10, rfl, h', fun p hp => ?_, ?_⟩, ?_⟩
    · rcases List.mem_append.mp hp with hp | hp
      · exact hv p hp
      · cases List.mem_singleton.mp hp; dsimp only; omega
    · rw [List.length_append, List.length_singleton]; omega
    · simp only [ev1, ev2, ev3, ev4, ev5, ev6, ev7, LIM, ↓reduceIte, Nat.reduceAdd, Nat.reduceSub, Nat.reduceLeDiff, Nat.reduceLT, Nat.reduceEqDiff, Int.reduceEq, Int.reduceLT, Int.reduceLE, Int.reduceNeg, Int.reduceBEq, decide_true, decide_false, Bool.not_true, Bool.not_false, Option.getD_some, eq_self, Bool.false_eq_true, ev8, ev9, ev10, shs] at eb ⊢
      simp only [ev1, ev2, ev3, ev4, ev5, ev6, ev7, LIM, ↓reduceIte, Nat.reduceAdd, Nat.reduceSub, Nat.reduceLeDiff, Nat.reduceLT, Nat.reduceEqDiff, Int.reduceEq, Int.reduceLT, Int.reduceLE, Int.reduceNeg, Int.reduceBEq, decide_true, decide_false, Bool.not_true, Bool.not_false, Option.getD_some, eq_self, Bool.false_eq_true, ev8, ev9, ev10, eb]) (List.range' 0 many.toNat) [s2, .sh (.int 5), .sh (.lst (en kn)), .lst [], .sh (.int wide), .no, .no, .no, .no, .no, .no] ⟨s2, [], _, _, _, _, _, _, rfl, h2, (by intro p hp; cases hp), (by rw [List.length_nil, List.length_range']; omega)⟩
  subst e
  refine ⟨s3, acc, h3, hv, by simpa using hl, ?_⟩
  have r1 : many < 2 ^ 62 ∧ -(2 ^ 62) ≤ many := by omega
  have five : (5 : Int) + 1 = 6 := rfl
  unfold F__law_spans
  simp only [shs] at el ⊢
  simp only [ev1, ev2, ev3, ev4, ev5, ev6, ev7, LIM, ↓reduceIte, Nat.reduceAdd, Nat.reduceSub, Nat.reduceLeDiff, Nat.reduceLT, Nat.reduceEqDiff, Int.reduceEq, Int.reduceLT, Int.reduceLE, Int.reduceNeg, Int.reduceBEq, decide_true, decide_false, Bool.not_true, Bool.not_false, Option.getD_some, eq_self, Bool.false_eq_true, ev8, ev9, ev10, h.var, e1', h1.var, five, e2', r1, and_self, rngD0, el, fx__law_spans]
theorem gsorted_ok (xs : List Int) : gSorted (.lst (xs.map D.int)) = some (.lst (shs ((isort xs).map D.int))) := by
  show (intsOf _).map _ = _
  rw [intsOf_map]; rfl
theorem parts_ok {d d2 w : D} {s t : SpL} {c : Bool → Bool → Bool} (hd : Sq d (en s)) (hd2 : Sq d2 (en t)) (hn : s.length + t.length ≤ 400)
    (hw : ∀ (a b : Bool) (ρ0 ρ1 ρ3 ρ4 ρ5 ρ6 ρ7 ρ10 : Slot) (rest : SEv), kSeq rest (sIf (tOfE (eOp gEq (eVar 2) (eC (.str "joined"))))
  (sSetF 8 (eOrV (eVar 8) (eVar 9)))
  (sIf (tOfE (eOp gEq (eVar 2) (eC (.str "common"))))
  (sSetF 8 (eAndV (eVar 8) (eVar 9)))
  (sSetF 8 (eAndV (eVar 8) (eNotV (eVar 9))))) [ρ0, ρ1, .sh w, ρ3, ρ4, ρ5, ρ6, ρ7, .sh (.bl a), .sh (.bl b), ρ10]) = rest [ρ0, ρ1, .sh w, ρ3, ρ4, ρ5, ρ6, ρ7, .sh (.bl (c a b)), .sh (.bl b), ρ10]) : Ret (F__law_parts [.sh d, .sh d2, .sh w]) (.lst (shs (en (partsL c s t)))) := by
  obtain ⟨f1, g1'⟩ := starts_ok hd (by omega)
  obtain ⟨f2, g2'⟩ := starts_ok hd2 (by omega)
  obtain ⟨a5, a6, a7, a8, a9, el⟩ := parts_loop hd hd2 hn hw
  have l1 := starts_len s
  have l2 := starts_len t
  have c1 := compL_fm (g := kName 10) (vs := [10]) (p := pYes) (e := eCB (g1 gToInt) (aCons (eVar 10) aNil)) (en := D.int) (ρ := [.sh d, .sh d2, .sh w, .no, .no, .no, .no, .no, .no, .no, .no]) (f := fun i => some (.int i)) (startsL s ++ startsL t) (fun p hp ds acc hl => by
    simp only [ev1, ev2, ev3, ev4, ev5, ev6, ev7, LIM, ↓reduceIte, Nat.reduceAdd, Nat.reduceSub, Nat.reduceLeDiff, Nat.reduceLT, Nat.reduceEqDiff, Int.reduceEq, Int.reduceLT, Int.reduceLE, Int.reduceNeg, Int.reduceBEq, decide_true, decide_false, Bool.not_true, Bool.not_false, Option.getD_some, eq_self, Bool.false_eq_true, ev8, ev9, ev10, hl, Option.toList_some]) [] (by rw [List.length_nil, List.length_append]; show 0 + _ ≤ 16777216; omega)
  rw [List.filterMap_eq_map', List.nil_append] at c1
  have lp : (pts s t).length = 2 * s.length + 2 * t.length := by
    show (isort _).length = _
    rw [len_isort, List.length_append, l1, l2]
  have ll : (startsL s).length + (startsL t).length ≤ 16777216 := by omega
  have ea : (startsL s).map D.int ++ (startsL t).map D.int = (startsL s ++ startsL t).map D.int := List.map_append.symm
  have so : gSorted (.lst ((startsL s ++ startsL t).map D.int)) = some (.lst (shs ((pts s t).map D.int))) := gsorted_ok _
  have rn : (((pts s t).length : Int) - 1).toNat = (pts s t).length - 1 := by omega
  have r1 : ((pts s t).length : Int) - 1 < 2 ^ 62 ∧ -(2 ^ 62) ≤ ((pts s t).length : Int) - 1 := by omega
  unfold F__law_parts
  generalize hp : pts s t = P at *
  simp only [ev1, ev2, ev3, ev4, ev5, ev6, ev7, LIM, ↓reduceIte, Nat.reduceAdd, Nat.reduceSub, Nat.reduceLeDiff, Nat.reduceLT, Nat.reduceEqDiff, Int.reduceEq, Int.reduceLT, Int.reduceLE, Int.reduceNeg, Int.reduceBEq, decide_true, decide_false, Bool.not_true, Bool.not_false, Option.getD_some, eq_self, Bool.false_eq_true, ev8, ev9, ev10, g1', g2', List.length_map, ll, ea, shs] at c1 so el ⊢
  simp only [ev1, ev2, ev3, ev4, ev5, ev6, ev7, LIM, ↓reduceIte, Nat.reduceAdd, Nat.reduceSub, Nat.reduceLeDiff, Nat.reduceLT, Nat.reduceEqDiff, Int.reduceEq, Int.reduceLT, Int.reduceLE, Int.reduceNeg, Int.reduceBEq, decide_true, decide_false, Bool.not_true, Bool.not_false, Option.getD_some, eq_self, Bool.false_eq_true, ev8, ev9, ev10, c1, so, r1, and_self, List.length_map, rn, rngD0, shs, el]
  exact .mk rfl
end Lw

namespace Lw
open PySem L2 Sep LwA Spn
theorem partsL_or {s t : SpL} (hs : Val s) (ht : Val t) : partsL (· || ·) s t = joined s t := by
  obtain ⟨a, b⟩ := parts_spec (c := (· || ·)) rfl s t
  obtain ⟨c, d, _⟩ := joined_spec hs ht
  refine can_unique a c fun x => ?_
  rw [b x, d x, Bool.or_eq_true, hasB_iff, hasB_iff]
theorem partsL_and {s t : SpL} (hs : Val s) (ht : Val t) : partsL (· && ·) s t = common s t := by
  obtain ⟨a, b⟩ := parts_spec (c := (· && ·)) rfl s t
  obtain ⟨c, d⟩ := common_spec hs ht
  refine can_unique a c fun x => ?_
  rw [b x, d x, Bool.and_eq_true, hasB_iff, hasB_iff]
theorem partsL_not {s t : SpL} (hs : Val s) (ht : Val t) : partsL (fun a b => a && !b) s t = without s t := by
  obtain ⟨a, b⟩ := parts_spec (c := fun a b => a && !b) rfl s t
  obtain ⟨c, d, _⟩ := without_spec hs ht
  refine can_unique a c fun x => ?_
  rw [b x, d x, Bool.and_eq_true, hasB_iff, Bool.not_eq_true', ← hasB_iff t x, Bool.not_eq_true]
theorem w_jj : gEq (.str "joined") (.str "joined") = some (.sh (.bl true)) := str_eq _ _ _ (by decide +kernel) (by decide +kernel) (by decide +kernel)
theorem w_cj : gEq (.str "common") (.str "joined") = some (.sh (.bl false)) := str_eq _ _ _ (by decide +kernel) (by decide +kernel) (by decide +kernel)
theorem w_cc : gEq (.str "common") (.str "common") = some (.sh (.bl true)) := str_eq _ _ _ (by decide +kernel) (by decide +kernel) (by decide +kernel)
theorem w_wj : gEq (.str "without") (.str "joined") = some (.sh (.bl false)) := str_eq _ _ _ (by decide +kernel) (by decide +kernel) (by decide +kernel)
theorem w_wc : gEq (.str "without") (.str "common") = some (.sh (.bl false)) := str_eq _ _ _ (by decide +kernel) (by decide +kernel) (by decide +kernel)
theorem due_j {d d2 : D} {s t : SpL} (hd : Sq d (en s)) (hd2 : Sq d2 (en t)) (hs : Val s) (ht : Val t) (hn : s.length + t.length ≤ 400) : Ret (F__law_parts [.sh d, .sh d2, .sh (.str "joined")]) (.lst (shs (en (joined s t)))) := by
  rw [← partsL_or hs ht]
  refine parts_ok hd hd2 hn fun a b ρ0 ρ1 ρ3 ρ4 ρ5 ρ6 ρ7 ρ10 rest => ?_
  cases a <;> cases b <;> simp only [ev1, ev2, ev3, ev4, ev5, ev6, ev7, LIM, ↓reduceIte, Nat.reduceAdd, Nat.reduceSub, Nat.reduceLeDiff, Nat.reduceLT, Nat.reduceEqDiff, Int.reduceEq, Int.reduceLT, Int.reduceLE, Int.reduceNeg, Int.reduceBEq, decide_true, decide_false, Bool.not_true, Bool.not_false, Option.getD_some, eq_self, Bool.false_eq_true, w_jj, w_cj, w_cc, w_wj, w_wc, Bool.or_self, Bool.or_true, Bool.or_false]
theorem due_c {d d2 : D} {s t : SpL} (hd : Sq d (en s)) (hd2 : Sq d2 (en t)) (hs : Val s) (ht : Val t) (hn : s.length + t.length ≤ 400) : Ret (F__law_parts [.sh d, .sh d2, .sh (.str "common")]) (.lst (shs (en (common s t)))) := by
  rw [← partsL_and hs ht]
  refine parts_ok hd hd2 hn fun a b ρ0 ρ1 ρ3 ρ4 ρ5 ρ6 ρ7 ρ10 rest => ?_
  cases a <;> cases b <;> simp only [ev1, ev2, ev3, ev4, ev5, ev6, ev7, LIM, ↓reduceIte, Nat.reduceAdd, Nat.reduceSub, Nat.reduceLeDiff, Nat.reduceLT, Nat.reduceEqDiff, Int.reduceEq, Int.reduceLT, Int.reduceLE, Int.reduceNeg, Int.reduceBEq, decide_true, decide_false, Bool.not_true, Bool.not_false, Option.getD_some, eq_self, Bool.false_eq_true, w_jj, w_cj, w_cc, w_wj, w_wc, Bool.and_self, Bool.and_true, Bool.and_false]
theorem due_w {d d2 : D} {s t : SpL} (hd : Sq d (en s)) (hd2 : Sq d2 (en t)) (hs : Val s) (ht : Val t) (hn : s.length + t.length ≤ 400) : Ret (F__law_parts [.sh d, .sh d2, .sh (.str "without")]) (.lst (shs (en (without s t)))) := by
  rw [← partsL_not hs ht]
  refine parts_ok hd hd2 hn fun a b ρ0 ρ1 ρ3 ρ4 ρ5 ρ6 ρ7 ρ10 rest => ?_
  cases a <;> cases b <;> simp only [ev1, ev2, ev3, ev4, ev5, ev6, ev7, LIM, ↓reduceIte, Nat.reduceAdd, Nat.reduceSub, Nat.reduceLeDiff, Nat.reduceLT, Nat.reduceEqDiff, Int.reduceEq, Int.reduceLT, Int.reduceLE, Int.reduceNeg, Int.reduceBEq, decide_true, decide_false, Bool.not_true, Bool.not_false, Option.getD_some, eq_self, Bool.false_eq_true, w_jj, w_cj, w_cc, w_wj, w_wc, Bool.and_self, Bool.and_true, Bool.and_false]
theorem plain_en {s : SpL} (n : Nat) (h : s.length ≤ 1000) : plainN (n + 2) (.lst (en s)) = true := by
  refine plain_lst (by rw [en_len]; omega) fun d hd => ?_
  obtain ⟨p, _, rfl⟩ := mem_en hd
  exact plain_tup (by show 2 < 2 ^ 62; decide) fun d hd => by
    simp only [List.mem_cons, List.not_mem_nil, or_false] at hd
    rcases hd with rfl | rfl <;> simp only [ev8]
abbrev dueD (f s : SpL) : D := .lst [.lst (en (joined f s)), .lst (en (common f s)), .lst (en (without f s))]
abbrev passD (f s : SpL) : D := .lst [.lst (en f), .lst (en s)]
section
variable {f s : SpL} (hf : Val f) (hs : Val s) (lf : f.length ≤ 5) (ls : s.length ≤ 5)
theorem common_len (hf : Val f) (hs : Val s) (lf : f.length ≤ 5) (ls : s.length ≤ 5) : (common f s).length ≤ 100 := by
  have a := tidy_len hf
  obtain ⟨b, _, c⟩ := without_spec (tidy_can hf).val hs
  have d := (without_spec (tidy_can hf).val b.val).2.2
  unfold common; omega
theorem same_due (hf : Val f) (hs : Val s) (lf : f.length ≤ 5) (ls : s.length ≤ 5) : F__law_same 6 [.sh (dueD f s), .sh (dueD f s)] = .ok (.sh (.bl true)) [.sh (dueD f s), .sh (dueD f s)] := by
  refine same_ok 5 _ (plain_lst (by show _ < 2 ^ 62; simp) fun d hd => ?_)
  have h1 := (joined_spec hf hs).2.2
  have h2 := common_len hf hs lf ls
  have h3 := (without_spec hf hs).2.2
  simp only [List.mem_cons, List.not_mem_nil, or_false] at hd
  rcases hd with rfl | rfl | rfl
  · exact plain_en 2 (by omega)
  · exact plain_en 2 (by omega)
  · exact plain_en 2 (by omega)
theorem same_pass (lf : f.length ≤ 5) (ls : s.length ≤ 5) : F__law_same 6 [.sh (passD f s), .sh (passD f s)] = .ok (.sh (.bl true)) [.sh (passD f s), .sh (passD f s)] := by
  refine same_ok 5 _ (plain_lst (by show _ < 2 ^ 62; simp) fun d hd => ?_)
  simp only [List.mem_cons, List.not_mem_nil, or_false] at hd
  rcases hd with rfl | rfl
  · exact plain_en 2 (by omega)
  · exact plain_en 2 (by omega)
theorem told_fr (a b c : List D) : Slot.fr (.lst [.lst (shs a), .lst (shs b), .lst (shs c)]) = some (.lst [.lst a, .lst b, .lst c]) := by
  simp only [ev1, ev2, ev3, ev4, ev5, ev6, ev7, LIM, ↓reduceIte, Nat.reduceAdd, Nat.reduceSub, Nat.reduceLeDiff, Nat.reduceLT, Nat.reduceEqDiff, Int.reduceEq, Int.reduceLT, Int.reduceLE, Int.reduceNeg, Int.reduceBEq, decide_true, decide_false, Bool.not_true, Bool.not_false, Option.getD_some, eq_self, Bool.false_eq_true, ev8, ev9, ev10]
theorem app_step {i : Nat} {ss2 : List Slot} {fb : Ev} {ρ ρ2 : Sl} {d : D} {ss : List Slot} {j : Nat} (h0 : ρ[9]? = some (.lst ss)) (h1 : ρ[10]? = some (.sh (.int (j : Int)))) (hj : ixN ss.length (j : Int) = some j) (hs : ss[j]? = some (.lst ss2)) (hl : ss2.length < LIM) (hb : ∀ ρ, fb ρ = .ok (.v (.sh d)) ρ) : sExpr (eApp2 9 (eVar 10) fb) ρ = .ok .nx (ρ.set 9 (.lst (ss.set j .no))) := by
  unfold sExpr
  rw [app2_ok (k := (j : Int)) (d := d) (r := .v (.sh d)) (ρ2 := ρ.set 9 (.lst (ss.set j .no))) (ρ3 := ρ.set 9 (.lst (ss.set j .no))) h0 (by unfold eVar; rw [h1]) hj hs hl (hb _) rfl]
  rfl
theorem turn_ok (hf : Val f) (hs : Val s) (lf : f.length ≤ 5) (ls : s.length ≤ 5) {s0 s1 t7 t8 t9 t10 t11 t12 t13 t14 t15 : Slot} {k : Int} :
    ∃ c9 c10, B_law_2 [s0, s1, .sh (.lst (en f)), .sh (.lst (en s)), .sh (passD f s), .sh (dueD f s), .sh (.int k), t7, t8, t9, t10, t11, t12, t13, t14, t15] = .ok .nx [s0, s1, .sh (.lst (en f)), .sh (.lst (en s)), .sh (passD f s), .sh (dueD f s), .sh (.int k), t7, t8, c9, c10, t11, t12, t13, t14, t15] := by
  obtain ⟨fs, ea⟩ := answers_ok (sq_lst (en f)) (sq_lst (en s)) hf hs (by omega)
  have h1 := (joined_spec hf hs).2.2
  have h2 := common_len hf hs lf ls
  have h3 := (without_spec hf hs).2.2
  have sd := same_due hf hs lf ls
  have sp := same_pass (f := f) (s := s) lf ls
  refine ⟨.lst [.no, .no, .no], .sh (.int 2), ?_⟩
  have r3 : rngD 0 (3 : Int).toNat = [.int 0, .int 1, .int 2] := rfl
  have l3 : (3 : Int) < 2 ^ 62 ∧ -(2 ^ 62) ≤ (3 : Int) := by decide
  have tf := told_fr (en (joined f s)) (en (common f s)) (en (without f s))
  have fb : ∀ ρ : Sl, ρ[6]? = some (.sh (.int k)) → (eTup (aCons (eVar 6) (aCons (eC (.int 3)) aNil))) ρ = .ok (.v (.sh (.tup [.int k, .int 3]))) ρ := fun ρ e => by
    simp only [ev1, ev2, ev3, ev4, ev5, ev6, ev7, LIM, ↓reduceIte, Nat.reduceAdd, Nat.reduceSub, Nat.reduceLeDiff, Nat.reduceLT, Nat.reduceEqDiff, Int.reduceEq, Int.reduceLT, Int.reduceLE, Int.reduceNeg, Int.reduceBEq, decide_true, decide_false, Bool.not_true, Bool.not_false, Option.getD_some, eq_self, Bool.false_eq_true, e]
  unfold B_law_2
  simp only [List.map_cons, List.map_nil] at ea
  have lj : (joined f s).length < 16777216 := by omega
  have lc : (common f s).length < 16777216 := by omega
  have lw : (without f s).length < 16777216 := by omega
  simp only [ev1, ev2, ev3, ev4, ev5, ev6, ev7, LIM, ↓reduceIte, Nat.reduceAdd, Nat.reduceSub, Nat.reduceLeDiff, Nat.reduceLT, Nat.reduceEqDiff, Int.reduceEq, Int.reduceLT, Int.reduceLE, Int.reduceNeg, Int.reduceBEq, decide_true, decide_false, Bool.not_true, Bool.not_false, Option.getD_some, eq_self, Bool.false_eq_true, ev8, ev9, ev10, ea, D.scal, sd, sp, r3, l3, and_self, B_law_1, List.length_map, lj, lc, lw]
theorem num_ok (hf : Val f) (hs : Val s) (lf : f.length ≤ 5) (ls : s.length ≤ 5) {s0 s1 t6 t7 t9 t10 t11 t12 t13 t14 t15 : Slot} {x : Int} :
    ∃ c13 c14, B_law_4 [s0, s1, .sh (.lst (en f)), .sh (.lst (en s)), .sh (passD f s), .sh (dueD f s), t6, t7, .sh (.int x), t9, t10, t11, t12, t13, t14, t15] = .ok .nx [s0, s1, .sh (.lst (en f)), .sh (.lst (en s)), .sh (passD f s), .sh (dueD f s), t6, t7, .sh (.int x), t9, t10, t11, t12, c13, c14, t15] := by
  have h1 := (joined_spec hf hs).2.2
  obtain ⟨f1, a1⟩ := has_ok (x := x) (sq_lst (en f))
  obtain ⟨f2, a2⟩ := has_ok (x := x) (sq_lst (en s))
  obtain ⟨f3, a3⟩ := holds_ok (x := x) (sq_lst (en f)) hf (by omega)
  obtain ⟨f4, a4⟩ := holds_ok (x := x) (sq_lst (en s)) hs (by omega)
  obtain ⟨f5, a5⟩ := holds_ok (x := x) (sq_lst (en (joined f s))) (joined_spec hf hs).1.val (by omega)
  obtain ⟨f6, a6⟩ := holds_ok (x := x) (sq_tup (en f)) hf (by omega)
  have hj : hasB (joined f s) x = (hasB f x || hasB s x) := by
    rw [Bool.eq_iff_iff, Bool.or_eq_true, hasB_iff, hasB_iff, hasB_iff, (joined_spec hf hs).2.1]
  rw [hj] at a5
  have sb : ∀ b, F__law_same 6 [.sh (.bl b), .sh (.bl b)] = .ok (.sh (.bl true)) [.sh (.bl b), .sh (.bl b)] := fun b => same_ok 5 _ (by simp only [ev8])
  have sl : ∀ b c, F__law_same 6 [.sh (.lst [.bl b, .bl c]), .sh (.lst [.bl b, .bl c])] = .ok (.sh (.bl true)) [.sh (.lst [.bl b, .bl c]), .sh (.lst [.bl b, .bl c])] := fun b c => same_ok 5 _ (plain_lst (by show 2 < 2 ^ 62; decide) fun d hd => by
    simp only [List.mem_cons, List.not_mem_nil, or_false] at hd
    rcases hd with rfl | rfl <;> simp only [ev8])
  refine ⟨.sh (.bl (hasB f x)), .sh (.bl (hasB s x)), ?_⟩
  unfold B_law_4
  generalize hasB f x = u at *
  generalize hasB s x = v at *
  cases u <;> cases v <;> simp only [ev1, ev2, ev3, ev4, ev5, ev6, ev7, LIM, ↓reduceIte, Nat.reduceAdd, Nat.reduceSub, Nat.reduceLeDiff, Nat.reduceLT, Nat.reduceEqDiff, Int.reduceEq, Int.reduceLT, Int.reduceLE, Int.reduceNeg, Int.reduceBEq, decide_true, decide_false, Bool.not_true, Bool.not_false, Option.getD_some, eq_self, Bool.false_eq_true, ev8, ev9, ev10, a1, a2, a3, a4, a5, a6, sb, sl, Bool.true_or, Bool.false_or]
theorem law_true (ns : List Int) (hl : ns.length ≤ 63) : ∃ fs, F_law [.sh (.rol (ns.map D.int))] = .ok (.sh (.bl true)) fs := by
  have bx := box_ok ns
  have b0 := BOK.start ns
  obtain ⟨b1, f, h1, hf, lf, e1'⟩ := spans_ok (kn := []) b0 (by simp)
  obtain ⟨b2, s, h2, hs, ls, e2'⟩ := spans_ok (kn := f) h1 lf
  obtain ⟨fs1, d1⟩ := due_j (sq_lst (en f)) (sq_lst (en s)) hf hs (by omega)
  obtain ⟨fs2, d2⟩ := due_c (sq_lst (en f)) (sq_lst (en s)) hf hs (by omega)
  obtain ⟨fs3, d3⟩ := due_w (sq_lst (en f)) (sq_lst (en s)) hf hs (by omega)
  obtain ⟨fs4, ea⟩ := answers_ok (sq_tup (en f)) (sq_tup (en s)) hf hs (by omega)
  obtain ⟨z, b3, e3, h3⟩ := number_ok h2
  have sd := same_due hf hs lf ls
  have sp := same_pass (f := f) (s := s) lf ls
  have l1 : f.length + s.length ≤ 16777216 := by omega
  have eo : en f ++ en s = en (f ++ s) := List.map_append.symm
  have r2 : rngD 0 (2 : Int).toNat = [.int 0, .int 1] := rfl
  have l2 : (2 : Int) < 2 ^ 62 ∧ -(2 ^ 62) ≤ (2 : Int) := by decide
  obtain ⟨c9, c10, t1⟩ := turn_ok hf hs lf ls (s0 := .sh (.rol (ns.map D.int))) (s1 := b2) (t7 := .no) (t8 := .no) (t9 := .no) (t10 := .no) (t11 := .no) (t12 := .no) (t13 := .no) (t14 := .no) (t15 := .no) (k := 0)
  obtain ⟨c9', c10', t2⟩ := turn_ok hf hs lf ls (s0 := .sh (.rol (ns.map D.int))) (s1 := b2) (t7 := .no) (t8 := .no) (t9 := c9) (t10 := c10) (t11 := .no) (t12 := .no) (t13 := .no) (t14 := .no) (t15 := .no) (k := 1)
  obtain ⟨ρ3, ⟨xs, c11, c12, er, _⟩, el3⟩ := forL_inv (g := k2 11 12) (b := B_law_3) (en := Lw.e1) (S := fun as ρ => ∃ (xs : List Int) (c11 c12 : Slot), ρ = [.sh (.rol (ns.map D.int)), b3, .sh (.lst (en f)), .sh (.lst (en s)), .sh (passD f s), .sh (dueD f s), .sh (.int 1), .sh (.lst (xs.map D.int)), .no, c9', c10', c11, c12, .no, .no, .no] ∧ xs.length + 4 * as.length ≤ 100) (fun p as ρ ⟨xs, c11, c12, e, hl⟩ => by
    subst e
    rw [List.length_cons] at hl
    refine ⟨_, ⟨xs ++ [p.1 - 1, p.1, p.2, p.2 + 1], .sh (.int p.1), .sh (.int p.2), rfl, ?_⟩, ?_⟩
    · rw [List.length_append]; simp only [List.length_cons, List.length_nil]; omega
    · have ex : (xs ++ [p.1 - 1, p.1, p.2, p.2 + 1]).map D.int = xs.map D.int ++ [.int (p.1 - 1), .int p.1, .int p.2, .int (p.2 + 1)] := by rw [List.map_append]; rfl
      have lx : xs.length + 4 ≤ 16777216 := by omega
      rw [ex]
      simp only [ev1, ev2, ev3, ev4, ev5, ev6, ev7, LIM, ↓reduceIte, Nat.reduceAdd, Nat.reduceSub, Nat.reduceLeDiff, Nat.reduceLT, Nat.reduceEqDiff, Int.reduceEq, Int.reduceLT, Int.reduceLE, Int.reduceNeg, Int.reduceBEq, decide_true, decide_false, Bool.not_true, Bool.not_false, Option.getD_some, eq_self, Bool.false_eq_true, B_law_3, List.length_map, lx]) (f ++ s) [.sh (.rol (ns.map D.int)), b3, .sh (.lst (en f)), .sh (.lst (en s)), .sh (passD f s), .sh (dueD f s), .sh (.int 1), .sh (.lst ([z].map D.int)), .no, c9', c10', .no, .no, .no, .no, .no] ⟨[z], .no, .no, rfl, by rw [List.length_append, List.length_singleton]; omega⟩
  subst er
  obtain ⟨ρ4, ⟨c8, c13, c14, er⟩, el4⟩ := forL_inv (g := kName 8) (b := B_law_4) (en := D.int) (S := fun as ρ => ∃ (c8 c13 c14 : Slot), ρ = [.sh (.rol (ns.map D.int)), b3, .sh (.lst (en f)), .sh (.lst (en s)), .sh (passD f s), .sh (dueD f s), .sh (.int 1), .sh (.lst (xs.map D.int)), c8, c9', c10', c11, c12, c13, c14, .no]) (fun x as ρ ⟨c8, c13, c14, e⟩ => by
    subst e
    obtain ⟨d13, d14, e⟩ := num_ok hf hs lf ls (s0 := .sh (.rol (ns.map D.int))) (s1 := b3) (t6 := .sh (.int 1)) (t7 := .sh (.lst (xs.map D.int))) (t9 := c9') (t10 := c10') (t11 := c11) (t12 := c12) (t13 := c13) (t14 := c14) (t15 := .no) (x := x)
    refine ⟨_, ⟨.sh (.int x), d13, d14, rfl⟩, ?_⟩
    simp only [ev1, ev2, ev3, ev4, ev5, ev6, ev7, LIM, ↓reduceIte, Nat.reduceAdd, Nat.reduceSub, Nat.reduceLeDiff, Nat.reduceLT, Nat.reduceEqDiff, Int.reduceEq, Int.reduceLT, Int.reduceLE, Int.reduceNeg, Int.reduceBEq, decide_true, decide_false, Bool.not_true, Bool.not_false, Option.getD_some, eq_self, Bool.false_eq_true, e]) xs [.sh (.rol (ns.map D.int)), b3, .sh (.lst (en f)), .sh (.lst (en s)), .sh (passD f s), .sh (dueD f s), .sh (.int 1), .sh (.lst (xs.map D.int)), .no, c9', c10', c11, c12, .no, .no, .no] ⟨_, _, _, rfl⟩
  subst er
  unfold F_law
  have c5 : compL [15] (kName 15) pYes (eCallF 3 F__law_parts (aCons (eVar 2) (aCons (eVar 3) (aCons (eVar 15) aNil)))) [.str "joined", .str "common", .str "without"] [] [.sh (.rol (ns.map D.int)), b2, .sh (.lst (en f)), .sh (.lst (en s)), .sh (passD f s), .no, .no, .no, .no, .no, .no, .no, .no, .no, .no, .no] = .ok [.lst (en (joined f s)), .lst (en (common f s)), .lst (en (without f s))] [.sh (.rol (ns.map D.int)), b2, .sh (.lst (en f)), .sh (.lst (en s)), .sh (passD f s), .no, .no, .no, .no, .no, .no, .no, .no, .no, .no, .no] := by
    simp only [ev1, ev2, ev3, ev4, ev5, ev6, ev7, LIM, ↓reduceIte, Nat.reduceAdd, Nat.reduceSub, Nat.reduceLeDiff, Nat.reduceLT, Nat.reduceEqDiff, Int.reduceEq, Int.reduceLT, Int.reduceLE, Int.reduceNeg, Int.reduceBEq, decide_true, decide_false, Bool.not_true, Bool.not_false, Option.getD_some, eq_self, Bool.false_eq_true, ev8, ev9, ev10, d1, d2, d3]
  have en0 : en [] = [] := rfl
  rw [en0] at e1'
  simp only [List.map_cons, List.map_nil] at ea el3
  simp only [ev1, ev2, ev3, ev4, ev5, ev6, ev7, LIM, ↓reduceIte, Nat.reduceAdd, Nat.reduceSub, Nat.reduceLeDiff, Nat.reduceLT, Nat.reduceEqDiff, Int.reduceEq, Int.reduceLT, Int.reduceLE, Int.reduceNeg, Int.reduceBEq, decide_true, decide_false, Bool.not_true, Bool.not_false, Option.getD_some, eq_self, Bool.false_eq_true, ev8, ev9, ev10, bx, b0.var, e1', h1.var, e2', h2.var, c5, r2, l2, and_self, t1, t2, ea, sd, e3, en_len, l1, eo, el3, el4, sp]
  exact ⟨_, rfl⟩
end
end Lw

namespace Lw
open PySem L2 Sep LwA
def top (i : Nat) : Stmt := PySem.Challenge.pw_stepstell_k00_joined_common_without.main.body.getD i (.Pass ⟨0, 0, 0, 0⟩)
abbrev s__law_box : Stmt := top 13
theorem sc__law_box : FnScope ["script"] ["script"] (defScope s__law_box) := ⟨rfl, rfl, rfl, by decide +kernel, rfl, by decide +kernel, by decide +kernel⟩
abbrev s__law_draw : Stmt := top 14
theorem sc__law_draw : FnScope ["box", "size", "mixed", "drawn"] ["box", "size"] (defScope s__law_draw) := ⟨rfl, rfl, rfl, by decide +kernel, rfl, by decide +kernel, by decide +kernel⟩
abbrev s__law_number : Stmt := top 16
theorem sc__law_number : FnScope ["box", "wide"] ["box"] (defScope s__law_number) := ⟨rfl, rfl, rfl, by decide +kernel, rfl, by decide +kernel, by decide +kernel⟩
abbrev s__law_spans : Stmt := top 17
theorem sc__law_spans : FnScope ["box", "most", "known", "spans", "wide", "k", "low", "size", "others", "way", "other"] ["box", "most", "known"] (defScope s__law_spans) := ⟨rfl, rfl, rfl, by decide +kernel, rfl, by decide +kernel, by decide +kernel⟩
abbrev s__law_same : Stmt := top 15
theorem sc__law_same : FnScope ["one", "two", "k"] ["one", "two"] (defScope s__law_same) := ⟨rfl, rfl, rfl, by decide +kernel, rfl, by decide +kernel, by decide +kernel⟩
abbrev s__law_has : Stmt := top 18
theorem sc__law_has : FnScope ["spans", "number", "low", "high"] ["spans", "number"] (defScope s__law_has) := ⟨rfl, rfl, rfl, by decide +kernel, rfl, by decide +kernel, by decide +kernel⟩
abbrev s__law_starts : Stmt := top 19
theorem sc__law_starts : FnScope ["spans", "starts", "low", "high"] ["spans"] (defScope s__law_starts) := ⟨rfl, rfl, rfl, by decide +kernel, rfl, by decide +kernel, by decide +kernel⟩
abbrev s__law_parts : Stmt := top 20
theorem sc__law_parts : FnScope ["first", "second", "word", "points", "result", "k", "low", "high", "wanted", "other", "one"] ["first", "second", "word"] (defScope s__law_parts) := ⟨rfl, rfl, rfl, by decide +kernel, rfl, by decide +kernel, by decide +kernel⟩
abbrev s__check : Stmt := top 4
theorem sc__check : FnScope ["spans", "low", "high"] ["spans"] (defScope s__check) := ⟨rfl, rfl, rfl, by decide +kernel, rfl, by decide +kernel, by decide +kernel⟩
abbrev s__merged : Stmt := top 5
theorem sc__merged : FnScope ["spans", "low", "high", "ahead", "behind", "other_low", "other_high", "pair"] ["spans", "low", "high"] (defScope s__merged) := ⟨rfl, rfl, rfl, by decide +kernel, rfl, by decide +kernel, by decide +kernel⟩
abbrev s_tidy : Stmt := top 7
theorem sc_tidy : FnScope ["spans", "result", "low", "high"] ["spans"] (defScope s_tidy) := ⟨rfl, rfl, rfl, by decide +kernel, rfl, by decide +kernel, by decide +kernel⟩
abbrev s_joined : Stmt := top 8
theorem sc_joined : FnScope ["first", "second"] ["first", "second"] (defScope s_joined) := ⟨rfl, rfl, rfl, by decide +kernel, rfl, by decide +kernel, by decide +kernel⟩
abbrev s__cut : Stmt := top 6
theorem sc__cut : FnScope ["spans", "low", "high", "rest", "other_low", "other_high"] ["spans", "low", "high"] (defScope s__cut) := ⟨rfl, rfl, rfl, by decide +kernel, rfl, by decide +kernel, by decide +kernel⟩
abbrev s_without : Stmt := top 9
theorem sc_without : FnScope ["first", "second", "result", "low", "high"] ["first", "second"] (defScope s_without) := ⟨rfl, rfl, rfl, by decide +kernel, rfl, by decide +kernel, by decide +kernel⟩
abbrev s_common : Stmt := top 10
theorem sc_common : FnScope ["first", "second", "start"] ["first", "second"] (defScope s_common) := ⟨rfl, rfl, rfl, by decide +kernel, rfl, by decide +kernel, by decide +kernel⟩
abbrev s__law_answers : Stmt := top 21
theorem sc__law_answers : FnScope ["first", "second"] ["first", "second"] (defScope s__law_answers) := ⟨rfl, rfl, rfl, by decide +kernel, rfl, by decide +kernel, by decide +kernel⟩
abbrev s_holds : Stmt := top 11
theorem sc_holds : FnScope ["spans", "number", "low", "high"] ["spans", "number"] (defScope s_holds) := ⟨rfl, rfl, rfl, by decide +kernel, rfl, by decide +kernel, by decide +kernel⟩
abbrev s_law : Stmt := top 22
theorem sc_law : FnScope ["script", "box", "first", "second", "passed", "due", "turn", "numbers", "number", "told", "k", "low", "high", "one", "two", "word"] ["script"] (defScope s_law) := ⟨rfl, rfl, rfl, by decide +kernel, rfl, by decide +kernel, by decide +kernel⟩
structure Txt (K : PySem.W.Frag) (mg : Str → Option Value) where
  _law_box : Df K mg "_law_box" s__law_box ["script"]
  _law_draw : Df K mg "_law_draw" s__law_draw ["box", "size"]
  _law_number : Df K mg "_law_number" s__law_number ["box"]
  _law_spans : Df K mg "_law_spans" s__law_spans ["box", "most", "known"]
  _law_same : Df K mg "_law_same" s__law_same ["one", "two"]
  _law_has : Df K mg "_law_has" s__law_has ["spans", "number"]
  _law_starts : Df K mg "_law_starts" s__law_starts ["spans"]
  _law_parts : Df K mg "_law_parts" s__law_parts ["first", "second", "word"]
  _check : Df K mg "_check" s__check ["spans"]
  _merged : Df K mg "_merged" s__merged ["spans", "low", "high"]
  tidy : Df K mg "tidy" s_tidy ["spans"]
  joined : Df K mg "joined" s_joined ["first", "second"]
  _cut : Df K mg "_cut" s__cut ["spans", "low", "high"]
  without : Df K mg "without" s_without ["first", "second"]
  common : Df K mg "common" s_common ["first", "second"]
  _law_answers : Df K mg "_law_answers" s__law_answers ["first", "second"]
  holds : Df K mg "holds" s_holds ["spans", "number"]
  law : Df K mg "law" s_law ["script"]
  n_abs : mg "abs" = none
  n_any : mg "any" = none
  n_bool : mg "bool" = none
  n_int : mg "int" = none
  n_isinstance : mg "isinstance" = none
  n_len : mg "len" = none
  n_list : mg "list" = none
  n_max : mg "max" = none
  n_min : mg "min" = none
  n_range : mg "range" = none
  n_sorted : mg "sorted" = none
  n_str : mg "str" = none
  n_tuple : mg "tuple" = none
theorem bt_bool : bootBuiltins "bool" = some (.type "bool") := by decide +kernel
theorem bt_int : bootBuiltins "int" = some (.type "int") := by decide +kernel
theorem bt_list : bootBuiltins "list" = some (.type "list") := by decide +kernel
theorem bt_str : bootBuiltins "str" = some (.type "str") := by decide +kernel
theorem bt_tuple : bootBuiltins "tuple" = some (.type "tuple") := by decide +kernel
section
variable {P : Program} {w : World} {K : PySem.W.Frag} {mg : Str → Option Value} {base : Heap} {G : Gm}
theorem ok__law_box (T : Txt K mg) (hK : K = G.K) : FnOk P w K mg base (L2.CX P w) 1 T._law_box.f T._law_box.fd ["script"] (spF G 1 F__law_box) :=
  fn_ok (k := 0) hK T._law_box.fu sc__law_box rfl rfl (by decide) fun cdv A outer s H E fr C => ⟨_,
  (dss_one (ds_retM (de_lst (da_cons (de_toL C.hK (by rfl) T.n_list (de_var 0)) (da_cons de_int (da_cons de_int (da_cons de_int (da_cons de_int da_nil))))))))⟩
theorem ok__law_draw (T : Txt K mg) (hK : K = G.K) : FnOk P w K mg base (L2.CX P w) 1 T._law_draw.f T._law_draw.fd ["box", "size"] (spF G 2 F__law_draw) :=
  fn_ok (k := 0) hK T._law_draw.fu sc__law_draw rfl rfl (by decide) fun cdv A outer s H E fr C => ⟨_,
  (dss_cons (ds_if (dt_eq C.hK C.rm (de_ix C.hK (de_var 0) de_int) de_int)
  (dss_cons (ds_if (dt_ge  (de_ix C.hK (de_var 0) de_int) (de_len C.hK (by rfl) T.n_len (de_ix C.hK (de_var 0) de_int)))
  (dss_one (ds_retM de_int))
  dss_nil)
  (dss_cons (ds_asg (de_abs  (by rfl) T.n_abs (de_toInt  (by rfl) T.n_int (de_ix C.hK (de_ix C.hK (de_var 0) de_int) (de_ix C.hK (de_var 0) de_int)))) (dg_sub C (de_var 0) de_int))
  (dss_cons (ds_asg (de_add C.hK (de_ix C.hK (de_var 0) de_int) de_int) (dg_sub C (de_var 0) de_int))
  (dss_cons (ds_asg (de_toInt  (by rfl) T.n_int (de_ge  (de_ix C.hK (de_var 0) de_int) (de_pow de_int de_int))) (dg_sub C (de_var 0) de_int))
  (dss_one (ds_asg (de_add C.hK de_int (de_mul de_int (de_ix C.hK (de_var 0) de_int))) (dg_sub C (de_var 0) de_int)))))))
  dss_nil)
  (dss_cons (ds_asg (de_sub (de_ix C.hK (de_var 0) de_int) de_int) (dg_sub C (de_var 0) de_int))
  (dss_cons (ds_if (dt_eq C.hK C.rm (de_ix C.hK (de_var 0) de_int) de_int)
  (dss_cons (ds_setF C (i := 3) (by rfl) (de_mod (de_toInt  (by rfl) T.n_int (de_ix C.hK (de_var 0) de_int)) (de_var 1)))
  (dss_cons (ds_asg (de_div (de_toInt  (by rfl) T.n_int (de_ix C.hK (de_var 0) de_int)) (de_var 1)) (dg_sub C (de_var 0) de_int))
  (dss_cons (ds_if (dt_eq C.hK C.rm (de_ix C.hK (de_var 0) de_int) de_int)
  (dss_one (ds_asg de_int (dg_sub C (de_var 0) de_int)))
  dss_nil)
  (dss_one (ds_retM (de_var 3))))))
  dss_nil)
  (dss_cons (ds_setF C (i := 2) (by rfl) (de_mod (de_toInt  (by rfl) T.n_int (de_add C.hK (de_add C.hK (de_mul (de_toInt  (by rfl) T.n_int (de_ix C.hK (de_var 0) de_int)) de_int) (de_mul (de_ix C.hK (de_var 0) de_int) de_int)) de_int)) de_int))
  (dss_cons (ds_setF C (i := 2) (by rfl) (de_mod (de_toInt  (by rfl) T.n_int (de_add C.hK (de_add C.hK (de_mul (de_var 2) de_int) (de_mul (de_ix C.hK (de_var 0) de_int) de_int)) de_int)) de_int))
  (dss_one (ds_retM (de_mod (de_toInt  (by rfl) T.n_int (de_var 2)) (de_var 1)))))))))⟩
theorem ok__law_number (T : Txt K mg) (hK : K = G.K) : FnOk P w K mg base (L2.CX P w) 2 T._law_number.f T._law_number.fd ["box"] (spF G 1 F__law_number) :=
  fn_ok (k := 1) hK T._law_number.fu sc__law_number rfl rfl (by decide) fun cdv A outer s H E fr C => ⟨_,
  (dss_cons (ds_setF C (i := 1) (by rfl) (de_call C (ok__law_draw T hK) (by decide) (by rfl) T._law_draw.mgf T._law_draw.fu.kp T._law_draw.bd (da_cons (de_var 0) (da_cons de_int da_nil))))
  (dss_cons (ds_if (dt_lt  (de_var 1) de_int)
  (dss_one (ds_retM (de_sub (de_call C (ok__law_draw T hK) (by decide) (by rfl) T._law_draw.mgf T._law_draw.fu.kp T._law_draw.bd (da_cons (de_var 0) (da_cons de_int da_nil))) de_int)))
  dss_nil)
  (dss_cons (ds_if (dt_eq C.hK C.rm (de_var 1) de_int)
  (dss_one (ds_retM (de_sub (de_call C (ok__law_draw T hK) (by decide) (by rfl) T._law_draw.mgf T._law_draw.fu.kp T._law_draw.bd (da_cons (de_var 0) (da_cons de_int da_nil))) de_int)))
  dss_nil)
  (dss_cons (ds_if (dt_eq C.hK C.rm (de_var 1) de_int)
  (dss_one (ds_retM (de_sub (de_call C (ok__law_draw T hK) (by decide) (by rfl) T._law_draw.mgf T._law_draw.fu.kp T._law_draw.bd (da_cons (de_var 0) (da_cons (de_fz (de_add C.hK (de_mul de_int (de_pow de_int de_int)) de_int)) da_nil))) (de_pow de_int de_int))))
  dss_nil)
  (dss_one (ds_retM (de_sub (de_call C (ok__law_draw T hK) (by decide) (by rfl) T._law_draw.mgf T._law_draw.fu.kp T._law_draw.bd (da_cons (de_var 0) (da_cons (de_fz (de_add C.hK (de_mul de_int (de_pow de_int de_int)) de_int)) da_nil))) (de_pow de_int de_int))))))))⟩
theorem ok__law_spans (T : Txt K mg) (hK : K = G.K) : FnOk P w K mg base (L2.CX P w) 3 T._law_spans.f T._law_spans.fd ["box", "most", "known"] (spF G 3 F__law_spans) :=
  fn_ok (k := 2) hK T._law_spans.fu sc__law_spans rfl rfl (by decide) fun cdv A outer s H E fr C => ⟨_,
  (dss_cons (ds_set C (i := 3) (by rfl) (de_lst da_nil))
  (dss_cons (ds_setF C (i := 4) (by rfl) (de_call C (ok__law_draw T hK) (by decide) (by rfl) T._law_draw.mgf T._law_draw.fu.kp T._law_draw.bd (da_cons (de_var 0) (da_cons de_int da_nil))))
  (dss_cons (ds_for C (di_range1 (by rfl) T.n_range (de_call C (ok__law_draw T hK) (by decide) (by rfl) T._law_draw.mgf T._law_draw.fu.kp T._law_draw.bd (da_cons (de_var 0) (da_cons (de_fz (de_add C.hK (de_var 1) de_int)) da_nil)))) (dg_name C (i := 5) (by rfl))
  (dss_cons (ds_setF C (i := 6) (by rfl) (de_sub (de_call C (ok__law_draw T hK) (by decide) (by rfl) T._law_draw.mgf T._law_draw.fu.kp T._law_draw.bd (da_cons (de_var 0) (da_cons de_int da_nil))) de_int))
  (dss_cons (ds_if (dt_eq C.hK C.rm (de_var 4) de_int)
  (dss_one (ds_setF C (i := 6) (by rfl) (de_call C (ok__law_number T hK) (by decide) (by rfl) T._law_number.mgf T._law_number.fu.kp T._law_number.bd (da_cons (de_var 0) da_nil))))
  dss_nil)
  (dss_cons (ds_setF C (i := 7) (by rfl) (de_call C (ok__law_draw T hK) (by decide) (by rfl) T._law_draw.mgf T._law_draw.fu.kp T._law_draw.bd (da_cons (de_var 0) (da_cons de_int da_nil))))
  (dss_cons (ds_if (dt_eq C.hK C.rm (de_var 7) de_int)
  (dss_one (ds_setF C (i := 7) (by rfl) (de_call C (ok__law_draw T hK) (by decide) (by rfl) T._law_draw.mgf T._law_draw.fu.kp T._law_draw.bd (da_cons (de_var 0) (da_cons (de_pow de_int de_int) da_nil)))))
  dss_nil)
  (dss_cons (ds_setF C (i := 8) (by rfl) (de_add C.hK (de_var 2) (de_var 3)))
  (dss_cons (ds_setF C (i := 9) (by rfl) (de_call C (ok__law_draw T hK) (by decide) (by rfl) T._law_draw.mgf T._law_draw.fu.kp T._law_draw.bd (da_cons (de_var 0) (da_cons de_int da_nil))))
  (dss_cons (ds_if (DW.dt (dw_and (dt_ne C.hK C.rm (de_var 8) (de_lst da_nil)) (dw_and1 (dt_gt  (de_var 9) de_int))))
  (dss_cons (ds_setF C (i := 10) (by rfl) (de_ix C.hK (de_var 8) (de_call C (ok__law_draw T hK) (by decide) (by rfl) T._law_draw.mgf T._law_draw.fu.kp T._law_draw.bd (da_cons (de_var 0) (da_cons (de_fz (de_len C.hK (by rfl) T.n_len (de_var 8))) da_nil)))))
  (dss_one (ds_setF C (i := 6) (by rfl) (de_ix C.hK (de_lst (da_cons (de_add C.hK (de_ix C.hK (de_var 10) de_int) de_int) (da_cons (de_sub (de_sub (de_ix C.hK (de_var 10) de_int) de_int) (de_var 7)) (da_cons (de_ix C.hK (de_var 10) de_int) da_nil)))) (de_sub (de_var 9) de_int)))))
  dss_nil)
  (dss_one (ds_expr (de_app C.hK (de_var 3) (de_tup (da_cons (de_var 6) (da_cons (de_add C.hK (de_var 6) (de_var 7)) da_nil))))))))))))))
  (dss_one (ds_retM (de_var 3))))))⟩
theorem ok__law_same (T : Txt K mg) (hK : K = G.K) : ∀ n : Nat, FnOk P w K mg base (L2.CX P w) (0 + n) T._law_same.f T._law_same.fd ["one", "two"] (spF G 2 (F__law_same n))
  | 0 => fn_stuck rfl
  | n + 1 =>
    have IH := ok__law_same T hK n
    fn_ok (k := 0 + n) hK T._law_same.fu sc__law_same rfl rfl (by decide) fun cdv A outer s H E fr C => ⟨_,
  (dss_cons (ds_if (dt_isN  (de_var 1) de_non)
  (dss_one (ds_retM (de_isN  (de_var 0) de_non)))
  dss_nil)
  (dss_cons (ds_if (dt_tru C.hK (de_isi (by decide) C.hK (by rfl) T.n_isinstance (by rfl) T.n_bool bt_bool (de_var 1)))
  (dss_one (ds_retM (de_and (de_isi (by decide) C.hK (by rfl) T.n_isinstance (by rfl) T.n_bool bt_bool (de_var 0)) (de_one (de_eq C.hK C.rm (de_var 0) (de_var 1))))))
  dss_nil)
  (dss_cons (ds_if (dt_tru C.hK (de_isi (by decide) C.hK (by rfl) T.n_isinstance (by rfl) T.n_int bt_int (de_var 1)))
  (dss_one (ds_retM (de_and (de_isi (by decide) C.hK (by rfl) T.n_isinstance (by rfl) T.n_int bt_int (de_var 0)) (de_and (de_not (de_isi (by decide) C.hK (by rfl) T.n_isinstance (by rfl) T.n_bool bt_bool (de_var 0))) (de_one (de_eq C.hK C.rm (de_var 0) (de_var 1)))))))
  dss_nil)
  (dss_cons (ds_if (dt_tru C.hK (de_isi (by decide) C.hK (by rfl) T.n_isinstance (by rfl) T.n_str bt_str (de_var 1)))
  (dss_one (ds_retM (de_and (de_isi (by decide) C.hK (by rfl) T.n_isinstance (by rfl) T.n_str bt_str (de_var 0)) (de_one (de_eq C.hK C.rm (de_var 0) (de_var 1))))))
  dss_nil)
  (dss_cons (ds_if (DW.dt (dw_and (dt_tru C.hK (de_isi (by decide) C.hK (by rfl) T.n_isinstance (by rfl) T.n_tuple bt_tuple (de_var 1))) (dw_and1 (dt_not (dt_tru C.hK (de_isi (by decide) C.hK (by rfl) T.n_isinstance (by rfl) T.n_tuple bt_tuple (de_var 0)))))))
  (dss_one (ds_retM de_bl))
  dss_nil)
  (dss_cons (ds_if (DW.dt (dw_or (DW.dt (dw_and (dt_tru C.hK (de_isi (by decide) C.hK (by rfl) T.n_isinstance (by rfl) T.n_list bt_list (de_var 1))) (dw_and1 (dt_not (dt_tru C.hK (de_isi (by decide) C.hK (by rfl) T.n_isinstance (by rfl) T.n_list bt_list (de_var 0))))))) (dw_or1 (dt_ne C.hK C.rm (de_len C.hK (by rfl) T.n_len (de_var 0)) (de_len C.hK (by rfl) T.n_len (de_var 1))))))
  (dss_one (ds_retM de_bl))
  dss_nil)
  (dss_cons (ds_for C (di_range1 (by rfl) T.n_range (de_len C.hK (by rfl) T.n_len (de_var 1))) (dg_name C (i := 2) (by rfl))
  (dss_one (ds_if (dt_not (dt_tru C.hK (de_callF C IH (by omega) (by rfl) T._law_same.mgf T._law_same.fu.kp T._law_same.bd (da_cons (de_ix C.hK (de_var 0) (de_var 2)) (da_cons (de_ix C.hK (de_var 1) (de_var 2)) da_nil)))))
  (dss_one (ds_retM de_bl))
  dss_nil)))
  (dss_one (ds_retM de_bl)))))))))⟩
theorem ok__law_has (T : Txt K mg) (hK : K = G.K) : FnOk P w K mg base (L2.CX P w) 1 T._law_has.f T._law_has.fd ["spans", "number"] (spF G 2 F__law_has) :=
  fn_ok (k := 0) hK T._law_has.fu sc__law_has rfl rfl (by decide) fun cdv A outer s H E fr C => ⟨_,
  (dss_cons (ds_for C (di_seq C.hK (de_var 0)) (dg_tup C (dgs_cons (dg_name C (i := 2) (by rfl)) (dgs_cons (dg_name C (i := 3) (by rfl)) dgs_nil)))
  (dss_one (ds_if (dt_chain op_le op_le od_cmp od_cmp (de_var 2) (de_var 1) (de_var 3))
  (dss_one (ds_retM de_bl))
  dss_nil)))
  (dss_one (ds_retM de_bl)))⟩
theorem ok__law_starts (T : Txt K mg) (hK : K = G.K) : FnOk P w K mg base (L2.CX P w) 1 T._law_starts.f T._law_starts.fd ["spans"] (spF G 1 F__law_starts) :=
  fn_ok (k := 0) hK T._law_starts.fu sc__law_starts rfl rfl (by decide) fun cdv A outer s H E fr C => ⟨_,
  (dss_cons (ds_setF C (i := 1) (by rfl) (de_lst da_nil))
  (dss_cons (ds_for C (di_seq C.hK (de_var 0)) (dg_tup C (dgs_cons (dg_name C (i := 2) (by rfl)) (dgs_cons (dg_name C (i := 3) (by rfl)) dgs_nil)))
  (dss_one (ds_setF C (i := 1) (by rfl) (de_add C.hK (de_var 1) (de_lst (da_cons (de_var 2) (da_cons (de_add C.hK (de_var 3) de_int) da_nil)))))))
  (dss_one (ds_retM (de_var 1)))))⟩
theorem ok__law_parts (T : Txt K mg) (hK : K = G.K) : FnOk P w K mg base (L2.CX P w) 2 T._law_parts.f T._law_parts.fd ["first", "second", "word"] (spF G 3 F__law_parts) :=
  fn_ok (k := 1) hK T._law_parts.fu sc__law_parts rfl rfl (by decide) fun cdv A outer s H E fr C => ⟨_,
  (dss_cons (ds_setF C (i := 3) (by rfl) (de_sorted C.hK (by rfl) T.n_sorted (de_comp C [("one", 10)] (di_seq C.hK (de_add C.hK (de_callF C (ok__law_starts T hK) (by decide) (by rfl) T._law_starts.mgf T._law_starts.fu.kp T._law_starts.bd (da_cons (de_var 0) da_nil)) (de_callF C (ok__law_starts T hK) (by decide) (by rfl) T._law_starts.mgf T._law_starts.fu.kp T._law_starts.bd (da_cons (de_var 1) da_nil)))) (blkOk_by (N := ["first", "second", "word", "points", "result", "k", "low", "high", "wanted", "other", "one"]) (sc := defScope s__law_parts) (by decide +kernel)) (fun _ _ _ _ _ C' => (dg_name C' (i := 10) (by rfl))) (fun _ _ _ _ _ C' => dts_nil) (fun _ _ _ _ _ C' => (de_toInt  (by rfl) T.n_int (de_var 10))))))
  (dss_cons (ds_set C (i := 4) (by rfl) (de_lst da_nil))
  (dss_cons (ds_for C (di_range1 (by rfl) T.n_range (de_sub (de_len C.hK (by rfl) T.n_len (de_var 3)) de_int)) (dg_name C (i := 5) (by rfl))
  (dss_cons (ds_setF C (i := 6) (by rfl) (de_ix C.hK (de_var 3) (de_var 5)))
  (dss_cons (ds_setF C (i := 7) (by rfl) (de_sub (de_ix C.hK (de_var 3) (de_add C.hK (de_var 5) de_int)) de_int))
  (dss_cons (ds_setF C (i := 8) (by rfl) (de_callF C (ok__law_has T hK) (by decide) (by rfl) T._law_has.mgf T._law_has.fu.kp T._law_has.bd (da_cons (de_var 0) (da_cons (de_var 6) da_nil))))
  (dss_cons (ds_setF C (i := 9) (by rfl) (de_callF C (ok__law_has T hK) (by decide) (by rfl) T._law_has.mgf T._law_has.fu.kp T._law_has.bd (da_cons (de_var 1) (da_cons (de_var 6) da_nil))))
  (dss_cons (ds_if (dt_eq C.hK C.rm (de_var 2) de_str)
  (dss_one (ds_setF C (i := 8) (by rfl) (de_or (de_var 8) (de_one (de_var 9)))))
  (dss_one (ds_if (dt_eq C.hK C.rm (de_var 2) de_str)
  (dss_one (ds_setF C (i := 8) (by rfl) (de_and (de_var 8) (de_one (de_var 9)))))
  (dss_one (ds_setF C (i := 8) (by rfl) (de_and (de_var 8) (de_one (de_not (de_var 9)))))))))
  (dss_one (ds_if (DW.dt (dw_and (dt_tru C.hK (de_var 8)) (dw_and1 (dt_le  (de_var 6) (de_var 7)))))
  (dss_one (ds_if (DW.dt (dw_and (dt_ne C.hK C.rm (de_var 4) (de_lst da_nil)) (dw_and1 (dt_eq C.hK C.rm (de_add C.hK (de_ix C.hK (de_ix C.hK (de_var 4) (de_neg de_int)) de_int) de_int) (de_var 6)))))
  (dss_one (ds_asg (de_tup (da_cons (de_ix C.hK (de_ix C.hK (de_var 4) (de_neg de_int)) de_int) (da_cons (de_var 7) da_nil))) (dg_sub C (de_var 4) (de_neg de_int))))
  (dss_one (ds_expr (de_app C.hK (de_var 4) (de_tup (da_cons (de_var 6) (da_cons (de_var 7) da_nil))))))))
  dss_nil))))))))
  (dss_one (ds_retM (de_var 4))))))⟩
theorem ok__check (T : Txt K mg) (hK : K = G.K) : FnOk P w K mg base (L2.CX P w) 1 T._check.f T._check.fd ["spans"] (spF G 1 F__check) :=
  fn_ok (k := 0) hK T._check.fu sc__check rfl rfl (by decide) fun cdv A outer s H E fr C => ⟨_,
  (dss_one (ds_for C (di_seq C.hK (de_var 0)) (dg_tup C (dgs_cons (dg_name C (i := 1) (by rfl)) (dgs_cons (dg_name C (i := 2) (by rfl)) dgs_nil)))
  (dss_one (ds_if (dt_gt  (de_var 1) (de_var 2))
  (dss_one ds_never)
  dss_nil))))⟩
theorem ok__merged (T : Txt K mg) (hK : K = G.K) : FnOk P w K mg base (L2.CX P w) 1 T._merged.f T._merged.fd ["spans", "low", "high"] (spF G 3 F__merged) :=
  fn_ok (k := 0) hK T._merged.fu sc__merged rfl rfl (by decide) fun cdv A outer s H E fr C => ⟨_,
  (dss_cons (ds_setLcF C [("pair", 7)] (by rfl) (di_seq C.hK (de_var 0)) (blkOk_by (N := ["spans", "low", "high", "ahead", "behind", "other_low", "other_high", "pair"]) (sc := defScope s__merged) (by decide +kernel)) (fun _ _ _ _ _ C' => (dg_name C' (i := 7) (by rfl))) (fun _ _ _ _ _ C' => (dts_one (dt_lt  (de_add C'.hK (de_ix C'.hK (de_var 7) de_int) de_int) (de_var 1)))) (fun _ _ _ _ _ C' => (de_var 7)))
  (dss_cons (ds_setLcF C [("pair", 7)] (by rfl) (di_seq C.hK (de_var 0)) (blkOk_by (N := ["spans", "low", "high", "ahead", "behind", "other_low", "other_high", "pair"]) (sc := defScope s__merged) (by decide +kernel)) (fun _ _ _ _ _ C' => (dg_name C' (i := 7) (by rfl))) (fun _ _ _ _ _ C' => (dts_one (dt_gt  (de_ix C'.hK (de_var 7) de_int) (de_add C'.hK (de_var 2) de_int)))) (fun _ _ _ _ _ C' => (de_var 7)))
  (dss_cons (ds_for C (di_seq C.hK (de_sl C.hK (de_var 0) (do_some (de_len C.hK (by rfl) T.n_len (de_var 3))) (do_some (de_sub (de_len C.hK (by rfl) T.n_len (de_var 0)) (de_len C.hK (by rfl) T.n_len (de_var 4)))))) (dg_tup C (dgs_cons (dg_name C (i := 5) (by rfl)) (dgs_cons (dg_name C (i := 6) (by rfl)) dgs_nil)))
  (dss_cons (ds_setF C (i := 1) (by rfl) (de_min2 C.calm (by rfl) T.n_min (de_toInt  (by rfl) T.n_int (de_var 1)) (de_var 5)))
  (dss_one (ds_setF C (i := 2) (by rfl) (de_max2 C.calm (by rfl) T.n_max (de_toInt  (by rfl) T.n_int (de_var 2)) (de_var 6))))))
  (dss_one (ds_retM (de_add C.hK (de_add C.hK (de_var 3) (de_lst (da_cons (de_tup (da_cons (de_var 1) (da_cons (de_var 2) da_nil))) da_nil))) (de_var 4)))))))⟩
theorem ok_tidy (T : Txt K mg) (hK : K = G.K) : FnOk P w K mg base (L2.CX P w) 2 T.tidy.f T.tidy.fd ["spans"] (spF G 1 F_tidy) :=
  fn_ok (k := 1) hK T.tidy.fu sc_tidy rfl rfl (by decide) fun cdv A outer s H E fr C => ⟨_,
  (dss_cons (ds_expr (de_callF C (ok__check T hK) (by decide) (by rfl) T._check.mgf T._check.fu.kp T._check.bd (da_cons (de_var 0) da_nil)))
  (dss_cons (ds_set C (i := 1) (by rfl) (de_lst da_nil))
  (dss_cons (ds_for C (di_seq C.hK (de_var 0)) (dg_tup C (dgs_cons (dg_name C (i := 2) (by rfl)) (dgs_cons (dg_name C (i := 3) (by rfl)) dgs_nil)))
  (dss_one (ds_set C (i := 1) (by rfl) (de_callF C (ok__merged T hK) (by decide) (by rfl) T._merged.mgf T._merged.fu.kp T._merged.bd (da_cons (de_var 1) (da_cons (de_var 2) (da_cons (de_var 3) da_nil)))))))
  (dss_one (ds_retM (de_var 1))))))⟩
theorem ok_joined (T : Txt K mg) (hK : K = G.K) : FnOk P w K mg base (L2.CX P w) 3 T.joined.f T.joined.fd ["first", "second"] (spF G 2 F_joined) :=
  fn_ok (k := 2) hK T.joined.fu sc_joined rfl rfl (by decide) fun cdv A outer s H E fr C => ⟨_,
  (dss_cons (ds_expr (de_callF C (ok__check T hK) (by decide) (by rfl) T._check.mgf T._check.fu.kp T._check.bd (da_cons (de_var 0) da_nil)))
  (dss_one (ds_retM (de_callF C (ok_tidy T hK) (by decide) (by rfl) T.tidy.mgf T.tidy.fu.kp T.tidy.bd (da_cons (de_add C.hK (de_toL C.hK (by rfl) T.n_list (de_var 0)) (de_callF C (ok_tidy T hK) (by decide) (by rfl) T.tidy.mgf T.tidy.fu.kp T.tidy.bd (da_cons (de_var 1) da_nil))) da_nil)))))⟩
theorem ok__cut (T : Txt K mg) (hK : K = G.K) : FnOk P w K mg base (L2.CX P w) 1 T._cut.f T._cut.fd ["spans", "low", "high"] (spF G 3 F__cut) :=
  fn_ok (k := 0) hK T._cut.fu sc__cut rfl rfl (by decide) fun cdv A outer s H E fr C => ⟨_,
  (dss_cons (ds_set C (i := 3) (by rfl) (de_lst da_nil))
  (dss_cons (ds_for C (di_seq C.hK (de_var 0)) (dg_tup C (dgs_cons (dg_name C (i := 4) (by rfl)) (dgs_cons (dg_name C (i := 5) (by rfl)) dgs_nil)))
  (dss_cons (ds_if (DW.dt (dw_or (dt_lt  (de_var 5) (de_var 1)) (dw_or1 (dt_gt  (de_var 4) (de_var 2)))))
  (dss_cons (ds_expr (de_app C.hK (de_var 3) (de_tup (da_cons (de_var 4) (da_cons (de_var 5) da_nil)))))
  (dss_one ds_continue))
  dss_nil)
  (dss_cons (ds_if (dt_lt  (de_var 4) (de_var 1))
  (dss_one (ds_expr (de_app C.hK (de_var 3) (de_tup (da_cons (de_var 4) (da_cons (de_sub (de_var 1) de_int) da_nil))))))
  dss_nil)
  (dss_one (ds_if (dt_gt  (de_var 5) (de_var 2))
  (dss_one (ds_expr (de_app C.hK (de_var 3) (de_tup (da_cons (de_add C.hK (de_var 2) de_int) (da_cons (de_var 5) da_nil))))))
  dss_nil)))))
  (dss_one (ds_retM (de_var 3)))))⟩
theorem ok_without (T : Txt K mg) (hK : K = G.K) : FnOk P w K mg base (L2.CX P w) 3 T.without.f T.without.fd ["first", "second"] (spF G 2 F_without) :=
  fn_ok (k := 2) hK T.without.fu sc_without rfl rfl (by decide) fun cdv A outer s H E fr C => ⟨_,
  (dss_cons (ds_set C (i := 2) (by rfl) (de_callF C (ok_tidy T hK) (by decide) (by rfl) T.tidy.mgf T.tidy.fu.kp T.tidy.bd (da_cons (de_var 0) da_nil)))
  (dss_cons (ds_for C (di_seq C.hK (de_callF C (ok_tidy T hK) (by decide) (by rfl) T.tidy.mgf T.tidy.fu.kp T.tidy.bd (da_cons (de_var 1) da_nil))) (dg_tup C (dgs_cons (dg_name C (i := 3) (by rfl)) (dgs_cons (dg_name C (i := 4) (by rfl)) dgs_nil)))
  (dss_one (ds_set C (i := 2) (by rfl) (de_callF C (ok__cut T hK) (by decide) (by rfl) T._cut.mgf T._cut.fu.kp T._cut.bd (da_cons (de_var 2) (da_cons (de_var 3) (da_cons (de_var 4) da_nil)))))))
  (dss_one (ds_retM (de_var 2)))))⟩
theorem ok_common (T : Txt K mg) (hK : K = G.K) : FnOk P w K mg base (L2.CX P w) 4 T.common.f T.common.fd ["first", "second"] (spF G 2 F_common) :=
  fn_ok (k := 3) hK T.common.fu sc_common rfl rfl (by decide) fun cdv A outer s H E fr C => ⟨_,
  (dss_cons (ds_setF C (i := 2) (by rfl) (de_callF C (ok_tidy T hK) (by decide) (by rfl) T.tidy.mgf T.tidy.fu.kp T.tidy.bd (da_cons (de_var 0) da_nil)))
  (dss_one (ds_retM (de_callF C (ok_without T hK) (by decide) (by rfl) T.without.mgf T.without.fu.kp T.without.bd (da_cons (de_var 2) (da_cons (de_callF C (ok_without T hK) (by decide) (by rfl) T.without.mgf T.without.fu.kp T.without.bd (da_cons (de_var 2) (da_cons (de_var 1) da_nil))) da_nil))))))⟩
theorem ok__law_answers (T : Txt K mg) (hK : K = G.K) : FnOk P w K mg base (L2.CX P w) 5 T._law_answers.f T._law_answers.fd ["first", "second"] (spF G 2 F__law_answers) :=
  fn_ok (k := 4) hK T._law_answers.fu sc__law_answers rfl rfl (by decide) fun cdv A outer s H E fr C => ⟨_,
  (dss_one (ds_retM (de_lstO (da_cons (de_callF C (ok_joined T hK) (by decide) (by rfl) T.joined.mgf T.joined.fu.kp T.joined.bd (da_cons (de_var 0) (da_cons (de_var 1) da_nil))) (da_cons (de_callF C (ok_common T hK) (by decide) (by rfl) T.common.mgf T.common.fu.kp T.common.bd (da_cons (de_var 0) (da_cons (de_var 1) da_nil))) (da_cons (de_callF C (ok_without T hK) (by decide) (by rfl) T.without.mgf T.without.fu.kp T.without.bd (da_cons (de_var 0) (da_cons (de_var 1) da_nil))) da_nil))))))⟩
theorem ok_holds (T : Txt K mg) (hK : K = G.K) : FnOk P w K mg base (L2.CX P w) 3 T.holds.f T.holds.fd ["spans", "number"] (spF G 2 F_holds) :=
  fn_ok (k := 2) hK T.holds.fu sc_holds rfl rfl (by decide) fun cdv A outer s H E fr C => ⟨_,
  (dss_one (ds_retM (de_any C.hK C.calm (by rfl) T.n_any (de_comp C [("low", 2), ("high", 3)] (di_seq C.hK (de_callF C (ok_tidy T hK) (by decide) (by rfl) T.tidy.mgf T.tidy.fu.kp T.tidy.bd (da_cons (de_var 0) da_nil))) (blkOk_by (N := ["spans", "number", "low", "high"]) (sc := defScope s_holds) (by decide +kernel)) (fun _ _ _ _ _ C' => (dg_tup C' (dgs_cons (dg_name C' (i := 2) (by rfl)) (dgs_cons (dg_name C' (i := 3) (by rfl)) dgs_nil)))) (fun _ _ _ _ _ C' => dts_nil) (fun _ _ _ _ _ C' => (de_chain op_le op_le od_cmp od_cmp (de_var 2) (de_var 1) (de_var 3)))))))⟩
theorem ok_law (T : Txt K mg) (hK : K = G.K) : FnOk P w K mg base (L2.CX P w) 8 T.law.f T.law.fd ["script"] (spF G 1 F_law) :=
  fn_ok (k := 7) hK T.law.fu sc_law rfl rfl (by decide) fun cdv A outer s H E fr C => ⟨_,
  (dss_cons (ds_set C (i := 1) (by rfl) (de_callF C (ok__law_box T hK) (by decide) (by rfl) T._law_box.mgf T._law_box.fu.kp T._law_box.bd (da_cons (de_var 0) da_nil)))
  (dss_cons (ds_setF C (i := 2) (by rfl) (de_call C (ok__law_spans T hK) (by decide) (by rfl) T._law_spans.mgf T._law_spans.fu.kp T._law_spans.bd (da_cons (de_var 1) (da_cons de_int (da_cons (de_fz (de_lst da_nil)) da_nil)))))
  (dss_cons (ds_setF C (i := 3) (by rfl) (de_call C (ok__law_spans T hK) (by decide) (by rfl) T._law_spans.mgf T._law_spans.fu.kp T._law_spans.bd (da_cons (de_var 1) (da_cons de_int (da_cons (de_var 2) da_nil)))))
  (dss_cons (ds_setF C (i := 4) (by rfl) (de_lst (da_cons (de_toL C.hK (by rfl) T.n_list (de_var 2)) (da_cons (de_toL C.hK (by rfl) T.n_list (de_var 3)) da_nil))))
  (dss_cons (ds_setLcF C [("word", 15)] (by rfl) (di_seq C.hK (de_lst (da_cons de_str (da_cons de_str (da_cons de_str da_nil))))) (blkOk_by (N := ["script", "box", "first", "second", "passed", "due", "turn", "numbers", "number", "told", "k", "low", "high", "one", "two", "word"]) (sc := defScope s_law) (by decide +kernel)) (fun _ _ _ _ _ C' => (dg_name C' (i := 15) (by rfl))) (fun _ _ _ _ _ C' => dts_nil) (fun _ _ _ _ _ C' => (de_callF C' (ok__law_parts T hK) (by decide) (by rfl) T._law_parts.mgf T._law_parts.fu.kp T._law_parts.bd (da_cons (de_var 2) (da_cons (de_var 3) (da_cons (de_var 15) da_nil))))))
  (dss_cons (ds_for C (di_range1 (by rfl) T.n_range de_int) (dg_name C (i := 6) (by rfl))
  (dss_cons (ds_set C (i := 9) (by rfl) (de_callF C (ok__law_answers T hK) (by decide) (by rfl) T._law_answers.mgf T._law_answers.fu.kp T._law_answers.bd (da_cons (de_ix C.hK (de_var 4) de_int) (da_cons (de_ix C.hK (de_var 4) de_int) da_nil))))
  (dss_cons (ds_if (DW.dt (dw_or (dt_not (dt_tru C.hK (de_callV C (ok__law_same T hK 6) (by decide) (by rfl) T._law_same.mgf T._law_same.fu.kp T._law_same.bd (da_cons (de_var 9) (da_cons (de_var 5) da_nil))))) (dw_or1 (dt_not (dt_tru C.hK (de_callF C (ok__law_same T hK 6) (by decide) (by rfl) T._law_same.mgf T._law_same.fu.kp T._law_same.bd (da_cons (de_var 4) (da_cons (de_lst (da_cons (de_var 2) (da_cons (de_var 3) da_nil))) da_nil))))))))
  (dss_one (ds_retM de_bl))
  dss_nil)
  (dss_one (ds_for C (di_range1 (by rfl) T.n_range de_int) (dg_name C (i := 10) (by rfl))
  (dss_one (ds_expr (de_app2 (i := 9) C.hK (by rfl) (by first | exact Or.inl rfl | exact Or.inr (Or.inl rfl) | exact Or.inr (Or.inr rfl)) (de_var 10) (de_tup (da_cons (de_var 6) (da_cons de_int da_nil)))))))))))
  (dss_cons (ds_if (dt_not (dt_tru C.hK (de_callF C (ok__law_same T hK 6) (by decide) (by rfl) T._law_same.mgf T._law_same.fu.kp T._law_same.bd (da_cons (de_callF C (ok__law_answers T hK) (by decide) (by rfl) T._law_answers.mgf T._law_answers.fu.kp T._law_answers.bd (da_cons (de_toT C.hK (by rfl) T.n_tuple (de_var 2)) (da_cons (de_toT C.hK (by rfl) T.n_tuple (de_var 3)) da_nil))) (da_cons (de_var 5) da_nil)))))
  (dss_one (ds_retM de_bl))
  dss_nil)
  (dss_cons (ds_setF C (i := 7) (by rfl) (de_lst (da_cons (de_call C (ok__law_number T hK) (by decide) (by rfl) T._law_number.mgf T._law_number.fu.kp T._law_number.bd (da_cons (de_var 1) da_nil)) da_nil)))
  (dss_cons (ds_for C (di_seq C.hK (de_add C.hK (de_var 2) (de_var 3))) (dg_tup C (dgs_cons (dg_name C (i := 11) (by rfl)) (dgs_cons (dg_name C (i := 12) (by rfl)) dgs_nil)))
  (dss_one (ds_setF C (i := 7) (by rfl) (de_add C.hK (de_var 7) (de_lst (da_cons (de_sub (de_var 11) de_int) (da_cons (de_var 11) (da_cons (de_var 12) (da_cons (de_add C.hK (de_var 12) de_int) da_nil)))))))))
  (dss_cons (ds_for C (di_seq C.hK (de_var 7)) (dg_name C (i := 8) (by rfl))
  (dss_cons (ds_setF C (i := 13) (by rfl) (de_callF C (ok__law_has T hK) (by decide) (by rfl) T._law_has.mgf T._law_has.fu.kp T._law_has.bd (da_cons (de_var 2) (da_cons (de_var 8) da_nil))))
  (dss_cons (ds_setF C (i := 14) (by rfl) (de_callF C (ok__law_has T hK) (by decide) (by rfl) T._law_has.mgf T._law_has.fu.kp T._law_has.bd (da_cons (de_var 3) (da_cons (de_var 8) da_nil))))
  (dss_cons (ds_if (DW.dt (dw_or (dt_not (dt_tru C.hK (de_callF C (ok__law_same T hK 6) (by decide) (by rfl) T._law_same.mgf T._law_same.fu.kp T._law_same.bd (da_cons (de_callF C (ok_holds T hK) (by decide) (by rfl) T.holds.mgf T.holds.fu.kp T.holds.bd (da_cons (de_ix C.hK (de_var 4) de_int) (da_cons (de_var 8) da_nil))) (da_cons (de_var 13) da_nil))))) (dw_or1 (dt_not (dt_tru C.hK (de_callF C (ok__law_same T hK 6) (by decide) (by rfl) T._law_same.mgf T._law_same.fu.kp T._law_same.bd (da_cons (de_callF C (ok_holds T hK) (by decide) (by rfl) T.holds.mgf T.holds.fu.kp T.holds.bd (da_cons (de_ix C.hK (de_var 4) de_int) (da_cons (de_var 8) da_nil))) (da_cons (de_var 14) da_nil))))))))
  (dss_one (ds_retM de_bl))
  dss_nil)
  (dss_one (ds_if (dt_not (dt_tru C.hK (de_callF C (ok__law_same T hK 6) (by decide) (by rfl) T._law_same.mgf T._law_same.fu.kp T._law_same.bd (da_cons (de_lst (da_cons (de_callF C (ok_holds T hK) (by decide) (by rfl) T.holds.mgf T.holds.fu.kp T.holds.bd (da_cons (de_toL C.hK (by rfl) T.n_list (de_ix C.hK (de_var 5) de_int)) (da_cons (de_var 8) da_nil))) (da_cons (de_callF C (ok_holds T hK) (by decide) (by rfl) T.holds.mgf T.holds.fu.kp T.holds.bd (da_cons (de_toT C.hK (by rfl) T.n_tuple (de_var 2)) (da_cons (de_var 8) da_nil))) da_nil))) (da_cons (de_lst (da_cons (de_or (de_var 13) (de_one (de_var 14))) (da_cons (de_var 13) da_nil))) da_nil)))))
  (dss_one (ds_retM de_bl))
  dss_nil))))))
  (dss_one (ds_retM (de_callF C (ok__law_same T hK 6) (by decide) (by rfl) T._law_same.mgf T._law_same.fu.kp T._law_same.bd (da_cons (de_var 4) (da_cons (de_lst (da_cons (de_var 2) (da_cons (de_var 3) da_nil))) da_nil)))))))))))))))⟩
end
end Lw

namespace Lw
open PySem L2 Sep LwA
theorem all_mk {K : PySem.W.Frag} {h : Heap} {mg : Str → Option Value} (X : K.In h) (Gn : h.Ns mainGlobals mg) {f0 : Addr} {od0 an0 : Option Addr} {sl0 : Array (Option Value)} {oc0 kV0 dc0 pm0 cd0 ct0 : Value} {f1 : Addr} {od1 an1 : Option Addr} {sl1 : Array (Option Value)} {oc1 kV1 dc1 pm1 cd1 ct1 : Value} {f2 : Addr} {od2 an2 : Option Addr} {sl2 : Array (Option Value)} {oc2 kV2 dc2 pm2 cd2 ct2 : Value} {f3 : Addr} {od3 an3 : Option Addr} {sl3 : Array (Option Value)} {oc3 kV3 dc3 pm3 cd3 ct3 : Value} {f4 : Addr} {od4 an4 : Option Addr} {sl4 : Array (Option Value)} {oc4 kV4 dc4 pm4 cd4 ct4 : Value} {f5 : Addr} {od5 an5 : Option Addr} {sl5 : Array (Option Value)} {oc5 kV5 dc5 pm5 cd5 ct5 : Value} {f6 : Addr} {od6 an6 : Option Addr} {sl6 : Array (Option Value)} {oc6 kV6 dc6 pm6 cd6 ct6 : Value} {f7 : Addr} {od7 an7 : Option Addr} {sl7 : Array (Option Value)} {oc7 kV7 dc7 pm7 cd7 ct7 : Value} {f8 : Addr} {od8 an8 : Option Addr} {sl8 : Array (Option Value)} {oc8 kV8 dc8 pm8 cd8 ct8 : Value} {f9 : Addr} {od9 an9 : Option Addr} {sl9 : Array (Option Value)} {oc9 kV9 dc9 pm9 cd9 ct9 : Value} {f10 : Addr} {od10 an10 : Option Addr} {sl10 : Array (Option Value)} {oc10 kV10 dc10 pm10 cd10 ct10 : Value} {f11 : Addr} {od11 an11 : Option Addr} {sl11 : Array (Option Value)} {oc11 kV11 dc11 pm11 cd11 ct11 : Value} {f12 : Addr} {od12 an12 : Option Addr} {sl12 : Array (Option Value)} {oc12 kV12 dc12 pm12 cd12 ct12 : Value} {f13 : Addr} {od13 an13 : Option Addr} {sl13 : Array (Option Value)} {oc13 kV13 dc13 pm13 cd13 ct13 : Value} {f14 : Addr} {od14 an14 : Option Addr} {sl14 : Array (Option Value)} {oc14 kV14 dc14 pm14 cd14 ct14 : Value} {f15 : Addr} {od15 an15 : Option Addr} {sl15 : Array (Option Value)} {oc15 kV15 dc15 pm15 cd15 ct15 : Value} {f16 : Addr} {od16 an16 : Option Addr} {sl16 : Array (Option Value)} {oc16 kV16 dc16 pm16 cd16 ct16 : Value} {f17 : Addr} {od17 an17 : Option Addr} {sl17 : Array (Option Value)} {oc17 kV17 dc17 pm17 cd17 ct17 : Value}
    (a0 : PySem.W.nsIn K mainGlobals "_law_box" = some (some (.ref f0))) (l0 : K.lookup f0 = some ⟨oc0, od0, .func (PySem.W.fnOf "_law_box" "_law_box" (defArgs s__law_box) (defBody s__law_box) (defScope s__law_box) .none kV0 dc0 pm0 an0 cd0 ct0), sl0⟩) (c0 : PySem.W.codeIn K cd0 "_law_box" = true) (k0 : PySem.W.keepIn K (.ref f0) = true)
    (a1 : PySem.W.nsIn K mainGlobals "_law_draw" = some (some (.ref f1))) (l1 : K.lookup f1 = some ⟨oc1, od1, .func (PySem.W.fnOf "_law_draw" "_law_draw" (defArgs s__law_draw) (defBody s__law_draw) (defScope s__law_draw) .none kV1 dc1 pm1 an1 cd1 ct1), sl1⟩) (c1 : PySem.W.codeIn K cd1 "_law_draw" = true) (k1 : PySem.W.keepIn K (.ref f1) = true)
    (a2 : PySem.W.nsIn K mainGlobals "_law_number" = some (some (.ref f2))) (l2 : K.lookup f2 = some ⟨oc2, od2, .func (PySem.W.fnOf "_law_number" "_law_number" (defArgs s__law_number) (defBody s__law_number) (defScope s__law_number) .none kV2 dc2 pm2 an2 cd2 ct2), sl2⟩) (c2 : PySem.W.codeIn K cd2 "_law_number" = true) (k2 : PySem.W.keepIn K (.ref f2) = true)
    (a3 : PySem.W.nsIn K mainGlobals "_law_spans" = some (some (.ref f3))) (l3 : K.lookup f3 = some ⟨oc3, od3, .func (PySem.W.fnOf "_law_spans" "_law_spans" (defArgs s__law_spans) (defBody s__law_spans) (defScope s__law_spans) .none kV3 dc3 pm3 an3 cd3 ct3), sl3⟩) (c3 : PySem.W.codeIn K cd3 "_law_spans" = true) (k3 : PySem.W.keepIn K (.ref f3) = true)
    (a4 : PySem.W.nsIn K mainGlobals "_law_same" = some (some (.ref f4))) (l4 : K.lookup f4 = some ⟨oc4, od4, .func (PySem.W.fnOf "_law_same" "_law_same" (defArgs s__law_same) (defBody s__law_same) (defScope s__law_same) .none kV4 dc4 pm4 an4 cd4 ct4), sl4⟩) (c4 : PySem.W.codeIn K cd4 "_law_same" = true) (k4 : PySem.W.keepIn K (.ref f4) = true)
    (a5 : PySem.W.nsIn K mainGlobals "_law_has" = some (some (.ref f5))) (l5 : K.lookup f5 = some ⟨oc5, od5, .func (PySem.W.fnOf "_law_has" "_law_has" (defArgs s__law_has) (defBody s__law_has) (defScope s__law_has) .none kV5 dc5 pm5 an5 cd5 ct5), sl5⟩) (c5 : PySem.W.codeIn K cd5 "_law_has" = true) (k5 : PySem.W.keepIn K (.ref f5) = true)
    (a6 : PySem.W.nsIn K mainGlobals "_law_starts" = some (some (.ref f6))) (l6 : K.lookup f6 = some ⟨oc6, od6, .func (PySem.W.fnOf "_law_starts" "_law_starts" (defArgs s__law_starts) (defBody s__law_starts) (defScope s__law_starts) .none kV6 dc6 pm6 an6 cd6 ct6), sl6⟩) (c6 : PySem.W.codeIn K cd6 "_law_starts" = true) (k6 : PySem.W.keepIn K (.ref f6) = true)
    (a7 : PySem.W.nsIn K mainGlobals "_law_parts" = some (some (.ref f7))) (l7 : K.lookup f7 = some ⟨oc7, od7, .func (PySem.W.fnOf "_law_parts" "_law_parts" (defArgs s__law_parts) (defBody s__law_parts) (defScope s__law_parts) .none kV7 dc7 pm7 an7 cd7 ct7), sl7⟩) (c7 : PySem.W.codeIn K cd7 "_law_parts" = true) (k7 : PySem.W.keepIn K (.ref f7) = true)
    (a8 : PySem.W.nsIn K mainGlobals "_check" = some (some (.ref f8))) (l8 : K.lookup f8 = some ⟨oc8, od8, .func (PySem.W.fnOf "_check" "_check" (defArgs s__check) (defBody s__check) (defScope s__check) .none kV8 dc8 pm8 an8 cd8 ct8), sl8⟩) (c8 : PySem.W.codeIn K cd8 "_check" = true) (k8 : PySem.W.keepIn K (.ref f8) = true)
    (a9 : PySem.W.nsIn K mainGlobals "_merged" = some (some (.ref f9))) (l9 : K.lookup f9 = some ⟨oc9, od9, .func (PySem.W.fnOf "_merged" "_merged" (defArgs s__merged) (defBody s__merged) (defScope s__merged) .none kV9 dc9 pm9 an9 cd9 ct9), sl9⟩) (c9 : PySem.W.codeIn K cd9 "_merged" = true) (k9 : PySem.W.keepIn K (.ref f9) = true)
    (a10 : PySem.W.nsIn K mainGlobals "tidy" = some (some (.ref f10))) (l10 : K.lookup f10 = some ⟨oc10, od10, .func (PySem.W.fnOf "tidy" "tidy" (defArgs s_tidy) (defBody s_tidy) (defScope s_tidy) .none kV10 dc10 pm10 an10 cd10 ct10), sl10⟩) (c10 : PySem.W.codeIn K cd10 "tidy" = true) (k10 : PySem.W.keepIn K (.ref f10) = true)
    (a11 : PySem.W.nsIn K mainGlobals "joined" = some (some (.ref f11))) (l11 : K.lookup f11 = some ⟨oc11, od11, .func (PySem.W.fnOf "joined" "joined" (defArgs s_joined) (defBody s_joined) (defScope s_joined) .none kV11 dc11 pm11 an11 cd11 ct11), sl11⟩) (c11 : PySem.W.codeIn K cd11 "joined" = true) (k11 : PySem.W.keepIn K (.ref f11) = true)
    (a12 : PySem.W.nsIn K mainGlobals "_cut" = some (some (.ref f12))) (l12 : K.lookup f12 = some ⟨oc12, od12, .func (PySem.W.fnOf "_cut" "_cut" (defArgs s__cut) (defBody s__cut) (defScope s__cut) .none kV12 dc12 pm12 an12 cd12 ct12), sl12⟩) (c12 : PySem.W.codeIn K cd12 "_cut" = true) (k12 : PySem.W.keepIn K (.ref f12) = true)
    (a13 : PySem.W.nsIn K mainGlobals "without" = some (some (.ref f13))) (l13 : K.lookup f13 = some ⟨oc13, od13, .func (PySem.W.fnOf "without" "without" (defArgs s_without) (defBody s_without) (defScope s_without) .none kV13 dc13 pm13 an13 cd13 ct13), sl13⟩) (c13 : PySem.W.codeIn K cd13 "without" = true) (k13 : PySem.W.keepIn K (.ref f13) = true)
    (a14 : PySem.W.nsIn K mainGlobals "common" = some (some (.ref f14))) (l14 : K.lookup f14 = some ⟨oc14, od14, .func (PySem.W.fnOf "common" "common" (defArgs s_common) (defBody s_common) (defScope s_common) .none kV14 dc14 pm14 an14 cd14 ct14), sl14⟩) (c14 : PySem.W.codeIn K cd14 "common" = true) (k14 : PySem.W.keepIn K (.ref f14) = true)
    (a15 : PySem.W.nsIn K mainGlobals "_law_answers" = some (some (.ref f15))) (l15 : K.lookup f15 = some ⟨oc15, od15, .func (PySem.W.fnOf "_law_answers" "_law_answers" (defArgs s__law_answers) (defBody s__law_answers) (defScope s__law_answers) .none kV15 dc15 pm15 an15 cd15 ct15), sl15⟩) (c15 : PySem.W.codeIn K cd15 "_law_answers" = true) (k15 : PySem.W.keepIn K (.ref f15) = true)
    (a16 : PySem.W.nsIn K mainGlobals "holds" = some (some (.ref f16))) (l16 : K.lookup f16 = some ⟨oc16, od16, .func (PySem.W.fnOf "holds" "holds" (defArgs s_holds) (defBody s_holds) (defScope s_holds) .none kV16 dc16 pm16 an16 cd16 ct16), sl16⟩) (c16 : PySem.W.codeIn K cd16 "holds" = true) (k16 : PySem.W.keepIn K (.ref f16) = true)
    (a17 : PySem.W.nsIn K mainGlobals "law" = some (some (.ref f17))) (l17 : K.lookup f17 = some ⟨oc17, od17, .func (PySem.W.fnOf "law" "law" (defArgs s_law) (defBody s_law) (defScope s_law) .none kV17 dc17 pm17 an17 cd17 ct17), sl17⟩) (c17 : PySem.W.codeIn K cd17 "law" = true) (k17 : PySem.W.keepIn K (.ref f17) = true)
    (b0 : PySem.W.nsIn K mainGlobals "abs" = some none)
    (b1 : PySem.W.nsIn K mainGlobals "any" = some none)
    (b2 : PySem.W.nsIn K mainGlobals "bool" = some none)
    (b3 : PySem.W.nsIn K mainGlobals "int" = some none)
    (b4 : PySem.W.nsIn K mainGlobals "isinstance" = some none)
    (b5 : PySem.W.nsIn K mainGlobals "len" = some none)
    (b6 : PySem.W.nsIn K mainGlobals "list" = some none)
    (b7 : PySem.W.nsIn K mainGlobals "max" = some none)
    (b8 : PySem.W.nsIn K mainGlobals "min" = some none)
    (b9 : PySem.W.nsIn K mainGlobals "range" = some none)
    (b10 : PySem.W.nsIn K mainGlobals "sorted" = some none)
    (b11 : PySem.W.nsIn K mainGlobals "str" = some none)
    (b12 : PySem.W.nsIn K mainGlobals "tuple" = some none) :
    Nonempty (Txt K mg) := by
  have F0 := fun_mk (st := s__law_box) l0 c0 k0
  have B0 := F0.binds (ps := ["script"]) fun _ _ _ _ _ _ us hl => match us, hl with | [_], _ => rfl
  have F1 := fun_mk (st := s__law_draw) l1 c1 k1
  have B1 := F1.binds (ps := ["box", "size"]) fun _ _ _ _ _ _ us hl => match us, hl with | [_, _], _ => rfl
  have F2 := fun_mk (st := s__law_number) l2 c2 k2
  have B2 := F2.binds (ps := ["box"]) fun _ _ _ _ _ _ us hl => match us, hl with | [_], _ => rfl
  have F3 := fun_mk (st := s__law_spans) l3 c3 k3
  have B3 := F3.binds (ps := ["box", "most", "known"]) fun _ _ _ _ _ _ us hl => match us, hl with | [_, _, _], _ => rfl
  have F4 := fun_mk (st := s__law_same) l4 c4 k4
  have B4 := F4.binds (ps := ["one", "two"]) fun _ _ _ _ _ _ us hl => match us, hl with | [_, _], _ => rfl
  have F5 := fun_mk (st := s__law_has) l5 c5 k5
  have B5 := F5.binds (ps := ["spans", "number"]) fun _ _ _ _ _ _ us hl => match us, hl with | [_, _], _ => rfl
  have F6 := fun_mk (st := s__law_starts) l6 c6 k6
  have B6 := F6.binds (ps := ["spans"]) fun _ _ _ _ _ _ us hl => match us, hl with | [_], _ => rfl
  have F7 := fun_mk (st := s__law_parts) l7 c7 k7
  have B7 := F7.binds (ps := ["first", "second", "word"]) fun _ _ _ _ _ _ us hl => match us, hl with | [_, _, _], _ => rfl
  have F8 := fun_mk (st := s__check) l8 c8 k8
  have B8 := F8.binds (ps := ["spans"]) fun _ _ _ _ _ _ us hl => match us, hl with | [_], _ => rfl
  have F9 := fun_mk (st := s__merged) l9 c9 k9
  have B9 := F9.binds (ps := ["spans", "low", "high"]) fun _ _ _ _ _ _ us hl => match us, hl with | [_, _, _], _ => rfl
  have F10 := fun_mk (st := s_tidy) l10 c10 k10
  have B10 := F10.binds (ps := ["spans"]) fun _ _ _ _ _ _ us hl => match us, hl with | [_], _ => rfl
  have F11 := fun_mk (st := s_joined) l11 c11 k11
  have B11 := F11.binds (ps := ["first", "second"]) fun _ _ _ _ _ _ us hl => match us, hl with | [_, _], _ => rfl
  have F12 := fun_mk (st := s__cut) l12 c12 k12
  have B12 := F12.binds (ps := ["spans", "low", "high"]) fun _ _ _ _ _ _ us hl => match us, hl with | [_, _, _], _ => rfl
  have F13 := fun_mk (st := s_without) l13 c13 k13
  have B13 := F13.binds (ps := ["first", "second"]) fun _ _ _ _ _ _ us hl => match us, hl with | [_, _], _ => rfl
  have F14 := fun_mk (st := s_common) l14 c14 k14
  have B14 := F14.binds (ps := ["first", "second"]) fun _ _ _ _ _ _ us hl => match us, hl with | [_, _], _ => rfl
  have F15 := fun_mk (st := s__law_answers) l15 c15 k15
  have B15 := F15.binds (ps := ["first", "second"]) fun _ _ _ _ _ _ us hl => match us, hl with | [_, _], _ => rfl
  have F16 := fun_mk (st := s_holds) l16 c16 k16
  have B16 := F16.binds (ps := ["spans", "number"]) fun _ _ _ _ _ _ us hl => match us, hl with | [_, _], _ => rfl
  have F17 := fun_mk (st := s_law) l17 c17 k17
  have B17 := F17.binds (ps := ["script"]) fun _ _ _ _ _ _ us hl => match us, hl with | [_], _ => rfl
  exact ⟨⟨⟨f0, _, F0, PySem.W.mg_of X Gn a0, B0⟩, ⟨f1, _, F1, PySem.W.mg_of X Gn a1, B1⟩, ⟨f2, _, F2, PySem.W.mg_of X Gn a2, B2⟩, ⟨f3, _, F3, PySem.W.mg_of X Gn a3, B3⟩, ⟨f4, _, F4, PySem.W.mg_of X Gn a4, B4⟩, ⟨f5, _, F5, PySem.W.mg_of X Gn a5, B5⟩, ⟨f6, _, F6, PySem.W.mg_of X Gn a6, B6⟩, ⟨f7, _, F7, PySem.W.mg_of X Gn a7, B7⟩, ⟨f8, _, F8, PySem.W.mg_of X Gn a8, B8⟩, ⟨f9, _, F9, PySem.W.mg_of X Gn a9, B9⟩, ⟨f10, _, F10, PySem.W.mg_of X Gn a10, B10⟩, ⟨f11, _, F11, PySem.W.mg_of X Gn a11, B11⟩, ⟨f12, _, F12, PySem.W.mg_of X Gn a12, B12⟩, ⟨f13, _, F13, PySem.W.mg_of X Gn a13, B13⟩, ⟨f14, _, F14, PySem.W.mg_of X Gn a14, B14⟩, ⟨f15, _, F15, PySem.W.mg_of X Gn a15, B15⟩, ⟨f16, _, F16, PySem.W.mg_of X Gn a16, B16⟩, ⟨f17, _, F17, PySem.W.mg_of X Gn a17, B17⟩, PySem.W.mg_none_of X Gn b0, PySem.W.mg_none_of X Gn b1, PySem.W.mg_none_of X Gn b2, PySem.W.mg_none_of X Gn b3, PySem.W.mg_none_of X Gn b4, PySem.W.mg_none_of X Gn b5, PySem.W.mg_none_of X Gn b6, PySem.W.mg_none_of X Gn b7, PySem.W.mg_none_of X Gn b8, PySem.W.mg_none_of X Gn b9, PySem.W.mg_none_of X Gn b10, PySem.W.mg_none_of X Gn b11, PySem.W.mg_none_of X Gn b12⟩⟩
theorem law_ok {P : Program} {w : World} {K : PySem.W.Frag} {mg : Str → Option Value} (T : Txt K mg) {fa : Addr} (hfa : mg "law" = some (.ref fa)) : ∃ fd : FuncData, (∀ (s : Shared) (u : Value), BindsTo s fd ⟨[u], []⟩ [("script", u)]) ∧
    ∀ base : Heap, K.In base → base.Ns mainGlobals mg → FnOk P w K mg base (L2.CX P w) 8 fa fd ["script"] (spF ⟨fun _ => 0, K, []⟩ 1 F_law) := by
  have e := hfa.symm.trans T.law.mgf
  cases e
  refine ⟨T.law.fd, fun s u => ?_, fun base _ _ => ok_law (G := ⟨fun _ => 0, K, []⟩) T rfl⟩
  obtain ⟨oc, od, kV, doc, pm, an, cdv, ct, osl, e, _, _⟩ := T.law.fu.ex
  rw [e]
  exact .of_eq rfl
theorem walk {l : PySem.W.OpenLaw} {q : Program} {loose : List Str} {XP : (Str → Option Value) → Heap → Prop} {YP : World → Heap → Prop} {d : DefRec} {K : Params → PySem.W.Frag} (hn : l.most = some 63) (hdf : d.params.defaults = [])
    (hY : ∀ (w : World) (h : Heap), YP w h → (K w.params).In h)
    (F : ∀ (w : World) (mg : Str → Option Value) (fa : Addr) (h : Heap), (K w.params).In h → h.Ns mainGlobals mg → mg d.name = some (.ref fa) →
      ∃ fd : FuncData, (∀ (s : Shared) (u : Value), BindsTo s fd ⟨[u], []⟩ [("script", u)]) ∧ ∀ base : Heap, (K w.params).In base → base.Ns mainGlobals mg → FnOk l.prog w (K w.params) mg base (L2.CX l.prog w) 8 fa fd ["script"] (spF ⟨fun _ => 0, K w.params, []⟩ 1 F_law)) :
    PySem.W.WalkO q loose XP YP l.row.toRowW d [] (fun f vs => PySem.call f vs) :=
  L2.walk_of (n := 63) (k := 8) (x := "script") (CX := fun w => L2.CX l.prog w) (sp := fun w => spF ⟨fun _ => 0, K w.params, []⟩ 1 F_law) hn (by decide) hdf ⟨rfl, by decide, by decide⟩ hY F
    (fun w H a ns hl hO hS => law_sp (G := ⟨fun _ => 0, K w.params, []⟩) hO hS (law_true ns hl)) fun w H s e s' h => by
      obtain ⟨_, _, _, _, _, _, _, _, _, _, _, _, z⟩ := h
      exact z
end Lw
open PySem PySem.W PyProof.Rows
set_option maxRecDepth 100000 in
set_option maxHeartbeats 0 in
theorem PySem.Challenge.cw_stepstell_k00_joined_common_without_holds : PySem.Challenge.rw_stepstell_k00_joined_common_without.Holds := by
  w_on; o_law; k_head; (case hw => w_witness2)
  k_fill
  refine Lw.walk (l := PySem.Challenge.rw_stepstell_k00_joined_common_without) rfl rfl (fun w h Y => PySem.W.kIn_of Y) ?F
  case F =>
    intro w mg fa h KX Gn hmg
    refine' Nonempty.elim (Lw.all_mk KX Gn ?a0 ?l0 ?c0 ?k0 ?a1 ?l1 ?c1 ?k1 ?a2 ?l2 ?c2 ?k2 ?a3 ?l3 ?c3 ?k3 ?a4 ?l4 ?c4 ?k4 ?a5 ?l5 ?c5 ?k5 ?a6 ?l6 ?c6 ?k6 ?a7 ?l7 ?c7 ?k7 ?a8 ?l8 ?c8 ?k8 ?a9 ?l9 ?c9 ?k9 ?a10 ?l10 ?c10 ?k10 ?a11 ?l11 ?c11 ?k11 ?a12 ?l12 ?c12 ?k12 ?a13 ?l13 ?c13 ?k13 ?a14 ?l14 ?c14 ?k14 ?a15 ?l15 ?c15 ?k15 ?a16 ?l16 ?c16 ?k16 ?a17 ?l17 ?c17 ?k17 ?b0 ?b1 ?b2 ?b3 ?b4 ?b5 ?b6 ?b7 ?b8 ?b9 ?b10 ?b11 ?b12) (fun T => Lw.law_ok T hmg)
    (case a0 => k_is)
    (case l0 => k_is)
    (case c0 => k_is)
    (case k0 => k_is)
    (case a1 => k_is)
    (case l1 => k_is)
    (case c1 => k_is)
    (case k1 => k_is)
    (case a2 => k_is)
    (case l2 => k_is)
    (case c2 => k_is)
    (case k2 => k_is)
    (case a3 => k_is)
    (case l3 => k_is)
    (case c3 => k_is)
    (case k3 => k_is)
    (case a4 => k_is)
    (case l4 => k_is)
    (case c4 => k_is)
    (case k4 => k_is)
    (case a5 => k_is)
    (case l5 => k_is)
    (case c5 => k_is)
    (case k5 => k_is)
    (case a6 => k_is)
    (case l6 => k_is)
    (case c6 => k_is)
    (case k6 => k_is)
    (case a7 => k_is)
    (case l7 => k_is)
    (case c7 => k_is)
    (case k7 => k_is)
    (case a8 => k_is)
    (case l8 => k_is)
    (case c8 => k_is)
    (case k8 => k_is)
    (case a9 => k_is)
    (case l9 => k_is)
    (case c9 => k_is)
    (case k9 => k_is)
    (case a10 => k_is)
    (case l10 => k_is)
    (case c10 => k_is)
    (case k10 => k_is)
    (case a11 => k_is)
    (case l11 => k_is)
    (case c11 => k_is)
    (case k11 => k_is)
    (case a12 => k_is)
    (case l12 => k_is)
    (case c12 => k_is)
    (case k12 => k_is)
    (case a13 => k_is)
    (case l13 => k_is)
    (case c13 => k_is)
    (case k13 => k_is)
    (case a14 => k_is)
    (case l14 => k_is)
    (case c14 => k_is)
    (case k14 => k_is)
    (case a15 => k_is)
    (case l15 => k_is)
    (case c15 => k_is)
    (case k15 => k_is)
    (case a16 => k_is)
    (case l16 => k_is)
    (case c16 => k_is)
    (case k16 => k_is)
    (case a17 => k_is)
    (case l17 => k_is)
    (case c17 => k_is)
    (case k17 => k_is)
    (case b0 => k_is)
    (case b1 => k_is)
    (case b2 => k_is)
    (case b3 => k_is)
    (case b4 => k_is)
    (case b5 => k_is)
    (case b6 => k_is)
    (case b7 => k_is)
    (case b8 => k_is)
    (case b9 => k_is)
    (case b10 => k_is)
    (case b11 => k_is)
    (case b12 => k_is)
