import PyProof.Rows.All
import Wide.All
import OpenK.AllK
import Wide.FinOn
import HandS.ForMost
import HandS.ForExc
import HandS.TupAny
import HandS.Wide
import HandS.Deep
import HandS.SortInts
import HandS.Conv
import HandS.IsInst
import HandS.Star
import HandS.Defaults
import HandS.Zip
import HandS.TryMany
import HandS.ExcInit
import HandS.ExcField
import HandS.Property
import HandS.ClsMeth
import HandS.CallSlots
import HandS.MakeKwOnly
import HandS.OwnEq
import HandS.Head0
import HandS.Head1
import HandS.Head2
import HandS.HeadEnd
import HandS.HeadHook1
import HandS.HeadHook2
import PyProof.ListRange
import HandS.Sort
import HandS.SortKw
import KE.Datum
import KE.DatumOrd
import HandS.Dict
import HandS.Iter
import HandS.HeadHook3
import HandS.HeadHook4
import HandS.HeadNt
import PySem.Challenge.RW_stepstell_k89_veils
set_option Elab.async false
set_option linter.all false
set_option maxRecDepth 100000
set_option maxHeartbeats 4000000
/-! SepA: trees, slots, what holds of them over the abstract heap. -/
namespace Sep
open PySem L2

/-- data that never changes again -/
inductive D where
  | non | bl (b : Bool) | int (i : Int) | str (s : Str)
  | tup (ds : List D) | lst (ds : List D) | rol (ds : List D)
  | obj (c : Str) (ns : List Str) (ds : List D)
  | dct (ks : List Key) (ds : List D)
  | xd (ns : List Str) (ds : List D)
  /-- an address that is told otherwise | a class of the text -/
  | raw (a : Addr) (o : Option (Obj × List (Key × V)))
  | kls (c : Str)
  deriving Inhabited

/-- what a slot holds: nothing told, shared data, or a thing of its own -/
inductive Slot where
  | no
  | sh (d : D)
  | lst (ss : List Slot)
  | obj (c : Str) (ns : List Str) (ss : List Slot)
  | dct (ks : List Key) (ss : List Slot)
  deriving Inhabited

/-- a list of the written part -/
def KL (K : PySem.W.Frag) (a : Addr) (xs : List V) : Prop :=
  ∃ (o : Obj) (its : Array Value) (n : Nat), K.lookup a = some o ∧ o.cls = .type "list" ∧ o.dict = none ∧ o.data = .seq its n ∧ its.size ≤ sizeLine ∧ Vals xs its.toList
def KT (K : PySem.W.Frag) (a : Addr) (xs : List V) : Prop :=
  ∃ (o : Obj) (its : Array Value) (n : Nat), K.lookup a = some o ∧ o.cls = .type "tuple" ∧ o.data = .seq its n ∧ its.size ≤ sizeLine ∧ Vals xs its.toList

/-- the text's classes by name, and the written part -/
structure Gm where
  cls : Str → Addr
  K : PySem.W.Frag
  /-- what the callers hold, level by level, nearest first -/
  fr : List (List (V × Slot)) := []

mutual
def RepD (G : Gm) (H : Hp) (O : List Addr) : D → V → Prop
  | .non, v => v = .non
  | .bl b, v => v = .bl b
  | .int i, v => v = .int i
  | .str s, v => v = .str s
  | .tup ds, v => ∃ a xs, v = .ref a ∧ ((Rd H a (.tup xs) ∧ a ∉ O) ∨ KT G.K a xs) ∧ RepDs G H O ds xs
  | .lst ds, v => ∃ a xs, v = .ref a ∧ (H a = some (.lst xs) ∧ a ∉ O) ∧ RepDs G H O ds xs
  | .rol ds, v => ∃ a xs, v = .ref a ∧ ((Rd H a (.lst xs) ∧ a ∉ O) ∨ KL G.K a xs) ∧ RepDs G H O ds xs
  | .obj c ns ds, v => ∃ a dx xs, v = .ref a ∧ (H a = some (.ins (G.cls c) dx (ns.zip xs)) ∧ a ∉ O) ∧ ns.length = xs.length ∧ RepDs G H O ds xs
  | .dct ks ds, v => ∃ a xs, v = .ref a ∧ (Rd H a (.dK (ks.zip xs)) ∧ a ∉ O) ∧ ks.length = xs.length ∧ RepDs G H O ds xs
  | .xd ns ds, v => ∃ a xs, v = .ref a ∧ (H a = some (.xd (ns.zip xs)) ∧ a ∉ O) ∧ ns.length = xs.length ∧ RepDs G H O ds xs
  | .raw a o, v => v = .ref a ∧ ∀ p, o = some p → H a = some (.frz p.1 (.dK p.2)) ∧ a ∉ O
  | .kls c, v => v = .ref (G.cls c)
def RepDs (G : Gm) (H : Hp) (O : List Addr) : List D → List V → Prop
  | [], xs => xs = []
  | d :: ds, xs => ∃ v r, xs = v :: r ∧ RepD G H O d v ∧ RepDs G H O ds r
end

mutual
def RepS (G : Gm) (H : Hp) (O : List Addr) : Slot → V → List Addr → Prop
  | .no, _, os => os = []
  | .sh d, v, os => os = [] ∧ RepD G H O d v
  | .lst ss, v, os => ∃ a xs os', v = .ref a ∧ os = a :: os' ∧ H a = some (.lst xs) ∧ RepSs G H O ss xs os'
  | .obj c ns ss, v, os => ∃ a dx xs os', v = .ref a ∧ os = a :: os' ∧ H a = some (.ins (G.cls c) dx (ns.zip xs)) ∧ ns.length = xs.length ∧ RepSs G H O ss xs os'
  | .dct ks ss, v, os => ∃ a xs os', v = .ref a ∧ os = a :: os' ∧ H a = some (.dK (ks.zip xs)) ∧ ks.length = xs.length ∧ RepSs G H O ss xs os'
def RepSs (G : Gm) (H : Hp) (O : List Addr) : List Slot → List V → List Addr → Prop
  | [], xs, os => xs = [] ∧ os = []
  | s :: ss, xs, os => ∃ v r o1 o2, xs = v :: r ∧ os = o1 ++ o2 ∧ RepS G H O s v o1 ∧ RepSs G H O ss r o2
end

/-- the heap of a later moment: what is not in W stays -/
def Keep (W : List Addr) (H H' : Hp) : Prop := ∀ a o, H a = some o → a ∉ W → H' a = some o
theorem Keep.rd {W : List Addr} {H H' : Hp} (k : Keep W H H') {a : Addr} {u : HO} (h : Rd H a u) (n : a ∉ W) : Rd H' a u := by
  rcases h with h | ⟨o, h⟩
  · exact .inl (k _ _ h n)
  · exact .inr ⟨o, k _ _ h n⟩
theorem rd_some {H : Hp} {a : Addr} {u : HO} (h : Rd H a u) : H a ≠ none := by
  rcases h with h | ⟨o, h⟩ <;> rw [h] <;> simp

mutual
/-- data stays where only W is written, W within the owned, and what becomes owned was owned, or not there -/
theorem RepD.step {G : Gm} {H H' : Hp} {O O' W : List Addr} (k : Keep W H H') (hW : ∀ a ∈ W, a ∈ O) (hO : ∀ a ∈ O', a ∈ O ∨ H a = none) : ∀ (d : D) (v : V), RepD G H O d v → RepD G H' O' d v
  | .non, _, h => h
  | .bl _, _, h => h
  | .int _, _, h => h
  | .str _, _, h => h
  | .raw a o, _, h => ⟨h.1, fun p e => ⟨k a _ (h.2 p e).1 fun z => (h.2 p e).2 (hW a z), fun z => (hO a z).elim (h.2 p e).2 fun q => by rw [(h.2 p e).1] at q; cases q⟩⟩
  | .kls _, _, h => h
  | .tup ds, v, h => by
    obtain ⟨a, xs, e, h1, h2⟩ := h
    refine ⟨a, xs, e, ?_, RepDs.step k hW hO ds xs h2⟩
    rcases h1 with ⟨h1, n⟩ | h1
    · exact .inl ⟨k.rd h1 fun z => n (hW a z), fun z => (hO a z).elim n fun q => rd_some h1 q⟩
    · exact .inr h1
  | .lst ds, v, h => by
    obtain ⟨a, xs, e, ⟨h1, n⟩, h2⟩ := h
    exact ⟨a, xs, e, ⟨k a _ h1 fun z => n (hW a z), fun z => (hO a z).elim n fun q => by rw [h1] at q; cases q⟩, RepDs.step k hW hO ds xs h2⟩
  | .rol ds, v, h => by
    obtain ⟨a, xs, e, h1, h2⟩ := h
    refine ⟨a, xs, e, ?_, RepDs.step k hW hO ds xs h2⟩
    rcases h1 with ⟨h1, n⟩ | h1
    · exact .inl ⟨k.rd h1 fun z => n (hW a z), fun z => (hO a z).elim n fun q => rd_some h1 q⟩
    · exact .inr h1
  | .obj c ns ds, v, h => by
    obtain ⟨a, dx, xs, e, ⟨h1, n⟩, hl, h2⟩ := h
    exact ⟨a, dx, xs, e, ⟨k a _ h1 fun z => n (hW a z), fun z => (hO a z).elim n fun q => by rw [h1] at q; cases q⟩, hl, RepDs.step k hW hO ds xs h2⟩
  | .dct ks ds, v, h => by
    obtain ⟨a, xs, e, ⟨h1, n⟩, hl, h2⟩ := h
    exact ⟨a, xs, e, ⟨k.rd h1 fun z => n (hW a z), fun z => (hO a z).elim n fun q => rd_some h1 q⟩, hl, RepDs.step k hW hO ds xs h2⟩
  | .xd ns ds, v, h => by
    obtain ⟨a, xs, e, ⟨h1, n⟩, hl, h2⟩ := h
    exact ⟨a, xs, e, ⟨k a _ h1 fun z => n (hW a z), fun z => (hO a z).elim n fun q => by rw [h1] at q; cases q⟩, hl, RepDs.step k hW hO ds xs h2⟩
theorem RepDs.step {G : Gm} {H H' : Hp} {O O' W : List Addr} (k : Keep W H H') (hW : ∀ a ∈ W, a ∈ O) (hO : ∀ a ∈ O', a ∈ O ∨ H a = none) : ∀ (ds : List D) (xs : List V), RepDs G H O ds xs → RepDs G H' O' ds xs
  | [], _, h => h
  | d :: ds, _, h => by
    obtain ⟨v, r, e, h1, h2⟩ := h
    exact ⟨v, r, e, RepD.step k hW hO d v h1, RepDs.step k hW hO ds r h2⟩
end

mutual
/-- slots whose own addresses lie outside of W stay -/
theorem RepS.step {G : Gm} {H H' : Hp} {O O' W : List Addr} (k : Keep W H H') (hW : ∀ a ∈ W, a ∈ O) (hO : ∀ a ∈ O', a ∈ O ∨ H a = none) : ∀ (s : Slot) (v : V) (os : List Addr), RepS G H O s v os → (∀ a ∈ os, a ∉ W) → RepS G H' O' s v os
  | .no, _, _, h, _ => h
  | .sh d, v, os, h, _ => ⟨h.1, RepD.step k hW hO d v h.2⟩
  | .lst ss, v, os, h, n => by
    obtain ⟨a, xs, os', e, eo, h1, h2⟩ := h
    subst eo
    exact ⟨a, xs, os', e, rfl, k _ _ h1 (n a List.mem_cons_self), RepSs.step k hW hO ss xs os' h2 fun b hb => n b (List.mem_cons_of_mem _ hb)⟩
  | .obj c ns ss, v, os, h, n => by
    obtain ⟨a, dx, xs, os', e, eo, h1, hl, h2⟩ := h
    subst eo
    exact ⟨a, dx, xs, os', e, rfl, k _ _ h1 (n a List.mem_cons_self), hl, RepSs.step k hW hO ss xs os' h2 fun b hb => n b (List.mem_cons_of_mem _ hb)⟩
  | .dct ks ss, v, os, h, n => by
    obtain ⟨a, xs, os', e, eo, h1, hl, h2⟩ := h
    subst eo
    exact ⟨a, xs, os', e, rfl, k _ _ h1 (n a List.mem_cons_self), hl, RepSs.step k hW hO ss xs os' h2 fun b hb => n b (List.mem_cons_of_mem _ hb)⟩
theorem RepSs.step {G : Gm} {H H' : Hp} {O O' W : List Addr} (k : Keep W H H') (hW : ∀ a ∈ W, a ∈ O) (hO : ∀ a ∈ O', a ∈ O ∨ H a = none) : ∀ (ss : List Slot) (xs : List V) (os : List Addr), RepSs G H O ss xs os → (∀ a ∈ os, a ∉ W) → RepSs G H' O' ss xs os
  | [], _, _, h, _ => h
  | s :: ss, xs, os, h, n => by
    obtain ⟨v, r, o1, o2, e, eo, h1, h2⟩ := h
    subst eo
    exact ⟨v, r, o1, o2, e, rfl, RepS.step k hW hO s v o1 h1 (fun b hb => n b (List.mem_append_left _ hb)), RepSs.step k hW hO ss r o2 h2 fun b hb => n b (List.mem_append_right _ hb)⟩
end

mutual
/-- own addresses are tracked -/
theorem RepS.there {G : Gm} {H : Hp} {O : List Addr} : ∀ (s : Slot) (v : V) (os : List Addr), RepS G H O s v os → ∀ a ∈ os, H a ≠ none
  | .no, _, _, h, a, ha => by
    rw [show _ = [] from h] at ha; cases ha
  | .sh d, v, os, h, a, ha => by
    rw [h.1] at ha; cases ha
  | .lst ss, v, os, h, a, ha => by
    obtain ⟨b, xs, os', e, eo, h1, h2⟩ := h
    subst eo
    rcases List.mem_cons.mp ha with rfl | ha
    · rw [h1]; simp
    · exact RepSs.there ss xs os' h2 a ha
  | .obj c ns ss, v, os, h, a, ha => by
    obtain ⟨b, dx, xs, os', e, eo, h1, hl, h2⟩ := h
    subst eo
    rcases List.mem_cons.mp ha with rfl | ha
    · rw [h1]; simp
    · exact RepSs.there ss xs os' h2 a ha
  | .dct ks ss, v, os, h, a, ha => by
    obtain ⟨b, xs, os', e, eo, h1, hl, h2⟩ := h
    subst eo
    rcases List.mem_cons.mp ha with rfl | ha
    · rw [h1]; simp
    · exact RepSs.there ss xs os' h2 a ha
theorem RepSs.there {G : Gm} {H : Hp} {O : List Addr} : ∀ (ss : List Slot) (xs : List V) (os : List Addr), RepSs G H O ss xs os → ∀ a ∈ os, H a ≠ none
  | [], _, _, h, a, ha => by
    rw [h.2] at ha; cases ha
  | s :: ss, xs, os, h, a, ha => by
    obtain ⟨v, r, o1, o2, e, eo, h1, h2⟩ := h
    subst eo
    rcases List.mem_append.mp ha with ha | ha
    · exact RepS.there s v o1 h1 a ha
    · exact RepSs.there ss r o2 h2 a ha
end

/-! ### what is held -/
abbrev Hd := List (V × Slot)
/-- the pairs, with their own addresses -/
def RepL (G : Gm) (H : Hp) (O : List Addr) : Hd → List Addr → Prop
  | [], os => os = []
  | p :: L, os => ∃ o1 o2, os = o1 ++ o2 ∧ RepS G H O p.2 p.1 o1 ∧ RepL G H O L o2
/-- the callers' levels: each one's data lies apart from what is owned nearer, and by itself -/
def RepF (G : Gm) (H : Hp) : List Addr → List Hd → List Addr → Prop
  | _, [], os => os = []
  | O, L :: Ls, os => ∃ o1 o2, os = o1 ++ o2 ∧ RepL G H (O ++ o1) L o1 ∧ RepF G H (O ++ o1) Ls o2
def Hold (G : Gm) (H : Hp) (O : List Addr) (L : Hd) : Prop := RepL G H O L O ∧ ∃ OF, RepF G H O G.fr OF ∧ (O ++ OF).Nodup
def Holds (G : Gm) (H : Hp) (L : Hd) : Prop := ∃ O, Hold G H O L

section
variable {G : Gm} {H H' : Hp} {O O' W : List Addr} {L L' : Hd}
theorem RepL.step (k : Keep W H H') (hW : ∀ a ∈ W, a ∈ O) (hO : ∀ a ∈ O', a ∈ O ∨ H a = none) : ∀ {L : Hd} {os : List Addr}, RepL G H O L os → (∀ a ∈ os, a ∉ W) → RepL G H' O' L os
  | [], _, h, _ => h
  | p :: L, os, h, n => by
    obtain ⟨o1, o2, eo, h1, h2⟩ := h
    subst eo
    exact ⟨o1, o2, rfl, RepS.step k hW hO p.2 p.1 o1 h1 (fun b hb => n b (List.mem_append_left _ hb)), RepL.step k hW hO h2 fun b hb => n b (List.mem_append_right _ hb)⟩
theorem RepL.there : ∀ {L : Hd} {os : List Addr}, RepL G H O L os → ∀ a ∈ os, H a ≠ none
  | [], _, h, a, ha => by
    rw [show _ = [] from h] at ha; cases ha
  | p :: L, os, h, a, ha => by
    obtain ⟨o1, o2, eo, h1, h2⟩ := h
    subst eo
    rcases List.mem_append.mp ha with ha | ha
    · exact RepS.there p.2 p.1 o1 h1 a ha
    · exact RepL.there h2 a ha
theorem RepL.app : ∀ {L L' : Hd} {os os' : List Addr}, RepL G H O L os → RepL G H O L' os' → RepL G H O (L ++ L') (os ++ os')
  | [], L', os, os', h, h' => by
    rw [show os = [] from h]; exact h'
  | p :: L, L', os, os', h, h' => by
    obtain ⟨o1, o2, eo, h1, h2⟩ := h
    subst eo
    exact ⟨o1, o2 ++ os', by rw [List.append_assoc], h1, RepL.app h2 h'⟩
theorem RepL.split : ∀ {L L' : Hd} {os : List Addr}, RepL G H O (L ++ L') os → ∃ o1 o2, os = o1 ++ o2 ∧ RepL G H O L o1 ∧ RepL G H O L' o2
  | [], L', os, h => ⟨[], os, rfl, rfl, h⟩
  | p :: L, L', os, h => by
    obtain ⟨o1, o2, eo, h1, h2⟩ := h
    obtain ⟨o3, o4, e2, h3, h4⟩ := RepL.split (L := L) h2
    exact ⟨o1 ++ o3, o4, by rw [eo, e2, List.append_assoc], ⟨o1, o3, rfl, h1, h3⟩, h4⟩
theorem RepL.perm (p : L.Perm L') : ∀ {os : List Addr}, RepL G H O L os → ∃ os', RepL G H O L' os' ∧ os.Perm os' := by
  induction p with
  | nil => exact fun h => ⟨_, h, .refl _⟩
  | cons x p ih =>
    intro os h
    obtain ⟨o1, o2, eo, h1, h2⟩ := h
    obtain ⟨o3, h3, q⟩ := ih h2
    exact ⟨o1 ++ o3, ⟨o1, o3, rfl, h1, h3⟩, by rw [eo]; exact q.append_left o1⟩
  | swap x y l =>
    intro os h
    obtain ⟨o1, o2, eo, h1, o3, o4, e2, h3, h4⟩ := h
    refine ⟨o3 ++ (o1 ++ o4), ⟨o3, o1 ++ o4, rfl, h3, o1, o4, rfl, h1, h4⟩, ?_⟩
    rw [eo, e2, ← List.append_assoc, ← List.append_assoc]
    exact (List.perm_append_comm).append_right o4
  | trans p q ih1 ih2 =>
    intro os h
    obtain ⟨o1, h1, q1⟩ := ih1 h
    obtain ⟨o2, h2, q2⟩ := ih2 h1
    exact ⟨o2, h2, q1.trans q2⟩
/-- the owned as a set -/
theorem RepL.reO {os : List Addr} (h : RepL G H O L os) (e : ∀ a ∈ O', a ∈ O) : RepL G H O' L os :=
  h.step (W := []) (fun a o q _ => q) (fun a z => nomatch z) (fun a z => .inl (e a z)) fun a _ z => nomatch z
theorem RepF.step (k : Keep W H H') : ∀ {Ls : List Hd} {O O' os : List Addr}, (∀ a ∈ W, a ∈ O) → (∀ a ∈ O', a ∈ O ∨ H a = none) → RepF G H O Ls os → (∀ a ∈ os, a ∉ W) → RepF G H' O' Ls os
  | [], _, _, _, _, _, h, _ => h
  | L :: Ls, O, O', os, hW, hO, ⟨o1, o2, eo, h1, h2⟩, n => by
    subst eo
    have hW' : ∀ a ∈ W, a ∈ O ++ o1 := fun a z => List.mem_append_left _ (hW a z)
    have hO' : ∀ a ∈ O' ++ o1, a ∈ O ++ o1 ∨ H a = none := fun a z => (List.mem_append.mp z).elim (fun q => (hO a q).elim (fun r => .inl (List.mem_append_left _ r)) .inr) fun q => .inl (List.mem_append_right _ q)
    exact ⟨o1, o2, rfl, h1.step k hW' hO' fun a z => n a (List.mem_append_left _ z), RepF.step k hW' hO' h2 fun a z => n a (List.mem_append_right _ z)⟩
theorem RepF.there : ∀ {Ls : List Hd} {O os : List Addr}, RepF G H O Ls os → ∀ a ∈ os, H a ≠ none
  | [], _, _, h, a, ha => by
    rw [show _ = [] from h] at ha; cases ha
  | L :: Ls, O, os, ⟨o1, o2, eo, h1, h2⟩, a, ha => by
    subst eo
    rcases List.mem_append.mp ha with ha | ha
    · exact h1.there a ha
    · exact RepF.there h2 a ha
theorem RepF.reO {Ls : List Hd} {os : List Addr} (h : RepF G H O Ls os) (e : ∀ a ∈ O', a ∈ O) : RepF G H O' Ls os :=
  h.step (W := []) (fun a o q _ => q) (fun a z => nomatch z) (fun a z => .inl (e a z)) fun a _ z => nomatch z
theorem Hold.nd (h : Hold G H O L) : O.Nodup := by
  obtain ⟨_, OF, _, nd⟩ := h
  exact (List.nodup_append.mp nd).1
/-- the same owned ones, or fewer -/
theorem Hold.re (h : Hold G H O L) (h' : RepL G H O' L' O') (s : O'.Sublist O) : Hold G H O' L' := by
  obtain ⟨_, OF, hf, nd⟩ := h
  exact ⟨h', OF, hf.reO fun a z => s.subset z, nd.sublist (s.append_right OF)⟩
theorem Holds.perm (h : Holds G H L) (p : L.Perm L') : Holds G H L' := by
  obtain ⟨O, h, OF, hf, nd⟩ := h
  obtain ⟨os, h', q⟩ := h.perm p
  exact ⟨os, h'.reO fun a z => q.symm.subset z, OF, hf.reO fun a z => q.symm.subset z, (q.append_right OF).nodup nd⟩
/-- nothing written (new things may have come) -/
theorem Holds.same (h : Holds G H L) (k : Same H H') : Holds G H' L := by
  obtain ⟨O, h, OF, hf, nd⟩ := h
  exact ⟨O, RepL.step (W := []) (fun a o q _ => k a o q) (fun a z => nomatch z) (fun a z => .inl z) h (fun a _ z => nomatch z), OF, hf.step (W := []) (fun a o q _ => k a o q) (fun a z => nomatch z) (fun a z => .inl z) (fun a _ z => nomatch z), nd⟩
theorem Same.new {p : Addr} {o : HO} (hp : H p = none) : Same H (upd H p o) := fun b u e => by
  rw [upd_ne (ne_of_none e hp)]; exact e
/-- forgetting -/
theorem Holds.tail {x : V × Slot} (h : Holds G H (x :: L)) : Holds G H L := by
  obtain ⟨O, h⟩ := h
  obtain ⟨o1, o2, eo, h1, h2⟩ := id h.1
  exact ⟨o2, h.re (h2.reO fun a z => by rw [eo]; exact List.mem_append_right _ z) (by rw [eo]; exact List.sublist_append_right _ _)⟩
theorem Holds.no {v : V} (h : Holds G H L) : Holds G H ((v, .no) :: L) := by
  obtain ⟨O, h, r⟩ := h
  exact ⟨O, ⟨[], O, rfl, rfl, h⟩, r⟩
theorem Holds.forget {v : V} {s : Slot} (h : Holds G H ((v, s) :: L)) : Holds G H ((v, .no) :: L) := h.tail.no
end
end Sep

/-! SepB: slots, results, what an expression's function says of its reading. -/
namespace Sep
open PySem L2

/-! ### freezing, looking -/
mutual
def Slot.fr : Slot → Option D
  | .no => none
  | .sh d => some d
  | .lst ss => (frs ss).map D.lst
  | .obj c ns ss => (frs ss).map (D.obj c ns)
  | .dct ks ss => (frs ss).map (D.dct ks)
def frs : List Slot → Option (List D)
  | [] => some []
  | s :: ss => match s.fr, frs ss with
    | some d, some ds => some (d :: ds)
    | _, _ => none
end
/-- items that are all shared -/
def flats : List Slot → Option (List D)
  | [] => some []
  | .sh d :: ss => (flats ss).map (d :: ·)
  | _ :: _ => none
def Slot.flat : Slot → Option D
  | .no => none
  | .sh d => some d
  | .lst ss => (flats ss).map D.lst
  | .obj c ns ss => (flats ss).map (D.obj c ns)
  | .dct ks ss => (flats ss).map (D.dct ks)
abbrev shs (ds : List D) : List Slot := ds.map Slot.sh
theorem flats_sh : ∀ ds : List D, flats (shs ds) = some ds
  | [] => rfl
  | d :: ds => by
    show (flats (shs ds)).map (d :: ·) = _
    rw [flats_sh ds]; rfl
theorem frs_sh : ∀ ds : List D, frs (shs ds) = some ds
  | [] => by unfold shs; rw [List.map_nil, frs]
  | d :: ds => by
    unfold shs
    rw [List.map_cons, frs, Slot.fr]
    have e := frs_sh ds
    unfold shs at e
    rw [e]
theorem flats_eq : ∀ {ss : List Slot} {ds : List D}, flats ss = some ds → ss = shs ds
  | [], ds, h => by cases h; rfl
  | .sh d :: ss, ds, h => by
    have h' : (flats ss).map (d :: ·) = some ds := h
    cases e : flats ss with
    | none => rw [e] at h'; cases h'
    | some r =>
      rw [e] at h'
      have h2 : d :: r = ds := Option.some.inj h'
      rw [flats_eq e, ← h2]; rfl
  | .no :: ss, ds, h => nomatch (show none = some ds from h)
  | .lst _ :: ss, ds, h => nomatch (show none = some ds from h)
  | .obj _ _ _ :: ss, ds, h => nomatch (show none = some ds from h)
  | .dct _ _ :: ss, ds, h => nomatch (show none = some ds from h)

/-- a value that stands for the data, whoever owns its top -/
def RepP (G : Gm) (H : Hp) (O : List Addr) : D → V → Prop
  | .tup ds, v => ∃ a xs, v = .ref a ∧ ((Rd H a (.tup xs) ∧ a ∉ O) ∨ KT G.K a xs) ∧ RepDs G H O ds xs
  | .lst ds, v => ∃ a xs, v = .ref a ∧ H a = some (.lst xs) ∧ RepDs G H O ds xs
  | .rol ds, v => ∃ a xs, v = .ref a ∧ ((Rd H a (.lst xs) ∧ a ∉ O) ∨ KL G.K a xs) ∧ RepDs G H O ds xs
  | .obj c ns ds, v => ∃ a dx xs, v = .ref a ∧ H a = some (.ins (G.cls c) dx (ns.zip xs)) ∧ ns.length = xs.length ∧ RepDs G H O ds xs
  | .dct ks ds, v => ∃ a xs, v = .ref a ∧ Rd H a (.dK (ks.zip xs)) ∧ ks.length = xs.length ∧ RepDs G H O ds xs
  | .xd ns ds, v => ∃ a xs, v = .ref a ∧ H a = some (.xd (ns.zip xs)) ∧ ns.length = xs.length ∧ RepDs G H O ds xs
  | .raw a o, v => v = .ref a ∧ ∀ p, o = some p → H a = some (.frz p.1 (.dK p.2)) ∧ a ∉ O
  | .kls c, v => v = .ref (G.cls c)
  | .non, v => v = .non
  | .bl b, v => v = .bl b
  | .int i, v => v = .int i
  | .str s, v => v = .str s

section
variable {G : Gm} {H H' : Hp} {O O' W : List Addr} {L L' : Hd}
theorem RepD.p : ∀ {d : D} {v : V}, RepD G H O d v → RepP G H O d v
  | .non, _, h => h
  | .bl _, _, h => h
  | .int _, _, h => h
  | .str _, _, h => h
  | .tup _, _, h => h
  | .lst _, _, ⟨a, xs, e, h1, h2⟩ => ⟨a, xs, e, h1.1, h2⟩
  | .rol _, _, h => h
  | .obj _ _ _, _, ⟨a, dx, xs, e, h1, hl, h2⟩ => ⟨a, dx, xs, e, h1.1, hl, h2⟩
  | .dct _ _, _, ⟨a, xs, e, h1, hl, h2⟩ => ⟨a, xs, e, h1.1, hl, h2⟩
  | .xd _ _, _, ⟨a, xs, e, h1, hl, h2⟩ => ⟨a, xs, e, h1.1, hl, h2⟩
  | .raw _ _, _, h => h
  | .kls _, _, h => h
theorem RepSs.flat : ∀ {ds : List D} {xs : List V} {os : List Addr}, RepSs G H O (shs ds) xs os → os = [] ∧ RepDs G H O ds xs
  | [], xs, os, h => ⟨h.2, h.1⟩
  | d :: ds, xs, os, h => by
    obtain ⟨v, r, o1, o2, e, eo, h1, h2⟩ := h
    obtain ⟨e2, h3⟩ := RepSs.flat (ds := ds) h2
    exact ⟨by rw [eo, h1.1, e2]; rfl, v, r, e, h1.2, h3⟩
theorem RepDs.sh : ∀ {ds : List D} {xs : List V}, RepDs G H O ds xs → RepSs G H O (shs ds) xs []
  | [], xs, h => ⟨h, rfl⟩
  | d :: ds, xs, h => by
    obtain ⟨v, r, e, h1, h2⟩ := h
    exact ⟨v, r, [], [], e, rfl, ⟨rfl, h1⟩, RepDs.sh h2⟩
theorem RepS.peek {s : Slot} {v : V} {os : List Addr} {d : D} (h : RepS G H O s v os) (e : s.flat = some d) : RepP G H O d v := by
  cases s with
  | no => cases e
  | sh d' => cases e; exact h.2.p
  | lst ss =>
    have e' : (flats ss).map D.lst = some d := e
    cases q : flats ss with
    | none => rw [q] at e'; cases e'
    | some ds =>
      rw [q] at e'
      cases e'
      obtain ⟨a, xs, os', ev, eo, h1, h2⟩ := h
      rw [flats_eq q] at h2
      exact ⟨a, xs, ev, h1, h2.flat.2⟩
  | obj c ns ss =>
    have e' : (flats ss).map (D.obj c ns) = some d := e
    cases q : flats ss with
    | none => rw [q] at e'; cases e'
    | some ds =>
      rw [q] at e'
      cases e'
      obtain ⟨a, dx, xs, os', ev, eo, h1, hl, h2⟩ := h
      rw [flats_eq q] at h2
      exact ⟨a, dx, xs, ev, h1, hl, h2.flat.2⟩
  | dct ks ss =>
    have e' : (flats ss).map (D.dct ks) = some d := e
    cases q : flats ss with
    | none => rw [q] at e'; cases e'
    | some ds =>
      rw [q] at e'
      cases e'
      obtain ⟨a, xs, os', ev, eo, h1, hl, h2⟩ := h
      rw [flats_eq q] at h2
      exact ⟨a, xs, ev, .inl h1, hl, h2.flat.2⟩
theorem RepL.mem : ∀ {L : Hd} {os : List Addr} {p : V × Slot}, RepL G H O L os → p ∈ L → ∃ o1, RepS G H O p.2 p.1 o1 ∧ ∀ a ∈ o1, a ∈ os
  | q :: L, os, p, h, hp => by
    obtain ⟨o1, o2, eo, h1, h2⟩ := h
    subst eo
    rcases List.mem_cons.mp hp with rfl | hp
    · exact ⟨o1, h1, fun a z => List.mem_append_left _ z⟩
    · obtain ⟨o3, h3, k⟩ := RepL.mem h2 hp
      exact ⟨o3, h3, fun a z => List.mem_append_right _ (k a z)⟩
theorem Hold.peek (h : Hold G H O L) {v : V} {s : Slot} {d : D} (hm : (v, s) ∈ L) (e : s.flat = some d) : RepP G H O d v := by
  obtain ⟨o1, h1, _⟩ := h.1.mem hm
  exact h1.peek e

mutual
/-- frozen: what was owned is shared now -/
theorem RepS.fr {O2 : List Addr} : ∀ {s : Slot} {v : V} {os : List Addr} {d : D}, RepS G H O s v os → s.fr = some d → (∀ a ∈ O2, a ∈ O) → (∀ a ∈ os, a ∉ O2) → RepD G H O2 d v
  | .no, _, _, _, _, e, _, _ => by rw [Slot.fr] at e; cases e
  | .sh d', v, os, d, h, e, h1, h2 => by
    rw [Slot.fr] at e
    cases e
    exact RepD.step (W := []) (fun a o q _ => q) (fun a z => nomatch z) (fun a z => .inl (h1 a z)) _ _ h.2
  | .lst ss, v, os, d, h, e, h1, h2 => by
    rw [Slot.fr] at e
    obtain ⟨a, xs, os', ev, eo, h3, h4⟩ := h
    cases q : frs ss with
    | none => rw [q] at e; cases e
    | some ds =>
      rw [q] at e
      cases e
      subst eo
      exact ⟨a, xs, ev, ⟨h3, h2 a List.mem_cons_self⟩, RepSs.fr h4 q h1 fun b z => h2 b (List.mem_cons_of_mem _ z)⟩
  | .obj c ns ss, v, os, d, h, e, h1, h2 => by
    rw [Slot.fr] at e
    obtain ⟨a, dx, xs, os', ev, eo, h3, hl, h4⟩ := h
    cases q : frs ss with
    | none => rw [q] at e; cases e
    | some ds =>
      rw [q] at e
      cases e
      subst eo
      exact ⟨a, dx, xs, ev, ⟨h3, h2 a List.mem_cons_self⟩, hl, RepSs.fr h4 q h1 fun b z => h2 b (List.mem_cons_of_mem _ z)⟩
  | .dct ks ss, v, os, d, h, e, h1, h2 => by
    rw [Slot.fr] at e
    obtain ⟨a, xs, os', ev, eo, h3, hl, h4⟩ := h
    cases q : frs ss with
    | none => rw [q] at e; cases e
    | some ds =>
      rw [q] at e
      cases e
      subst eo
      exact ⟨a, xs, ev, ⟨.inl h3, h2 a List.mem_cons_self⟩, hl, RepSs.fr h4 q h1 fun b z => h2 b (List.mem_cons_of_mem _ z)⟩
theorem RepSs.fr {O2 : List Addr} : ∀ {ss : List Slot} {xs : List V} {os : List Addr} {ds : List D}, RepSs G H O ss xs os → frs ss = some ds → (∀ a ∈ O2, a ∈ O) → (∀ a ∈ os, a ∉ O2) → RepDs G H O2 ds xs
  | [], xs, os, ds, h, e, _, _ => by
    rw [frs] at e
    cases e
    exact h.1
  | s :: ss, xs, os, ds, h, e, h1, h2 => by
    rw [frs] at e
    obtain ⟨v, r, o1, o2, ex, eo, h3, h4⟩ := h
    subst eo
    cases q1 : s.fr with
    | none => rw [q1] at e; cases e
    | some d =>
      cases q2 : frs ss with
      | none => rw [q1, q2] at e; cases e
      | some dr =>
        rw [q1, q2] at e
        cases e
        exact ⟨v, r, ex, RepS.fr h3 q1 h1 (fun a z => h2 a (List.mem_append_left _ z)), RepSs.fr h4 q2 h1 fun a z => h2 a (List.mem_append_right _ z)⟩
end
/-- the first held thing is frozen -/
theorem Holds.fr {v : V} {s : Slot} {d : D} (h : Holds G H ((v, s) :: L)) (e : s.fr = some d) : Holds G H ((v, .sh d) :: L) := by
  obtain ⟨O, h⟩ := h
  have nd := h.nd
  obtain ⟨o1, o2, eo, h1, h2⟩ := id h.1
  subst eo
  have nd' := List.nodup_append.mp nd
  exact ⟨o2, h.re ⟨[], o2, rfl, ⟨rfl, RepS.fr h1 e (fun a z => List.mem_append_right _ z) fun a z q => nd'.2.2 a z a q rfl⟩, h2.reO fun a z => List.mem_append_right _ z⟩ (List.sublist_append_right _ _)⟩
/-- shared data may be held twice -/
theorem Holds.dup {v : V} {d : D} (h : Holds G H ((v, .sh d) :: L)) : Holds G H ((v, .sh d) :: (v, .sh d) :: L) := by
  obtain ⟨O, ⟨o1, o2, eo, h1, h2⟩, r⟩ := h
  have e1 : o1 = [] := h1.1
  subst e1
  have eo' : O = o2 := eo
  subst eo'
  exact ⟨O, ⟨[], O, rfl, h1, [], O, rfl, h1, h2⟩, r⟩
/-- new shared data, told over the owned -/
theorem Hold.add' (h : Hold G H O L) {v : V} {d : D} (r : RepD G H O d v) : Hold G H O ((v, .sh d) :: L) := ⟨⟨[], O, rfl, ⟨rfl, r⟩, h.1⟩, h.2⟩
theorem Hold.add (h : Hold G H O L) {v : V} {d : D} (r : RepD G H O d v) : Holds G H ((v, .sh d) :: L) := ⟨O, h.add' r⟩
theorem Holds.add0 (h : Holds G H L) {v : V} {d : D} (r : ∀ O, RepD G H O d v) : Holds G H ((v, .sh d) :: L) := by
  obtain ⟨O, h⟩ := h
  exact h.add (r O)
theorem notO (h : RepL G H O L O) {p : Addr} (hp : H p = none) : p ∉ O := fun z => h.there p z hp
/-- a new list of one's own -/
theorem Hold.newL (h : Hold G H O L) {p : Addr} {ss : List Slot} {xs : List V} (hp : H p = none) (r : RepSs G H O ss xs []) : Holds G (upd H p (.lst xs)) ((.ref p, .lst ss) :: L) := by
  have k : Keep [] H (upd H p (.lst xs)) := fun a o q _ => Same.new hp a o q
  have hO : ∀ a ∈ p :: O, a ∈ O ∨ H a = none := fun a z => (List.mem_cons.mp z).elim (fun q => .inr (q ▸ hp)) .inl
  obtain ⟨h, OF, hf, nd⟩ := h
  refine ⟨p :: O, ⟨[p], O, rfl, ⟨p, xs, [], rfl, rfl, upd_same, ?_⟩, ?_⟩, OF, hf.step k (fun a z => nomatch z) hO (fun a _ z => nomatch z), List.nodup_cons.mpr ⟨fun z => ?_, nd⟩⟩
  · exact RepSs.step k (fun a z => nomatch z) hO ss xs [] r fun a z => nomatch z
  · exact RepL.step k (fun a z => nomatch z) hO h fun a _ z => nomatch z
  · exact (List.mem_append.mp z).elim (notO h hp) fun q => hf.there p q hp
/-- a new tuple -/
theorem Hold.newT (h : Hold G H O L) {p : Addr} {ds : List D} {xs : List V} (hp : H p = none) (r : RepDs G H O ds xs) : Holds G (upd H p (.tup xs)) ((.ref p, .sh (.tup ds)) :: L) := by
  have k : Keep [] H (upd H p (.tup xs)) := fun a o q _ => Same.new hp a o q
  obtain ⟨h, OF, hf, nd⟩ := h
  refine ⟨O, ⟨[], O, rfl, ⟨rfl, p, xs, rfl, .inl ⟨.inl upd_same, notO h hp⟩, ?_⟩, ?_⟩, OF, hf.step k (fun a z => nomatch z) (fun a z => .inl z) (fun a _ z => nomatch z), nd⟩
  · exact RepDs.step k (fun a z => nomatch z) (fun a z => .inl z) ds xs r
  · exact RepL.step k (fun a z => nomatch z) (fun a z => .inl z) h fun a _ z => nomatch z
theorem RepDs.length : ∀ {ds : List D} {xs : List V}, RepDs G H O ds xs → xs.length = ds.length
  | [], xs, h => by rw [show xs = [] from h]; rfl
  | d :: ds, xs, ⟨v, r, e, h1, h2⟩ => by rw [e, List.length_cons, List.length_cons, RepDs.length h2]
theorem RepSs.length : ∀ {ss : List Slot} {xs : List V} {os : List Addr}, RepSs G H O ss xs os → xs.length = ss.length
  | [], xs, os, h => by rw [show xs = [] from h.1]; rfl
  | s :: ss, xs, os, ⟨v, r, o1, o2, e, eo, h1, h2⟩ => by rw [e, List.length_cons, List.length_cons, RepSs.length h2]
theorem RepDs.get : ∀ {ds : List D} {xs : List V} {i : Nat} {d : D}, RepDs G H O ds xs → ds[i]? = some d → ∃ v, xs[i]? = some v ∧ RepD G H O d v
  | d' :: ds, xs, 0, d, ⟨v, r, e, h1, h2⟩, q => by
    have q' : d' = d := by simpa using q
    subst q'
    exact ⟨v, by rw [e]; rfl, h1⟩
  | d' :: ds, xs, i + 1, d, ⟨v, r, e, h1, h2⟩, q => by
    obtain ⟨u, e1, h⟩ := RepDs.get (i := i) h2 (by simpa using q)
    exact ⟨u, by rw [e]; simpa using e1, h⟩
theorem RepDs.app : ∀ {ds es : List D} {xs ys : List V}, RepDs G H O ds xs → RepDs G H O es ys → RepDs G H O (ds ++ es) (xs ++ ys)
  | [], es, xs, ys, h, h' => by rw [show xs = [] from h]; exact h'
  | d :: ds, es, xs, ys, ⟨v, r, e, h1, h2⟩, h' => ⟨v, r ++ ys, by rw [e]; rfl, h1, RepDs.app h2 h'⟩
theorem RepDs.drop : ∀ {n : Nat} {ds : List D} {xs : List V}, RepDs G H O ds xs → RepDs G H O (ds.drop n) (xs.drop n)
  | 0, _, _, h => h
  | n + 1, [], xs, h => by rw [show xs = [] from h]; rfl
  | n + 1, d :: ds, xs, ⟨v, r, e, h1, h2⟩ => by rw [e]; exact RepDs.drop (n := n) h2
theorem RepDs.take : ∀ {n : Nat} {ds : List D} {xs : List V}, RepDs G H O ds xs → RepDs G H O (ds.take n) (xs.take n)
  | 0, _, _, h => rfl
  | n + 1, [], xs, h => by rw [show xs = [] from h]; rfl
  | n + 1, d :: ds, xs, ⟨v, r, e, h1, h2⟩ => by rw [e]; exact ⟨v, r.take n, rfl, h1, RepDs.take h2⟩
theorem RepDs.all : ∀ {ds : List D} {xs : List V}, ds.length = xs.length → (∀ (i : Nat) d v, ds[i]? = some d → xs[i]? = some v → RepD G H O d v) → RepDs G H O ds xs
  | [], [], _, _ => rfl
  | d :: ds, v :: xs, hl, h => ⟨v, xs, rfl, h 0 d v rfl rfl, RepDs.all (by simpa using hl) fun i d' v' e e' => h (i + 1) d' v' (by simpa using e) (by simpa using e')⟩
end
end Sep

/-! SepC: the state of a body, expressions. -/
namespace Sep
open PySem L2

abbrev Sl := List Slot
/-- a result: a thing by itself, or what stands in a slot of its own -/
inductive R where
  | v (s : Slot)
  | r (i : Nat)
inductive Out (α : Type) where
  | ok (a : α) (ρ : Sl)
  | exc (c : Str) (ns : List Str) (ds : List D) (ρ : Sl)
  | stuck
def Out.bind {α β : Type} : Out α → (α → Sl → Out β) → Out β
  | .ok a ρ, k => k a ρ
  | .exc c ns ds ρ, _ => .exc c ns ds ρ
  | .stuck, _ => .stuck
abbrev Ev := Sl → Out R
def R.slot : R → Slot
  | .v s => s
  | .r _ => .no
def At (σ : L2.St) (r : R) (v : V) : Prop := match r with
  | .v _ => True
  | .r i => σ[i]? = some (some v)
def envL (σ : L2.St) (ρ : Sl) : Hd := (σ.map fun o => o.getD .non).zip ρ
structure SR (G : Gm) (σ : L2.St) (ρ : Sl) (T : Hd) (H : Hp) : Prop where
  h : Holds G H (envL σ ρ ++ T)
  len : ρ.length = σ.length
  as : ∀ (i : Nat) s, ρ[i]? = some s → s ≠ .no → ∃ v, σ[i]? = some (some v)

section
variable {G : Gm} {σ σ' : L2.St} {ρ ρ' : Sl} {T T' L L' : Hd} {H H' : Hp} {x : V × Slot} {O : List Addr}
theorem env_at {i : Nat} {v : V} {s : Slot} (h1 : σ[i]? = some (some v)) (h2 : ρ[i]? = some s) : (envL σ ρ)[i]? = some (v, s) := by
  unfold envL
  rw [List.getElem?_zip_eq_some]
  refine ⟨?_, h2⟩
  rw [List.getElem?_map, h1]; rfl
theorem env_mem {i : Nat} {v : V} {s : Slot} (h1 : σ[i]? = some (some v)) (h2 : ρ[i]? = some s) : (v, s) ∈ envL σ ρ := List.mem_of_getElem? (env_at h1 h2)
theorem SR.push (r : SR G σ ρ T H) (h : Holds G H' (x :: (envL σ ρ ++ T))) : SR G σ ρ (x :: T) H' := ⟨h.perm (List.perm_middle.symm), r.len, r.as⟩
theorem SR.pull (r : SR G σ ρ (x :: T) H) : Holds G H (x :: (envL σ ρ ++ T)) := r.h.perm List.perm_middle
theorem SR.pop (r : SR G σ ρ (x :: T) H) : SR G σ ρ T H := ⟨r.pull.tail, r.len, r.as⟩
theorem SR.permT (r : SR G σ ρ T H) (p : T.Perm T') : SR G σ ρ T' H := ⟨r.h.perm (p.append_left _), r.len, r.as⟩
theorem SR.pop2 {y : V × Slot} (r : SR G σ ρ (y :: x :: T) H) : SR G σ ρ (y :: T) H := (r.permT (.swap x y T)).pop
theorem SR.pop3 {y z : V × Slot} (r : SR G σ ρ (y :: x :: z :: T) H) : SR G σ ρ (y :: T) H := r.pop2.pop2
theorem SR.val (r : SR G σ ρ T H) {i : Nat} {s : Slot} (h : ρ[i]? = some s) (n : s ≠ .no) : ∃ v, σ[i]? = some (some v) ∧ (v, s) ∈ envL σ ρ ++ T := by
  obtain ⟨v, e⟩ := r.as i s h n
  exact ⟨v, e, List.mem_append_left _ (env_mem e h)⟩
theorem SR.no {v : V} (r : SR G σ ρ T H) : SR G σ ρ ((v, .no) :: T) H := r.push r.h.no
end

/-- an exception's class and dict, as HandS has its wishes -/
def Post {α : Type} (G : Gm) (W : WX) (σ : L2.St) (T : Hd) (P : α → Sl → Prop) : Out α → Prop
  | .ok a ρ => P a ρ
  | .exc c ns ds ρ => ∀ d H', SR G σ ρ ((.ref d, .sh (.xd ns ds)) :: T) H' → W (.ref (G.cls c)) (some d) σ H'
  | .stuck => False
section
variable {α β : Type} {G : Gm} {W : WX} {σ : L2.St} {ρ : Sl} {T : Hd} {H : Hp} {P P' : α → Sl → Prop} {o : Out α} {x : V × Slot}
theorem Post.bind {P : β → Sl → Prop} {k : α → Sl → Out β} (h : Post G W σ T P (o.bind k)) : Post G W σ T (fun a ρ => Post G W σ T P (k a ρ)) o := by
  cases o <;> exact h
theorem Post.imp (h : Post G W σ T P o) (i : ∀ a ρ, P a ρ → P' a ρ) : Post G W σ T P' o := by
  cases o with
  | ok a ρ => exact i a ρ h
  | exc => exact h
  | stuck => exact h
theorem Post.more (h : Post G W σ T P o) : Post G W σ (x :: T) P o := by
  cases o with
  | ok a ρ => exact h
  | exc c ns ds ρ => exact fun d H' sr => h d H' sr.pop2
  | stuck => exact h
end

/-- what an expression's function says of its reading -/
def Rt (G : Gm) (σ : L2.St) (T : Hd) (Q : VK) (r : R) (ρ : Sl) : Prop := ∀ v H', SR G σ ρ ((v, r.slot) :: T) H' → At σ r v → Q v H'
def EvOk (G : Gm) (W : WX) (t : TE) (f : Ev) : Prop := ∀ σ H ρ T Q, SR G σ ρ T H → Post G W σ T (Rt G σ T Q) (f ρ) → t σ H Q
def TtOk (G : Gm) (W : WX) (t : TT) (f : Sl → Out Bool) : Prop := ∀ σ H ρ T Q, SR G σ ρ T H → Post G W σ T (fun b ρ => ∀ H', SR G σ ρ T H' → Q b H') (f ρ) → t σ H Q
def zipR (vs : List V) (rs : List R) : Hd := vs.zip (rs.map R.slot)
def Ats (σ : L2.St) : List R → List V → Prop
  | [], vs => vs = []
  | r :: rs, vs => ∃ v w, vs = v :: w ∧ At σ r v ∧ Ats σ rs w
def ArOk (G : Gm) (W : WX) (t : TA) (f : Sl → Out (List R)) : Prop := ∀ σ H ρ T Q, SR G σ ρ T H →
  Post G W σ T (fun rs ρ => ∀ vs H', SR G σ ρ (zipR vs rs ++ T) H' → Ats σ rs vs → Q vs H') (f ρ) → t σ H Q
structure DE (X : Cx) (G : Gm) (W : WX) (e : Expr) (t : TE) (f : Ev) : Prop where
  pe : PE X e t
  ok : EvOk G W t f
structure DT (X : Cx) (G : Gm) (W : WX) (e : Expr) (t : TT) (f : Sl → Out Bool) : Prop where
  pt : PT X e t
  ok : TtOk G W t f
structure DA (X : Cx) (G : Gm) (W : WX) (es : List Expr) (t : TA) (f : Sl → Out (List R)) : Prop where
  pa : PA X es t
  ok : ArOk G W t f

/-! ### names, constants -/
def eVar (i : Nat) : Ev := fun ρ => match ρ[i]? with
  | some (.sh d) => .ok (.v (.sh d)) ρ
  | some .no => .stuck
  | none => .stuck
  | some _ => .ok (.r i) ρ
def eC (d : D) : Ev := fun ρ => .ok (.v (.sh d)) ρ
def look (r : R) (ρ : Sl) : Option D := match r with
  | .v s => s.flat
  | .r i => (ρ[i]?).bind Slot.flat
/-- a result that goes elsewhere: what stood in a slot is shared from now on -/
def cons (r : R) (ρ : Sl) : Out D := match r with
  | .v s => (match s.fr with | some d => .ok d ρ | none => .stuck)
  | .r i => (match ρ[i]? with
    | some s => (match s.fr with | some d => .ok d (ρ.set i (.sh d)) | none => .stuck)
    | none => .stuck)

section
variable {G : Gm} {W : WX} {σ σ' : L2.St} {ρ ρ' : Sl} {T T' L L' : Hd} {H H' : Hp} {x : V × Slot} {O : List Addr}
theorem ok_var {i : Nat} : EvOk G W (tVar i) (eVar i) := by
  intro σ H ρ T Q sr p
  unfold eVar at p
  cases e : ρ[i]? with
  | none => rw [e] at p; exact p.elim
  | some s =>
    rw [e] at p
    cases s with
    | no => exact p.elim
    | sh d =>
      obtain ⟨v, e2, hm⟩ := sr.val e (by simp)
      obtain ⟨O, h⟩ := sr.h
      obtain ⟨o1, h1, _⟩ := h.1.mem hm
      exact ⟨v, e2, p v H (sr.push (h.add h1.2)) trivial⟩
    | lst ss =>
      obtain ⟨v, e2, hm⟩ := sr.val e (by simp)
      exact ⟨v, e2, p v H sr.no e2⟩
    | obj c ns ss =>
      obtain ⟨v, e2, hm⟩ := sr.val e (by simp)
      exact ⟨v, e2, p v H sr.no e2⟩
    | dct ks ss =>
      obtain ⟨v, e2, hm⟩ := sr.val e (by simp)
      exact ⟨v, e2, p v H sr.no e2⟩
theorem ok_c {v : V} {d : D} (h : ∀ H O, RepD G H O d v) : EvOk G W (tC v) (eC d) := by
  intro σ H ρ T Q sr p
  exact p v H (sr.push (sr.h.add0 fun O => h H O)) trivial
/-- a result's data at the moment, whoever owns it -/
theorem SR.lookP (sr : SR G σ ρ T H) {r : R} {v : V} {d : D} {O : List Addr} (h : Hold G H O (envL σ ρ ++ T)) (a : At σ r v) (hm : ∀ s, r = .v s → (v, s) ∈ T) (e : look r ρ = some d) : RepP G H O d v := by
  cases r with
  | v s => exact h.peek (List.mem_append_right _ (hm s rfl)) e
  | r i =>
    have e' : (ρ[i]?).bind Slot.flat = some d := e
    cases q : ρ[i]? with
    | none => rw [q] at e'; cases e'
    | some s =>
      rw [q] at e'
      exact h.peek (List.mem_append_left _ (env_mem a q)) e'
/-- a slot set: what stood there goes, what comes was held as the first -/
theorem set_perm : ∀ {σ : L2.St} {ρ : Sl} {i : Nat} {v u : V} {s w : Slot}, σ[i]? = some (some v) → ρ[i]? = some s → ∃ L0, (envL σ ρ).Perm ((v, s) :: L0) ∧ (envL σ (ρ.set i w)).Perm ((v, w) :: L0)
  | o :: σ, s' :: ρ, 0, v, u, s, w, h1, h2 => by
    have e1 : o = some v := by simpa using h1
    have e2 : s' = s := by simpa using h2
    subst e1 e2
    exact ⟨envL σ ρ, .refl _, .refl _⟩
  | o :: σ, s' :: ρ, i + 1, v, u, s, w, h1, h2 => by
    obtain ⟨L0, p1, p2⟩ := set_perm (σ := σ) (ρ := ρ) (i := i) (u := u) (w := w) (by simpa using h1) (by simpa using h2)
    exact ⟨(o.getD .non, s') :: L0, (p1.cons _).trans (.swap _ _ _), (p2.cons _).trans (.swap _ _ _)⟩
  | [], _, _, _, _, _, _, h1, _ => by simp at h1
  | _ :: _, [], _, _, _, _, _, _, h2 => by simp at h2
theorem as_set {i : Nat} {w : Slot} (h : ∀ (i : Nat) s, ρ[i]? = some s → s ≠ .no → ∃ v, σ[i]? = some (some v)) (hi : ∃ v, σ[i]? = some (some v)) : ∀ (j : Nat) s, (ρ.set i w)[j]? = some s → s ≠ .no → ∃ v, σ[j]? = some (some v) := by
  intro j s e n
  by_cases q : i = j
  · subst q; exact hi
  · rw [List.getElem?_set_ne q] at e
    exact h j s e n
/-- freezing a slot, its value held once more as data -/
theorem SR.freeze (sr : SR G σ ρ T H) {i : Nat} {v : V} {s : Slot} {d : D} (h1 : σ[i]? = some (some v)) (h2 : ρ[i]? = some s) (e : s.fr = some d) : SR G σ (ρ.set i (.sh d)) ((v, .sh d) :: T) H := by
  obtain ⟨L0, p1, p2⟩ := set_perm (u := v) (w := .sh d) h1 h2
  have a : Holds G H ((v, s) :: (L0 ++ T)) := sr.h.perm (p1.append_right T)
  have b := (a.fr e).dup
  refine ⟨b.perm ?_, by rw [List.length_set]; exact sr.len, as_set sr.as ⟨v, h1⟩⟩
  exact ((p2.symm.append_right T).cons (v, .sh d)).trans List.perm_middle.symm
/-- what a result becomes when it goes elsewhere -/
theorem SR.take {r : R} {v : V} (sr : SR G σ ρ ((v, r.slot) :: T) H) (a : At σ r v) {P : D → Sl → Prop} (p : Post G W σ T P (cons r ρ)) : ∃ d ρ', SR G σ ρ' ((v, .sh d) :: T) H ∧ P d ρ' ∧ Sep.cons r ρ = .ok d ρ' := by
  cases r with
  | v s =>
    unfold Sep.cons at p ⊢
    cases e : s.fr with
    | none => simp only [e] at p; exact p.elim
    | some d =>
      simp only [e] at p ⊢
      exact ⟨d, ρ, sr.pop.push (sr.pull.fr e), p, rfl⟩
  | r i =>
    unfold Sep.cons at p ⊢
    have a' : σ[i]? = some (some v) := a
    cases e : ρ[i]? with
    | none => simp only [e] at p; exact p.elim
    | some s =>
      simp only [e] at p ⊢
      cases e2 : s.fr with
      | none => simp only [e2] at p; exact p.elim
      | some d =>
        simp only [e2] at p ⊢
        exact ⟨d, ρ.set i (.sh d), sr.pop.freeze a' e e2, p, rfl⟩
end
end Sep

/-! SepD: operators. -/
namespace Sep
open PySem L2

/-! ### plain data, for == and in -/
mutual
def D.py : D → Option PyData
  | .non => some .none
  | .bl b => some (.bool b)
  | .int i => some (.int i)
  | .str s => some (.str s)
  | .tup ds => (pys ds).map PyData.tuple
  | .lst ds => (pys ds).map PyData.list
  | .rol _ => none
  | .obj _ _ _ => none
  | .dct _ _ => none
  | .xd _ _ => none
  | .raw _ _ => none
  | .kls _ => none
def pys : List D → Option (List PyData)
  | [] => some []
  | d :: ds => match d.py, pys ds with
    | some p, some ps => some (p :: ps)
    | _, _ => none
end
section
variable {G : Gm} {H : Hp} {O : List Addr}
theorem sqT_of {K : PySem.W.Frag} {a : Addr} {xs : List V} (h : (Rd H a (.tup xs) ∧ a ∉ O) ∨ KT K a xs) : SqT K H a xs := h.elim (fun q => .inl q.1) .inr
theorem sqL_of {K : PySem.W.Frag} {a : Addr} {xs : List V} (h : (Rd H a (.lst xs) ∧ a ∉ O) ∨ KL K a xs) : SqL K H a xs := h.elim (fun q => .inl q.1) .inr
mutual
theorem RepD.dp : ∀ {d : D} {v : V} {p : PyData}, RepD G H O d v → d.py = some p → Dp G.K H v p
  | .non, v, p, h, e => by rw [D.py] at e; cases e; cases h; exact .non
  | .bl b, v, p, h, e => by rw [D.py] at e; cases e; cases h; exact .bl b
  | .int i, v, p, h, e => by rw [D.py] at e; cases e; cases h; exact .int i
  | .str s, v, p, h, e => by rw [D.py] at e; cases e; cases h; exact .str s
  | .tup ds, v, p, h, e => by
    rw [D.py] at e
    obtain ⟨a, xs, ev, h1, h2⟩ := h
    subst ev
    cases q : pys ds with
    | none => rw [q] at e; cases e
    | some ps => rw [q] at e; cases e; exact .tup (sqT_of h1) (RepDs.dp h2 q)
  | .lst ds, v, p, h, e => by
    rw [D.py] at e
    obtain ⟨a, xs, ev, h1, h2⟩ := h
    subst ev
    cases q : pys ds with
    | none => rw [q] at e; cases e
    | some ps => rw [q] at e; cases e; exact .lst (.of h1.1) (RepDs.dp h2 q)
  | .rol _, v, p, h, e => by rw [D.py] at e; cases e
  | .obj _ _ _, v, p, h, e => by rw [D.py] at e; cases e
  | .dct _ _, v, p, h, e => by rw [D.py] at e; cases e
  | .xd _ _, v, p, h, e => by rw [D.py] at e; cases e
  | .raw _ _, v, p, h, e => by rw [D.py] at e; cases e
  | .kls _, v, p, h, e => by rw [D.py] at e; cases e
theorem RepDs.dp : ∀ {ds : List D} {xs : List V} {ps : List PyData}, RepDs G H O ds xs → pys ds = some ps → DpAll G.K H xs ps
  | [], xs, ps, h, e => by rw [pys] at e; cases e; cases h; exact .nil
  | d :: ds, xs, ps, h, e => by
    rw [pys] at e
    obtain ⟨v, r, ex, h1, h2⟩ := h
    subst ex
    cases q : d.py with
    | none => rw [q] at e; cases e
    | some p =>
      cases q2 : pys ds with
      | none => rw [q, q2] at e; cases e
      | some ps' => rw [q, q2] at e; cases e; exact .cons (RepD.dp h1 q) (RepDs.dp h2 q2)
end
theorem RepP.dp {d : D} {v : V} {p : PyData} (h : RepP G H O d v) (e : d.py = some p) : Dp G.K H v p := by
  cases d with
  | lst ds =>
    rw [D.py] at e
    obtain ⟨a, xs, ev, h1, h2⟩ := h
    subst ev
    cases q : pys ds with
    | none => rw [q] at e; cases e
    | some ps => rw [q] at e; cases e; exact .lst (.of h1) (h2.dp q)
  | rol _ => rw [D.py] at e; cases e
  | obj _ _ _ => rw [D.py] at e; cases e
  | dct _ _ => rw [D.py] at e; cases e
  | xd _ _ => rw [D.py] at e; cases e
  | raw _ => rw [D.py] at e; cases e
  | kls _ => rw [D.py] at e; cases e
  | non => exact RepD.dp (O := O) (d := .non) h e
  | bl b => exact RepD.dp (O := O) (d := .bl b) h e
  | int i => exact RepD.dp (O := O) (d := .int i) h e
  | str s => exact RepD.dp (O := O) (d := .str s) h e
  | tup ds => exact RepD.dp (O := O) (d := .tup ds) h e
end

/-! ### two-place operators -/
def OpD (G : Gm) (r : R2) (g : D → D → Option Slot) : Prop := ∀ H O L x y dx dy s Q, Hold G H O L → RepP G H O dx x → RepP G H O dy y → g dx dy = some s →
  (∀ v H', Holds G H' ((v, s) :: L) → Q v H') → r x y H Q
def eOp (g : D → D → Option Slot) (fa fb : Ev) : Ev := fun ρ => (fa ρ).bind fun r1 ρ1 => (fb ρ1).bind fun r2 ρ2 => match look r1 ρ2, look r2 ρ2 with
  | some d1, some d2 => (match g d1 d2 with
    | some s => .ok (.v s) ρ2
    | none => .stuck)
  | _, _ => .stuck
section
variable {G : Gm} {W : WX} {ta tb : TE} {fa fb : Ev}
theorem ok_op {r : R2} {g : D → D → Option Slot} (ho : OpD G r g) (ha : EvOk G W ta fa) (hb : EvOk G W tb fb) : EvOk G W (tOp r ta tb) (eOp g fa fb) := by
  intro σ H ρ T Q sr p
  refine ha σ H ρ T _ sr ((Post.bind p).imp fun r1 ρ1 p1 => ?_)
  intro x H1 sr1 a1
  refine hb σ H1 ρ1 ((x, r1.slot) :: T) _ sr1 ((Post.bind p1).more.imp fun r2 ρ2 p2 => ?_)
  intro y H2 sr2 a2
  cases e1 : look r1 ρ2 with
  | none => simp only [e1] at p2; exact p2.elim
  | some d1 =>
    cases e2 : look r2 ρ2 with
    | none => simp only [e1, e2] at p2; exact p2.elim
    | some d2 =>
      simp only [e1, e2] at p2
      cases e3 : g d1 d2 with
      | none => simp only [e3] at p2; exact p2.elim
      | some s =>
        simp only [e3] at p2
        obtain ⟨O, h⟩ := sr2.h
        refine ho H2 O _ x y d1 d2 s Q h (sr2.lookP h a1 (fun s e => ?_) e1) (sr2.lookP h a2 (fun s e => ?_) e2) e3 fun v H' hs => ?_
        · subst e; exact List.mem_cons_of_mem _ List.mem_cons_self
        · subst e; exact List.mem_cons_self
        · exact p2 v H' (sr2.push hs).pop3 trivial
end

abbrev LIM : Nat := 16777216
theorem lim_le {n : Nat} (h : n ≤ LIM) : n ≤ sizeLine := by rw [sizeLine_eq]; exact h
section
variable {G : Gm} {H : Hp} {O : List Addr} {L : Hd}
theorem Hold.sc (h : Hold G H O L) {v : V} {d : D} (r : RepD G H O d v) : Holds G H ((v, .sh d) :: L) := h.add r
theorem OpD.int {g : Int → Int → Int} : OpD G (rI0 fun i j => .int (g i j)) (fun a b => match a, b with | .int i, .int j => some (.sh (.int (g i j))) | _, _ => none) := by
  intro H O L x y dx dy s Q h hx hy e q
  cases dx <;> cases dy <;> first | (cases e; done) | skip
  cases e
  exact ⟨_, _, hx, hy, q _ _ (h.sc rfl)⟩
def gInt (C : Int → Int → Bool) (g : Int → Int → Int) : D → D → Option Slot := fun a b => match a, b with
  | .int i, .int j => if C i j then some (.sh (.int (g i j))) else none
  | _, _ => none
theorem OpD.intC {C : Int → Int → Prop} {Cb : Int → Int → Bool} {g : Int → Int → Int} (hC : ∀ i j, Cb i j = true → C i j) : OpD G (rI C fun i j => .int (g i j)) (gInt Cb g) := by
  intro H O L x y dx dy s Q h hx hy e q
  cases dx <;> cases dy <;> first | (cases e; done) | skip
  rename_i i j
  have e' : (if Cb i j then some (Slot.sh (.int (g i j))) else none) = some s := e
  split at e'
  · rename_i hc
    cases e'
    exact ⟨_, _, hx, hy, hC _ _ hc, q _ _ (h.sc rfl)⟩
  · cases e'
def gSubt : D → D → Option Slot := fun a b => match a, b with | .int i, .int j => some (.sh (.int (i - j))) | _, _ => none
theorem od_sub : OpD G (rI0 fun i j => .int (i - j)) gSubt := OpD.int (g := fun i j => i - j)
abbrev cMul : Int → Int → Bool := fun i j => decide (i.natAbs.log2 + j.natAbs.log2 < 1000000)
abbrev cDiv : Int → Int → Bool := fun _ j => decide (0 < j ∧ j.natAbs.log2 < 9000)
abbrev cMod : Int → Int → Bool := fun _ j => decide (0 < j)
abbrev cPow : Int → Int → Bool := fun i j => decide (0 ≤ j ∧ j ≤ 1000000 ∧ i.natAbs < 2 ^ 64)
abbrev gMul : D → D → Option Slot := gInt cMul fun i j => i * j
abbrev gDiv : D → D → Option Slot := gInt cDiv fun i j => i / j
abbrev gMod : D → D → Option Slot := gInt cMod fun i j => i % j
abbrev gPow : D → D → Option Slot := gInt cPow fun i j => i ^ j.toNat
theorem od_mul : OpD G (rI CMulW fun i j => .int (i * j)) gMul := OpD.intC fun i j h => by simpa [CMulW] using h
theorem od_div : OpD G (rI CDivW fun i j => .int (i / j)) gDiv := OpD.intC fun i j h => by simpa [CDivW] using h
theorem od_mod : OpD G (rI (fun _ j => 0 < j) fun i j => .int (i % j)) gMod := OpD.intC fun i j h => by simpa using h
theorem od_pow : OpD G (rI CPow fun i j => .int (i ^ j.toNat)) gPow := OpD.intC fun i j h => by simpa [CPow] using h

/-- + of ints, texts, lists, tuples -/
def gAdd : D → D → Option Slot := fun a b => match a, b with
  | .int i, .int j => some (.sh (.int (i + j)))
  | .str x, .str y => if x.length + y.length ≤ LIM then some (.sh (.str (x ++ y))) else none
  | .lst xs, .lst ys => if xs.length + ys.length ≤ LIM then some (.lst (shs (xs ++ ys))) else none
  | .tup xs, .tup ys => if xs.length + ys.length ≤ LIM then some (.sh (.tup (xs ++ ys))) else none
  | _, _ => none
def rAdd (K : PySem.W.Frag) : R2 := fun x y H Q => rI0 (fun i j => .int (i + j)) x y H Q ∨ (∃ i j, x = .str i ∧ y = .str j ∧ i.length + j.length ≤ sizeLine ∧ Q (.str (i ++ j)) H) ∨ rCat x y H Q ∨ rCatA K x y H Q
theorem od_add : OpD G (rAdd G.K) gAdd := by
  intro H O L x y dx dy s Q h hx hy e q
  cases dx <;> cases dy <;> first | (cases e; done) | skip
  · cases e
    exact .inl ⟨_, _, hx, hy, q _ _ (h.sc rfl)⟩
  · rename_i a b
    have e' : (if a.length + b.length ≤ LIM then some (Slot.sh (.str (a ++ b))) else none) = some s := e
    split at e'
    · rename_i hc
      cases e'
      exact .inr (.inl ⟨_, _, hx, hy, lim_le hc, q _ _ (h.sc rfl)⟩)
    · cases e'
  · rename_i as bs
    have e' : (if as.length + bs.length ≤ LIM then some (Slot.sh (.tup (as ++ bs))) else none) = some s := e
    split at e'
    · rename_i hc
      cases e'
      obtain ⟨a, xs, ea, h1, h2⟩ := hx
      obtain ⟨b, ys, eb, h3, h4⟩ := hy
      refine .inr (.inr (.inr ⟨a, b, xs, ys, ea, eb, sqT_of h1, sqT_of h3, by rw [h2.length, h4.length]; exact lim_le hc, fun z => ?_, fun _ z => ?_, fun _ _ p hp => ?_⟩))
      · subst z
        have e0 : as = [] := by have := h2.length; exact List.eq_nil_of_length_eq_zero this.symm
        subst e0
        exact q _ _ (h.sc ⟨b, ys, rfl, h3, h4⟩)
      · subst z
        have e0 : bs = [] := by have := h4.length; exact List.eq_nil_of_length_eq_zero this.symm
        subst e0
        rw [List.append_nil] at q
        exact q _ _ (h.sc ⟨a, xs, rfl, h1, h2⟩)
      · exact q _ _ (h.newT hp (h2.app h4))
    · cases e'
  · rename_i as bs
    have e' : (if as.length + bs.length ≤ LIM then some (Slot.lst (shs (as ++ bs))) else none) = some s := e
    split at e'
    · rename_i hc
      cases e'
      obtain ⟨a, xs, ea, h1, h2⟩ := hx
      obtain ⟨b, ys, eb, h3, h4⟩ := hy
      refine .inr (.inr (.inl ⟨a, b, xs, ys, ea, eb, h1, h3, by rw [h2.length, h4.length]; exact lim_le hc, fun p hp => ?_⟩))
      exact q _ _ (h.newL hp (RepDs.sh (h2.app h4)))
    · cases e'
/-! ### comparisons -/
def gCmp (g : Int → Int → Bool) : D → D → Option Slot := fun a b => match a, b with | .int i, .int j => some (.sh (.bl (g i j))) | _, _ => none
theorem od_cmp {g : Int → Int → Bool} : OpD G (rI0 fun i j => .bl (g i j)) (gCmp g) := by
  intro H O L x y dx dy s Q h hx hy e q
  cases dx <;> cases dy <;> first | (cases e; done) | skip
  cases e
  exact ⟨_, _, hx, hy, q _ _ (h.sc rfl)⟩
abbrev gLt := gCmp fun i j => decide (i < j)
abbrev gLe := gCmp fun i j => decide (i ≤ j)
abbrev gGt := gCmp fun i j => decide (j < i)
abbrev gGe := gCmp fun i j => decide (j ≤ i)
/-- == and != of plain data -/
def gEq : D → D → Option Slot := fun a b => match a.py, b.py with
  | some p, some q => if SeqAt.shaped p && SeqAt.shaped q then some (.sh (.bl (PyData.eqv p q))) else none
  | _, _ => none
def gNe : D → D → Option Slot := fun a b => match a.py, b.py with
  | some p, some q => if SeqAt.shaped p && SeqAt.shaped q then some (.sh (.bl (!PyData.eqv p q))) else none
  | _, _ => none
theorem od_eq : OpD G (rEqD G.K) gEq := by
  intro H O L x y dx dy s Q h hx hy e q
  unfold gEq at e
  cases e1 : dx.py with
  | none => rw [e1] at e; cases e
  | some p =>
    cases e2 : dy.py with
    | none => rw [e1, e2] at e; cases e
    | some p' =>
      rw [e1, e2] at e
      simp only at e
      split at e
      · rename_i hc
        cases e
        have hc' := Bool.and_eq_true_iff.mp hc
        exact ⟨p, p', hx.dp e1, hy.dp e2, hc'.1, hc'.2, q _ _ (h.sc rfl)⟩
      · cases e
theorem od_ne : OpD G (rNeD G.K) gNe := by
  intro H O L x y dx dy s Q h hx hy e q
  unfold gNe at e
  cases e1 : dx.py with
  | none => rw [e1] at e; cases e
  | some p =>
    cases e2 : dy.py with
    | none => rw [e1, e2] at e; cases e
    | some p' =>
      rw [e1, e2] at e
      simp only at e
      split at e
      · rename_i hc
        cases e
        have hc' := Bool.and_eq_true_iff.mp hc
        exact ⟨p, p', hx.dp e1, hy.dp e2, hc'.1, hc'.2, q _ _ (h.sc rfl)⟩
      · cases e
/-- in, not in a list of plain data -/
def gIn (neg : Bool) : D → D → Option Slot := fun a b => match a.py, b.py with
  | some p, some (.list qs) => if SeqAt.shaped p && SeqAt.shaped (.list qs) then some (.sh (.bl (if neg then !qs.any fun z => PyData.eqv z p else qs.any fun z => PyData.eqv z p))) else none
  | _, _ => none
theorem od_in : OpD G (rInD G.K) (gIn false) := by
  intro H O L x y dx dy s Q h hx hy e q
  unfold gIn at e
  cases e1 : dx.py with
  | none => rw [e1] at e; cases e
  | some p =>
    cases e2 : dy.py with
    | none => rw [e1, e2] at e; cases e
    | some p' =>
      rw [e1, e2] at e
      cases p' <;> first | (cases e; done) | skip
      simp only at e
      split at e
      · rename_i hc
        cases e
        have hc' := Bool.and_eq_true_iff.mp hc
        exact ⟨p, _, hx.dp e1, hy.dp e2, hc'.1, hc'.2, q _ _ (h.sc rfl)⟩
      · cases e
theorem od_notIn : OpD G (rNotInD G.K) (gIn true) := by
  intro H O L x y dx dy s Q h hx hy e q
  unfold gIn at e
  cases e1 : dx.py with
  | none => rw [e1] at e; cases e
  | some p =>
    cases e2 : dy.py with
    | none => rw [e1, e2] at e; cases e
    | some p' =>
      rw [e1, e2] at e
      cases p' <;> first | (cases e; done) | skip
      simp only at e
      split at e
      · rename_i hc
        cases e
        have hc' := Bool.and_eq_true_iff.mp hc
        exact ⟨p, _, hx.dp e1, hy.dp e2, hc'.1, hc'.2, q _ _ (h.sc rfl)⟩
      · cases e
end
section
variable {X : Cx}
theorem op_addA : OpR X (binaryOp .Add) (rAdd X.K) := op_add.or (op_add_str.or (op_cat.or op_catA))
end
end Sep

/-! SepE: expressions, tests, displays. -/
namespace Sep
open PySem L2

section
variable {X : Cx} {G : Gm} {W : WX} {a b c : Expr} {ta tb tc : TE} {fa fb fc : Ev} {pos : Pos}

/-! ### names and constants -/
theorem de_var (i : Nat) {x : Str} {pos : Pos} (hN : X.N[i]? = some x := by rfl) (hv : Vis X.env.scope x := by first | exact Or.inl rfl | exact Or.inr (Or.inl rfl) | exact Or.inr (Or.inr rfl)) (hd : (x == ("__debug__" : Str)) = false := by decide)
    (hcd : (x == ("__classdict__" : Str)) = false := by decide) : DE X G W (.Name x pos) (tVar i) (eVar i) := ⟨pe_var hN hv hd hcd, ok_var⟩
theorem de_int {i j pos} : DE X G W (.Constant (.int i) j pos) (tC (.int i)) (eC (.int i)) := ⟨pe_int, ok_c fun _ _ => rfl⟩
theorem de_bl {i j pos} : DE X G W (.Constant (.bool i) j pos) (tC (.bl i)) (eC (.bl i)) := ⟨pe_bl, ok_c fun _ _ => rfl⟩
theorem de_non {j pos} : DE X G W (.Constant .none j pos) (tC .non) (eC .non) := ⟨pe_non, ok_c fun _ _ => rfl⟩
theorem de_str {i j pos} : DE X G W (.Constant (.str i) j pos) (tC (.str i)) (eC (.str i)) := ⟨pe_str, ok_c fun _ _ => rfl⟩
/-- a constant of the module -/
theorem de_glob {x : Str} {v : V} {u : Value} {d : D} {pos : Pos} (hg : Gl X x) (hm : X.mg x = some u) (r : RelV v u) (h : ∀ H O, RepD G H O d v) (hd : (x == ("__debug__" : Str)) = false := by decide) : DE X G W (.Name x pos) (tC v) (eC d) := ⟨pe_glob hg hm r hd, ok_c h⟩

/-! ### two-place operators -/
theorem de_op {op : Operator} {r : R2} {g : D → D → Option Slot} (hop : OpR X (binaryOp op) r) (ho : OpD G r g) (A : DE X G W a ta fa) (B : DE X G W b tb fb) : DE X G W (.BinOp a op b pos) (tOp r ta tb) (eOp g fa fb) := ⟨pe_op hop A.pe B.pe, ok_op ho A.ok B.ok⟩
theorem de_add (hK : X.K = G.K) (A : DE X G W a ta fa) (B : DE X G W b tb fb) : DE X G W (.BinOp a .Add b pos) (tOp (rAdd G.K) ta tb) (eOp gAdd fa fb) := de_op (by rw [← hK]; exact op_addA) od_add A B
theorem de_sub (A : DE X G W a ta fa) (B : DE X G W b tb fb) : DE X G W (.BinOp a .Sub b pos) (tOp (rI0 fun i j => .int (i - j)) ta tb) (eOp gSubt fa fb) := de_op op_sub od_sub A B
theorem de_mul (A : DE X G W a ta fa) (B : DE X G W b tb fb) : DE X G W (.BinOp a .Mult b pos) (tOp (rI CMulW fun i j => .int (i * j)) ta tb) (eOp gMul fa fb) := de_op op_mulW od_mul A B
theorem de_div (A : DE X G W a ta fa) (B : DE X G W b tb fb) : DE X G W (.BinOp a .FloorDiv b pos) (tOp (rI CDivW fun i j => .int (i / j)) ta tb) (eOp gDiv fa fb) := de_op op_fdivW od_div A B
theorem de_mod (A : DE X G W a ta fa) (B : DE X G W b tb fb) : DE X G W (.BinOp a .Mod b pos) (tOp (rI (fun _ j => 0 < j) fun i j => .int (i % j)) ta tb) (eOp gMod fa fb) := de_op op_mod od_mod A B
theorem de_pow (A : DE X G W a ta fa) (B : DE X G W b tb fb) : DE X G W (.BinOp a .Pow b pos) (tOp (rI CPow fun i j => .int (i ^ j.toNat)) ta tb) (eOp gPow fa fb) := de_op op_pow od_pow A B
/-- a comparison as a value -/
theorem de_cmp {op : CmpOp} {r : R2} {g : D → D → Option Slot} (hop : OpR X (compareOp op) r) (ho : OpD G r g) (A : DE X G W a ta fa) (B : DE X G W b tb fb) (hm : behindInMarks op b = false) : DE X G W (.Compare a [op] [b] pos) (tOp r ta tb) (eOp g fa fb) := ⟨pe_cmpR hop A.pe B.pe hm, ok_op ho A.ok B.ok⟩
theorem de_lt (A : DE X G W a ta fa) (B : DE X G W b tb fb) : DE X G W (.Compare a [.Lt] [b] pos) (tOp (rI0 fun i j => .bl (decide (i < j))) ta tb) (eOp gLt fa fb) := de_cmp op_lt od_cmp A B (nomark _)
theorem de_le (A : DE X G W a ta fa) (B : DE X G W b tb fb) : DE X G W (.Compare a [.LtE] [b] pos) (tOp (rI0 fun i j => .bl (decide (i ≤ j))) ta tb) (eOp gLe fa fb) := de_cmp op_le od_cmp A B (nomark _)
theorem de_gt (A : DE X G W a ta fa) (B : DE X G W b tb fb) : DE X G W (.Compare a [.Gt] [b] pos) (tOp (rI0 fun i j => .bl (decide (j < i))) ta tb) (eOp gGt fa fb) := de_cmp op_gt od_cmp A B (nomark _)
theorem de_ge (A : DE X G W a ta fa) (B : DE X G W b tb fb) : DE X G W (.Compare a [.GtE] [b] pos) (tOp (rI0 fun i j => .bl (decide (j ≤ i))) ta tb) (eOp gGe fa fb) := de_cmp op_ge od_cmp A B (nomark _)
theorem units_of {A : Around} {k : Nat} (hr : Room k A) : A.units + 65 < cLine := by
  have h := hr.un
  omega
theorem de_eq {k : Nat} (hK : X.K = G.K) (hr : Room k X.A) (A : DE X G W a ta fa) (B : DE X G W b tb fb) : DE X G W (.Compare a [.Eq] [b] pos) (tOp (rEqD G.K) ta tb) (eOp gEq fa fb) := de_cmp (by rw [← hK]; exact op_eqD (by have := units_of hr; omega)) od_eq A B (nomark _)
theorem de_ne {k : Nat} (hK : X.K = G.K) (hr : Room k X.A) (A : DE X G W a ta fa) (B : DE X G W b tb fb) : DE X G W (.Compare a [.NotEq] [b] pos) (tOp (rNeD G.K) ta tb) (eOp gNe fa fb) := de_cmp (by rw [← hK]; exact op_neD (by have := units_of hr; omega)) od_ne A B (nomark _)
theorem de_in {k : Nat} (hK : X.K = G.K) (hr : Room k X.A) (A : DE X G W a ta fa) (B : DE X G W b tb fb) (hm : behindInMarks .In b = false := by rfl) : DE X G W (.Compare a [.In] [b] pos) (tOp (rInD G.K) ta tb) (eOp (gIn false) fa fb) := de_cmp (by rw [← hK]; exact op_inD (units_of hr)) od_in A B hm
theorem de_notIn {k : Nat} (hK : X.K = G.K) (hr : Room k X.A) (A : DE X G W a ta fa) (B : DE X G W b tb fb) (hm : behindInMarks .NotIn b = false := by rfl) : DE X G W (.Compare a [.NotIn] [b] pos) (tOp (rNotInD G.K) ta tb) (eOp (gIn true) fa fb) := de_cmp (by rw [← hK]; exact op_notInD (units_of hr)) od_notIn A B hm
/-- is None -/
def gIsN (neg : Bool) : D → D → Option Slot := fun a b => match b, a with
  | .non, .non => some (.sh (.bl !neg))
  | .non, _ => some (.sh (.bl neg))
  | _, _ => none
theorem rep_non {H : Hp} {O : List Addr} {d : D} {v : V} (h : RepP G H O d v) : decide (v = .non) = (match d with | .non => true | _ => false) := by
  cases d with
  | non => cases h; rfl
  | bl _ => cases h; rfl
  | int _ => cases h; rfl
  | str _ => cases h; rfl
  | tup _ => obtain ⟨a, xs, e, _⟩ := h; subst e; rfl
  | lst _ => obtain ⟨a, xs, e, _⟩ := h; subst e; rfl
  | rol _ => obtain ⟨a, xs, e, _⟩ := h; subst e; rfl
  | obj _ _ _ => obtain ⟨a, dx, xs, e, _⟩ := h; subst e; rfl
  | dct _ _ => obtain ⟨a, xs, e, _⟩ := h; subst e; rfl
  | xd _ _ => obtain ⟨a, xs, e, _⟩ := h; subst e; rfl
  | raw _ _ => obtain ⟨e, _⟩ := h; subst e; rfl
  | kls _ => cases h; rfl
theorem od_isN : OpD G (fun x y H Q => y = .non ∧ Q (.bl (decide (x = .non))) H) (gIsN false) := by
  intro H O L x y dx dy s Q h hx hy e q
  cases dy <;> first | (cases e; done) | skip
  have e1 := rep_non hx
  refine ⟨hy, ?_⟩
  rw [e1]
  cases dx <;> (cases e; exact q _ _ (h.sc rfl))
theorem od_notN : OpD G (fun x y H Q => y = .non ∧ Q (.bl (!decide (x = .non))) H) (gIsN true) := by
  intro H O L x y dx dy s Q h hx hy e q
  cases dy <;> first | (cases e; done) | skip
  have e1 := rep_non hx
  refine ⟨hy, ?_⟩
  rw [e1]
  cases dx <;> (cases e; exact q _ _ (h.sc rfl))
theorem de_isN (A : DE X G W a ta fa) (B : DE X G W b tb fb) : DE X G W (.Compare a [.Is] [b] pos) (tOp (fun x y H Q => y = .non ∧ Q (.bl (decide (x = .non))) H) ta tb) (eOp (gIsN false) fa fb) := de_cmp op_isN od_isN A B (nomark _)
theorem de_notN (A : DE X G W a ta fa) (B : DE X G W b tb fb) : DE X G W (.Compare a [.IsNot] [b] pos) (tOp (fun x y H Q => y = .non ∧ Q (.bl (!decide (x = .non))) H) ta tb) (eOp (gIsN true) fa fb) := de_cmp op_notN od_notN A B (nomark _)

/-! ### a item of a list, a tuple, a text -/
def gIx : D → D → Option Slot := fun a b => match a, b with
  | .lst ds, .int i => (atI ds i).map Slot.sh
  | .rol ds, .int i => (atI ds i).map Slot.sh
  | .tup ds, .int i => (atI ds i).map Slot.sh
  | .str z, .int i => if z.length ≤ LIM then (atI z.cps.toList i).map fun c => .sh (.str ⟨#[c]⟩) else none
  | _, _ => none
theorem RepDs.atI {H : Hp} {O : List Addr} {ds : List D} {xs : List V} {i : Int} {d : D} (h : RepDs G H O ds xs) (e : L2.atI ds i = some d) : ∃ v, L2.atI xs i = some v ∧ RepD G H O d v := by
  unfold L2.atI at e ⊢
  rw [h.length]
  cases q : ixN ds.length i with
  | none => rw [q] at e; cases e
  | some j => rw [q] at e; exact h.get e
theorem od_ix : OpD G (rIx G.K) gIx := by
  intro H O L x y dx dy s Q h hx hy e q
  cases dx <;> cases dy <;> first | (cases e; done) | skip
  · rename_i z i
    have e' : (if z.length ≤ LIM then (atI z.cps.toList i).map fun c => Slot.sh (.str ⟨#[c]⟩) else none) = some s := e
    split at e'
    · rename_i hc
      obtain ⟨c, e1, e2⟩ := Option.map_eq_some_iff.mp e'
      subst e2
      exact .inr (.inr ⟨z, i, c, hx, hy, lim_le hc, e1, q _ _ (h.sc rfl)⟩)
    · cases e'
  · rename_i ds i
    obtain ⟨d, e1, e2⟩ := Option.map_eq_some_iff.mp (show (atI ds i).map Slot.sh = some s from e)
    subst e2
    obtain ⟨a, xs, ea, h1, h2⟩ := hx
    obtain ⟨v, e3, r⟩ := h2.atI e1
    exact .inr (.inl ⟨a, xs, i, v, ea, hy, sqT_of h1, e3, q _ _ (h.sc r)⟩)
  · rename_i ds i
    obtain ⟨d, e1, e2⟩ := Option.map_eq_some_iff.mp (show (atI ds i).map Slot.sh = some s from e)
    subst e2
    obtain ⟨a, xs, ea, h1, h2⟩ := hx
    obtain ⟨v, e3, r⟩ := h2.atI e1
    exact .inl ⟨a, xs, i, v, ea, hy, .of h1, e3, q _ _ (h.sc r)⟩
  · rename_i ds i
    obtain ⟨d, e1, e2⟩ := Option.map_eq_some_iff.mp (show (atI ds i).map Slot.sh = some s from e)
    subst e2
    obtain ⟨a, xs, ea, h1, h2⟩ := hx
    obtain ⟨v, e3, r⟩ := h2.atI e1
    exact .inl ⟨a, xs, i, v, ea, hy, sqL_of h1, e3, q _ _ (h.sc r)⟩
theorem de_ix (hK : X.K = G.K) (A : DE X G W a ta fa) (B : DE X G W b tb fb) (hs : PlainIx b := by exact fun _ _ => rfl) : DE X G W (.Subscript a b pos) (tOp (rIx G.K) ta tb) (eOp gIx fa fb) := ⟨pe_ix (by rw [← hK]; exact ix_seq) A.pe B.pe hs, ok_op od_ix A.ok B.ok⟩

/-! ### tests -/
def tOfE (f : Ev) : Sl → Out Bool := fun ρ => (f ρ).bind fun r ρ1 => match r with
  | .v (.sh (.bl b)) => .ok b ρ1
  | _ => .stuck
theorem ok_tB (A : EvOk G W ta fa) : TtOk G W (tB ta) (tOfE fa) := by
  intro σ H ρ T Q sr p
  refine A σ H ρ T _ sr ((Post.bind p).imp fun r ρ1 p1 => ?_)
  intro x H1 sr1 a1
  cases r with
  | r i => exact p1.elim
  | v s =>
    cases s with
    | sh d =>
      cases d with
      | bl k =>
        obtain ⟨O, ⟨o1, o2, eo, h1, h2⟩, nd⟩ := sr1.pull
        exact ⟨k, h1.2, p1 H1 sr1.pop⟩
      | _ => exact p1.elim
    | _ => exact p1.elim
theorem ok_tTest (A : EvOk G W ta fa) : TtOk G W (tTest ta) (tOfE fa) := ok_tB A
/-- a comparison as a test -/
theorem dt_cmp {op : CmpOp} {r : R2} {g : D → D → Option Slot} (hop : OpR X (compareOp op) r) (ho : OpD G r g) (A : DE X G W a ta fa) (B : DE X G W b tb fb) (hm : behindInMarks op b = false) : DT X G W (.Compare a [op] [b] pos) (tTest (tOp r ta tb)) (tOfE (eOp g fa fb)) := ⟨pt_cmpR hop A.pe B.pe hm, ok_tTest (ok_op ho A.ok B.ok)⟩
theorem dt_lt (A : DE X G W a ta fa) (B : DE X G W b tb fb) : DT X G W (.Compare a [.Lt] [b] pos) (tTest (tOp (rI0 fun i j => .bl (decide (i < j))) ta tb)) (tOfE (eOp gLt fa fb)) := dt_cmp op_lt od_cmp A B (nomark _)
theorem dt_le (A : DE X G W a ta fa) (B : DE X G W b tb fb) : DT X G W (.Compare a [.LtE] [b] pos) (tTest (tOp (rI0 fun i j => .bl (decide (i ≤ j))) ta tb)) (tOfE (eOp gLe fa fb)) := dt_cmp op_le od_cmp A B (nomark _)
theorem dt_gt (A : DE X G W a ta fa) (B : DE X G W b tb fb) : DT X G W (.Compare a [.Gt] [b] pos) (tTest (tOp (rI0 fun i j => .bl (decide (j < i))) ta tb)) (tOfE (eOp gGt fa fb)) := dt_cmp op_gt od_cmp A B (nomark _)
theorem dt_ge (A : DE X G W a ta fa) (B : DE X G W b tb fb) : DT X G W (.Compare a [.GtE] [b] pos) (tTest (tOp (rI0 fun i j => .bl (decide (j ≤ i))) ta tb)) (tOfE (eOp gGe fa fb)) := dt_cmp op_ge od_cmp A B (nomark _)
theorem dt_eq {k : Nat} (hK : X.K = G.K) (hr : Room k X.A) (A : DE X G W a ta fa) (B : DE X G W b tb fb) : DT X G W (.Compare a [.Eq] [b] pos) (tTest (tOp (rEqD G.K) ta tb)) (tOfE (eOp gEq fa fb)) := dt_cmp (by rw [← hK]; exact op_eqD (by have := units_of hr; omega)) od_eq A B (nomark _)
theorem dt_ne {k : Nat} (hK : X.K = G.K) (hr : Room k X.A) (A : DE X G W a ta fa) (B : DE X G W b tb fb) : DT X G W (.Compare a [.NotEq] [b] pos) (tTest (tOp (rNeD G.K) ta tb)) (tOfE (eOp gNe fa fb)) := dt_cmp (by rw [← hK]; exact op_neD (by have := units_of hr; omega)) od_ne A B (nomark _)
theorem dt_in {k : Nat} (hK : X.K = G.K) (hr : Room k X.A) (A : DE X G W a ta fa) (B : DE X G W b tb fb) (hm : behindInMarks .In b = false := by rfl) : DT X G W (.Compare a [.In] [b] pos) (tTest (tOp (rInD G.K) ta tb)) (tOfE (eOp (gIn false) fa fb)) := dt_cmp (by rw [← hK]; exact op_inD (units_of hr)) od_in A B hm
theorem dt_notIn {k : Nat} (hK : X.K = G.K) (hr : Room k X.A) (A : DE X G W a ta fa) (B : DE X G W b tb fb) (hm : behindInMarks .NotIn b = false := by rfl) : DT X G W (.Compare a [.NotIn] [b] pos) (tTest (tOp (rNotInD G.K) ta tb)) (tOfE (eOp (gIn true) fa fb)) := dt_cmp (by rw [← hK]; exact op_notInD (units_of hr)) od_notIn A B hm
theorem dt_isN (A : DE X G W a ta fa) (B : DE X G W b tb fb) : DT X G W (.Compare a [.Is] [b] pos) (tTest (tOp (fun x y H Q => y = .non ∧ Q (.bl (decide (x = .non))) H) ta tb)) (tOfE (eOp (gIsN false) fa fb)) := dt_cmp op_isN od_isN A B (nomark _)
theorem dt_notN (A : DE X G W a ta fa) (B : DE X G W b tb fb) : DT X G W (.Compare a [.IsNot] [b] pos) (tTest (tOp (fun x y H Q => y = .non ∧ Q (.bl (!decide (x = .non))) H) ta tb)) (tOfE (eOp (gIsN true) fa fb)) := dt_cmp op_notN od_notN A B (nomark _)
/-- an expression whose value is a bool -/
theorem dt_val (A : DE X G W a ta fa) (he : ∀ whole, isTrue a X.env whole = (do let v ← whole; standAt a.pos; holding [v] (truthy v)) := by intro _; rfl) : DT X G W a (tB ta) (tOfE fa) := ⟨pt_val A.pe he, ok_tB A.ok⟩
/-- truth of any plain value -/
def gTru : D → Option Bool
  | .non => some false
  | .bl b => some b
  | .int i => some (i != 0)
  | .str y => if y.length ≤ LIM then some ((y.length : Int) != 0) else none
  | .lst ds => some !ds.isEmpty
  | .rol ds => some !ds.isEmpty
  | .tup ds => some !ds.isEmpty
  | _ => none
def eTru (f : Ev) : Sl → Out Bool := fun ρ => (f ρ).bind fun r ρ1 => match look r ρ1 with
  | some d => (match gTru d with | some b => .ok b ρ1 | none => .stuck)
  | none => .stuck
theorem RepDs.emp {H : Hp} {O : List Addr} {ds : List D} {xs : List V} (h : RepDs G H O ds xs) : ds.isEmpty = xs.isEmpty := by
  have := h.length
  cases ds <;> cases xs <;> first | rfl | (simp at this; done)
theorem tru_of {H : Hp} {O : List Addr} {d : D} {v : V} {k : Bool} (h : RepP G H O d v) (e : gTru d = some k) : TruV G.K v H k := by
  cases d with
  | non => cases h; cases e; rfl
  | bl b => cases h; cases e; rfl
  | int i => cases h; cases e; rfl
  | str y =>
    cases h
    have e' : (if y.length ≤ LIM then some ((y.length : Int) != 0) else none) = some k := e
    split at e'
    · rename_i hc
      cases e'
      exact ⟨lim_le hc, rfl⟩
    · cases e'
  | tup ds => obtain ⟨a, xs, ea, h1, h2⟩ := h; subst ea; cases e; exact .inr (.inl ⟨xs, sqT_of h1, by rw [h2.emp]⟩)
  | lst ds => obtain ⟨a, xs, ea, h1, h2⟩ := h; subst ea; cases e; exact .inl ⟨xs, .of h1, by rw [h2.emp]⟩
  | rol ds => obtain ⟨a, xs, ea, h1, h2⟩ := h; subst ea; cases e; exact .inl ⟨xs, sqL_of h1, by rw [h2.emp]⟩
  | obj _ _ _ => cases e
  | dct _ _ => cases e
  | xd _ _ => cases e
  | raw _ => cases e
  | kls _ => cases e
def tTru (K : PySem.W.Frag) (ta : TE) : TT := fun σ H Q => ta σ H fun x H' => ∃ k, TruV K x H' k ∧ Q k H'
theorem ok_tru (A : EvOk G W ta fa) : TtOk G W (tTru G.K ta) (eTru fa) := by
  intro σ H ρ T Q sr p
  refine A σ H ρ T _ sr ((Post.bind p).imp fun r ρ1 p1 => ?_)
  intro x H1 sr1 a1
  cases e1 : look r ρ1 with
  | none => simp only [e1] at p1; exact p1.elim
  | some d =>
    cases e2 : gTru d with
    | none => simp only [e1, e2] at p1; exact p1.elim
    | some k =>
      simp only [e1, e2] at p1
      obtain ⟨O, h⟩ := sr1.h
      exact ⟨k, tru_of (sr1.lookP h a1 (fun s e => by subst e; exact List.mem_cons_self) e1) e2, p1 H1 sr1.pop⟩
theorem dt_tru (hK : X.K = G.K) (A : DE X G W a ta fa) (he : ∀ whole, isTrue a X.env whole = (do let v ← whole; standAt a.pos; holding [v] (truthy v)) := by intro _; rfl) : DT X G W a (tTru G.K ta) (eTru fa) := ⟨by have := pt_truth A.pe he; rw [hK] at this; exact this, ok_tru A.ok⟩

/-! ### and, or, not -/
structure DW (X : Cx) (G : Gm) (W : WX) (e : Expr) (t : TT) (f : Sl → Out Bool) : Prop where
  pw : PW X e t
  ok : TtOk G W t f
variable {t1 t2 : TT} {p1 p2 : Sl → Out Bool} {rest : List Expr}
theorem DW.dt (A : DW X G W a t1 p1) : DT X G W a t1 p1 := ⟨A.pw.pt, A.ok⟩
def eAnd (p q : Sl → Out Bool) : Sl → Out Bool := fun ρ => (p ρ).bind fun b ρ1 => if b then q ρ1 else .ok false ρ1
def eOr (p q : Sl → Out Bool) : Sl → Out Bool := fun ρ => (p ρ).bind fun b ρ1 => if b then .ok true ρ1 else q ρ1
def eNot (p : Sl → Out Bool) : Sl → Out Bool := fun ρ => (p ρ).bind fun b ρ1 => .ok (!b) ρ1
theorem ok_and (A : TtOk G W t1 p1) (B : TtOk G W t2 p2) : TtOk G W (tAnd t1 t2) (eAnd p1 p2) := by
  intro σ H ρ T Q sr p
  refine A σ H ρ T _ sr ((Post.bind p).imp fun k ρ1 q H1 sr1 => ?_)
  cases k with
  | true => exact iteT (B σ H1 ρ1 T Q sr1 q)
  | false => exact iteF (q H1 sr1)
theorem ok_or (A : TtOk G W t1 p1) (B : TtOk G W t2 p2) : TtOk G W (tOr t1 t2) (eOr p1 p2) := by
  intro σ H ρ T Q sr p
  refine A σ H ρ T _ sr ((Post.bind p).imp fun k ρ1 q H1 sr1 => ?_)
  cases k with
  | true => exact iteT (q H1 sr1)
  | false => exact iteF (B σ H1 ρ1 T Q sr1 q)
theorem ok_not (A : TtOk G W t1 p1) : TtOk G W (tNot t1) (eNot p1) := by
  intro σ H ρ T Q sr p
  exact A σ H ρ T _ sr ((Post.bind p).imp fun k ρ1 q H1 sr1 => q H1 sr1)
theorem dw_and1 (A : DT X G W a t1 p1) : DW X G W (.BoolOp .And [a] pos) t1 p1 := ⟨pw_and1 A.pt, A.ok⟩
theorem dw_or1 (A : DT X G W a t1 p1) : DW X G W (.BoolOp .Or [a] pos) t1 p1 := ⟨pw_or1 A.pt, A.ok⟩
theorem dw_and (A : DT X G W a t1 p1) (B : DW X G W (.BoolOp .And (b :: rest) pos) t2 p2) : DW X G W (.BoolOp .And (a :: b :: rest) pos) (tAnd t1 t2) (eAnd p1 p2) := ⟨pw_and A.pt B.pw, ok_and A.ok B.ok⟩
theorem dw_or (A : DT X G W a t1 p1) (B : DW X G W (.BoolOp .Or (b :: rest) pos) t2 p2) : DW X G W (.BoolOp .Or (a :: b :: rest) pos) (tOr t1 t2) (eOr p1 p2) := ⟨pw_or A.pt B.pw, ok_or A.ok B.ok⟩
theorem dt_not (A : DT X G W a t1 p1) : DT X G W (.UnaryOp .Not a pos) (tNot t1) (eNot p1) := ⟨pt_not A.pt, ok_not A.ok⟩
/-- as values, all but the last a bool -/
def eAndV (f g : Ev) : Ev := fun ρ => (f ρ).bind fun r ρ1 => match r with
  | .v (.sh (.bl b)) => if b then g ρ1 else .ok (.v (.sh (.bl false))) ρ1
  | _ => .stuck
def eOrV (f g : Ev) : Ev := fun ρ => (f ρ).bind fun r ρ1 => match r with
  | .v (.sh (.bl b)) => if b then .ok (.v (.sh (.bl true))) ρ1 else g ρ1
  | _ => .stuck
def eNotV (f : Ev) : Ev := fun ρ => (f ρ).bind fun r ρ1 => match r with
  | .v (.sh (.bl b)) => .ok (.v (.sh (.bl (!b)))) ρ1
  | _ => .stuck
theorem SR.bl {σ : L2.St} {ρ : Sl} {T : Hd} {H : Hp} {v : V} {k : Bool} (sr : SR G σ ρ ((v, .sh (.bl k)) :: T) H) : v = .bl k := by
  obtain ⟨O, ⟨o1, o2, eo, h1, h2⟩, nd⟩ := sr.pull
  exact h1.2
theorem SR.scal {σ : L2.St} {ρ : Sl} {T : Hd} {H : Hp} {d : D} {v : V} (sr : SR G σ ρ T H) (h : ∀ O, RepD G H O d v) : SR G σ ρ ((v, .sh d) :: T) H := sr.push (sr.h.add0 h)
theorem ok_andV (A : EvOk G W ta fa) (B : EvOk G W tb fb) : EvOk G W (tAndV ta tb) (eAndV fa fb) := by
  intro σ H ρ T Q sr p
  refine A σ H ρ T _ sr ((Post.bind p).imp fun r ρ1 q x H1 sr1 a1 => ?_)
  cases r with
  | r i => exact q.elim
  | v s =>
    cases s with
    | sh d =>
      cases d with
      | bl k =>
        refine ⟨k, sr1.bl, ?_⟩
        cases k with
        | true => exact iteT (B σ H1 ρ1 T Q sr1.pop q)
        | false => exact iteF (q _ H1 (sr1.pop.scal fun _ => rfl) trivial)
      | _ => exact q.elim
    | _ => exact q.elim
theorem ok_orV (A : EvOk G W ta fa) (B : EvOk G W tb fb) : EvOk G W (tOrV ta tb) (eOrV fa fb) := by
  intro σ H ρ T Q sr p
  refine A σ H ρ T _ sr ((Post.bind p).imp fun r ρ1 q x H1 sr1 a1 => ?_)
  cases r with
  | r i => exact q.elim
  | v s =>
    cases s with
    | sh d =>
      cases d with
      | bl k =>
        refine ⟨k, sr1.bl, ?_⟩
        cases k with
        | true => exact iteT (q _ H1 (sr1.pop.scal fun _ => rfl) trivial)
        | false => exact iteF (B σ H1 ρ1 T Q sr1.pop q)
      | _ => exact q.elim
    | _ => exact q.elim
theorem ok_notV (A : EvOk G W ta fa) : EvOk G W (tNotV ta) (eNotV fa) := by
  intro σ H ρ T Q sr p
  refine A σ H ρ T _ sr ((Post.bind p).imp fun r ρ1 q x H1 sr1 a1 => ?_)
  cases r with
  | r i => exact q.elim
  | v s =>
    cases s with
    | sh d =>
      cases d with
      | bl k => exact ⟨k, sr1.bl, q _ H1 (sr1.pop.scal fun _ => rfl) trivial⟩
      | _ => exact q.elim
    | _ => exact q.elim
theorem de_one {op : BoolOp} (A : DE X G W a ta fa) : DE X G W (.BoolOp op [a] pos) ta fa := ⟨pe_one A.pe, A.ok⟩
theorem de_and (A : DE X G W a ta fa) (B : DE X G W (.BoolOp .And (b :: rest) pos) tb fb) : DE X G W (.BoolOp .And (a :: b :: rest) pos) (tAndV ta tb) (eAndV fa fb) := ⟨pe_and A.pe B.pe, ok_andV A.ok B.ok⟩
theorem de_or (A : DE X G W a ta fa) (B : DE X G W (.BoolOp .Or (b :: rest) pos) tb fb) : DE X G W (.BoolOp .Or (a :: b :: rest) pos) (tOrV ta tb) (eOrV fa fb) := ⟨pe_or A.pe B.pe, ok_orV A.ok B.ok⟩
theorem de_not (A : DE X G W a ta fa) : DE X G W (.UnaryOp .Not a pos) (tNotV ta) (eNotV fa) := ⟨pe_not A.pe, ok_notV A.ok⟩
/-- a if c else b -/
def eIf (p : Sl → Out Bool) (f g : Ev) : Ev := fun ρ => (p ρ).bind fun k ρ1 => if k then f ρ1 else g ρ1
theorem ok_if (C : TtOk G W t1 p1) (A : EvOk G W ta fa) (B : EvOk G W tb fb) : EvOk G W (tIf t1 ta tb) (eIf p1 fa fb) := by
  intro σ H ρ T Q sr p
  refine C σ H ρ T _ sr ((Post.bind p).imp fun k ρ1 q H1 sr1 => ?_)
  cases k with
  | true => exact iteT (A σ H1 ρ1 T Q sr1 q)
  | false => exact iteF (B σ H1 ρ1 T Q sr1 q)
theorem de_if (C : DT X G W c t1 p1) (A : DE X G W a ta fa) (B : DE X G W b tb fb) : DE X G W (.IfExp c a b pos) (tIf t1 ta tb) (eIf p1 fa fb) := ⟨pe_ifExp C.pt A.pe B.pe, ok_if C.ok A.ok B.ok⟩
end
end Sep

/-! SepF: arguments, displays, chains, slices, calls of built-ins. -/
namespace Sep
open PySem L2

section
variable {G : Gm} {W : WX} {σ : L2.St} {ρ ρ' : Sl} {T L : Hd} {H : Hp} {O : List Addr}
theorem SR.take1 {r : R} {v : V} {d : D} (sr : SR G σ ρ ((v, r.slot) :: T) H) (a : At σ r v) (e : cons r ρ = .ok d ρ') : SR G σ ρ' ((v, .sh d) :: T) H := by
  obtain ⟨d', ρ2, h, _, e2⟩ := SR.take (W := fun _ _ _ _ => True) (P := fun _ _ => True) sr a (by rw [e]; trivial)
  rw [e] at e2
  cases e2
  exact h
theorem cons_or (r : R) (ρ : Sl) : (∃ d ρ', cons r ρ = .ok d ρ') ∨ cons r ρ = .stuck := by
  unfold cons
  cases r with
  | v s =>
    simp only
    cases s.fr with
    | none => exact .inr rfl
    | some d => exact .inl ⟨d, ρ, rfl⟩
  | r i =>
    simp only
    cases ρ[i]? with
    | none => exact .inr rfl
    | some s =>
      simp only
      cases s.fr with
      | none => exact .inr rfl
      | some d => exact .inl ⟨d, _, rfl⟩
def consAll : List R → Sl → Out (List D)
  | [], ρ => .ok [] ρ
  | r :: rs, ρ => (cons r ρ).bind fun d ρ1 => (consAll rs ρ1).bind fun ds ρ2 => .ok (d :: ds) ρ2
theorem consAll_or : ∀ (rs : List R) (ρ : Sl), (∃ ds ρ', consAll rs ρ = .ok ds ρ') ∨ consAll rs ρ = .stuck
  | [], ρ => .inl ⟨[], ρ, rfl⟩
  | r :: rs, ρ => by
    unfold consAll
    rcases cons_or r ρ with ⟨d, ρ1, e⟩ | e
    · rw [e]
      rcases consAll_or rs ρ1 with ⟨ds, ρ2, e2⟩ | e2
      · exact .inl ⟨d :: ds, ρ2, by simp only [Out.bind, e2]⟩
      · exact .inr (by simp only [Out.bind, e2])
    · rw [e]; exact .inr rfl
theorem SR.takes : ∀ {rs : List R} {vs : List V} {ρ ρ' : Sl} {ds : List D} {T : Hd}, SR G σ ρ (zipR vs rs ++ T) H → Ats σ rs vs → consAll rs ρ = .ok ds ρ' → SR G σ ρ' (vs.zip (shs ds) ++ T) H ∧ vs.length = ds.length
  | [], vs, ρ, ρ', ds, T, sr, a, e => by
    unfold consAll at e
    cases e
    cases (show vs = [] from a)
    exact ⟨sr, rfl⟩
  | r :: rs, vs, ρ, ρ', ds, T, sr, a, e => by
    unfold consAll at e
    obtain ⟨v, w, ev, a1, a2⟩ := a
    subst ev
    rcases cons_or r ρ with ⟨d, ρ1, e1⟩ | e1
    · rw [e1] at e
      rcases consAll_or rs ρ1 with ⟨ds', ρ2, e2⟩ | e2
      · simp only [Out.bind, e2] at e
        cases e
        have s1 : SR G σ ρ1 ((v, .sh d) :: (zipR w rs ++ T)) H := SR.take1 (sr : SR G σ ρ ((v, r.slot) :: (zipR w rs ++ T)) H) a1 e1
        obtain ⟨s2, hl⟩ := SR.takes (T := (v, .sh d) :: T) (s1.permT List.perm_middle.symm) a2 e2
        exact ⟨s2.permT List.perm_middle, by simp [hl]⟩
      · simp only [Out.bind, e2] at e
        cases e
    · rw [e1] at e; cases e
theorem RepL.dats : ∀ {vs : List V} {ds : List D} {os : List Addr}, vs.length = ds.length → RepL G H O (vs.zip (shs ds) ++ L) os → RepDs G H O ds vs ∧ RepL G H O L os
  | [], [], os, _, h => ⟨rfl, h⟩
  | v :: vs, d :: ds, os, hl, h => by
    obtain ⟨o1, o2, eo, h1, h2⟩ := h
    obtain ⟨r, h3⟩ := RepL.dats (vs := vs) (ds := ds) (by simpa using hl) h2
    have e1 : o1 = [] := h1.1
    subst e1
    exact ⟨⟨v, vs, rfl, h1.2, r⟩, by rw [eo]; exact h3⟩
theorem Hold.dats {vs : List V} {ds : List D} (h : Hold G H O (vs.zip (shs ds) ++ L)) (hl : vs.length = ds.length) : RepDs G H O ds vs ∧ Hold G H O L :=
  let ⟨r, h2⟩ := h.1.dats hl
  ⟨r, h2, h.2⟩
/-- arguments taken as data -/
theorem SR.datas {rs : List R} {vs : List V} {ds : List D} (sr : SR G σ ρ (zipR vs rs ++ T) H) (a : Ats σ rs vs) (e : consAll rs ρ = .ok ds ρ') : SR G σ ρ' T H ∧ ∃ O, Hold G H O (envL σ ρ' ++ T) ∧ RepDs G H O ds vs := by
  obtain ⟨s, hl⟩ := sr.takes a e
  obtain ⟨O, h⟩ := s.h.perm (L' := vs.zip (shs ds) ++ (envL σ ρ' ++ T)) (by
    rw [← List.append_assoc, ← List.append_assoc]
    exact List.perm_append_comm.append_right T)
  obtain ⟨r, h2⟩ := Hold.dats h hl
  exact ⟨⟨⟨O, h2⟩, s.len, s.as⟩, O, h2, r⟩
end

section
variable {X : Cx} {G : Gm} {W : WX} {a b c : Expr} {es : List Expr} {ta tb tc te : TE} {t : TA} {fa fb fc fe : Ev} {fs : Sl → Out (List R)} {pos : Pos}
def aNil : Sl → Out (List R) := fun ρ => .ok [] ρ
def aCons (f : Ev) (g : Sl → Out (List R)) : Sl → Out (List R) := fun ρ => (f ρ).bind fun r ρ1 => (g ρ1).bind fun rs ρ2 => .ok (r :: rs) ρ2
theorem ok_nil : ArOk G W tNil aNil := fun σ H ρ T Q sr p => p [] H sr rfl
theorem ok_cons (A : EvOk G W ta fa) (B : ArOk G W t fs) : ArOk G W (tCons ta t) (aCons fa fs) := by
  intro σ H ρ T Q sr p
  refine A σ H ρ T _ sr ((Post.bind p).imp fun r ρ1 p1 x H1 sr1 a1 => ?_)
  refine B σ H1 ρ1 ((x, r.slot) :: T) _ sr1 ((Post.bind p1).more.imp fun rs ρ2 p2 vs H2 sr2 a2 => ?_)
  exact p2 (x :: vs) H2 (sr2.permT List.perm_middle) ⟨x, vs, rfl, a1, a2⟩
theorem da_nil : DA X G W [] tNil aNil := ⟨pa_nil, ok_nil⟩
theorem da_cons (A : DE X G W a ta fa) (B : DA X G W es t fs) (hs : starEach (a :: es) X.env = (false, eval a X.env) :: starEach es X.env := by rfl) : DA X G W (a :: es) (tCons ta t) (aCons fa fs) := ⟨pa_cons A.pe B.pa hs, ok_cons A.ok B.ok⟩

/-! ### displays -/
def eTup (fs : Sl → Out (List R)) : Ev := fun ρ => (fs ρ).bind fun rs ρ1 => (consAll rs ρ1).bind fun ds ρ2 => if ds.length ≤ LIM then .ok (.v (.sh (.tup ds))) ρ2 else .stuck
def eLst (fs : Sl → Out (List R)) : Ev := fun ρ => (fs ρ).bind fun rs ρ1 => (consAll rs ρ1).bind fun ds ρ2 => if ds.length ≤ LIM then .ok (.v (.lst (shs ds))) ρ2 else .stuck
theorem ok_tup (A : ArOk G W t fs) : EvOk G W (tTup t) (eTup fs) := by
  intro σ H ρ T Q sr p
  refine A σ H ρ T _ sr ((Post.bind p).imp fun rs ρ1 p1 vs H1 sr1 a1 => ?_)
  rcases consAll_or rs ρ1 with ⟨ds, ρ2, e⟩ | e
  · simp only [e, Out.bind] at p1
    obtain ⟨sr2, O, h, r⟩ := sr1.datas a1 e
    split at p1
    · rename_i hz
      refine ⟨by rw [r.length]; exact lim_le hz, fun q hq => p1 _ _ (sr2.push (h.newT hq r)) trivial⟩
    · exact p1.elim
  · simp only [e, Out.bind] at p1; exact p1.elim
theorem ok_lst (A : ArOk G W t fs) : EvOk G W (tLst t) (eLst fs) := by
  intro σ H ρ T Q sr p
  refine A σ H ρ T _ sr ((Post.bind p).imp fun rs ρ1 p1 vs H1 sr1 a1 => ?_)
  rcases consAll_or rs ρ1 with ⟨ds, ρ2, e⟩ | e
  · simp only [e, Out.bind] at p1
    obtain ⟨sr2, O, h, r⟩ := sr1.datas a1 e
    split at p1
    · rename_i hz
      refine ⟨by rw [r.length]; exact lim_le hz, fun q hq => p1 _ _ (sr2.push (h.newL hq r.sh)) trivial⟩
    · exact p1.elim
  · simp only [e, Out.bind] at p1; exact p1.elim
theorem de_tup {x1} (A : DA X G W es t fs) : DE X G W (.Tuple es x1 pos) (tTup t) (eTup fs) := ⟨pe_tup A.pa, ok_tup A.ok⟩
theorem de_lst (A : DA X G W es t fs) : DE X G W (.List es pos) (tLst t) (eLst fs) := ⟨pe_lst A.pa, ok_lst A.ok⟩

/-! ### a < b < c -/
def eChain (g g' : D → D → Option Slot) (fa fb fc : Ev) : Ev := fun ρ => (fa ρ).bind fun r1 ρ1 => (fb ρ1).bind fun r2 ρ2 => match look r1 ρ2, look r2 ρ2 with
  | some d1, some d2 => (match g d1 d2 with
    | some (.sh (.bl k)) => if k then (fc ρ2).bind fun r3 ρ3 => (match look r2 ρ3, look r3 ρ3 with
        | some d2, some d3 => (match g' d2 d3 with | some s => .ok (.v s) ρ3 | none => .stuck)
        | _, _ => .stuck)
      else .ok (.v (.sh (.bl false))) ρ2
    | _ => .stuck)
  | _, _ => .stuck
theorem ok_chain {r r' : R2} {g g' : D → D → Option Slot} (ho : OpD G r g) (ho' : OpD G r' g') (A : EvOk G W ta fa) (B : EvOk G W tb fb) (C : EvOk G W tc fc) : EvOk G W (tChain r r' ta tb tc) (eChain g g' fa fb fc) := by
  intro σ H ρ T Q sr p
  refine A σ H ρ T _ sr ((Post.bind p).imp fun r1 ρ1 p1 x H1 sr1 a1 => ?_)
  refine B σ H1 ρ1 ((x, r1.slot) :: T) _ sr1 ((Post.bind p1).more.imp fun r2 ρ2 p2 y H2 sr2 a2 => ?_)
  cases e1 : look r1 ρ2 with
  | none => simp only [e1] at p2; exact p2.elim
  | some d1 =>
    cases e2 : look r2 ρ2 with
    | none => simp only [e1, e2] at p2; exact p2.elim
    | some d2 =>
      simp only [e1, e2] at p2
      cases e3 : g d1 d2 with
      | none => simp only [e3] at p2; exact p2.elim
      | some s =>
        simp only [e3] at p2
        cases s with
        | sh d =>
          cases d with
          | bl k =>
            obtain ⟨O, h⟩ := sr2.h
            refine ho H2 O _ x y d1 d2 _ _ h (sr2.lookP h a1 (fun s e => ?_) e1) (sr2.lookP h a2 (fun s e => ?_) e2) e3 fun v H3 hs => ?_
            · subst e; exact List.mem_cons_of_mem _ List.mem_cons_self
            · subst e; exact List.mem_cons_self
            · have sr3 := sr2.push hs
              refine ⟨k, sr3.bl, ?_⟩
              cases k with
              | false => exact iteF (p2 _ H3 (sr3.pop.pop.pop.scal fun _ => rfl) trivial)
              | true =>
                refine iteT (C σ H3 ρ2 ((y, r2.slot) :: (x, r1.slot) :: T) _ sr3.pop ((Post.bind p2).more.more.imp fun r3 ρ3 p3 z H4 sr4 a4 => ?_))
                cases e4 : look r2 ρ3 with
                | none => simp only [e4] at p3; exact p3.elim
                | some d2' =>
                  cases e5 : look r3 ρ3 with
                  | none => simp only [e4, e5] at p3; exact p3.elim
                  | some d3 =>
                    simp only [e4, e5] at p3
                    cases e6 : g' d2' d3 with
                    | none => simp only [e6] at p3; exact p3.elim
                    | some s' =>
                      simp only [e6] at p3
                      obtain ⟨O', h'⟩ := sr4.h
                      refine ho' H4 O' _ y z d2' d3 s' Q h' (sr4.lookP h' a2 (fun s e => ?_) e4) (sr4.lookP h' a4 (fun s e => ?_) e5) e6 fun u H5 hs' => ?_
                      · subst e; exact List.mem_cons_of_mem _ List.mem_cons_self
                      · subst e; exact List.mem_cons_self
                      · exact p3 u H5 (sr4.push hs').pop2.pop2.pop2 trivial
          | _ => exact p2.elim
        | _ => exact p2.elim
theorem de_chain {op op' : CmpOp} {r r' : R2} {g g' : D → D → Option Slot} (hop : OpR X (compareOp op) r) (hop' : OpR X (compareOp op') r') (ho : OpD G r g) (ho' : OpD G r' g') (A : DE X G W a ta fa) (B : DE X G W b tb fb) (C : DE X G W c tc fc)
    (hm : lastMarks [op, op'] [b, c] = false := by with_unfolding_all rfl) : DE X G W (.Compare a [op, op'] [b, c] pos) (tChain r r' ta tb tc) (eChain g g' fa fb fc) := ⟨pe_chain hop hop' A.pe B.pe C.pe hm, ok_chain ho ho' A.ok B.ok C.ok⟩
theorem dt_chain {op op' : CmpOp} {r r' : R2} {g g' : D → D → Option Slot} (hop : OpR X (compareOp op) r) (hop' : OpR X (compareOp op') r') (ho : OpD G r g) (ho' : OpD G r' g') (A : DE X G W a ta fa) (B : DE X G W b tb fb) (C : DE X G W c tc fc)
    (hm : lastMarks [op, op'] [b, c] = false := by with_unfolding_all rfl) : DT X G W (.Compare a [op, op'] [b, c] pos) (tTest (tChain r r' ta tb tc)) (tOfE (eChain g g' fa fb fc)) := ⟨pt_chain hop hop' A.pe B.pe C.pe hm, ok_tTest (ok_chain ho ho' A.ok B.ok C.ok)⟩

/-! ### -a -/
def eUn (g : D → Option Slot) (fa : Ev) : Ev := fun ρ => (fa ρ).bind fun r ρ1 => match look r ρ1 with
  | some d => (match g d with | some s => .ok (.v s) ρ1 | none => .stuck)
  | none => .stuck
def gNeg : D → Option Slot := fun d => match d with | .int i => some (.sh (.int (-i))) | _ => none
theorem ok_neg (A : EvOk G W ta fa) : EvOk G W (tUn (rU fun i => .int (-i)) ta) (eUn gNeg fa) := by
  intro σ H ρ T Q sr p
  refine A σ H ρ T _ sr ((Post.bind p).imp fun r ρ1 p1 x H1 sr1 a1 => ?_)
  cases e1 : look r ρ1 with
  | none => simp only [e1] at p1; exact p1.elim
  | some d =>
    simp only [e1] at p1
    cases d <;> first | (exact p1.elim) | skip
    obtain ⟨O, h⟩ := sr1.h
    refine ⟨_, sr1.lookP h a1 (fun s e => by subst e; exact List.mem_cons_self) e1, ?_⟩
    exact p1 _ H1 (sr1.pop.scal fun _ => rfl) trivial
theorem de_neg (A : DE X G W a ta fa) : DE X G W (.UnaryOp .USub a pos) (tUn (rU fun i => .int (-i)) ta) (eUn gNeg fa) := ⟨pe_un un_neg A.pe, ok_neg A.ok⟩

/-! ### slices -/
def PoOk (G : Gm) (W : WX) (t : TO) (f : Sl → Out (Option Int)) : Prop := ∀ σ H ρ T Q, SR G σ ρ T H → Post G W σ T (fun o ρ => ∀ H', SR G σ ρ T H' → Q o H') (f ρ) → t σ H Q
structure DO (X : Cx) (G : Gm) (W : WX) (e : Option Expr) (t : TO) (f : Sl → Out (Option Int)) : Prop where
  po : PO X e t
  ok : PoOk G W t f
def oNone : Sl → Out (Option Int) := fun ρ => .ok none ρ
def oSome (f : Ev) : Sl → Out (Option Int) := fun ρ => (f ρ).bind fun r ρ1 => match look r ρ1 with
  | some (.int i) => .ok (some i) ρ1
  | _ => .stuck
theorem do_none : DO X G W none tNoPart oNone := ⟨po_none, fun σ H ρ T Q sr p => p H sr⟩
theorem do_some (A : DE X G W a ta fa) : DO X G W (some a) (tPart ta) (oSome fa) := by
  refine ⟨po_some A.pe, fun σ H ρ T Q sr p => ?_⟩
  refine A.ok σ H ρ T _ sr ((Post.bind p).imp fun r ρ1 p1 x H1 sr1 a1 => ?_)
  cases e1 : look r ρ1 with
  | none => simp only [e1] at p1; exact p1.elim
  | some d =>
    simp only [e1] at p1
    cases d <;> first | (exact p1.elim) | skip
    obtain ⟨O, h⟩ := sr1.h
    exact ⟨_, sr1.lookP h a1 (fun s e => by subst e; exact List.mem_cons_self) e1, p1 H1 sr1.pop⟩
def cutD {α : Type} (xs : List α) (lo hi : Option Int) : List α := (xs.drop (HT.sIx xs.length 0 lo)).take (HT.sIx xs.length xs.length hi - HT.sIx xs.length 0 lo)
theorem RepDs.cut {H : Hp} {O : List Addr} {ds : List D} {xs : List V} (h : RepDs G H O ds xs) (lo hi : Option Int) : RepDs G H O (cutD ds lo hi) (cutV xs lo hi) := by
  unfold cutD cutV
  rw [h.length]
  exact h.drop.take
def gSl : D → Option Int → Option Int → Option Slot := fun d lo hi => match d with
  | .lst ds => some (.lst (shs (cutD ds lo hi)))
  | .rol ds => some (.lst (shs (cutD ds lo hi)))
  | .tup ds => some (.sh (.tup (cutD ds lo hi)))
  | _ => none
def rSl (K : PySem.W.Frag) : V → Option Int → Option Int → Hp → VK → Prop := fun x lo hi H Q => rSlL K x lo hi H Q ∨ rSlA K x lo hi H Q
theorem sl_seq : SlR X (rSl X.K) := sl_list.or sl_tupA
theorem sIx_all {n : Nat} {ds : List D} {lo hi : Option Int} (h1 : HT.sIx ds.length 0 lo = 0) (h2 : HT.sIx ds.length ds.length hi = ds.length) : cutD ds lo hi = ds := by
  unfold cutD
  rw [h1, h2, List.drop_zero, Nat.sub_zero, List.take_length]
def eSl (fe : Ev) (fl fh : Sl → Out (Option Int)) : Ev := fun ρ => (fe ρ).bind fun r ρ1 => (fl ρ1).bind fun lo ρ2 => (fh ρ2).bind fun hi ρ3 => match look r ρ3 with
  | some d => (match gSl d lo hi with | some s => .ok (.v s) ρ3 | none => .stuck)
  | none => .stuck
theorem ok_sl {tl th : TO} {fl fh : Sl → Out (Option Int)} (A : EvOk G W te fe) (B : PoOk G W tl fl) (C : PoOk G W th fh) : EvOk G W (tSl (rSl G.K) te tl th) (eSl fe fl fh) := by
  intro σ H ρ T Q sr p
  refine A σ H ρ T _ sr ((Post.bind p).imp fun r ρ1 p1 x H1 sr1 a1 => ?_)
  refine B σ H1 ρ1 ((x, r.slot) :: T) _ sr1 ((Post.bind p1).more.imp fun lo ρ2 p2 H2 sr2 => ?_)
  refine C σ H2 ρ2 ((x, r.slot) :: T) _ sr2 ((Post.bind p2).more.imp fun hi ρ3 p3 H3 sr3 => ?_)
  cases e1 : look r ρ3 with
  | none => simp only [e1] at p3; exact p3.elim
  | some d =>
    simp only [e1] at p3
    obtain ⟨O, h⟩ := sr3.h
    have rp := sr3.lookP h a1 (fun s e => by subst e; exact List.mem_cons_self) e1
    cases d <;> first | (exact p3.elim) | skip
    · rename_i ds
      obtain ⟨q, xs, ea, h1, h2⟩ := rp
      refine .inr ⟨q, xs, ea, sqT_of h1, fun z => ?_, fun _ p hp => ?_⟩
      · rw [h2.length] at z
        have e := sIx_all (n := 0) z.1 z.2
        exact p3 _ H3 (sr3.push (h.add (d := .tup (cutD ds lo hi)) (by rw [e]; exact ⟨q, xs, rfl, h1, h2⟩))).pop2 trivial
      · exact p3 _ _ (sr3.push (h.newT hp (h2.cut lo hi))).pop2 trivial
    · obtain ⟨q, xs, ea, h1, h2⟩ := rp
      exact .inl ⟨q, xs, ea, .of h1, fun p hp => p3 _ _ (sr3.push (h.newL hp (h2.cut lo hi).sh)).pop2 trivial⟩
    · obtain ⟨q, xs, ea, h1, h2⟩ := rp
      exact .inl ⟨q, xs, ea, sqL_of h1, fun p hp => p3 _ _ (sr3.push (h.newL hp (h2.cut lo hi).sh)).pop2 trivial⟩
theorem de_sl {tl th : TO} {fl fh : Sl → Out (Option Int)} {lo hi : Option Expr} {p2 : Pos} (hK : X.K = G.K) (A : DE X G W a ta fa) (B : DO X G W lo tl fl) (C : DO X G W hi th fh) : DE X G W (.Subscript a (.Slice lo hi none p2) pos) (tSl (rSl G.K) ta tl th) (eSl fa fl fh) :=
  ⟨pe_slice (by rw [← hK]; exact sl_seq) A.pe B.po C.po, ok_sl A.ok B.ok C.ok⟩

/-! ### calls of built-ins by values -/
def RepPs (G : Gm) (H : Hp) (O : List Addr) : List D → List V → Prop
  | [], vs => vs = []
  | d :: ds, vs => ∃ v r, vs = v :: r ∧ RepP G H O d v ∧ RepPs G H O ds r
def CallD (G : Gm) (r : List V → Hp → VK → Prop) (g : List D → Option Slot) : Prop := ∀ H O L vs ds s Q, Hold G H O L → RepPs G H O ds vs → g ds = some s → (∀ v H', Holds G H' ((v, s) :: L) → Q v H') → r vs H Q
def looks : List R → Sl → Option (List D)
  | [], _ => some []
  | r :: rs, ρ => match look r ρ, looks rs ρ with
    | some d, some ds => some (d :: ds)
    | _, _ => none
theorem SR.looks {σ : L2.St} {ρ : Sl} {T : Hd} {H : Hp} {O : List Addr} (sr : SR G σ ρ T H) (h : Hold G H O (envL σ ρ ++ T)) : ∀ {rs : List R} {vs : List V} {ds : List D}, Ats σ rs vs → (∀ x ∈ zipR vs rs, x ∈ T) → Sep.looks rs ρ = some ds → RepPs G H O ds vs
  | [], vs, ds, a, hm, e => by
    unfold Sep.looks at e
    cases e
    exact a
  | r :: rs, vs, ds, a, hm, e => by
    unfold Sep.looks at e
    obtain ⟨v, w, ev, a1, a2⟩ := a
    subst ev
    cases e1 : look r ρ with
    | none => rw [e1] at e; cases e
    | some d =>
      cases e2 : Sep.looks rs ρ with
      | none => rw [e1, e2] at e; cases e
      | some ds' =>
        rw [e1, e2] at e
        cases e
        exact ⟨v, w, rfl, sr.lookP h a1 (fun s e => by subst e; exact hm _ List.mem_cons_self) e1, SR.looks sr h a2 (fun x hx => hm x (List.mem_cons_of_mem _ hx)) e2⟩
def eCB (g : List D → Option Slot) (fs : Sl → Out (List R)) : Ev := fun ρ => (fs ρ).bind fun rs ρ1 => match looks rs ρ1 with
  | some ds => (match g ds with | some s => .ok (.v s) ρ1 | none => .stuck)
  | none => .stuck
theorem drops {σ : L2.St} {ρ : Sl} {T : Hd} {H : Hp} {x : V × Slot} : ∀ {L : Hd}, SR G σ ρ (x :: (L ++ T)) H → SR G σ ρ (x :: T) H
  | [], h => h
  | y :: L, h => drops (L := L) (SR.pop2 (y := x) (x := y) h)
theorem ok_cb {r : List V → Hp → VK → Prop} {g : List D → Option Slot} (ho : CallD G r g) (A : ArOk G W t fs) : EvOk G W (tCB r t) (eCB g fs) := by
  intro σ H ρ T Q sr p
  refine A σ H ρ T _ sr ((Post.bind p).imp fun rs ρ1 p1 vs H1 sr1 a1 => ?_)
  cases e1 : looks rs ρ1 with
  | none => simp only [e1] at p1; exact p1.elim
  | some ds =>
    simp only [e1] at p1
    cases e2 : g ds with
    | none => simp only [e2] at p1; exact p1.elim
    | some s =>
      simp only [e2] at p1
      obtain ⟨O, h⟩ := sr1.h
      exact ho H1 O _ vs ds s Q h (sr1.looks h a1 (fun x hx => List.mem_append_left _ hx) e1) e2 fun v H' hs => p1 v H' (drops (sr1.push hs)) trivial
theorem de_cb {x : Str} {id : String} {r : List V → Hp → VK → Prop} {g : List D → Option Slot} {p : Pos} (hc : CallR X (.builtin id) r) (ho : CallD G r g) (hg : Gl X x) (hm : X.mg x = none) (hv : bootBuiltins x = some (.builtin id)) (A : DA X G W (a :: es) t fs) (hn : x ≠ "__name__" := by decide) (hdb : (x == ("__debug__" : Str)) = false := by decide)
    (he : starEach (a :: es) X.env = (false, eval a X.env) :: starEach es X.env := by rfl) (hpl : (backTo pos (starEach es X.env)).any (·.1) = false := by rfl) : DE X G W (.Call (.Name x p) (a :: es) [] pos) (tCB r t) (eCB g fs) := ⟨pe_callB hc hg hm hv A.pa hn hdb he hpl, ok_cb ho A.ok⟩
theorem de_cty {x : Str} {Ty : String} {r : List V → Hp → VK → Prop} {g : List D → Option Slot} {p : Pos} (hc : CallR X (.type Ty) r) (ho : CallD G r g) (hg : Gl X x) (hm : X.mg x = none) (hv : bootBuiltins x = some (.type Ty)) (A : DA X G W (a :: es) t fs) (hn : x ≠ "__name__" := by decide) (hdb : (x == ("__debug__" : Str)) = false := by decide)
    (he : starEach (a :: es) X.env = (false, eval a X.env) :: starEach es X.env := by rfl) (hpl : (backTo pos (starEach es X.env)).any (·.1) = false := by rfl) : DE X G W (.Call (.Name x p) (a :: es) [] pos) (tCB r t) (eCB g fs) := ⟨pe_callTy hc hg hm hv A.pa hn hdb he hpl, ok_cb ho A.ok⟩

theorem RepPs.one {H : Hp} {O : List Addr} {d : D} {vs : List V} (h : RepPs G H O [d] vs) : ∃ v, vs = [v] ∧ RepP G H O d v := by
  obtain ⟨v, r, e, h1, h2⟩ := h
  cases h2
  exact ⟨v, e, h1⟩
theorem RepPs.two {H : Hp} {O : List Addr} {d d2 : D} {vs : List V} (h : RepPs G H O [d, d2] vs) : ∃ v v2, vs = [v, v2] ∧ RepP G H O d v ∧ RepP G H O d2 v2 := by
  obtain ⟨v, r, e, h1, v2, r2, e2, h2, h3⟩ := h
  cases h3
  subst e2
  exact ⟨v, v2, e, h1, h2⟩
/-- one argument -/
def g1 (g : D → Option Slot) : List D → Option Slot := fun ds => match ds with
  | [d] => g d
  | _ => none
def g2 (g : D → D → Option Slot) : List D → Option Slot := fun ds => match ds with
  | [d, d2] => g d d2
  | _ => none
theorem CallD.one {r : List V → Hp → VK → Prop} {g : D → Option Slot} (k : ∀ H O L v d s Q, Hold G H O L → RepP G H O d v → g d = some s → (∀ v H', Holds G H' ((v, s) :: L) → Q v H') → r [v] H Q) : CallD G r (g1 g) := by
  intro H O L vs ds s Q h hx e q
  rcases ds with _ | ⟨d, _ | ⟨d2, ds⟩⟩
  · cases e
  · obtain ⟨v, rfl, h1⟩ := hx.one
    exact k H O L v d s Q h h1 e q
  · cases e
theorem CallD.two {r : List V → Hp → VK → Prop} {g : D → D → Option Slot} (k : ∀ H O L v v2 d d2 s Q, Hold G H O L → RepP G H O d v → RepP G H O d2 v2 → g d d2 = some s → (∀ v H', Holds G H' ((v, s) :: L) → Q v H') → r [v, v2] H Q) : CallD G r (g2 g) := by
  intro H O L vs ds s Q h hx e q
  rcases ds with _ | ⟨d, _ | ⟨d2, _ | ⟨d3, ds⟩⟩⟩
  · cases e
  · cases e
  · obtain ⟨v, v2, rfl, h1, h2⟩ := hx.two
    exact k H O L v v2 d d2 s Q h h1 h2 e q
  · cases e
/-- len -/
def gLen : D → Option Slot := fun d => match d with
  | .lst xs => some (.sh (.int (xs.length : Nat)))
  | .rol xs => some (.sh (.int (xs.length : Nat)))
  | .tup xs => some (.sh (.int (xs.length : Nat)))
  | .str z => if z.length ≤ LIM then some (.sh (.int (z.length : Nat))) else none
  | _ => none
def rLn (K : PySem.W.Frag) : List V → Hp → VK → Prop := fun xs H Q => ∃ x n, xs = [x] ∧ LenV K x H n ∧ Q (.int n) H
theorem cd_len : CallD G (rLn G.K) (g1 gLen) := by
  refine CallD.one fun H O L v d s Q h hx e q => ?_
  cases d with
  | lst xs =>
    obtain ⟨a, ys, ea, h1, h2⟩ := hx
    subst ea; cases e
    exact ⟨_, xs.length, rfl, .inl ⟨ys, .of h1, h2.length.symm⟩, q _ _ (h.sc rfl)⟩
  | rol xs =>
    obtain ⟨a, ys, ea, h1, h2⟩ := hx
    subst ea; cases e
    exact ⟨_, xs.length, rfl, .inl ⟨ys, sqL_of h1, h2.length.symm⟩, q _ _ (h.sc rfl)⟩
  | tup xs =>
    obtain ⟨a, ys, ea, h1, h2⟩ := hx
    subst ea; cases e
    exact ⟨_, xs.length, rfl, .inr ⟨ys, sqT_of h1, h2.length.symm⟩, q _ _ (h.sc rfl)⟩
  | str z =>
    cases hx
    have e' : (if z.length ≤ LIM then some (Slot.sh (.int (z.length : Nat))) else none) = some s := e
    split at e'
    · rename_i hz
      cases e'
      exact ⟨_, z.length, rfl, ⟨lim_le hz, rfl⟩, q _ _ (h.sc rfl)⟩
    · cases e'
  | _ => cases e
theorem de_len {p : Pos} (hK : X.K = G.K) (hg : Gl X "len") (hm : X.mg "len" = none) (A : DE X G W a ta fa) (he : starEach [a] X.env = (false, eval a X.env) :: starEach [] X.env := by rfl) (hpl : (backTo pos (starEach [] X.env)).any (·.1) = false := by rfl) : DE X G W (.Call (.Name "len" p) [a] [] pos) (tCB (rLn G.K) (tCons ta tNil)) (eCB (g1 gLen) (aCons fa aNil)) :=
  de_cb (by rw [← hK]; exact call_len) cd_len hg hm PySem.boot_len (da_cons A da_nil he) (by decide) (by decide) he hpl
/-- int(x) -/
def gToInt : D → Option Slot := fun d => match d with
  | .int i => some (.sh (.int i))
  | .bl k => some (.sh (.int (if k then 1 else 0)))
  | _ => none
def rToInt : List V → Hp → VK → Prop := fun xs H Q => (∃ i, xs = [.int i] ∧ Q (.int i) H) ∨ ∃ k, xs = [.bl k] ∧ Q (.int (if k then 1 else 0)) H
theorem cd_int : CallD G rToInt (g1 gToInt) := by
  refine CallD.one fun H O L v d s Q h hx e q => ?_
  cases d with
  | int i => cases hx; cases e; exact .inl ⟨i, rfl, q _ _ (h.sc rfl)⟩
  | bl k => cases hx; cases e; exact .inr ⟨k, rfl, q _ _ (h.sc rfl)⟩
  | _ => cases e
theorem de_toInt {p : Pos} (hg : Gl X "int") (hm : X.mg "int" = none) (A : DE X G W a ta fa) (he : starEach [a] X.env = (false, eval a X.env) :: starEach [] X.env := by rfl) (hpl : (backTo pos (starEach [] X.env)).any (·.1) = false := by rfl) : DE X G W (.Call (.Name "int" p) [a] [] pos) (tCB rToInt (tCons ta tNil)) (eCB (g1 gToInt) (aCons fa aNil)) :=
  de_cty call_int1 cd_int hg hm PyProof.Rows.boot_int (da_cons A da_nil he) (by decide) (by decide) he hpl
/-- abs(x) -/
def gAbs : D → Option Slot := fun d => match d with
  | .int i => some (.sh (.int (if i < 0 then -i else i)))
  | _ => none
def rAbs : List V → Hp → VK → Prop := fun xs H Q => ∃ i, xs = [.int i] ∧ Q (.int (if i < 0 then -i else i)) H
theorem cd_abs : CallD G rAbs (g1 gAbs) := by
  refine CallD.one fun H O L v d s Q h hx e q => ?_
  cases d with
  | int i => cases hx; cases e; exact ⟨i, rfl, q _ _ (h.sc rfl)⟩
  | _ => cases e
theorem boot_abs : bootBuiltins "abs" = some (.builtin "abs") := by decide +kernel
theorem boot_max : bootBuiltins "max" = some (.builtin "max") := by decide +kernel
theorem boot_min : bootBuiltins "min" = some (.builtin "min") := by decide +kernel
theorem boot_list : bootBuiltins "list" = some (.type "list") := by decide +kernel
theorem boot_tuple : bootBuiltins "tuple" = some (.type "tuple") := by decide +kernel
theorem boot_sorted : bootBuiltins "sorted" = some (.builtin "sorted") := by decide +kernel
theorem boot_sum : bootBuiltins "sum" = some (.builtin "sum") := by decide +kernel
theorem boot_any : bootBuiltins "any" = some (.builtin "any") := by decide +kernel
theorem boot_all : bootBuiltins "all" = some (.builtin "all") := by decide +kernel
theorem boot_isi : bootBuiltins "isinstance" = some (.builtin "isinstance") := by decide +kernel
theorem de_abs {p : Pos} (hg : Gl X "abs") (hm : X.mg "abs" = none) (A : DE X G W a ta fa) (he : starEach [a] X.env = (false, eval a X.env) :: starEach [] X.env := by rfl) (hpl : (backTo pos (starEach [] X.env)).any (·.1) = false := by rfl) : DE X G W (.Call (.Name "abs" p) [a] [] pos) (tCB rAbs (tCons ta tNil)) (eCB (g1 gAbs) (aCons fa aNil)) :=
  de_cb call_abs cd_abs hg hm boot_abs (da_cons A da_nil he) (by decide) (by decide) he hpl
/-- max(a, b), min(a, b) -/
def gM2 (f : Int → Int → Int) : D → D → Option Slot := fun a b => match a, b with
  | .int i, .int j => some (.sh (.int (f i j)))
  | _, _ => none
def rM2 (f : Int → Int → Int) : List V → Hp → VK → Prop := fun xs H Q => ∃ i j, xs = [.int i, .int j] ∧ Q (.int (f i j)) H
theorem cd_m2 {f : Int → Int → Int} : CallD G (rM2 f) (g2 (gM2 f)) := by
  refine CallD.two fun H O L v v2 d d2 s Q h hx hy e q => ?_
  cases d with
  | int i =>
    cases d2 with
    | int j => cases hx; cases hy; cases e; exact ⟨i, j, rfl, q _ _ (h.sc rfl)⟩
    | _ => cases e
  | _ => cases d2 <;> cases e
abbrev mx : Int → Int → Int := fun i j => if j > i then j else i
abbrev mn : Int → Int → Int := fun i j => if j < i then j else i
theorem de_max2 {p : Pos} (hc : X.calm = true) (hg : Gl X "max") (hm : X.mg "max" = none) (A : DE X G W a ta fa) (B : DE X G W b tb fb) (he : starEach [a, b] X.env = (false, eval a X.env) :: starEach [b] X.env := by rfl) (he1 : starEach [b] X.env = (false, eval b X.env) :: starEach [] X.env := by rfl) (he2 : (backTo pos (starEach [b] X.env)).any (·.1) = false := by rfl) : DE X G W (.Call (.Name "max" p) [a, b] [] pos) (tCB (rM2 mx) (tCons ta (tCons tb tNil))) (eCB (g2 (gM2 mx)) (aCons fa (aCons fb aNil))) :=
  de_cb (call_max2 hc) cd_m2 hg hm boot_max (da_cons A (da_cons B da_nil he1) he) (by decide) (by decide) he he2
theorem de_min2 {p : Pos} (hc : X.calm = true) (hg : Gl X "min") (hm : X.mg "min" = none) (A : DE X G W a ta fa) (B : DE X G W b tb fb) (he : starEach [a, b] X.env = (false, eval a X.env) :: starEach [b] X.env := by rfl) (he1 : starEach [b] X.env = (false, eval b X.env) :: starEach [] X.env := by rfl) (he2 : (backTo pos (starEach [b] X.env)).any (·.1) = false := by rfl) : DE X G W (.Call (.Name "min" p) [a, b] [] pos) (tCB (rM2 mn) (tCons ta (tCons tb tNil))) (eCB (g2 (gM2 mn)) (aCons fa (aCons fb aNil))) :=
  de_cb (call_min2 hc) cd_m2 hg hm boot_min (da_cons A (da_cons B da_nil he1) he) (by decide) (by decide) he he2
/-- list(x), tuple(x) of a list or a tuple -/
def gToL : D → Option Slot := fun d => match d with
  | .lst xs => some (.lst (shs xs))
  | .rol xs => some (.lst (shs xs))
  | .tup xs => some (.lst (shs xs))
  | _ => none
def rToL (K : PySem.W.Frag) : List V → Hp → VK → Prop := fun xs H Q => ∃ p ys, xs = [.ref p] ∧ (SqL K H p ys ∨ SqT K H p ys) ∧ ∀ l, H l = none → Q (.ref l) (upd H l (.lst ys))
theorem cd_toL : CallD G (rToL G.K) (g1 gToL) := by
  refine CallD.one fun H O L v d s Q h hx e q => ?_
  cases d with
  | lst xs => obtain ⟨a, ys, ea, h1, h2⟩ := hx; subst ea; cases e; exact ⟨a, ys, rfl, .inl (.of h1), fun l hl => q _ _ (h.newL hl h2.sh)⟩
  | rol xs => obtain ⟨a, ys, ea, h1, h2⟩ := hx; subst ea; cases e; exact ⟨a, ys, rfl, .inl (sqL_of h1), fun l hl => q _ _ (h.newL hl h2.sh)⟩
  | tup xs => obtain ⟨a, ys, ea, h1, h2⟩ := hx; subst ea; cases e; exact ⟨a, ys, rfl, .inr (sqT_of h1), fun l hl => q _ _ (h.newL hl h2.sh)⟩
  | _ => cases e
theorem de_toL {p : Pos} (hK : X.K = G.K) (hg : Gl X "list") (hm : X.mg "list" = none) (A : DE X G W a ta fa) (he : starEach [a] X.env = (false, eval a X.env) :: starEach [] X.env := by rfl) (hpl : (backTo pos (starEach [] X.env)).any (·.1) = false := by rfl) : DE X G W (.Call (.Name "list" p) [a] [] pos) (tCB (rToL G.K) (tCons ta tNil)) (eCB (g1 gToL) (aCons fa aNil)) :=
  de_cty (by rw [← hK]; exact call_list_of) cd_toL hg hm boot_list (da_cons A da_nil he) (by decide) (by decide) he hpl
def gToT : D → Option Slot := fun d => match d with
  | .lst xs => some (.sh (.tup xs))
  | .rol xs => some (.sh (.tup xs))
  | .tup xs => some (.sh (.tup xs))
  | _ => none
def rToT (K : PySem.W.Frag) : List V → Hp → VK → Prop := fun xs H Q => ∃ p ys, xs = [.ref p] ∧ ((SqL K H p ys ∧ ∀ l, H l = none → Q (.ref l) (upd H l (.tup ys))) ∨ (SqT K H p ys ∧ Q (.ref p) H))
theorem cd_toT : CallD G (rToT G.K) (g1 gToT) := by
  refine CallD.one fun H O L v d s Q h hx e q => ?_
  cases d with
  | lst xs => obtain ⟨a, ys, ea, h1, h2⟩ := hx; subst ea; cases e; exact ⟨a, ys, rfl, .inl ⟨.of h1, fun l hl => q _ _ (h.newT hl h2)⟩⟩
  | rol xs => obtain ⟨a, ys, ea, h1, h2⟩ := hx; subst ea; cases e; exact ⟨a, ys, rfl, .inl ⟨sqL_of h1, fun l hl => q _ _ (h.newT hl h2)⟩⟩
  | tup xs => obtain ⟨a, ys, ea, h1, h2⟩ := hx; subst ea; cases e; exact ⟨a, ys, rfl, .inr ⟨sqT_of h1, q _ _ (h.add ⟨a, ys, rfl, h1, h2⟩)⟩⟩
  | _ => cases e
theorem de_toT {p : Pos} (hK : X.K = G.K) (hg : Gl X "tuple") (hm : X.mg "tuple" = none) (A : DE X G W a ta fa) (he : starEach [a] X.env = (false, eval a X.env) :: starEach [] X.env := by rfl) (hpl : (backTo pos (starEach [] X.env)).any (·.1) = false := by rfl) : DE X G W (.Call (.Name "tuple" p) [a] [] pos) (tCB (rToT G.K) (tCons ta tNil)) (eCB (g1 gToT) (aCons fa aNil)) :=
  de_cty (by rw [← hK]; exact call_tuple_of) cd_toT hg hm boot_tuple (da_cons A da_nil he) (by decide) (by decide) he hpl
/-- ints of a list -/
def intsOf : List D → Option (List Int)
  | [] => some []
  | .int i :: ds => (intsOf ds).map (i :: ·)
  | _ :: _ => none
theorem intsOf_map : ∀ ns : List Int, intsOf (ns.map D.int) = some ns
  | [] => rfl
  | n :: ns => by show (intsOf (ns.map D.int)).map (n :: ·) = _; rw [intsOf_map ns]; rfl
theorem intsOf_rep {H : Hp} {O : List Addr} : ∀ {ds : List D} {ns : List Int} {xs : List V}, RepDs G H O ds xs → intsOf ds = some ns → xs = ns.map V.int
  | [], ns, xs, h, e => by cases e; exact h
  | .int i :: ds, ns, xs, ⟨v, r, ex, h1, h2⟩, e => by
    have e' : (intsOf ds).map (i :: ·) = some ns := e
    obtain ⟨ms, e1, e2⟩ := Option.map_eq_some_iff.mp e'
    subst e2
    rw [ex, show v = V.int i from h1, intsOf_rep h2 e1]; rfl
  | .non :: _, _, _, _, e => nomatch (show none = some _ from e)
  | .bl _ :: _, _, _, _, e => nomatch (show none = some _ from e)
  | .str _ :: _, _, _, _, e => nomatch (show none = some _ from e)
  | .tup _ :: _, _, _, _, e => nomatch (show none = some _ from e)
  | .lst _ :: _, _, _, _, e => nomatch (show none = some _ from e)
  | .rol _ :: _, _, _, _, e => nomatch (show none = some _ from e)
  | .obj _ _ _ :: _, _, _, _, e => nomatch (show none = some _ from e)
  | .dct _ _ :: _, _, _, _, e => nomatch (show none = some _ from e)
  | .xd _ _ :: _, _, _, _, e => nomatch (show none = some _ from e)
  | .raw _ _ :: _, _, _, _, e => nomatch (show none = some _ from e)
  | .kls _ :: _, _, _, _, e => nomatch (show none = some _ from e)
def ins (x : Int) : List Int → List Int
  | [] => [x]
  | y :: ys => if x ≤ y then x :: y :: ys else y :: ins x ys
def isort : List Int → List Int
  | [] => []
  | x :: xs => ins x (isort xs)
theorem ins_perm (x : Int) : ∀ ys, (ins x ys).Perm (x :: ys)
  | [] => .refl _
  | y :: ys => by
    unfold ins
    split
    · exact .refl _
    · exact ((ins_perm x ys).cons y).trans (.swap x y ys)
theorem isort_perm : ∀ xs, (isort xs).Perm xs
  | [] => .refl _
  | x :: xs => (ins_perm x _).trans ((isort_perm xs).cons x)
theorem ins_sorted (x : Int) : ∀ {ys : List Int}, ys.Pairwise (· ≤ ·) → (ins x ys).Pairwise (· ≤ ·)
  | [], _ => by simp [ins]
  | y :: ys, h => by
    unfold ins
    split
    · rename_i hx
      refine List.pairwise_cons.mpr ⟨fun z hz => ?_, h⟩
      rcases List.mem_cons.mp hz with e | hz
      · omega
      · have := (List.pairwise_cons.mp h).1 z hz; omega
    · rename_i hx
      refine List.pairwise_cons.mpr ⟨fun z hz => ?_, ins_sorted x (List.pairwise_cons.mp h).2⟩
      rcases List.mem_cons.mp ((ins_perm x ys).subset hz) with e | hz
      · omega
      · exact (List.pairwise_cons.mp h).1 z hz
theorem isort_sorted : ∀ xs, (isort xs).Pairwise (· ≤ ·)
  | [] => .nil
  | x :: xs => ins_sorted x (isort_sorted xs)
theorem sorted_one {xs ys : List Int} (p : xs.Perm ys) (h1 : xs.Pairwise (· ≤ ·)) (h2 : ys.Pairwise (· ≤ ·)) : xs = ys :=
  p.eq_of_pairwise (fun a b _ _ h h' => Int.le_antisymm h h') h1 h2
def gSorted : D → Option Slot := fun d => match d with
  | .lst xs => (intsOf xs).map fun ns => .lst (shs ((isort ns).map D.int))
  | _ => none
theorem reps_ints {H : Hp} {O : List Addr} : ∀ ns : List Int, RepDs G H O (ns.map D.int) (ns.map V.int)
  | [] => rfl
  | n :: ns => ⟨.int n, ns.map V.int, rfl, rfl, reps_ints ns⟩
theorem cd_sorted : CallD G (rSortedI G.K) (g1 gSorted) := by
  refine CallD.one fun H O L v d s Q h hx e q => ?_
  cases d with
  | lst xs =>
    obtain ⟨a, ys, ea, h1, h2⟩ := hx
    obtain ⟨ns, e1, e2⟩ := Option.map_eq_some_iff.mp (show (intsOf xs).map _ = some s from e)
    subst e2
    subst ea
    refine ⟨a, ns, rfl, .of (by rw [← intsOf_rep h2 e1]; exact h1), fun ns' p hp hs hl => ?_⟩
    have e3 : ns' = isort ns := sorted_one (hp.trans (isort_perm ns).symm) hs (isort_sorted ns)
    subst e3
    exact q _ _ (h.newL hl (reps_ints _).sh)
  | _ => cases e
theorem de_sorted {p : Pos} (hK : X.K = G.K) (hg : Gl X "sorted") (hm : X.mg "sorted" = none) (A : DE X G W a ta fa) (he : starEach [a] X.env = (false, eval a X.env) :: starEach [] X.env := by rfl) (hpl : (backTo pos (starEach [] X.env)).any (·.1) = false := by rfl) : DE X G W (.Call (.Name "sorted" p) [a] [] pos) (tCB (rSortedI G.K) (tCons ta tNil)) (eCB (g1 gSorted) (aCons fa aNil)) :=
  de_cb (by rw [← hK]; exact cr_sortedI) cd_sorted hg hm boot_sorted (da_cons A da_nil he) (by decide) (by decide) he hpl
def gSum : D → Option Slot := fun d => match d with
  | .lst xs => (intsOf xs).map fun ns => .sh (.int ns.sum)
  | _ => none
theorem cd_sum : CallD G (rSum G.K) (g1 gSum) := by
  refine CallD.one fun H O L v d s Q h hx e q => ?_
  cases d with
  | lst xs =>
    obtain ⟨a, ys, ea, h1, h2⟩ := hx
    obtain ⟨ns, e1, e2⟩ := Option.map_eq_some_iff.mp (show (intsOf xs).map _ = some s from e)
    subst e2
    subst ea
    exact ⟨a, ns, rfl, .of (by rw [← intsOf_rep h2 e1]; exact h1), q _ _ (h.sc rfl)⟩
  | _ => cases e
theorem de_sum {p : Pos} (hK : X.K = G.K) (hc : X.calm = true) (hg : Gl X "sum") (hm : X.mg "sum" = none) (A : DE X G W a ta fa) (he : starEach [a] X.env = (false, eval a X.env) :: starEach [] X.env := by rfl) (hpl : (backTo pos (starEach [] X.env)).any (·.1) = false := by rfl) : DE X G W (.Call (.Name "sum" p) [a] [] pos) (tCB (rSum G.K) (tCons ta tNil)) (eCB (g1 gSum) (aCons fa aNil)) :=
  de_cb (by rw [← hK]; exact cr_sum hc) cd_sum hg hm boot_sum (da_cons A da_nil he) (by decide) (by decide) he hpl
/-- bools of a list -/
def blsOf : List D → Option (List Bool)
  | [] => some []
  | .bl i :: ds => (blsOf ds).map (i :: ·)
  | _ :: _ => none
theorem blsOf_map : ∀ ns : List Bool, blsOf (ns.map D.bl) = some ns
  | [] => rfl
  | n :: ns => by show (blsOf (ns.map D.bl)).map (n :: ·) = _; rw [blsOf_map ns]; rfl
theorem blsOf_rep {H : Hp} {O : List Addr} : ∀ {ds : List D} {ns : List Bool} {xs : List V}, RepDs G H O ds xs → blsOf ds = some ns → xs = ns.map V.bl
  | [], ns, xs, h, e => by cases e; exact h
  | .bl i :: ds, ns, xs, ⟨v, r, ex, h1, h2⟩, e => by
    have e' : (blsOf ds).map (i :: ·) = some ns := e
    obtain ⟨ms, e1, e2⟩ := Option.map_eq_some_iff.mp e'
    subst e2
    rw [ex, show v = V.bl i from h1, blsOf_rep h2 e1]; rfl
  | .non :: _, _, _, _, e => nomatch (show none = some _ from e)
  | .int _ :: _, _, _, _, e => nomatch (show none = some _ from e)
  | .str _ :: _, _, _, _, e => nomatch (show none = some _ from e)
  | .tup _ :: _, _, _, _, e => nomatch (show none = some _ from e)
  | .lst _ :: _, _, _, _, e => nomatch (show none = some _ from e)
  | .rol _ :: _, _, _, _, e => nomatch (show none = some _ from e)
  | .obj _ _ _ :: _, _, _, _, e => nomatch (show none = some _ from e)
  | .dct _ _ :: _, _, _, _, e => nomatch (show none = some _ from e)
  | .xd _ _ :: _, _, _, _, e => nomatch (show none = some _ from e)
  | .raw _ _ :: _, _, _, _, e => nomatch (show none = some _ from e)
  | .kls _ :: _, _, _, _, e => nomatch (show none = some _ from e)
def gAny : D → Option Slot := fun d => match d with
  | .lst xs => (blsOf xs).map fun ns => .sh (.bl (ns.any id))
  | _ => none
def gAll : D → Option Slot := fun d => match d with
  | .lst xs => (blsOf xs).map fun ns => .sh (.bl (ns.all id))
  | _ => none
theorem cd_any : CallD G (rAny G.K) (g1 gAny) := by
  refine CallD.one fun H O L v d s Q h hx e q => ?_
  cases d with
  | lst xs =>
    obtain ⟨a, ys, ea, h1, h2⟩ := hx
    obtain ⟨ns, e1, e2⟩ := Option.map_eq_some_iff.mp (show (blsOf xs).map _ = some s from e)
    subst e2
    subst ea
    exact ⟨a, ns, rfl, .of (by rw [← blsOf_rep h2 e1]; exact h1), q _ _ (h.sc rfl)⟩
  | _ => cases e
theorem cd_all : CallD G (rAll G.K) (g1 gAll) := by
  refine CallD.one fun H O L v d s Q h hx e q => ?_
  cases d with
  | lst xs =>
    obtain ⟨a, ys, ea, h1, h2⟩ := hx
    obtain ⟨ns, e1, e2⟩ := Option.map_eq_some_iff.mp (show (blsOf xs).map _ = some s from e)
    subst e2
    subst ea
    exact ⟨a, ns, rfl, .of (by rw [← blsOf_rep h2 e1]; exact h1), q _ _ (h.sc rfl)⟩
  | _ => cases e
theorem de_any {p : Pos} (hK : X.K = G.K) (hc : X.calm = true) (hg : Gl X "any") (hm : X.mg "any" = none) (A : DE X G W a ta fa) (he : starEach [a] X.env = (false, eval a X.env) :: starEach [] X.env := by rfl) (hpl : (backTo pos (starEach [] X.env)).any (·.1) = false := by rfl) : DE X G W (.Call (.Name "any" p) [a] [] pos) (tCB (rAny G.K) (tCons ta tNil)) (eCB (g1 gAny) (aCons fa aNil)) :=
  de_cb (by rw [← hK]; exact cr_any hc) cd_any hg hm boot_any (da_cons A da_nil he) (by decide) (by decide) he hpl
theorem de_all {p : Pos} (hK : X.K = G.K) (hc : X.calm = true) (hg : Gl X "all") (hm : X.mg "all" = none) (A : DE X G W a ta fa) (he : starEach [a] X.env = (false, eval a X.env) :: starEach [] X.env := by rfl) (hpl : (backTo pos (starEach [] X.env)).any (·.1) = false := by rfl) : DE X G W (.Call (.Name "all" p) [a] [] pos) (tCB (rAll G.K) (tCons ta tNil)) (eCB (g1 gAll) (aCons fa aNil)) :=
  de_cb (by rw [← hK]; exact cr_all hc) cd_all hg hm boot_all (da_cons A da_nil he) (by decide) (by decide) he hpl
end
end Sep

/-! SepG: statements, defs, calls. -/
namespace Sep
open PySem L2

structure Cok (k : Nat) (X : Cx) (G : Gm) (W : WX) : Prop where
  hK : X.K = G.K
  calm : X.calm = true
  tk : Takes X W
  po : PassesOwn (model X.prog X.w) X.A X.env X.xe
  nd : X.N.Nodup
  rm : Room k X.A

inductive Fl where
  | nx | ret (s : Slot) | bk | ct
abbrev SEv := Sl → Out Fl
/-- the slots that the def never stores to -/
abbrev FX := Nat → Bool
def Fix (fx : FX) (σ σ' : L2.St) : Prop := σ'.length = σ.length ∧ ∀ i, fx i = true → σ'[i]? = σ[i]?
theorem Fix.refl {fx : FX} {σ : L2.St} : Fix fx σ σ := ⟨rfl, fun _ _ => rfl⟩
theorem Fix.trans {fx : FX} {σ σ1 σ2 : L2.St} (a : Fix fx σ σ1) (b : Fix fx σ1 σ2) : Fix fx σ σ2 := ⟨b.1.trans a.1, fun i h => (b.2 i h).trans (a.2 i h)⟩
theorem Fix.set {fx : FX} {σ : L2.St} {i : Nat} {v : V} (h : fx i = false) : Fix fx σ (σ.set i (some v)) := ⟨List.length_set, fun j hj => by
  by_cases e : i = j
  · subst e; rw [h] at hj; cases hj
  · rw [List.getElem?_set_ne e]⟩

def PostF (G : Gm) (fx : FX) (σ0 : L2.St) (T : Hd) (D : Ends) : Fl → Sl → Prop
  | .nx, ρ => ∀ σ H, Fix fx σ0 σ → SR G σ ρ T H → D.nx σ H
  | .bk, ρ => ∀ σ H, Fix fx σ0 σ → SR G σ ρ T H → D.bk σ H
  | .ct, ρ => ∀ σ H, Fix fx σ0 σ → SR G σ ρ T H → D.ct σ H
  | .ret s, ρ => ∀ v σ H, Fix fx σ0 σ → SR G σ ρ ((v, s) :: T) H → D.rt v H
def PostS (G : Gm) (W : WX) (fx : FX) (σ0 : L2.St) (T : Hd) (D : Ends) : Out Fl → Prop
  | .ok f ρ => PostF G fx σ0 T D f ρ
  | .exc c ns ds ρ => ∀ d σ H, Fix fx σ0 σ → SR G σ ρ ((.ref d, .sh (.xd ns ds)) :: T) H → W (.ref (G.cls c)) (some d) σ H
  | .stuck => False
def SsOk (G : Gm) (W : WX) (fx : FX) (t : TS) (f : SEv) : Prop := ∀ D σ H ρ T, SR G σ ρ T H → PostS G W fx σ T D (f ρ) → t D σ H
structure DS (fx : FX) (X : Cx) (G : Gm) (W : WX) (st : Stmt) (t : TS) (f : SEv) : Prop where
  ps : PS X st t
  ok : SsOk G W fx t f
structure DSs (fx : FX) (X : Cx) (G : Gm) (W : WX) (st : List Stmt) (t : TS) (f : SEv) : Prop where
  pss : PSs X st t
  ok : SsOk G W fx t f

section
variable {G : Gm} {W : WX} {fx : FX} {σ σ0 σ1 : L2.St} {ρ ρ' : Sl} {T L : Hd} {H : Hp} {D : Ends} {o : Out Fl} {x : V × Slot}
theorem PostS.fix (h : PostS G W fx σ0 T D o) (f : Fix fx σ0 σ1) : PostS G W fx σ1 T D o := by
  cases o with
  | ok fl ρ =>
    cases fl with
    | nx => exact fun σ H a b => h σ H (f.trans a) b
    | bk => exact fun σ H a b => h σ H (f.trans a) b
    | ct => exact fun σ H a b => h σ H (f.trans a) b
    | ret s => exact fun v σ H a b => h v σ H (f.trans a) b
  | exc c ns ds ρ => exact fun d σ H a b => h d σ H (f.trans a) b
  | stuck => exact h
theorem PostS.more (h : PostS G W fx σ0 T D o) : PostS G W fx σ0 (x :: T) D o := by
  cases o with
  | ok fl ρ =>
    cases fl with
    | nx => exact fun σ H a b => h σ H a b.pop
    | bk => exact fun σ H a b => h σ H a b.pop
    | ct => exact fun σ H a b => h σ H a b.pop
    | ret s => exact fun v σ H a b => h v σ H a b.pop2
  | exc c ns ds ρ => exact fun d σ H a b => h d σ H a b.pop2
  | stuck => exact h
/-- what an expression at the head of a statement must give -/
theorem PostS.of {α : Type} {o : Out α} {k : α → Sl → Out Fl} (h : PostS G W fx σ T D (o.bind k)) : Post G W σ T (fun a ρ => PostS G W fx σ T D (k a ρ)) o := by
  cases o with
  | ok a ρ => exact h
  | exc c ns ds ρ => exact fun d H sr => h d σ H .refl sr
  | stuck => exact h

/-! ### storing -/
theorem zip_set : ∀ (σ : L2.St) (ρ : Sl) (i : Nat) (v : V) (s : Slot), envL (σ.set i (some v)) (ρ.set i s) = (envL σ ρ).set i (v, s)
  | [], ρ, i, v, s => by simp [envL]
  | o :: σ, [], i, v, s => by simp [envL]
  | o :: σ, p :: ρ, 0, v, s => rfl
  | o :: σ, p :: ρ, i + 1, v, s => by
    show (o.getD .non, p) :: envL (σ.set i (some v)) (ρ.set i s) = (o.getD .non, p) :: (envL σ ρ).set i (v, s)
    rw [zip_set σ ρ i v s]
theorem set_holds {y : V × Slot} : ∀ {L : Hd} {i : Nat} {T : Hd}, Holds G H (y :: (L ++ T)) → Holds G H (L.set i y ++ T)
  | [], i, T, h => h.tail
  | p :: L, 0, T, h => (h.perm (.swap p y _)).tail
  | p :: L, i + 1, T, h => by
    have h1 : Holds G H ((p :: y :: (L ++ T))) := h.perm (.swap p y _)
    show Holds G H (p :: (L.set i y ++ T))
    have h2 : Holds G H (y :: (L ++ (p :: T))) := (h1.perm (.swap y p _)).perm (List.perm_middle.symm.cons y)
    exact (set_holds (i := i) (T := p :: T) h2).perm List.perm_middle
theorem SR.store {i : Nat} {v : V} {s : Slot} (sr : SR G σ ρ ((v, s) :: T) H) : SR G (σ.set i (some v)) (ρ.set i s) T H := by
  refine ⟨by rw [zip_set]; exact set_holds sr.pull, by rw [List.length_set, List.length_set]; exact sr.len, fun j u e n => ?_⟩
  by_cases q : i = j
  · subst q
    have hl : i < ρ.length := by
      have := (List.getElem?_eq_some_iff.mp e).1
      rwa [List.length_set] at this
    exact ⟨v, by rw [List.getElem?_set_self (by rw [← sr.len]; exact hl)]⟩
  · rw [List.getElem?_set_ne q] at e ⊢
    exact sr.as j u e n
theorem set_self {α : Type} : ∀ {l : List α} {i : Nat} {x : α}, l[i]? = some x → l.set i x = l
  | [], i, x, h => rfl
  | a :: l, 0, x, h => by
    have : a = x := by simpa using h
    subst this; rfl
  | a :: l, i + 1, x, h => by
    show a :: l.set i x = a :: l
    rw [set_self (l := l) (by simpa using h)]
theorem SR.storeAt {i : Nat} {v : V} {s : Slot} (sr : SR G σ ρ ((v, s) :: T) H) (a : σ[i]? = some (some v)) : SR G σ (ρ.set i s) T H := by
  have h := sr.store (i := i)
  rwa [set_self a] at h
end

section
variable {X : Cx} {G : Gm} {W : WX} {fx : FX} {a b c : Expr} {es : List Expr} {ta tb tc te : TE} {t u : TS} {tt : TT} {fa fb fc fe : Ev} {pt : Sl → Out Bool} {f g : SEv} {pos : Pos} {st : Stmt} {rest : List Stmt}

/-! ### blocks, small statements -/
def sSeq (f g : SEv) : SEv := fun ρ => match f ρ with
  | .ok .nx ρ1 => g ρ1
  | o => o
def sNil : SEv := fun ρ => .ok .nx ρ
def sPass : SEv := fun ρ => .ok .nx ρ
def sBk : SEv := fun ρ => .ok .bk ρ
def sCt : SEv := fun ρ => .ok .ct ρ
def sExpr (f : Ev) : SEv := fun ρ => (f ρ).bind fun _ ρ1 => .ok .nx ρ1
theorem dss_nil : DSs fx X G W [] tNext sNil := ⟨pss_nil, fun D σ H ρ T sr p => p σ H .refl sr⟩
theorem ok_seq (A : SsOk G W fx t f) (B : SsOk G W fx u g) : SsOk G W fx (tSeq t u) (sSeq f g) := by
  intro D σ H ρ T sr p
  refine A { D with nx := u D } σ H ρ T sr ?_
  unfold sSeq at p
  cases e : f ρ with
  | ok fl ρ1 =>
    rw [e] at p
    cases fl with
    | nx => exact fun σ1 H1 fi sr1 => B D σ1 H1 ρ1 T sr1 (p.fix fi)
    | bk => exact p
    | ct => exact p
    | ret s => exact p
  | exc c ns ds ρ1 => rw [e] at p; exact p
  | stuck => rw [e] at p; exact p
theorem dss_cons (A : DS fx X G W st t f) (B : DSs fx X G W rest u g) : DSs fx X G W (st :: rest) (tSeq t u) (sSeq f g) := ⟨pss_cons A.ps B.pss, ok_seq A.ok B.ok⟩
theorem dss_one (A : DS fx X G W st t f) : DSs fx X G W [st] t f := ⟨pss_one A.ps, A.ok⟩
theorem ds_pass : DS fx X G W (.Pass pos) tNext sPass := ⟨ps_pass, fun D σ H ρ T sr p => p σ H .refl sr⟩
theorem ds_break : DS fx X G W (.Break pos) tBreak sBk := ⟨ps_break, fun D σ H ρ T sr p => p σ H .refl sr⟩
theorem ds_continue : DS fx X G W (.Continue pos) tCont sCt := ⟨ps_continue, fun D σ H ρ T sr p => p σ H .refl sr⟩
theorem ds_expr (A : DE X G W a ta fa) (hs : swapsWith a none pos.line X.env = pure false := by rfl) : DS fx X G W (.Expr a pos) (tDrop ta) (sExpr fa) :=
  ⟨ps_expr A.pe hs, fun D σ H ρ T sr p => A.ok σ H ρ T _ sr ((PostS.of p).imp fun r ρ1 p1 v H1 sr1 _ => p1 σ H1 .refl sr1.pop)⟩
/-- x = e: a thing of its own goes into the slot as it is -/
def sSet (i : Nat) (fa : Ev) : SEv := fun ρ => (fa ρ).bind fun r ρ1 => match r with
  | .v s => .ok .nx (ρ1.set i s)
  | .r j => (cons (.r j) ρ1).bind fun d ρ2 => .ok .nx (ρ2.set i (.sh d))
theorem ok_set {i : Nat} (hf : fx i = false) (A : EvOk G W ta fa) : SsOk G W fx (tAsg ta (gName i)) (sSet i fa) := by
  intro D σ H ρ T sr p
  refine A σ H ρ T _ sr ((PostS.of p).imp fun r ρ1 p1 v H1 sr1 a1 => ?_)
  cases r with
  | v s => exact p1 _ H1 (.set hf) (sr1.store)
  | r j =>
    rcases cons_or (.r j) ρ1 with ⟨d, ρ2, e⟩ | e
    · simp only [e, Out.bind] at p1
      exact p1 _ H1 (.set hf) (sr1.take1 a1 e).store
    · simp only [e, Out.bind] at p1; exact p1.elim
theorem ds_set {k : Nat} (C : Cok k X G W) {i : Nat} {x : Str} {pos' : Pos} (hf : fx i = false) (A : DE X G W a ta fa) (hi : X.N[i]? = some x := by rfl) (hx : Loc X.env.scope x := by first | exact Or.inl rfl | exact Or.inr rfl) (hs : swapsWith a (some (.Name x pos')) pos.line X.env = pure false := by rfl)
    (hfn : X.fn x = true ∨ X.env.scope.names.lookup x = some .local := by first | exact .inl rfl | exact .inr rfl | assumption) : DS fx X G W (.Assign [.Name x pos'] a pos) (tAsg ta (gName i)) (sSet i fa) := ⟨ps_set C.nd hi hx A.pe hs hfn, ok_set hf A.ok⟩
/-- .. as data -/
def sSetF (i : Nat) (fa : Ev) : SEv := fun ρ => (fa ρ).bind fun r ρ1 => (cons r ρ1).bind fun d ρ2 => .ok .nx (ρ2.set i (.sh d))
theorem ok_setF {i : Nat} (hf : fx i = false) (A : EvOk G W ta fa) : SsOk G W fx (tAsg ta (gName i)) (sSetF i fa) := by
  intro D σ H ρ T sr p
  refine A σ H ρ T _ sr ((PostS.of p).imp fun r ρ1 p1 v H1 sr1 a1 => ?_)
  rcases cons_or r ρ1 with ⟨d, ρ2, e⟩ | e
  · simp only [e, Out.bind] at p1
    exact p1 _ H1 (.set hf) (sr1.take1 a1 e).store
  · simp only [e, Out.bind] at p1; exact p1.elim
theorem ds_setF {k : Nat} (C : Cok k X G W) {i : Nat} {x : Str} {pos' : Pos} (hf : fx i = false) (A : DE X G W a ta fa) (hi : X.N[i]? = some x := by rfl) (hx : Loc X.env.scope x := by first | exact Or.inl rfl | exact Or.inr rfl) (hs : swapsWith a (some (.Name x pos')) pos.line X.env = pure false := by rfl)
    (hfn : X.fn x = true ∨ X.env.scope.names.lookup x = some .local := by first | exact .inl rfl | exact .inr rfl | assumption) : DS fx X G W (.Assign [.Name x pos'] a pos) (tAsg ta (gName i)) (sSetF i fa) := ⟨ps_set C.nd hi hx A.pe hs hfn, ok_setF hf A.ok⟩
/-- return e: what stood in a slot is handed out as data -/
def sRet (fa : Ev) : SEv := fun ρ => (fa ρ).bind fun r ρ1 => match r with
  | .v s => .ok (.ret s) ρ1
  | .r j => (cons (.r j) ρ1).bind fun d ρ2 => .ok (.ret (.sh d)) ρ2
theorem ok_ret (A : EvOk G W ta fa) : SsOk G W fx (tRet ta) (sRet fa) := by
  intro D σ H ρ T sr p
  refine A σ H ρ T _ sr ((PostS.of p).imp fun r ρ1 p1 v H1 sr1 a1 => ?_)
  cases r with
  | v s => exact p1 v σ H1 .refl sr1
  | r j =>
    rcases cons_or (.r j) ρ1 with ⟨d, ρ2, e⟩ | e
    · simp only [e, Out.bind] at p1
      exact p1 v σ H1 .refl (sr1.take1 a1 e)
    · simp only [e, Out.bind] at p1; exact p1.elim
theorem ds_ret (A : DE X G W a ta fa) : DS fx X G W (.Return (some a) pos) (tRet ta) (sRet fa) := ⟨ps_ret A.pe, ok_ret A.ok⟩
/-- .. as data always -/
def sRetF (fa : Ev) : SEv := fun ρ => (fa ρ).bind fun r ρ1 => (cons r ρ1).bind fun d ρ2 => .ok (.ret (.sh d)) ρ2
theorem ok_retF (A : EvOk G W ta fa) : SsOk G W fx (tRet ta) (sRetF fa) := by
  intro D σ H ρ T sr p
  refine A σ H ρ T _ sr ((PostS.of p).imp fun r ρ1 p1 v H1 sr1 a1 => ?_)
  rcases cons_or r ρ1 with ⟨d, ρ2, e⟩ | e
  · simp only [e, Out.bind] at p1
    exact p1 v σ H1 .refl (sr1.take1 a1 e)
  · simp only [e, Out.bind] at p1; exact p1.elim
theorem ds_retF (A : DE X G W a ta fa) : DS fx X G W (.Return (some a) pos) (tRet ta) (sRetF fa) := ⟨ps_ret A.pe, ok_retF A.ok⟩
/-- .. the thing itself leaves its slot -/
def sRetM (fa : Ev) : SEv := fun ρ => (fa ρ).bind fun r ρ1 => match r with
  | .v s => .ok (.ret s) ρ1
  | .r j => match ρ1[j]? with
    | some s => .ok (.ret s) (ρ1.set j .no)
    | none => .stuck
theorem SR.lend {σ : L2.St} {ρ : Sl} {T : Hd} {H : Hp} {i : Nat} {v : V} {s : Slot} (sr : SR G σ ρ T H) (h1 : σ[i]? = some (some v)) (h2 : ρ[i]? = some s) : SR G σ (ρ.set i .no) ((v, s) :: T) H := by
  obtain ⟨L0, p1, p2⟩ := set_perm (u := v) (w := .no) h1 h2
  have a : Holds G H ((v, s) :: (L0 ++ T)) := sr.h.perm (p1.append_right T)
  have b : Holds G H ((v, .no) :: (v, s) :: (L0 ++ T)) := a.no
  refine ⟨b.perm ?_, by rw [List.length_set]; exact sr.len, as_set sr.as ⟨v, h1⟩⟩
  exact (List.Perm.swap _ _ _).trans (((p2.symm.append_right T).cons (v, s)).trans List.perm_middle.symm)
theorem ok_retM (A : EvOk G W ta fa) : SsOk G W fx (tRet ta) (sRetM fa) := by
  intro D σ H ρ T sr p
  refine A σ H ρ T _ sr ((PostS.of p).imp fun r ρ1 p1 v H1 sr1 a1 => ?_)
  cases r with
  | v s => exact p1 v σ H1 .refl sr1
  | r j =>
    cases e : ρ1[j]? with
    | none => simp only [e] at p1; exact p1.elim
    | some s =>
      simp only [e] at p1
      exact p1 v σ H1 .refl (sr1.pop.lend a1 e)
theorem ds_retM (A : DE X G W a ta fa) : DS fx X G W (.Return (some a) pos) (tRet ta) (sRetM fa) := ⟨ps_ret A.pe, ok_retM A.ok⟩
def sRetN : SEv := fun ρ => .ok (.ret (.sh .non)) ρ
theorem ds_retN : DS fx X G W (.Return none pos) tRetN sRetN := ⟨ps_retN, fun D σ H ρ T sr p => p .non σ H .refl (sr.scal fun _ => rfl)⟩
def sIf (p : Sl → Out Bool) (f g : SEv) : SEv := fun ρ => (p ρ).bind fun k ρ1 => if k then f ρ1 else g ρ1
theorem ok_ifS (P : TtOk G W tt pt) (A : SsOk G W fx t f) (B : SsOk G W fx u g) : SsOk G W fx (tIfS tt t u) (sIf pt f g) := by
  intro D σ H ρ T sr p
  refine P σ H ρ T _ sr ((PostS.of p).imp fun k ρ1 p1 H1 sr1 => ?_)
  cases k with
  | true => exact iteT (A D σ H1 ρ1 T sr1 p1)
  | false => exact iteF (B D σ H1 ρ1 T sr1 p1)
theorem ds_if {sa sb : List Stmt} (P : DT X G W c tt pt) (A : DSs fx X G W sa t f) (B : DSs fx X G W sb u g) : DS fx X G W (.If c sa sb pos) (tIfS tt t u) (sIf pt f g) := ⟨ps_if P.pt A.pss B.pss, ok_ifS P.ok A.ok B.ok⟩

/-! ### targets -/
def TgOk (G : Gm) (fx : FX) (t : TG) (g : D → Sl → Option Sl) : Prop := ∀ v σ H ρ T d ρ' Q, SR G σ ρ ((v, .sh d) :: T) H → g d ρ = some ρ' → (∀ σ' H', Fix fx σ σ' → SR G σ' ρ' T H' → Q σ' H') → t v σ H Q
def TgsOk (G : Gm) (fx : FX) (t : TGs) (g : List D → Sl → Option Sl) : Prop := ∀ vs σ H ρ T ds ρ' Q, SR G σ ρ (vs.zip (shs ds) ++ T) H → vs.length = ds.length → g ds ρ = some ρ' → (∀ σ' H', Fix fx σ σ' → SR G σ' ρ' T H' → Q σ' H') → t vs σ H Q
structure DG (fx : FX) (X : Cx) (G : Gm) (e : Expr) (t : TG) (g : D → Sl → Option Sl) : Prop where
  pg : PG X e t
  ok : TgOk G fx t g
structure DGs (fx : FX) (X : Cx) (G : Gm) (es : List Expr) (t : TGs) (g : List D → Sl → Option Sl) : Prop where
  pgs : PGs X es t
  ok : TgsOk G fx t g
def kName (i : Nat) : D → Sl → Option Sl := fun d ρ => some (ρ.set i (.sh d))
def kNil : List D → Sl → Option Sl := fun ds ρ => match ds with | [] => some ρ | _ => none
def kCons (g : D → Sl → Option Sl) (h : List D → Sl → Option Sl) : List D → Sl → Option Sl := fun ds ρ => match ds with
  | [] => none
  | d :: ds => (g d ρ).bind (h ds)
def kTup (n : Nat) (h : List D → Sl → Option Sl) : D → Sl → Option Sl := fun d ρ => match d with
  | .tup ds => if ds.length = n then h ds ρ else none
  | _ => none
theorem dg_name {k : Nat} (C : Cok k X G W) {i : Nat} {x : Str} {pos : Pos} (hf : fx i = false) (hi : X.N[i]? = some x := by rfl) (hx : Loc X.env.scope x := by first | exact Or.inl rfl | exact Or.inr rfl)
    (hfn : X.fn x = true ∨ X.env.scope.names.lookup x = some .local := by first | exact .inl rfl | exact .inr rfl | assumption) : DG fx X G (.Name x pos) (gName i) (kName i) :=
  ⟨pg_name C.nd hi hx hfn, fun v σ H ρ T d ρ' Q sr e q => by cases e; exact q _ _ (.set hf) sr.store⟩
theorem dgs_nil : DGs fx X G [] gNil kNil := ⟨pgs_nil, fun vs σ H ρ T ds ρ' Q sr hl e q => by
  cases ds with
  | nil =>
    cases e
    have ev : vs = [] := List.eq_nil_of_length_eq_zero hl
    subst ev
    exact ⟨rfl, q σ H .refl sr⟩
  | cons d ds => cases e⟩
theorem dgs_cons {e : Expr} {es : List Expr} {t : TG} {u : TGs} {g : D → Sl → Option Sl} {h : List D → Sl → Option Sl} (A : DG fx X G e t g) (B : DGs fx X G es u h) (hs : (assignEach (e :: es) X.env).map (·.2) = assign e X.env :: (assignEach es X.env).map (·.2) := by rfl) : DGs fx X G (e :: es) (gCons t u) (kCons g h) :=
  ⟨pgs_cons A.pg B.pgs hs, fun vs σ H ρ T ds ρ' Q sr hl e q => by
    cases ds with
    | nil => cases e
    | cons d ds =>
      cases vs with
      | nil => cases hl
      | cons v vs =>
        obtain ⟨ρ1, e1, e2⟩ := Option.bind_eq_some_iff.mp (show (g d ρ).bind (h ds) = some ρ' from e)
        refine ⟨v, vs, rfl, A.ok v σ H ρ (vs.zip (shs ds) ++ T) d ρ1 _ sr e1 fun σ1 H1 f1 sr1 => ?_⟩
        exact B.ok vs σ1 H1 ρ1 T ds ρ' Q sr1 (by simpa using hl) e2 fun σ2 H2 f2 sr2 => q σ2 H2 (f1.trans f2) sr2⟩
theorem RepDs.holds {O : List Addr} {H : Hp} {L : Hd} : ∀ {ds : List D} {vs : List V} {os : List Addr}, RepDs G H O ds vs → RepL G H O L os → RepL G H O (vs.zip (shs ds) ++ L) os
  | [], vs, os, h, h2 => by cases h; exact h2
  | d :: ds, vs, os, h, h2 => by
    obtain ⟨v, r, e, h3, h4⟩ := h
    subst e
    exact ⟨[], os, rfl, ⟨rfl, h3⟩, RepDs.holds h4 h2⟩
theorem SR.items {σ : L2.St} {ρ : Sl} {T : Hd} {H : Hp} {O : List Addr} {ds : List D} {vs : List V} (sr : SR G σ ρ T H) (h : Hold G H O (envL σ ρ ++ T)) (r : RepDs G H O ds vs) : SR G σ ρ (vs.zip (shs ds) ++ T) H := by
  refine ⟨Holds.perm (L := vs.zip (shs ds) ++ (envL σ ρ ++ T)) ⟨O, r.holds h.1, h.2⟩ ?_, sr.len, sr.as⟩
  rw [← List.append_assoc, ← List.append_assoc]
  exact List.perm_append_comm.append_right T
theorem SR.top {σ : L2.St} {ρ : Sl} {T : Hd} {H : Hp} {d : D} {v : V} (sr : SR G σ ρ ((v, .sh d) :: T) H) : ∃ O, Hold G H O (envL σ ρ ++ T) ∧ RepD G H O d v := by
  obtain ⟨O, ⟨o1, o2, eo, h1, h2⟩, nd⟩ := sr.pull
  have e1 : o1 = [] := h1.1
  subst e1
  have eo' : O = o2 := eo
  subst eo'
  exact ⟨O, ⟨h2, nd⟩, h1.2⟩
theorem dg_tup {k : Nat} (C : Cok k X G W) {es : List Expr} {kk : Nat} {t : TGs} {n : Nat} {h : List D → Sl → Option Sl} (A : DGs fx X G es t h) (hn : (assignEach es X.env).length = n := by rfl) (hst : (assignEach es X.env).findIdx? (·.1) = none := by rfl) : DG fx X G (.Tuple es kk pos) (gTup G.K n t) (kTup n h) := by
  refine ⟨by have := pg_tup (k := kk) (pos := pos) C.calm A.pgs hn hst; rw [C.hK] at this; exact this, fun v σ H ρ T d ρ' Q sr e q => ?_⟩
  cases d <;> first | (cases e; done) | skip
  rename_i ds
  have e' : (if ds.length = n then h ds ρ else none) = some ρ' := e
  split at e'
  · rename_i hl
    obtain ⟨O, ho, a, xs, ea, h1, h2⟩ := sr.top
    exact ⟨a, xs, ea, sqT_of h1, by rw [h2.length, hl], A.ok xs σ H ρ T ds ρ' Q (sr.pop.items ho h2) h2.length e' q⟩
  · cases e'
/-- target = e, the target of any form -/
def sAsg (g : D → Sl → Option Sl) (fa : Ev) : SEv := fun ρ => (fa ρ).bind fun r ρ1 => (cons r ρ1).bind fun d ρ2 => match g d ρ2 with
  | some ρ3 => .ok .nx ρ3
  | none => .stuck
theorem ok_asg {tg : TG} {gg : D → Sl → Option Sl} (A : EvOk G W ta fa) (B : TgOk G fx tg gg) : SsOk G W fx (tAsg ta tg) (sAsg gg fa) := by
  intro D σ H ρ T sr p
  refine A σ H ρ T _ sr ((PostS.of p).imp fun r ρ1 p1 v H1 sr1 a1 => ?_)
  rcases cons_or r ρ1 with ⟨d, ρ2, e⟩ | e
  · simp only [e, Out.bind] at p1
    cases e2 : gg d ρ2 with
    | none => simp only [e2] at p1; exact p1.elim
    | some ρ3 =>
      simp only [e2] at p1
      exact B v σ H1 ρ2 T d ρ3 _ (sr1.take1 a1 e) e2 fun σ' H' f' sr' => p1 σ' H' f' sr'
  · simp only [e, Out.bind] at p1; exact p1.elim
theorem ds_asg {tg : Expr} {gt : TG} {gg : D → Sl → Option Sl} (A : DE X G W a ta fa) (B : DG fx X G tg gt gg) (hs : swapsWithSole [tg] a pos.line X.env = pure false := by rfl) (hw : swappedStores [tg] a X.env = pure none := by rfl)
    (h1 : (assignEach [tg] X.env).map (·.2) = [assign tg X.env] := by rfl) : DS fx X G W (.Assign [tg] a pos) (tAsg ta gt) (sAsg gg fa) := ⟨ps_asg A.pe B.pg hs hw h1, ok_asg A.ok B.ok⟩

/-! ### what is walked -/
theorem SR.popL {G : Gm} {σ : L2.St} {ρ : Sl} {T : Hd} {H : Hp} : ∀ {ys : Hd}, SR G σ ρ (ys ++ T) H → SR G σ ρ T H
  | [], sr => sr
  | _ :: _, sr => SR.popL (SR.pop sr)
theorem SR.popL2 {G : Gm} {σ : L2.St} {ρ : Sl} {T : Hd} {H : Hp} {x : V × Slot} {ys : Hd} (sr : SR G σ ρ (x :: (ys ++ T)) H) : SR G σ ρ (x :: T) H := (sr.permT (T' := ys ++ (x :: T)) List.perm_middle.symm).popL
def WalksD (G : Gm) (J : It) (y : Hd) (ds : List D) : Prop := ∀ σ ρ T H i, SR G σ ρ (y ++ T) H → i ≤ ds.length → (i = ds.length → J.stop i H) ∧
  (∀ d, ds[i]? = some d → J.go i H ∧ ∀ x H', J.yld i H x H' → SR G σ ρ ((x, .sh d) :: (y ++ T)) H')
def ItOk (G : Gm) (W : WX) (wi : TI) (f : Sl → Out (List D)) : Prop := ∀ σ H ρ T R, SR G σ ρ T H →
  Post G W σ T (fun ds ρ' => ∀ J (y : Hd) H', SR G σ ρ' (y ++ T) H' → WalksD G J y ds → R J H') (f ρ) → wi σ H R
structure DI (X : Cx) (G : Gm) (W : WX) (tg e : Expr) (wi : TI) (f : Sl → Out (List D)) : Prop where
  pi : PI X tg e wi
  ok : ItOk G W wi f
def iLst (fa : Ev) : Sl → Out (List D) := fun ρ => (fa ρ).bind fun r ρ1 => (cons r ρ1).bind fun d ρ2 => match d with
  | .lst ds => .ok ds ρ2
  | .rol ds => .ok ds ρ2
  | _ => .stuck
def iTupl (fa : Ev) : Sl → Out (List D) := fun ρ => (fa ρ).bind fun r ρ1 => (cons r ρ1).bind fun d ρ2 => match d with
  | .tup ds => .ok ds ρ2
  | _ => .stuck
theorem walks_seq {p : Addr} {ds : List D} {d0 : D} (hd : ∀ H O, RepD G H O d0 (.ref p) → ∃ xs, SqL G.K H p xs ∧ RepDs G H O ds xs) : WalksD G (Itl G.K p) [(.ref p, .sh d0)] ds := by
  intro σ ρ T H i sr hi
  obtain ⟨O, ho, r⟩ := sr.top
  obtain ⟨xs, h1, h2⟩ := hd H O r
  refine ⟨fun e => ⟨xs, h1, by rw [h2.length, e]; exact Nat.le_refl _⟩, fun d e => ?_⟩
  obtain ⟨v, e1, r1⟩ := h2.get e
  refine ⟨⟨xs, v, h1, e1⟩, fun x H' y => ?_⟩
  obtain ⟨rfl, y⟩ := y
  have e2 := y xs h1
  rw [e1] at e2
  cases e2
  have hh := (ho.add' r).add r1
  exact ⟨hh.perm ((List.Perm.cons _ List.perm_middle.symm).trans List.perm_middle.symm), sr.len, sr.as⟩
theorem ok_iLst (A : EvOk G W ta fa) : ItOk G W (iList G.K ta) (iLst fa) := by
  intro σ H ρ T R sr p
  refine A σ H ρ T _ sr ((Post.bind p).imp fun r ρ1 p1 v H1 sr1 a1 => ?_)
  rcases cons_or r ρ1 with ⟨d, ρ2, e⟩ | e
  · simp only [e, Out.bind] at p1
    have sr2 := sr1.take1 a1 e
    obtain ⟨O, ho, rd⟩ := sr2.top
    cases d <;> first | (exact p1.elim) | skip
    · rename_i ds
      obtain ⟨a, xs, ea, h1, h2⟩ := rd
      subst ea
      exact ⟨a, rfl, ⟨xs, .of h1.1⟩, p1 _ [(.ref a, .sh (.lst ds))] H1 sr2 (walks_seq fun H O q => by
        obtain ⟨a', ys, e1, h1, h2⟩ := q
        cases e1
        exact ⟨ys, .of h1.1, h2⟩)⟩
    · rename_i ds
      obtain ⟨a, xs, ea, h1, h2⟩ := rd
      subst ea
      exact ⟨a, rfl, ⟨xs, sqL_of h1⟩, p1 _ [(.ref a, .sh (.rol ds))] H1 sr2 (walks_seq fun H O q => by
        obtain ⟨a', ys, e1, h1, h2⟩ := q
        cases e1
        exact ⟨ys, sqL_of h1, h2⟩)⟩
  · simp only [e, Out.bind] at p1; exact p1.elim
theorem walks_tup {p : Addr} {ds : List D} : WalksD G (Itt G.K p) [(.ref p, .sh (.tup ds))] ds := by
  intro σ ρ T H i sr hi
  obtain ⟨O, ho, r⟩ := sr.top
  obtain ⟨p', xs, e0, h1, h2⟩ := id r
  cases e0
  refine ⟨fun e => ⟨xs, sqT_of h1, by rw [h2.length, e]; exact Nat.le_refl _⟩, fun d e => ?_⟩
  obtain ⟨v, e1, r1⟩ := h2.get e
  refine ⟨⟨xs, v, sqT_of h1, e1⟩, fun x H' y => ?_⟩
  obtain ⟨rfl, y⟩ := y
  have e2 := y xs (sqT_of h1)
  rw [e1] at e2
  cases e2
  have hh := (ho.add' r).add r1
  exact ⟨hh.perm ((List.Perm.cons _ List.perm_middle.symm).trans List.perm_middle.symm), sr.len, sr.as⟩
theorem ok_iTupl (A : EvOk G W ta fa) : ItOk G W (iTup G.K ta) (iTupl fa) := by
  intro σ H ρ T R sr p
  refine A σ H ρ T _ sr ((Post.bind p).imp fun r ρ1 p1 v H1 sr1 a1 => ?_)
  rcases cons_or r ρ1 with ⟨d, ρ2, e⟩ | e
  · simp only [e, Out.bind] at p1
    have sr2 := sr1.take1 a1 e
    obtain ⟨O, ho, rd⟩ := sr2.top
    cases d <;> first | (exact p1.elim) | skip
    rename_i ds
    obtain ⟨a, xs, ea, h1, h2⟩ := rd
    subst ea
    exact ⟨a, rfl, ⟨xs, sqT_of h1⟩, p1 _ [(.ref a, .sh (.tup ds))] H1 sr2 walks_tup⟩
  · simp only [e, Out.bind] at p1; exact p1.elim
theorem di_lst {tg : Expr} (hK : X.K = G.K) (A : DE X G W a ta fa) : DI X G W tg a (iList G.K ta) (iLst fa) := ⟨by have := pi_list (tg := tg) A.pe; rw [hK] at this; exact this, ok_iLst A.ok⟩
theorem di_tup {tg : Expr} (hK : X.K = G.K) (A : DE X G W a ta fa) : DI X G W tg a (iTup G.K ta) (iTupl fa) := ⟨by have := pi_tup (tg := tg) A.pe; rw [hK] at this; exact this, ok_iTupl A.ok⟩
/-- range -/
def rngD (lo : Int) (n : Nat) : List D := (List.range n).map fun (i : Nat) => .int (lo + i)
def iRange1 (fa : Ev) : Sl → Out (List D) := fun ρ => (fa ρ).bind fun r ρ1 => match look r ρ1 with
  | some (.int j) => if j < 2 ^ 62 ∧ -(2 ^ 62) ≤ j then .ok (rngD 0 j.toNat) ρ1 else .stuck
  | _ => .stuck
def iRange2 (fa fb : Ev) : Sl → Out (List D) := fun ρ => (fa ρ).bind fun r1 ρ1 => (fb ρ1).bind fun r2 ρ2 => match look r1 ρ2, look r2 ρ2 with
  | some (.int i), some (.int j) => if i < 2 ^ 62 ∧ j < 2 ^ 62 ∧ -(2 ^ 62) ≤ i ∧ -(2 ^ 62) ≤ j then .ok (rngD i (j - i).toNat) ρ2 else .stuck
  | _, _ => .stuck
theorem walks_rng {lo : Int} {n : Nat} : WalksD G (Itr lo n) [(.non, .no)] (rngD lo n) := by
  intro σ ρ T H i sr hi
  have hl : (rngD lo n).length = n := by unfold rngD; rw [List.length_map, List.length_range]
  refine ⟨fun e => by show n ≤ i; omega, fun d e => ?_⟩
  have hi2 := (List.getElem?_eq_some_iff.mp e).1
  rw [hl] at hi2
  refine ⟨hi2, fun x H' y => ?_⟩
  obtain ⟨rfl, rfl⟩ := y
  unfold rngD at e
  rw [List.getElem?_map, List.getElem?_range hi2] at e
  cases e
  exact sr.scal fun _ => rfl
theorem di_range1 {tg : Expr} {p : Pos} (hg : Gl X "range") (hm : X.mg "range" = none) (A : DE X G W a ta fa) (hs : starEach [a] X.env = (false, eval a X.env) :: starEach [] X.env := by rfl) : DI X G W tg (.Call (.Name "range" p) [a] [] pos) (iRng1 (tCons ta tNil)) (iRange1 fa) := by
  refine ⟨pi_range1 hg hm (pa_cons A.pe pa_nil hs) (by rw [hs]; rfl), fun σ H ρ T R sr p => ?_⟩
  refine A.ok σ H ρ T _ sr ((Post.bind p).imp fun r ρ1 p1 v H1 sr1 a1 => ?_)
  cases e : look r ρ1 with
  | none => simp only [e] at p1; exact p1.elim
  | some d =>
    simp only [e] at p1
    cases d <;> first | (exact p1.elim) | skip
    rename_i j
    obtain ⟨O, h⟩ := sr1.h
    have ev : v = .int j := sr1.lookP h a1 (fun s e => by subst e; exact List.mem_cons_self) e
    have p2 : Post G W σ T _ (if j < 2 ^ 62 ∧ -(2 ^ 62) ≤ j then Out.ok (rngD 0 j.toNat) ρ1 else Out.stuck) := p1
    split at p2
    · rename_i hj
      exact ⟨j, by rw [ev], hj.2, hj.1, p2 _ _ H1 sr1.pop.no walks_rng⟩
    · exact p2.elim
theorem di_range2 {tg : Expr} {p : Pos} (hg : Gl X "range") (hm : X.mg "range" = none) (A : DE X G W a ta fa) (B : DE X G W b tb fb) (hs : starEach [a, b] X.env = (false, eval a X.env) :: starEach [b] X.env := by rfl) (hs2 : starEach [b] X.env = (false, eval b X.env) :: starEach [] X.env := by rfl) : DI X G W tg (.Call (.Name "range" p) [a, b] [] pos) (iRng2 (tCons ta (tCons tb tNil))) (iRange2 fa fb) := by
  refine ⟨pi_range2 hg hm (pa_cons A.pe (pa_cons B.pe pa_nil hs2) hs) (by rw [hs, hs2]; rfl) (by rw [hs2]; rfl), fun σ H ρ T R sr p => ?_⟩
  refine A.ok σ H ρ T _ sr ((Post.bind p).imp fun r1 ρ1 p1 v H1 sr1 a1 => ?_)
  refine B.ok σ H1 ρ1 ((v, r1.slot) :: T) _ sr1 ((Post.bind p1).more.imp fun r2 ρ2 p2 w H2 sr2 a2 => ?_)
  cases e : look r1 ρ2 with
  | none => simp only [e] at p2; exact p2.elim
  | some d =>
    cases e2 : look r2 ρ2 with
    | none => simp only [e, e2] at p2; cases d <;> exact p2.elim
    | some d2 =>
      simp only [e, e2] at p2
      cases d <;> cases d2 <;> first | (exact p2.elim) | skip
      rename_i i j
      obtain ⟨O, h⟩ := sr2.h
      have ev : v = .int i := sr2.lookP h a1 (fun s e => by subst e; exact List.mem_cons_of_mem _ List.mem_cons_self) e
      have ew : w = .int j := sr2.lookP h a2 (fun s e => by subst e; exact List.mem_cons_self) e2
      have p3 : Post G W σ T _ (if i < 2 ^ 62 ∧ j < 2 ^ 62 ∧ -(2 ^ 62) ≤ i ∧ -(2 ^ 62) ≤ j then Out.ok (rngD i (j - i).toNat) ρ2 else Out.stuck) := p2
      split at p3
      · rename_i hj
        exact ⟨i, j, by rw [ev, ew], ⟨hj.2.2.1, hj.1, hj.2.2.2, hj.2.1⟩, p3 _ _ H2 sr2.pop.pop.no walks_rng⟩
      · exact p3.elim

/-! ### for, while -/
def forL (g : D → Sl → Option Sl) (body : SEv) : List D → Sl → Out Fl
  | [], ρ => .ok .nx ρ
  | d :: ds, ρ => match g d ρ with
    | none => .stuck
    | some ρ1 => match body ρ1 with
      | .ok .nx ρ2 => forL g body ds ρ2
      | .ok .ct ρ2 => forL g body ds ρ2
      | .ok .bk ρ2 => .ok .nx ρ2
      | .ok (.ret s) ρ2 => .ok (.ret s) ρ2
      | .exc c ns es ρ2 => .exc c ns es ρ2
      | .stuck => .stuck
def sFor (it : Sl → Out (List D)) (g : D → Sl → Option Sl) (body : SEv) : SEv := fun ρ => (it ρ).bind fun ds ρ1 => forL g body ds ρ1
theorem ok_for {wi : TI} {it : Sl → Out (List D)} {tg : TG} {gg : D → Sl → Option Sl} (I : ItOk G W wi it) (B : TgOk G fx tg gg) (S : SsOk G W fx t f) : SsOk G W fx (tFor wi tg t) (sFor it gg f) := by
  intro D σ0 H ρ T sr p
  refine I σ0 H ρ T _ sr ((PostS.of p).imp fun ds ρ1 p1 J y H1 sr1 wk => ?_)
  refine ⟨fun i m σ H => m = ds.length - i ∧ i ≤ ds.length ∧ ∃ ρ, Fix fx σ0 σ ∧ SR G σ ρ (y ++ T) H ∧ PostS G W fx σ T D (forL gg f (ds.drop i) ρ), ⟨_, rfl, Nat.zero_le _, ρ1, .refl, sr1, p1⟩, ?_⟩
  rintro i m σ H ⟨rfl, hi, ρ2, fi, sr2, p2⟩
  obtain ⟨stop, go⟩ := wk σ ρ2 T H i sr2 hi
  by_cases hlt : i < ds.length
  · obtain ⟨hgo, hy⟩ := go ds[i] (List.getElem?_eq_getElem hlt)
    have ed : ds.drop i = ds[i] :: ds.drop (i + 1) := List.drop_eq_getElem_cons hlt
    rw [ed] at p2
    refine .inr ⟨hgo, fun σ' H' => ∃ ρ', Fix fx σ0 σ' ∧ SR G σ' ρ' (y ++ T) H' ∧ PostS G W fx σ' T D (forL gg f (ds.drop (i + 1)) ρ'), fun σ' H' ⟨ρ', q1, q2, q3⟩ => ⟨ds.length - (i + 1), by omega, rfl, hlt, ρ', q1, q2, q3⟩, fun x H' hx => ?_⟩
    have sr3 := hy x H' hx
    unfold forL at p2
    cases eg : gg ds[i] ρ2 with
    | none => simp only [eg] at p2; exact p2.elim
    | some ρ3 =>
      simp only [eg] at p2
      refine B x σ H' ρ2 (y ++ T) ds[i] ρ3 _ sr3 eg fun σ3 H3 f3 sr4 => ?_
      refine S _ σ3 H3 ρ3 (y ++ T) sr4 ?_
      cases ef : f ρ3 with
      | stuck => simp only [ef] at p2; exact p2.elim
      | exc c ns es ρ4 =>
        simp only [ef] at p2
        exact fun d σ4 H4 f4 sr5 => p2 d σ4 H4 (f3.trans f4) sr5.popL2
      | ok fl ρ4 =>
        simp only [ef] at p2
        cases fl with
        | nx => exact fun σ4 H4 f4 sr5 => ⟨ρ4, (fi.trans f3).trans f4, sr5, p2.fix (f3.trans f4)⟩
        | ct => exact fun σ4 H4 f4 sr5 => ⟨ρ4, (fi.trans f3).trans f4, sr5, p2.fix (f3.trans f4)⟩
        | bk => exact fun σ4 H4 f4 sr5 => p2 σ4 H4 (f3.trans f4) sr5.popL
        | ret s => exact fun v σ4 H4 f4 sr5 => p2 v σ4 H4 (f3.trans f4) sr5.popL2
  · have e : i = ds.length := by omega
    refine .inl ⟨stop e, ?_⟩
    rw [e, List.drop_length] at p2
    exact p2 σ H .refl sr2.popL
theorem ds_for {k : Nat} (C : Cok k X G W) {tg it : Expr} {body : List Stmt} {wi : TI} {gt : TG} {fi : Sl → Out (List D)} {gg : D → Sl → Option Sl} (I : DI X G W tg it wi fi) (B : DG fx X G tg gt gg) (S : DSs fx X G W body t f) (hs : ∀ x, foldedSetIterable it X.env x = pure x := by intro _; rfl) :
    DS fx X G W (.For tg it body [] pos) (tFor wi gt t) (sFor fi gg f) := ⟨ps_for C.po C.calm I.pi B.pg S.pss hs, ok_for I.ok B.ok S.ok⟩
def whileL (p : Sl → Out Bool) (body : SEv) : Nat → Sl → Out Fl
  | 0, _ => .stuck
  | n + 1, ρ => (p ρ).bind fun k ρ1 => if k then (match body ρ1 with
      | .ok .nx ρ2 => whileL p body n ρ2
      | .ok .ct ρ2 => whileL p body n ρ2
      | .ok .bk ρ2 => .ok .nx ρ2
      | .ok (.ret s) ρ2 => .ok (.ret s) ρ2
      | .exc c ns es ρ2 => .exc c ns es ρ2
      | .stuck => .stuck) else .ok .nx ρ1
def sWhile (n : Nat) (p : Sl → Out Bool) (body : SEv) : SEv := fun ρ => whileL p body n ρ
theorem ok_while {n : Nat} (P : TtOk G W tt pt) (S : SsOk G W fx t f) : SsOk G W fx (tWhile tt t) (sWhile n pt f) := by
  intro D σ0 H ρ T sr p
  refine ⟨fun m σ H => ∃ ρ, Fix fx σ0 σ ∧ SR G σ ρ T H ∧ PostS G W fx σ T D (whileL pt f m ρ), ⟨n, ρ, .refl, sr, p⟩, ?_⟩
  rintro m σ H ⟨ρ1, fi, sr1, p1⟩
  cases m with
  | zero => exact p1.elim
  | succ m =>
    refine P σ H ρ1 T _ sr1 ((PostS.of p1).imp fun k ρ2 p2 H2 sr2 => ?_)
    cases k with
    | false => exact iteF (p2 σ H2 .refl sr2)
    | true =>
      refine iteT ⟨fun σ' H' => ∃ ρ', Fix fx σ0 σ' ∧ SR G σ' ρ' T H' ∧ PostS G W fx σ' T D (whileL pt f m ρ'), fun σ' H' q => ⟨m, Nat.lt_succ_self m, q⟩, ?_⟩
      refine S _ σ H2 ρ2 T sr2 ?_
      have p3 : PostS G W fx σ T D (match f ρ2 with
        | .ok .nx ρ2 => whileL pt f m ρ2
        | .ok .ct ρ2 => whileL pt f m ρ2
        | .ok .bk ρ2 => .ok .nx ρ2
        | .ok (.ret s) ρ2 => .ok (.ret s) ρ2
        | .exc c ns es ρ2 => .exc c ns es ρ2
        | .stuck => .stuck) := p2
      cases ef : f ρ2 with
      | stuck => simp only [ef] at p3; exact p3.elim
      | exc c ns es ρ4 => simp only [ef] at p3; exact p3
      | ok fl ρ4 =>
        simp only [ef] at p3
        cases fl with
        | nx => exact fun σ4 H4 f4 sr5 => ⟨ρ4, fi.trans f4, sr5, p3.fix f4⟩
        | ct => exact fun σ4 H4 f4 sr5 => ⟨ρ4, fi.trans f4, sr5, p3.fix f4⟩
        | bk => exact p3
        | ret s => exact p3
theorem ds_while {k : Nat} (C : Cok k X G W) (n : Nat) {body : List Stmt} (P : DT X G W c tt pt) (S : DSs fx X G W body t f) : DS fx X G W (.While c body [] pos) (tWhile tt t) (sWhile n pt f) := ⟨ps_while C.po P.pt S.pss, ok_while P.ok S.ok⟩
end
end Sep

/-! SepH: defs and their calls; comprehensions; lists of one's own. -/
namespace Sep
open PySem L2

/-! ### what a def does -/
abbrev FnD := Sl → Out Slot
def fins (fx : FX) : Nat → Nat → Sl → Sl
  | _, 0, _ => []
  | i, n + 1, [] => .no :: fins fx (i + 1) n []
  | i, n + 1, s :: ρ => (if fx i then s else .no) :: fins fx (i + 1) n ρ
def fnOf (n np : Nat) (fx : FX) (body : SEv) : FnD := fun args => match body (args ++ List.replicate (n - np) .no) with
  | .ok (.ret s) ρ => .ok s (fins fx 0 np ρ)
  | .ok .nx ρ => .ok (.sh .non) (fins fx 0 np ρ)
  | .exc c ns ds ρ => .exc c ns ds (fins fx 0 np ρ)
  | _ => .stuck
def PostN (G : Gm) (vs : List V) (T : Hd) (Q : VK) (E : XK) : Out Slot → Prop
  | .ok s ρ => ∀ v H, Holds G H ((v, s) :: (vs.zip ρ ++ T)) → Q v H
  | .exc c ns ds ρ => ∀ d H, Holds G H ((.ref d, .sh (.xd ns ds)) :: (vs.zip ρ ++ T)) → E (.ref (G.cls c)) (some d) H
  | .stuck => False
abbrev Gm.w (G : Gm) (fr : List Hd) : Gm := ⟨G.cls, G.K, fr⟩
def spF (G : Gm) (np : Nat) (F : FnD) : Sp := fun vs H Q E => vs.length = np ∧ ∃ ss T fr, Holds (G.w fr) H (vs.zip ss ++ T) ∧ ss.length = np ∧ PostN (G.w fr) vs T Q E (F ss)

section
variable {G : Gm} {H : Hp} {T L : Hd}
theorem Holds.dropL : ∀ {L : Hd}, Holds G H (L ++ T) → Holds G H T
  | [], h => h
  | _ :: L, h => Holds.dropL (L := L) h.tail
theorem fins_holds {fx : FX} : ∀ {vs : List V} {np i : Nat} {σ : L2.St} {ρ : Sl} {T : Hd}, vs.length = np → (∀ (j : Nat) v, vs[j]? = some v → fx (i + j) = true → σ[j]? = some (some v)) → Holds G H (envL σ ρ ++ T) → Holds G H (vs.zip (fins fx i np ρ) ++ T)
  | [], np, i, σ, ρ, T, hl, _, h => h.dropL
  | v :: vs, 0, i, σ, ρ, T, hl, _, h => by cases hl
  | v :: vs, np + 1, i, σ, [], T, hl, hf, h => by
    show Holds G H ((v, .no) :: (vs.zip (fins fx (i + 1) np []) ++ T))
    refine Holds.no (fins_holds (σ := σ.drop 1) (ρ := []) (by simpa using hl) (fun j u e q => ?_) ?_)
    · have := hf (j + 1) u (by simpa using e) (by rw [Nat.add_right_comm, Nat.add_assoc] at q; rw [← Nat.add_assoc, Nat.add_right_comm] ; rw [Nat.add_right_comm]; rw [Nat.add_assoc]; exact q)
      rw [List.getElem?_drop]; rw [Nat.add_comm]; exact this
    · have e : ∀ τ : L2.St, envL τ ([] : Sl) = [] := fun τ => by simp [envL]
      rw [e] at h ⊢; exact h
  | v :: vs, np + 1, i, [], s :: ρ, T, hl, hf, h => by
    have hfi : fx i = false := by
      cases q : fx i with
      | false => rfl
      | true => have := hf 0 v rfl q; simp at this
    show Holds G H ((v, if fx i = true then s else .no) :: (vs.zip (fins fx (i + 1) np ρ) ++ T))
    rw [hfi, if_neg Bool.false_ne_true]
    refine Holds.no (fins_holds (σ := []) (ρ := ρ) (by simpa using hl) (fun j u e q => ?_) h)
    have := hf (j + 1) u (by simpa using e) (by rw [show i + (j + 1) = i + 1 + j by omega]; exact q)
    simp at this
  | v :: vs, np + 1, i, o :: σ, s :: ρ, T, hl, hf, h => by
    show Holds G H ((v, if fx i = true then s else .no) :: (vs.zip (fins fx (i + 1) np ρ) ++ T))
    have hr : ∀ (j : Nat) u, vs[j]? = some u → fx (i + 1 + j) = true → σ[j]? = some (some u) := fun j u e q => by
      have := hf (j + 1) u (by simpa using e) (by rw [show i + (j + 1) = i + 1 + j by omega]; exact q)
      simpa using this
    have h' : Holds G H ((o.getD .non, s) :: (envL σ ρ ++ T)) := h
    cases q : fx i with
    | false =>
      rw [if_neg Bool.false_ne_true]
      exact Holds.no (fins_holds (by simpa using hl) hr h'.tail)
    | true =>
      rw [if_pos rfl]
      have e : o = some v := by have := hf 0 v rfl q; simpa using this
      subst e
      exact (fins_holds (T := (v, s) :: T) (by simpa using hl) hr (h'.perm List.perm_middle.symm)).perm List.perm_middle
theorem env_start {N : List Str} {vs : List V} {ss : Sl} {n np : Nat} (hn : N.length = n) (hv : vs.length = np) (hs : ss.length = np) (h : Holds G H (vs.zip ss ++ T)) (hnp : np ≤ n) : SR G (L2.start N vs) (ss ++ List.replicate (n - np) .no) T H := by
  have e1 : envL (L2.start N vs) (ss ++ List.replicate (n - np) .no) = vs.zip ss ++ List.replicate (n - np) (.non, .no) := by
    unfold envL L2.start
    rw [List.map_append, List.map_map]
    have e2 : ∀ us : List V, (List.map ((fun (o : Option V) => o.getD .non) ∘ some) us) = us := fun us => by
      induction us with
      | nil => rfl
      | cons v vs ih => rw [List.map_cons, ih]; rfl
    rw [e2, List.map_replicate, List.zip_append (by rw [hv, hs]), hn, hv]
    simp [List.zip_replicate]
  refine ⟨?_, ?_, ?_⟩
  · rw [e1]
    have : ∀ m, Holds G H (vs.zip ss ++ List.replicate m (.non, .no) ++ T) := fun m => by
      induction m with
      | zero => simpa using h
      | succ m ih =>
        rw [List.replicate_succ]
        refine (ih.no (v := .non)).perm ?_
        rw [List.append_assoc, List.append_assoc]
        exact List.perm_middle.symm
    exact this _
  · unfold L2.start
    rw [List.length_append, List.length_append, List.length_map, List.length_replicate, List.length_replicate, hs, hv, hn]
  · intro i s e n
    by_cases hi : i < np
    · refine ⟨vs[i]'(by omega), ?_⟩
      unfold L2.start
      rw [List.getElem?_append_left (by rw [List.length_map]; omega), List.getElem?_map, List.getElem?_eq_getElem (by omega)]; rfl
    · rw [List.getElem?_append_right (by omega), List.getElem?_replicate] at e
      split at e
      · cases e; exact absurd rfl n
      · cases e
end

section
variable {P : Program} {w : World} {K : PySem.W.Frag} {mg : Str → Option Value} {base : Heap} {G : Gm}
/-- the context at a def's entry -/
theorem cok_def {N : List Str} {qual : Str} {sc : Scope} {f : Addr} {cdv : Value} {A : Around} {outer : List PySem.Env} {s : Shared} {H : Hp} {E : XK} {k : Nat} (hK : K = G.K) (nd : N.Nodup) (hr : Room k (A.deeper (PyProof.Rows.envOfC qual sc s.heap.objs.size f cdv))) :
    Cok k (cxOf (L2.CX P w) P w K mg base N qual sc f cdv A outer s H E) G (fun cls d _ H => E cls d H) :=
  ⟨hK, rfl, takes_of rfl rfl rfl rfl, passes_of (K := fun e s'' => L2.CX P w outer H s E e s'') (E₁ := fun e' s'' => L2.CX P w outer H s E e' s'') rfl, nd, hr⟩
/-- THE RULE of a def -/
theorem fn_ok {x qual : Str} {st : Stmt} {f : Addr} {fd : FuncData} {N ps : List Str} {k n np : Nat} {fx : FX} {b : SEv} (hK : K = G.K) (Fu : Fun K x qual st f fd) (S : FnScope N ps (defScope st)) (hn : N.length = n) (hp : ps.length = np) (hnp : np ≤ n)
    (body : ∀ (cdv : Value) (A : Around) (outer : List PySem.Env) (s : Shared) (H : Hp) (E : XK) (fr : List Hd), Cok k (cxOf (L2.CX P w) P w K mg base N qual (defScope st) f cdv A outer s H E) (G.w fr) (fun cls d _ H => E cls d H) →
      ∃ t, DSs fx (cxOf (L2.CX P w) P w K mg base N qual (defScope st) f cdv A outer s H E) (G.w fr) (fun cls d _ H => E cls d H) (defBody st) t b) :
    FnOk P w K mg base (L2.CX P w) (k + 1) f fd ps (spF G np (fnOf n np fx b)) := by
  refine Fu.okX S (fun vs H Q E h => by rw [h.1, hp]) fun cdv A outer s H vs Q E hr h => ?_
  obtain ⟨hv, ss, T, fr, hh, hs, post⟩ := h
  obtain ⟨t, D⟩ := body cdv A outer s H E fr (cok_def hK S.nd hr)
  refine ⟨t, D.pss, D.ok _ _ _ _ T (env_start hn hv hs hh hnp) ?_⟩
  have fin : ∀ {σ : L2.St} {ρ : Sl} {H' : Hp} {y : V × Slot}, Fix fx (L2.start N vs) σ → SR (G.w fr) σ ρ (y :: T) H' → Holds (G.w fr) H' (y :: (vs.zip (fins fx 0 np ρ) ++ T)) := fun {σ ρ H' y} fi sr => by
    refine (fins_holds (T := y :: T) hv (fun j v e q => ?_) sr.h).perm List.perm_middle
    rw [Nat.zero_add] at q
    rw [fi.2 j q]
    unfold L2.start
    have hj := (List.getElem?_eq_some_iff.mp e).1
    rw [List.getElem?_append_left (by rw [List.length_map]; exact hj), List.getElem?_map, e]; rfl
  unfold fnOf at post
  cases e : b (ss ++ List.replicate (n - np) .no) with
  | stuck => rw [e] at post; exact post.elim
  | exc c ns ds ρ =>
    rw [e] at post
    exact fun d σ H' fi sr => post d H' (fin fi sr)
  | ok fl ρ =>
    rw [e] at post
    cases fl with
    | nx => exact fun σ H' fi sr => post .non H' (fin fi (sr.scal (d := .non) fun _ => rfl))
    | ret s => exact fun v σ H' fi sr => post v H' (fin fi sr)
    | bk => exact post.elim
    | ct => exact post.elim
theorem fn_stuck {f : Addr} {fd : FuncData} {ps : List Str} {k np : Nat} (hp : ps.length = np) : FnOk P w K mg base (L2.CX P w) k f fd ps (spF G np fun _ => .stuck) :=
  ⟨fun vs H Q E h => by rw [h.1, hp], fun A outer s H args us vs Q E hr e0 hb r h => by
    obtain ⟨_, ss, T, _, _, _, z⟩ := h
    exact z.elim⟩
end

/-! ### calls -/
def lend : List R → Sl → Sl × Sl
  | [], ρ => ([], ρ)
  | .v s :: rs, ρ => (s :: (lend rs ρ).1, (lend rs ρ).2)
  | .r i :: rs, ρ => ((ρ[i]?).getD .no :: (lend rs (ρ.set i .no)).1, (lend rs (ρ.set i .no)).2)
def giveB : List R → Sl → Sl → Sl
  | .v _ :: rs, _ :: fs, ρ => giveB rs fs ρ
  | .r i :: rs, s :: fs, ρ => giveB rs fs (ρ.set i s)
  | _, _, ρ => ρ
def callOn (F : FnD) (rs : List R) (ρ : Sl) : Out R := match F (lend rs ρ).1 with
  | .ok s fs => .ok (.v s) (giveB rs fs (lend rs ρ).2)
  | .exc c ns ds fs => .exc c ns ds (giveB rs fs (lend rs ρ).2)
  | .stuck => .stuck
def eCall (F : FnD) (fs : Sl → Out (List R)) : Ev := fun ρ => (fs ρ).bind fun rs ρ1 => callOn F rs ρ1
section
variable {X : Cx} {G : Gm} {W : WX} {fx : FX} {a b c : Expr} {es : List Expr} {ta tb tc te : TE} {t : TA} {fa fb fc fe : Ev} {fs : Sl → Out (List R)} {pos : Pos} {σ : L2.St} {H : Hp}
theorem lend_ok : ∀ {rs : List R} {vs : List V} {ρ : Sl} {T : Hd}, SR G σ ρ (zipR vs rs ++ T) H → Ats σ rs vs → SR G σ (lend rs ρ).2 (vs.zip (lend rs ρ).1 ++ T) H ∧ (lend rs ρ).1.length = vs.length
  | [], vs, ρ, T, sr, a => by cases (show vs = [] from a); exact ⟨sr, rfl⟩
  | .v s :: rs, vs, ρ, T, sr, a => by
    obtain ⟨v, w, ev, a1, a2⟩ := a
    subst ev
    have s1 : SR G σ ρ (zipR w rs ++ ((v, s) :: T)) H := (show SR G σ ρ ((v, s) :: (zipR w rs ++ T)) H from sr).permT List.perm_middle.symm
    obtain ⟨s2, hl⟩ := lend_ok (T := (v, s) :: T) s1 a2
    exact ⟨s2.permT List.perm_middle, by show (_ :: _).length = (_ :: _).length; rw [List.length_cons, List.length_cons, hl]⟩
  | .r i :: rs, vs, ρ, T, sr, a => by
    obtain ⟨v, w, ev, a1, a2⟩ := a
    subst ev
    have a1' : σ[i]? = some (some v) := a1
    have s0 : SR G σ ρ (zipR w rs ++ T) H := (show SR G σ ρ ((v, .no) :: (zipR w rs ++ T)) H from sr).pop
    have hi : i < ρ.length := by rw [sr.len]; exact (List.getElem?_eq_some_iff.mp a1').1
    have e : ρ[i]? = some ρ[i] := List.getElem?_eq_getElem hi
    have s1 : SR G σ (ρ.set i .no) ((v, (ρ[i]?).getD .no) :: (zipR w rs ++ T)) H := by rw [e]; exact s0.lend a1' e
    obtain ⟨s2, hl⟩ := lend_ok (T := (v, (ρ[i]?).getD .no) :: T) (s1.permT List.perm_middle.symm) a2
    exact ⟨s2.permT List.perm_middle, by show (_ :: _).length = (_ :: _).length; rw [List.length_cons, List.length_cons, hl]⟩
theorem back_ok : ∀ {rs : List R} {vs : List V} {fs ρ : Sl} {T : Hd}, SR G σ ρ (vs.zip fs ++ T) H → Ats σ rs vs → SR G σ (giveB rs fs ρ) T H
  | [], vs, fs, ρ, T, sr, a => by
    cases (show vs = [] from a)
    exact sr
  | r :: rs, vs, [], ρ, T, sr, a => by
    obtain ⟨v, w, ev, a1, a2⟩ := a
    subst ev
    cases r <;> exact sr
  | .v s :: rs, vs, f :: fs, ρ, T, sr, a => by
    obtain ⟨v, w, ev, a1, a2⟩ := a
    subst ev
    exact back_ok (rs := rs) (vs := w) (fs := fs) (SR.pop sr) a2
  | .r i :: rs, vs, f :: fs, ρ, T, sr, a => by
    obtain ⟨v, w, ev, a1, a2⟩ := a
    subst ev
    have s1 : SR G σ ρ ((v, f) :: (w.zip fs ++ T)) H := sr
    exact back_ok (rs := rs) (vs := w) (fs := fs) (s1.storeAt a1) a2
/-- the call's reading from what its def does -/
theorem call_post {F : FnD} {n : Nat} {ρ : Sl} {T : Hd} {Q : VK} {rs : List R} {vs : List V} (sr : SR G σ ρ (zipR vs rs ++ T) H) (a : Ats σ rs vs) (hn : vs.length = n) (p : Post G W σ T (Rt G σ T Q) (callOn F rs ρ)) : spF G n F vs H Q (WE W σ) := by
  obtain ⟨s1, hl⟩ := lend_ok sr a
  refine ⟨hn, (lend rs ρ).1, envL σ (lend rs ρ).2 ++ T, G.fr, s1.h.perm (by
    rw [← List.append_assoc, ← List.append_assoc]
    exact List.perm_append_comm.append_right T), by rw [hl, hn], ?_⟩
  have back : ∀ {H' : Hp} {y : V × Slot} {fs : Sl}, Holds G H' (y :: (vs.zip fs ++ (envL σ (lend rs ρ).2 ++ T))) → SR G σ (giveB rs fs (lend rs ρ).2) (y :: T) H' := fun {H' y fs} h => by
    refine back_ok (rs := rs) (vs := vs) (fs := fs) (T := y :: T) ⟨h.perm ?_, s1.len, s1.as⟩ a
    have p1 : (y :: (vs.zip fs ++ (envL σ (lend rs ρ).2 ++ T))).Perm (y :: (envL σ (lend rs ρ).2 ++ (vs.zip fs ++ T))) := by
      rw [← List.append_assoc, ← List.append_assoc]
      exact (List.perm_append_comm.append_right T).cons y
    refine p1.trans (List.perm_middle.symm.trans ?_)
    exact List.Perm.append_left _ List.perm_middle.symm
  unfold callOn at p
  cases e : F (lend rs ρ).1 with
  | stuck => rw [e] at p; exact p.elim
  | ok s fs => rw [e] at p; exact fun v H' h => p v H' (back h) trivial
  | exc c ns ds fs => rw [e] at p; exact fun d H' h => p d H' (back h)
theorem Ats.length : ∀ {rs : List R} {vs : List V}, Ats σ rs vs → vs.length = rs.length
  | [], vs, a => by cases (show vs = [] from a); rfl
  | r :: rs, vs, ⟨v, w, e, a1, a2⟩ => by rw [e, List.length_cons, List.length_cons, Ats.length a2]
def eCallN (n : Nat) (F : FnD) (fs : Sl → Out (List R)) : Ev := fun ρ => (fs ρ).bind fun rs ρ1 => if rs.length = n then callOn F rs ρ1 else .stuck
theorem ok_call {F : FnD} {n : Nat} (A : ArOk G W t fs) : EvOk G W (tCallSD (spF G n F) [] (WE W) t) (eCallN n F fs) := by
  intro σ H ρ T Q sr p
  refine A σ H ρ T _ sr ((Post.bind p).imp fun rs ρ1 p1 vs H1 sr1 a1 => ?_)
  rw [List.append_nil]
  have p2 : Post G W σ T (Rt G σ T Q) (if rs.length = n then callOn F rs ρ1 else .stuck) := p1
  split at p2
  · rename_i hl
    exact call_post sr1 a1 (by rw [a1.length, hl]) p2
  · exact p2.elim
/-- f(e, ..), f a def of the text -/
theorem de_call {k j n : Nat} {f : Addr} {fd : FuncData} {ps : List Str} {F : FnD} {x : Str} {p : Pos} (C : Cok k X G W) (Fo : FnOk X.prog X.w X.K X.mg X.base (L2.CX X.prog X.w) j f fd ps (spF G n F)) (hj : j ≤ k) (hg : Gl X x) (hm : X.mg x = some (.ref f)) (hk : PySem.W.keepIn X.K (.ref f) = true) (hb : Binds X.K fd ps [])
    (A : DA X G W (a :: es) t fs) (hdb : (x == ("__debug__" : Str)) = false := by decide) (he : starEach (a :: es) X.env = (false, eval a X.env) :: starEach es X.env := by rfl) (hpl : (backTo pos (starEach es X.env)).any (·.1) = false := by rfl) :
    DE X G W (.Call (.Name x p) (a :: es) [] pos) (tCallSD (spF G n F) [] (WE W) t) (eCallN n F fs) :=
  ⟨pe_callSD Fo (C.rm.mono hj) hg hm hk hb .nil (fun σ => passAt C.tk σ) A.pa hdb he hpl, ok_call A.ok⟩
end
end Sep

/-! SepI: comprehensions; lists of one's own; isinstance. -/
namespace Sep
open PySem L2

section
variable {G : Gm} {H H' : Hp} {T L : Hd} {O : List Addr}
/-! ### writing to a list of one's own -/
theorem RepSs.app : ∀ {ss : List Slot} {xs ys : List V} {os : List Addr} {ds : List D}, RepSs G H O ss xs os → RepDs G H O ds ys → RepSs G H O (ss ++ shs ds) (xs ++ ys) os
  | [], xs, ys, os, ds, h, h' => by
    rw [show xs = [] from h.1, show os = [] from h.2]
    exact h'.sh
  | s :: ss, xs, ys, os, ds, ⟨v, r, o1, o2, e, eo, h1, h2⟩, h' => ⟨v, r ++ ys, o1, o2, by rw [e]; rfl, eo, h1, RepSs.app h2 h'⟩
theorem Holds.wr {v : V} {ss : List Slot} (h : Hold G H O ((v, .lst ss) :: L)) : ∃ a xs os', v = .ref a ∧ H a = some (.lst xs) ∧ RepSs G H O ss xs os' ∧
    ∀ xs' ss', RepSs G H O ss' xs' os' → Holds G (upd H a (.lst xs')) ((v, .lst ss') :: L) := by
  obtain ⟨⟨o1, o2, eo, ⟨a, xs, os', ev, e1, h1, h2⟩, h3⟩, OF, hf, nd⟩ := h
  subst e1
  refine ⟨a, xs, os', ev, h1, h2, fun xs' ss' h4 => ?_⟩
  have nd0 := nd
  rw [eo] at nd
  have ndO := List.nodup_append.mp nd
  have nd1 := List.nodup_append.mp ndO.1
  have na : a ∉ os' := (List.nodup_cons.mp nd1.1).1
  have na2 : a ∉ o2 := fun z => nd1.2.2 a List.mem_cons_self a z rfl
  have na3 : a ∉ OF := fun z => ndO.2.2 a (List.mem_append_left _ List.mem_cons_self) a z rfl
  have k : Keep [a] H (upd H a (.lst xs')) := fun b o e n => by rw [upd_ne (fun (z : b = a) => n (by rw [z]; exact List.mem_cons_self))]; exact e
  have hW : ∀ b ∈ [a], b ∈ O := fun b z => by rw [List.mem_singleton.mp z, eo]; exact List.mem_append_left _ List.mem_cons_self
  refine ⟨O, ⟨a :: os', o2, eo, ⟨a, xs', os', ev, rfl, upd_same, ?_⟩, ?_⟩, OF, ?_, nd0⟩
  · exact RepSs.step k hW (fun b z => .inl z) ss' xs' os' h4 fun b z q => na (List.mem_singleton.mp q ▸ z)
  · exact RepL.step k hW (fun b z => .inl z) h3 fun b z q => na2 (List.mem_singleton.mp q ▸ z)
  · exact hf.step k hW (fun b z => .inl z) fun b z q => na3 (List.mem_singleton.mp q ▸ z)
theorem Holds.appendL {v w : V} {d : D} {ss : List Slot} (h : Holds G H ((w, .sh d) :: (v, .lst ss) :: L)) : ∃ a xs, v = .ref a ∧ H a = some (.lst xs) ∧ xs.length = ss.length ∧ Holds G (upd H a (.lst (xs ++ [w]))) ((v, .lst (ss ++ [.sh d])) :: L) := by
  obtain ⟨O, ⟨o1, o2, eo, h1, h2⟩, nd⟩ := h
  have e1 : o1 = [] := h1.1
  subst e1
  have eo' : O = o2 := eo
  subst eo'
  obtain ⟨a, xs, os', ev, ha, hr, k⟩ := Holds.wr (G := G) (H := H) (O := O) (v := v) (ss := ss) (L := L) ⟨h2, nd⟩
  exact ⟨a, xs, ev, ha, hr.length, k _ _ (hr.app (ds := [d]) (ys := [w]) ⟨w, [], rfl, h1.2, rfl⟩)⟩
theorem RepDs.setI : ∀ {ds : List D} {xs : List V} {j : Nat} {d : D} {w : V}, RepDs G H O ds xs → RepD G H O d w → RepDs G H O (ds.set j d) (xs.set j w)
  | [], xs, j, d, w, h, _ => by rw [show xs = [] from h]; rfl
  | d' :: ds, xs, 0, d, w, ⟨v, r, e, h1, h2⟩, h' => by rw [e]; exact ⟨w, r, rfl, h', h2⟩
  | d' :: ds, xs, j + 1, d, w, ⟨v, r, e, h1, h2⟩, h' => by rw [e]; exact ⟨v, r.set j w, rfl, h1, RepDs.setI h2 h'⟩
theorem Holds.setL {v w : V} {d : D} {ds : List D} {j : Nat} (h : Holds G H ((w, .sh d) :: (v, .lst (shs ds)) :: L)) : ∃ a xs, v = .ref a ∧ H a = some (.lst xs) ∧ xs.length = ds.length ∧ Holds G (upd H a (.lst (xs.set j w))) ((v, .lst (shs (ds.set j d))) :: L) := by
  obtain ⟨O, ⟨o1, o2, eo, h1, h2⟩, nd⟩ := h
  have e1 : o1 = [] := h1.1
  subst e1
  have eo' : O = o2 := eo
  subst eo'
  obtain ⟨a, xs, os', ev, ha, hr, k⟩ := Holds.wr (G := G) (H := H) (O := O) (v := v) (ss := shs ds) (L := L) ⟨h2, nd⟩
  obtain ⟨e2, rd⟩ := hr.flat
  subst e2
  exact ⟨a, xs, ev, ha, rd.length, k _ _ (rd.setI h1.2).sh⟩
theorem set_permW : ∀ {σ : L2.St} {ρ : Sl} {i : Nat} {v : V} {s : Slot}, σ[i]? = some (some v) → ρ[i]? = some s → ∃ L0, (envL σ ρ).Perm ((v, s) :: L0) ∧ ∀ w, (envL σ (ρ.set i w)).Perm ((v, w) :: L0)
  | o :: σ, s' :: ρ, 0, v, s, h1, h2 => by
    have e1 : o = some v := by simpa using h1
    have e2 : s' = s := by simpa using h2
    subst e1 e2
    exact ⟨envL σ ρ, .refl _, fun w => .refl _⟩
  | o :: σ, s' :: ρ, i + 1, v, s, h1, h2 => by
    obtain ⟨L0, p1, p2⟩ := set_permW (σ := σ) (ρ := ρ) (i := i) (by simpa using h1) (by simpa using h2)
    exact ⟨(o.getD .non, s') :: L0, (p1.cons _).trans (.swap _ _ _), fun w => ((p2 w).cons _).trans (.swap _ _ _)⟩
  | [], _, _, _, _, h1, _ => by simp at h1
  | _ :: _, [], _, _, _, _, h2 => by simp at h2
/-- a slot's thing as the first held; and back, changed -/
theorem SR.out {σ : L2.St} {ρ : Sl} {i : Nat} {v : V} {s : Slot} (sr : SR G σ ρ T H) (h1 : σ[i]? = some (some v)) (h2 : ρ[i]? = some s) : ∃ L0, Holds G H ((v, s) :: (L0 ++ T)) ∧ ∀ T' H' w, Holds G H' ((v, w) :: (L0 ++ T')) → SR G σ (ρ.set i w) T' H' := by
  obtain ⟨L0, p1, p2⟩ := set_permW h1 h2
  exact ⟨L0, sr.h.perm (p1.append_right T), fun T' H' w h => ⟨h.perm ((p2 w).symm.append_right T'), by rw [List.length_set]; exact sr.len, as_set sr.as ⟨v, h1⟩⟩⟩
end

section
variable {X : Cx} {G : Gm} {W : WX} {fx : FX} {a b c : Expr} {es : List Expr} {ta tb tc te : TE} {t : TA} {fa fb fc fe : Ev} {pos : Pos}
/-- x.append(e) -/
def eApp (fa fb : Ev) : Ev := fun ρ => (fa ρ).bind fun r1 ρ1 => match r1 with
  | .r i => (match ρ1[i]? with
    | some (.lst _) => (fb ρ1).bind fun r2 ρ2 => (cons r2 ρ2).bind fun d ρ3 => (match ρ3[i]? with
      | some (.lst ss) => if ss.length < LIM then .ok (.v (.sh .non)) (ρ3.set i (.lst (ss ++ [.sh d]))) else .stuck
      | _ => .stuck)
    | _ => .stuck)
  | _ => .stuck
theorem lst_at {σ : L2.St} {ρ : Sl} {T : Hd} {H : Hp} {i : Nat} {v : V} {ss : List Slot} (sr : SR G σ ρ T H) (h1 : σ[i]? = some (some v)) (h2 : ρ[i]? = some (.lst ss)) : ∃ a xs, v = .ref a ∧ H a = some (.lst xs) := by
  obtain ⟨L0, ⟨O, h⟩, _⟩ := sr.out h1 h2
  obtain ⟨a, xs, os', ev, ha, _, _⟩ := Holds.wr h
  exact ⟨a, xs, ev, ha⟩
theorem ok_app (A : EvOk G W ta fa) (B : EvOk G W tb fb) : EvOk G W (tBM G.K "list" rAppend ta (tCons tb tNil)) (eApp fa fb) := by
  intro σ H ρ T Q sr p
  refine A σ H ρ T _ sr ((Post.bind p).imp fun r1 ρ1 p1 x H1 sr1 a1 => ?_)
  cases r1 with
  | v s => exact p1.elim
  | r i =>
    have a1' : σ[i]? = some (some x) := a1
    cases e1 : ρ1[i]? with
    | none => simp only [e1] at p1; exact p1.elim
    | some s1 =>
      simp only [e1] at p1
      cases s1 <;> first | (exact p1.elim) | skip
      rename_i ss1
      obtain ⟨a, xs, ea, ha⟩ := lst_at sr1.pop a1' e1
      subst ea
      refine ⟨.inl ⟨rfl, _, .of ha⟩, B σ H1 ρ1 ((.ref a, .no) :: T) _ sr1 ((Post.bind p1).more.imp fun r2 ρ2 p2 y H2 sr2 a2 => ?_)⟩
      rcases cons_or r2 ρ2 with ⟨d, ρ3, e⟩ | e
      · simp only [e, Out.bind] at p2
        have sr3 := (sr2.take1 a2 e).pop2
        cases e3 : ρ3[i]? with
        | none => simp only [e3] at p2; exact p2.elim
        | some s3 =>
          simp only [e3] at p2
          cases s3 <;> first | (exact p2.elim) | skip
          rename_i ss
          simp only at p2
          split at p2
          · rename_i hz
            obtain ⟨L0, h1, back⟩ := sr3.out a1' e3
            obtain ⟨a', xs', ea', ha', hl, h2⟩ := Holds.appendL (L := L0 ++ T) (h1.perm ((List.Perm.cons _ List.perm_middle).trans (.swap _ _ _)))
            cases ea'
            refine ⟨a, xs', y, rfl, rfl, ha', by rw [hl]; exact Nat.lt_of_lt_of_le hz (by rw [sizeLine_eq]; exact Nat.le_refl _), p2 _ _ ?_ trivial⟩
            exact (back T _ _ h2).scal fun _ => rfl
          · exact p2.elim
      · simp only [e, Out.bind] at p2; exact p2.elim
theorem de_app {apos : Pos} (hK : X.K = G.K) (A : DE X G W a ta fa) (B : DE X G W b tb fb) (hbase : attributeBase a ("append" : Str) X.env (eval a X.env) = eval a X.env := by rfl)
    (hfew : ((backTo pos (starEach [b] X.env)).all (fun x => !x.1) && (backToKw pos (keywordEach [] X.env)).all (fun x => x.1.isSome) && decide (([b] : List Expr).length + ([] : List Keyword).length + (if ([] : List Keyword).isEmpty then 0 else 1) < 30)) = true := by rfl)
    (hline : (apos.endLine == pos.line) = true := by rfl) (h1 : starEach [b] X.env = (false, eval b X.env) :: starEach [] X.env := by rfl) (h2 : (backTo pos (starEach [] X.env)).any (·.1) = false := by rfl) : DE X G W (.Call (.Attribute a "append" apos) [b] [] pos) (tBM G.K "list" rAppend ta (tCons tb tNil)) (eApp fa fb) :=
  ⟨by have := pe_bm (cpos := pos) (apos := apos) PySem.F.plainAttrs_list PySem.F.slot_list_append PySem.F.type_list_append mt_append A.pe (pa_cons B.pe pa_nil h1) hbase hfew hline h1 h2; rw [hK] at this; exact this, ok_app A.ok B.ok⟩

/-! ### o[i] = .. -/
def kSub (fa fb : Ev) : D → Sl → Option Sl := fun d ρ => match fa ρ with
  | .ok (.r i) ρ1 => (match fb ρ1 with
    | .ok r2 ρ2 => (match look r2 ρ2, ρ2[i]? with
      | some (.int k), some (.lst ss) => (match flats ss with
        | some ds => (ixN ds.length k).map fun j => ρ2.set i (.lst (shs (ds.set j d)))
        | none => none)
      | _, _ => none)
    | _ => none)
  | _ => none
theorem tg_sub (A : EvOk G W ta fa) (B : EvOk G W tb fb) : TgOk G fx (gSub ta tb rSetL) (kSub fa fb) := by
  intro v σ H ρ T d ρ' Q sr e q
  unfold kSub at e
  refine A σ H ρ ((v, .sh d) :: T) _ sr ?_
  cases e1 : fa ρ with
  | stuck => simp only [e1] at e; cases e
  | exc => simp only [e1] at e; cases e
  | ok r1 ρ1 =>
    simp only [e1] at e
    cases r1 with
    | v s => cases e
    | r i =>
      intro x H1 sr1 a1
      simp only at e
      refine B σ H1 ρ1 ((x, .no) :: (v, .sh d) :: T) _ sr1 ?_
      cases e2 : fb ρ1 with
      | stuck => simp only [e2] at e; cases e
      | exc => simp only [e2] at e; cases e
      | ok r2 ρ2 =>
        simp only [e2] at e
        intro y H2 sr2 a2
        cases e3 : look r2 ρ2 with
        | none => simp only [e3] at e; cases e
        | some d2 =>
          cases d2 <;> first | (simp only [e3] at e; cases e; done) | skip
          rename_i k
          simp only [e3] at e
          cases e4 : ρ2[i]? with
          | none => simp only [e4] at e; cases e
          | some s4 =>
            simp only [e4] at e
            cases s4 <;> first | (cases e; done) | skip
            rename_i ss
            simp only at e
            cases e5 : flats ss with
            | none => simp only [e5] at e; cases e
            | some ds =>
              simp only [e5] at e
              obtain ⟨j, e6, e7⟩ := Option.map_eq_some_iff.mp e
              subst e7
              obtain ⟨O, ho⟩ := sr2.h
              have ey : y = .int k := sr2.lookP ho a2 (fun s e => by subst e; exact List.mem_cons_self) e3
              have sr3 : SR G σ ρ2 ((v, .sh d) :: T) H2 := sr2.pop.pop
              obtain ⟨L0, h1, back⟩ := sr3.out a1 e4
              rw [flats_eq e5] at h1
              obtain ⟨a', xs', ea', ha', hl, h2⟩ := Holds.setL (j := j) (L := L0 ++ T) (h1.perm ((List.Perm.cons _ List.perm_middle).trans (.swap _ _ _)))
              exact ⟨a', xs', k, j, ea', ey, ha', by rw [hl]; exact e6, q σ _ .refl (back T _ _ h2)⟩
theorem dg_sub {k : Nat} (_ : Cok k X G W) (A : DE X G W a ta fa) (B : DE X G W b tb fb) (ha : ∀ v, assign (.Subscript a b pos) X.env v = (do
      let ov ← holding [v] (eval a X.env)
      let iv ← holding [v, ov] (eval b X.env)
      standAt pos
      holding [v, ov, iv] (setItem ov iv v)
      release [v, ov, iv] []) := by intro _; rfl) : DG fx X G (.Subscript a b pos) (gSub ta tb rSetL) (kSub fa fb) := ⟨pg_sub A.pe B.pe set_list ha, tg_sub A.ok B.ok⟩

/-! ### isinstance(x, T), T a built-in type -/
def tyN : D → String
  | .non => "NoneType"
  | .bl _ => "bool"
  | .int _ => "int"
  | .str _ => "str"
  | .tup _ => "tuple"
  | .lst _ => "list"
  | .rol _ => "list"
  | .dct _ _ => "dict"
  | .obj _ _ _ => ""
  | .xd _ _ => ""
  | .raw _ _ => ""
  | .kls _ => ""
def D.odd : D → Bool
  | .xd _ _ => true
  | .raw _ _ => true
  | .kls _ => true
  | _ => false
def isT (T : String) (d : D) : Option Bool := match d with
  | .obj _ _ _ => none
  | .xd _ _ => none
  | .raw _ _ => none
  | .kls _ => none
  | .non => some false
  | .bl _ => some (decide (T = "bool") || decide (T = "int"))
  | .int _ => some (decide (T = "int"))
  | .str _ => some (decide (T = "str"))
  | .tup _ => some (decide (T = "tuple"))
  | .lst _ => some (decide (T = "list"))
  | .rol _ => some (decide (T = "list"))
  | .dct _ _ => some (decide (T = "dict"))
abbrev tyNames : List String := ["bool", "int", "str", "tuple", "list", "dict"]
theorem kit_all : (tyNames.all fun T => (kitB "NoneType" T == some false) && (kitB "bool" T == some (decide (T = "bool") || decide (T = "int"))) && (kitB "int" T == some (decide (T = "int"))) && (kitB "str" T == some (decide (T = "str"))) && (kitB "tuple" T == some (decide (T = "tuple")))
    && (kitB "list" T == some (decide (T = "list"))) && (kitB "dict" T == some (decide (T = "dict")))) = true := by decide +kernel
theorem isT_kit {T : String} {d : D} {k : Bool} (hT : T ∈ tyNames) (e : isT T d = some k) : kitB (tyN d) T = some k := by
  have h := List.all_eq_true.mp kit_all T hT
  simp only [Bool.and_eq_true, beq_iff_eq] at h
  obtain ⟨⟨⟨⟨⟨⟨h1, h2⟩, h3⟩, h4⟩, h5⟩, h6⟩, h7⟩ := h
  cases d <;> first | (cases e; done) | (cases e; assumption)
theorem tyx_of {H : Hp} {O : List Addr} {d : D} {v : V} (h : RepP G H O d v) (n : ∀ c ns ds, d ≠ .obj c ns ds) (n2 : d.odd = false) : TyX G.K H v (.type (tyN d)) := by
  cases d with
  | non => cases h; exact .base .non
  | bl b => cases h; exact .base (.bl b)
  | int i => cases h; exact .base (.int i)
  | str s => cases h; exact .base (.str s)
  | tup ds =>
    obtain ⟨a, xs, e, h1, _⟩ := h
    subst e
    rcases h1 with ⟨h1 | ⟨o, h1⟩, _⟩ | ⟨o, its, m, h1, h2, _⟩
    · exact .base (.tup h1)
    · exact .fTuple h1
    · exact .kTuple h1 h2
  | lst ds =>
    obtain ⟨a, xs, e, h1, _⟩ := h
    subst e
    exact .base (.lst h1)
  | rol ds =>
    obtain ⟨a, xs, e, h1, _⟩ := h
    subst e
    rcases h1 with ⟨h1 | ⟨o, h1⟩, _⟩ | ⟨o, its, m, h1, h2, _⟩
    · exact .base (.lst h1)
    · exact .base (.frz h1)
    · exact .kList h1 h2
  | obj c ns ds => exact absurd rfl (n c ns ds)
  | dct ks ds =>
    obtain ⟨a, xs, e, h1, _⟩ := h
    subst e
    rcases h1 with h1 | ⟨o, h1⟩
    · exact .base (.dK h1)
    · exact .fDict h1
  | xd ns ds => cases n2
  | raw _ _ => cases n2
  | kls _ => cases n2
def gIsi (T : String) : D → Option Slot := fun d => (isT T d).map fun k => .sh (.bl k)
def tIsi (K : PySem.W.Frag) (T : String) (ta : TE) : TE := tCB (rIsi K) (tCons ta (tCons (tC (.ty T)) tNil))
theorem ok_isi {T : String} (hT : T ∈ tyNames) (A : EvOk G W ta fa) : EvOk G W (tIsi G.K T ta) (eUn (gIsi T) fa) := by
  intro σ H ρ Tp Q sr p
  refine A σ H ρ Tp _ sr ((Post.bind p).imp fun r ρ1 p1 x H1 sr1 a1 => ?_)
  cases e1 : look r ρ1 with
  | none => simp only [e1] at p1; exact p1.elim
  | some d =>
    simp only [e1] at p1
    cases e2 : isT T d with
    | none => unfold gIsi at p1; simp only [e2, Option.map_none] at p1; exact p1.elim
    | some k =>
      unfold gIsi at p1
      simp only [e2, Option.map_some] at p1
      obtain ⟨O, h⟩ := sr1.h
      have rp := sr1.lookP h a1 (fun s e => by subst e; exact List.mem_cons_self) e1
      refine ⟨x, .ty T, .type (tyN d), .type T, k, rfl, .ty T, tyx_of rp (fun c ns ds z => by rw [z] at e2; cases e2) (by cases d <;> first | rfl | cases e2), kit_ty (isT_kit hT e2), p1 _ H1 (sr1.pop.scal fun _ => rfl) trivial⟩
theorem de_isi {p p2 : Pos} {T : String} {x : Str} (hT : T ∈ tyNames) (hK : X.K = G.K) (hg : Gl X "isinstance") (hm : X.mg "isinstance" = none) (hg2 : Gl X x) (hm2 : X.mg x = none) (hv : bootBuiltins x = some (.type T)) (A : DE X G W a ta fa) (hn : x ≠ "__name__" := by decide) (hd : (x == ("__debug__" : Str)) = false := by decide)
    (he : starEach [a, .Name x p2] X.env = (false, eval a X.env) :: starEach [.Name x p2] X.env := by rfl) (he1 : starEach [.Name x p2] X.env = (false, eval (.Name x p2) X.env) :: starEach [] X.env := by rfl) (hpl : (backTo pos (starEach [.Name x p2] X.env)).any (·.1) = false := by rfl) :
    DE X G W (.Call (.Name "isinstance" p) [a, .Name x p2] [] pos) (tIsi G.K T ta) (eUn (gIsi T) fa) :=
  ⟨pe_callB (by rw [← hK]; exact call_isi) hg hm boot_isi (pa_cons A.pe (pa_cons (pe_bltn hg2 hm2 hv rfl hn hd) pa_nil he1) he) (by decide) (by decide) he hpl, ok_isi hT A.ok⟩
end
end Sep

/-! SepJ: list comprehensions. -/
namespace Sep
open PySem L2

def wipeR (ρ : Sl) : List Nat → Sl
  | [] => ρ
  | v :: vs => (wipeR ρ vs).set v .no
def compL (vs : List Nat) (g : D → Sl → Option Sl) (p : Sl → Out Bool) (e : Ev) : List D → List D → Sl → Out (List D)
  | [], acc, ρ => .ok acc ρ
  | d :: ds, acc, ρ => match g d ρ with
    | none => .stuck
    | some ρ1 => match p ρ1 with
      | .ok true ρ2 => (match e ρ2 with
        | .ok r ρ3 => (cons r ρ3).bind fun y ρ4 => if acc.length < LIM then compL vs g p e ds (acc ++ [y]) (wipeR ρ4 vs) else .stuck
        | _ => .stuck)
      | .ok false ρ2 => compL vs g p e ds acc (wipeR ρ2 vs)
      | _ => .stuck
def eComp (vs : List Nat) (it : Sl → Out (List D)) (g : D → Sl → Option Sl) (p : Sl → Out Bool) (e : Ev) : Ev := fun ρ => (it ρ).bind fun ds ρ1 => (compL vs g p e ds [] (wipeR ρ1 vs)).bind fun ys ρ2 => .ok (.v (.lst (shs ys))) ρ2
def pYes : Sl → Out Bool := fun ρ => .ok true ρ
abbrev W0 : WX := fun _ _ _ _ => False
def outV (vs : List Nat) : FX := fun i => !vs.contains i

section
variable {G : Gm} {H : Hp} {T : Hd} {σ : L2.St} {ρ : Sl}
theorem env_set (i : Nat) (o : Option V) (s : Slot) : ∀ {σ : L2.St} {ρ : Sl}, envL (σ.set i o) (ρ.set i s) = (envL σ ρ).set i (o.getD .non, s) := by
  induction i with
  | zero =>
    intro σ ρ
    cases σ <;> cases ρ <;> rfl
  | succ i ih =>
    intro σ ρ
    cases σ with
    | nil => simp [envL]
    | cons a σ =>
      cases ρ with
      | nil => simp [envL]
      | cons b ρ =>
        show (a.getD .non, b) :: envL (σ.set i o) (ρ.set i s) = (a.getD .non, b) :: (envL σ ρ).set i (o.getD .non, s)
        rw [ih]
theorem SR.unset (sr : SR G σ ρ T H) (i : Nat) : SR G (σ.set i none) (ρ.set i .no) T H := by
  refine ⟨by rw [env_set]; exact set_holds (sr.h.no), by rw [List.length_set, List.length_set]; exact sr.len, fun j s e n => ?_⟩
  by_cases q : i = j
  · subst q
    by_cases hl : i < ρ.length
    · rw [List.getElem?_set_self hl] at e
      cases e
      exact absurd rfl n
    · rw [List.getElem?_eq_none (by rw [List.length_set]; omega)] at e
      cases e
  · rw [List.getElem?_set_ne q] at e ⊢
    exact sr.as j s e n
theorem SR.reset {i : Nat} (sr : SR G (σ.set i none) (ρ.set i .no) T H) : SR G σ (ρ.set i .no) T H := by
  have hl : ρ.length = σ.length := by have := sr.len; rwa [List.length_set, List.length_set] at this
  refine ⟨?_, by rw [List.length_set]; exact hl, fun j s e n => ?_⟩
  · have h := sr.h
    rw [env_set] at h
    cases q : σ[i]? with
    | none =>
      have : σ.length ≤ i := List.getElem?_eq_none_iff.mp q
      have e1 : ρ.set i .no = ρ := List.set_eq_of_length_le (by omega)
      have e2 : (envL σ ρ).set i ((none : Option V).getD .non, .no) = envL σ ρ := List.set_eq_of_length_le (by unfold envL; rw [List.length_zip, List.length_map]; omega)
      rw [e1]
      rw [e2] at h
      exact h
    | some o =>
      have e : envL σ (ρ.set i .no) = ((envL σ ρ).set i (V.non, Slot.no)).set i (o.getD .non, .no) := by
        have := env_set i o .no (σ := σ) (ρ := ρ)
        rw [set_self q] at this
        rw [this, List.set_set]
      rw [e]
      exact set_holds h.no
  · by_cases q : i = j
    · subst q
      by_cases hl : i < ρ.length
      · rw [List.getElem?_set_self hl] at e
        cases e
        exact absurd rfl n
      · rw [List.getElem?_eq_none (by rw [List.length_set]; omega)] at e
        cases e
    · obtain ⟨v, h⟩ := sr.as j s e n
      rw [List.getElem?_set_ne q] at h
      exact ⟨v, h⟩
theorem SR.wipe (sr : SR G σ ρ T H) : ∀ vs : List Nat, SR G (L2.wipe σ vs) (wipeR ρ vs) T H
  | [] => sr
  | v :: vs => (SR.wipe sr vs).unset v
theorem wipeR_set : ∀ (vs : List Nat) (ρ : Sl) (v : Nat), (wipeR ρ vs).set v .no = wipeR (ρ.set v .no) vs
  | [], ρ, v => rfl
  | u :: vs, ρ, v => by
    show ((wipeR ρ vs).set u .no).set v .no = (wipeR (ρ.set v .no) vs).set u .no
    rw [← wipeR_set vs ρ v]
    by_cases e : u = v
    · subst e; rfl
    · rw [List.set_comm _ _ e]
theorem SR.unwipe : ∀ {vs : List Nat} {ρ : Sl}, SR G (L2.wipe σ vs) (wipeR ρ vs) T H → SR G σ (wipeR ρ vs) T H
  | [], ρ, sr => sr
  | v :: vs, ρ, sr => by
    have h1 : SR G (L2.wipe σ vs) ((wipeR ρ vs).set v .no) T H := SR.reset sr
    rw [wipeR_set] at h1
    have h2 := SR.unwipe h1
    show SR G σ ((wipeR ρ vs).set v .no) T H
    rw [wipeR_set]
    exact h2
theorem wipe_in : ∀ {vs : List Nat} {τ : L2.St} {j : Nat}, j ∈ vs → j < τ.length → (L2.wipe τ vs)[j]? = some none
  | v :: vs, τ, j, h, hl => by
    show ((L2.wipe τ vs).set v none)[j]? = some none
    by_cases e : v = j
    · subst e
      rw [List.getElem?_set_self (by rw [L2.wipe_length]; exact hl)]
    · rw [List.getElem?_set_ne e]
      rcases List.mem_cons.mp h with q | q
      · exact absurd q.symm e
      · exact wipe_in q hl
theorem wipe_fix {vs : List Nat} {τ : L2.St} (f : Fix (outV vs) (L2.wipe σ vs) τ) : L2.wipe τ vs = L2.wipe σ vs := by
  have hl : τ.length = σ.length := by rw [f.1, L2.wipe_length]
  apply List.ext_getElem?
  intro j
  by_cases hj : j < σ.length
  · by_cases hm : j ∈ vs
    · rw [wipe_in hm (by omega), wipe_in hm hj]
    · rw [L2.wipe_out hm, f.2 j (by unfold outV; simp [hm])]
  · rw [List.getElem?_eq_none (by rw [L2.wipe_length]; omega), List.getElem?_eq_none (by rw [L2.wipe_length]; omega)]
end

structure DTs (X : Cx) (G : Gm) (W : WX) (ifs : List Expr) (t : TT) (f : Sl → Out Bool) : Prop where
  pts : PTs X ifs t
  ok : TtOk G W t f
section
variable {X : Cx} {G : Gm} {W : WX} {fx : FX} {a b c elt tg iter : Expr} {ta tb te : TE} {tt : TT} {wi : TI} {gt : TG} {fa fe : Ev} {pt : Sl → Out Bool} {fi : Sl → Out (List D)} {gg : D → Sl → Option Sl} {pos : Pos} {ifs : List Expr} {scope : Scope} {own : List (Str × Nat)}
theorem dts_nil : DTs X G W [] tYes pYes := ⟨pts_nil, fun σ H ρ T Q sr p => p H sr⟩
theorem dts_one (A : DT X G W c tt pt) : DTs X G W [c] tt pt := ⟨pts_one A.pt, A.ok⟩
theorem ok_comp {vs : List Nat} (I : ItOk G W wi fi) (B : TgOk G (outV vs) gt gg) (P : TtOk G W0 tt pt) (E : EvOk G W0 te fe) : EvOk G W (tLc wi gt tt te vs) (eComp vs fi gg pt fe) := by
  intro σ H ρ T Q sr p
  refine I σ H ρ T _ sr ((Post.bind p).imp fun ds ρ1 p1 J y H1 sr1 wk => ?_)
  intro Da hD
  have PC : ∃ ys ρ2, compL vs gg pt fe ds [] (wipeR ρ1 vs) = .ok ys ρ2 ∧ ∀ v H', SR G σ ρ2 ((v, .lst (shs ys)) :: T) H' → Q v H' := by
    have p2 := Post.bind p1
    have noexc : ∀ (ds acc : List D) (ρ : Sl), (∃ ys ρ2, compL vs gg pt fe ds acc ρ = .ok ys ρ2) ∨ compL vs gg pt fe ds acc ρ = .stuck := by
      intro ds
      induction ds with
      | nil => exact fun acc ρ => .inl ⟨acc, ρ, rfl⟩
      | cons d ds ih =>
        intro acc ρ
        unfold compL
        cases gg d ρ with
        | none => exact .inr rfl
        | some ρ1 =>
          simp only
          cases pt ρ1 with
          | stuck => exact .inr rfl
          | exc => exact .inr rfl
          | ok k ρ2 =>
            cases k with
            | false => exact ih acc _
            | true =>
              simp only
              cases fe ρ2 with
              | stuck => exact .inr rfl
              | exc => exact .inr rfl
              | ok r ρ3 =>
                simp only
                rcases cons_or r ρ3 with ⟨y, ρ4, e⟩ | e
                · rw [e]
                  simp only [Out.bind]
                  split
                  · exact ih _ _
                  · exact .inr rfl
                · rw [e]; exact .inr rfl
    rcases noexc ds [] (wipeR ρ1 vs) with ⟨ys, ρ2, e⟩ | e
    · rw [e] at p2
      exact ⟨ys, ρ2, e, fun v H' h => p2 v H' h trivial⟩
    · rw [e] at p2; exact p2.elim
  refine ⟨fun i m H => m = ds.length - i ∧ i ≤ ds.length ∧ ∃ ρ0 acc, SR G (L2.wipe σ vs) (wipeR ρ0 vs) ((.ref Da, .lst (shs acc)) :: (y ++ T)) H ∧
    ∃ ys ρ2, compL vs gg pt fe (ds.drop i) acc (wipeR ρ0 vs) = .ok ys ρ2 ∧ ∀ v H', SR G σ ρ2 ((v, .lst (shs ys)) :: T) H' → Q v H', ⟨_, rfl, Nat.zero_le _, ρ1, [], ?_, PC⟩, ?_⟩
  · obtain ⟨O, h⟩ := sr1.h
    exact (sr1.push (h.newL (xs := []) (ss := []) hD ⟨rfl, rfl⟩)).wipe vs
  rintro i m H2 ⟨rfl, hi, ρ0, acc, sr2, ys, ρ2, ec, fin⟩
  have sr2' : SR G (L2.wipe σ vs) (wipeR ρ0 vs) (y ++ ((.ref Da, .lst (shs acc)) :: T)) H2 := sr2.permT List.perm_middle.symm
  obtain ⟨stop, go⟩ := wk _ _ _ _ i sr2' hi
  by_cases hlt : i < ds.length
  · obtain ⟨hgo, hy⟩ := go ds[i] (List.getElem?_eq_getElem hlt)
    have ed : ds.drop i = ds[i] :: ds.drop (i + 1) := List.drop_eq_getElem_cons hlt
    rw [ed] at ec
    refine .inr ⟨hgo, fun H' => ∃ ρ0 acc, SR G (L2.wipe σ vs) (wipeR ρ0 vs) ((.ref Da, .lst (shs acc)) :: (y ++ T)) H' ∧
      ∃ ys ρ2, compL vs gg pt fe (ds.drop (i + 1)) acc (wipeR ρ0 vs) = .ok ys ρ2 ∧ ∀ v H', SR G σ ρ2 ((v, .lst (shs ys)) :: T) H' → Q v H',
      fun H' q => ⟨ds.length - (i + 1), by omega, rfl, hlt, q⟩, fun x H' hx => ?_⟩
    have sr3 := hy x H' hx
    unfold compL at ec
    cases eg : gg ds[i] (wipeR ρ0 vs) with
    | none => simp only [eg] at ec; cases ec
    | some ρ3 =>
      simp only [eg] at ec
      refine B x _ H' _ (y ++ ((.ref Da, .lst (shs acc)) :: T)) ds[i] ρ3 _ sr3 eg fun σ3 H3 f3 sr4 => ⟨wipe_fix f3, ?_⟩
      refine P σ3 H3 ρ3 _ _ sr4 ?_
      cases ep : pt ρ3 with
      | stuck => simp only [ep] at ec; cases ec
      | exc => simp only [ep] at ec; cases ec
      | ok k ρ4 =>
        intro H4 sr5
        cases k with
        | false =>
          simp only [ep] at ec
          refine iteF ⟨ρ4, acc, ?_, ys, ρ2, ec, fin⟩
          have := (sr5.permT List.perm_middle).wipe vs
          rwa [wipe_fix f3] at this
        | true =>
          simp only [ep] at ec
          refine iteT (E σ3 H4 ρ4 _ _ sr5 ?_)
          cases ee : fe ρ4 with
          | stuck => simp only [ee] at ec; cases ec
          | exc => simp only [ee] at ec; cases ec
          | ok r ρ5 =>
            simp only [ee] at ec
            intro z H5 sr6 a6
            rcases cons_or r ρ5 with ⟨d, ρ6, e⟩ | e
            · simp only [e, Out.bind] at ec
              split at ec
              · rename_i hz
                have sr7 := sr6.take1 a6 e
                have h8 : Holds G H5 ((z, .sh d) :: (V.ref Da, .lst (shs acc)) :: (envL σ3 ρ6 ++ (y ++ T))) := sr7.pull.perm (by
                  refine List.Perm.cons _ ?_
                  have p1 : (envL σ3 ρ6 ++ (y ++ (V.ref Da, Slot.lst (shs acc)) :: T)).Perm (envL σ3 ρ6 ++ ((V.ref Da, Slot.lst (shs acc)) :: (y ++ T))) := List.Perm.append_left _ List.perm_middle
                  exact p1.trans List.perm_middle)
                obtain ⟨a', xs, ea, ha, hl, h9⟩ := Holds.appendL h8
                cases ea
                refine ⟨xs, ha, by rw [hl, List.length_map]; exact Nat.lt_of_lt_of_le hz (by rw [sizeLine_eq]; exact Nat.le_refl _), ρ6, acc ++ [d], ?_, ys, ρ2, ec, fin⟩
                have e2 : shs acc ++ [Slot.sh d] = shs (acc ++ [d]) := by unfold shs; rw [List.map_append]; rfl
                rw [e2] at h9
                have sr10 : SR G σ3 ρ6 ((V.ref Da, .lst (shs (acc ++ [d]))) :: (y ++ T)) (upd H5 Da (.lst (xs ++ [z]))) := ⟨h9.perm List.perm_middle.symm, sr7.len, sr7.as⟩
                have := sr10.wipe vs
                rwa [wipe_fix f3] at this
              · cases ec
            · simp only [e, Out.bind] at ec; cases ec
  · have e : i = ds.length := by omega
    refine .inl ⟨stop e, ?_⟩
    rw [e, List.drop_length] at ec
    cases ec
    exact fin _ _ (sr2.popL2.unwipe)
theorem cok_blk {k : Nat} (C : Cok k X G W) (s : Shared) (H : Hp) (sc : Scope) (ce : PySem.Env) (fp : List Addr) : Cok k (X.blk s H sc ce fp) G W0 :=
  ⟨C.hK, C.calm, fun _ _ ⟨_, _, _, _, _, _, _, _, _, _, _, _, _, _, _, _, w⟩ => w.elim, PassesOwn.never, C.nd, C.rm⟩
theorem de_comp {k : Nat} (C : Cok k X G W) (own : List (Str × Nat)) (I : DI X G W tg iter wi fi) (ok : BlkOk X.N X.env.scope scope own)
    (hg : ∀ (s : Shared) (H : Hp) (Ca : Addr) (cl : List (Str × Addr)) (fp : List Addr), Cok k (X.blk s H scope (compEnvC scope cl Ca X.env) fp) G W0 → DG (outV (own.map (·.2))) (X.blk s H scope (compEnvC scope cl Ca X.env) fp) G tg gt gg)
    (ht : ∀ (s : Shared) (H : Hp) (Ca : Addr) (cl : List (Str × Addr)) (fp : List Addr), Cok k (X.blk s H scope (compEnvC scope cl Ca X.env) fp) G W0 → DTs (X.blk s H scope (compEnvC scope cl Ca X.env) fp) G W0 ifs tt pt)
    (he : ∀ (s : Shared) (H : Hp) (Ca : Addr) (cl : List (Str × Addr)) (fp : List Addr), Cok k (X.blk s H scope (compEnvC scope cl Ca X.env) fp) G W0 → DE (X.blk s H scope (compEnvC scope cl Ca X.env) fp) G W0 elt te fe)
    (hs : ∀ x, foldedSetIterable iter X.env x = pure x := by intro _; rfl) : DE X G W (.ListComp elt [⟨tg, iter, ifs, 0⟩] scope pos) (tLc wi gt tt te (own.map (·.2))) (eComp (own.map (·.2)) fi gg pt fe) := by
  refine ⟨pe_lc C.calm C.nd I.pi ok (fun s H Ca cl fp => (hg s H Ca cl fp (cok_blk C s H _ _ fp)).pg) (fun s H Ca cl fp => (ht s H Ca cl fp (cok_blk C s H _ _ fp)).pts) (fun s H Ca cl fp => (he s H Ca cl fp (cok_blk C s H _ _ fp)).pe) hs, ?_⟩
  exact ok_comp I.ok (hg X.s_0 X.H_0 (0 : Nat) [] [] (cok_blk C _ _ _ _ _)).ok (ht X.s_0 X.H_0 (0 : Nat) [] [] (cok_blk C _ _ _ _ _)).ok (he X.s_0 X.H_0 (0 : Nat) [] [] (cok_blk C _ _ _ _ _)).ok
end
end Sep

/-! SepK: calls that only look, lists of lists of one's own, walks of lists or tuples. -/
namespace Sep
open PySem L2

section
variable {G : Gm} {H : Hp} {O : List Addr} {fr : List Hd}
mutual
theorem RepD_w : ∀ (d : D) (v : V), RepD (G.w fr) H O d v = RepD G H O d v
  | .non, _ => rfl
  | .bl _, _ => rfl
  | .int _, _ => rfl
  | .str _, _ => rfl
  | .tup ds, v => by simp only [RepD, RepDs_w ds]
  | .lst ds, v => by simp only [RepD, RepDs_w ds]
  | .rol ds, v => by simp only [RepD, RepDs_w ds]
  | .obj c ns ds, v => by simp only [RepD, RepDs_w ds]
  | .dct ks ds, v => by simp only [RepD, RepDs_w ds]
  | .xd ns ds, v => by simp only [RepD, RepDs_w ds]
  | .raw _ _, _ => rfl
  | .kls _, _ => rfl
theorem RepDs_w : ∀ (ds : List D) (xs : List V), RepDs (G.w fr) H O ds xs = RepDs G H O ds xs
  | [], _ => rfl
  | d :: ds, xs => by simp only [RepDs, RepD_w d, RepDs_w ds]
end
mutual
theorem RepS_w : ∀ (s : Slot) (v : V) (os : List Addr), RepS (G.w fr) H O s v os = RepS G H O s v os
  | .no, _, _ => rfl
  | .sh d, v, os => by simp only [RepS, RepD_w]
  | .lst ss, v, os => by simp only [RepS, RepSs_w ss]
  | .obj c ns ss, v, os => by simp only [RepS, RepSs_w ss]
  | .dct ks ss, v, os => by simp only [RepS, RepSs_w ss]
theorem RepSs_w : ∀ (ss : List Slot) (xs : List V) (os : List Addr), RepSs (G.w fr) H O ss xs os = RepSs G H O ss xs os
  | [], _, _ => rfl
  | s :: ss, xs, os => by simp only [RepSs, RepS_w s, RepSs_w ss]
end
theorem RepL_w : ∀ (L : Hd) (os : List Addr), RepL (G.w fr) H O L os = RepL G H O L os
  | [], _ => rfl
  | p :: L, os => by simp only [RepL, RepS_w, RepL_w L]
theorem RepF_w : ∀ (Ls : List Hd) (O os : List Addr), RepF (G.w fr) H O Ls os = RepF G H O Ls os
  | [], _, _ => rfl
  | L :: Ls, O, os => by simp only [RepF, RepL_w, RepF_w Ls]
/-- the things held become the nearest caller's level -/
theorem Holds.under {L : Hd} (h : Holds G H L) {ds : List D} {vs : List V} (r : RepDs G H [] ds vs) : Holds (G.w (L :: G.fr)) H (vs.zip (shs ds)) := by
  obtain ⟨O, h1, OF, hf, nd⟩ := h
  refine ⟨[], ?_, O ++ OF, ⟨O, OF, rfl, ?_, ?_⟩, by simpa using nd⟩
  · have := RepDs.holds (G := G.w (L :: G.fr)) (O := []) (L := []) (os := []) (by rw [RepDs_w]; exact r) rfl
    simpa using this
  · rw [List.nil_append, RepL_w]; exact h1
  · rw [List.nil_append, RepF_w]; exact hf
theorem Holds.out {L L' : Hd} (h : Holds (G.w (L :: G.fr)) H L') : Holds G H L := by
  obtain ⟨O, h1, OF, ⟨o1, o2, eo, h2, h3⟩, nd⟩ := h
  rw [RepL_w] at h2
  rw [RepF_w] at h3
  subst eo
  exact ⟨o1, h2.reO fun a z => List.mem_append_right _ z, o2, h3.reO fun a z => List.mem_append_right _ z, (List.nodup_append.mp nd).2.1⟩
end

def D.scal : D → Bool
  | .non => true
  | .bl _ => true
  | .int _ => true
  | .str _ => true
  | _ => false
def view (r : R) (ρ : Sl) : Option D := match r with
  | .v s => s.fr
  | .r i => (ρ[i]?).bind Slot.fr
def views : List R → Sl → Option (List D)
  | [], _ => some []
  | r :: rs, ρ => match view r ρ, views rs ρ with
    | some d, some ds => some (d :: ds)
    | _, _ => none
/-- f(e, ..) of a def that gives back a number, a truth, a text or nothing: the arguments are only looked at -/
def eCallV (n : Nat) (F : FnD) (fs : Sl → Out (List R)) : Ev := fun ρ => (fs ρ).bind fun rs ρ1 => if rs.length = n then (match views rs ρ1 with
  | some ds => (match F (shs ds) with
    | .ok (.sh d) _ => if d.scal then .ok (.v (.sh d)) ρ1 else .stuck
    | _ => .stuck)
  | none => .stuck) else .stuck
section
variable {X : Cx} {G : Gm} {W : WX} {fx : FX} {a b c : Expr} {es : List Expr} {ta tb tc te : TE} {t : TA} {fa fb fc fe : Ev} {fs : Sl → Out (List R)} {pos : Pos} {σ : L2.St} {H : Hp}
theorem view_rep {ρ : Sl} {T : Hd} {r : R} {v : V} {d : D} {O : List Addr} (h : Hold G H O (envL σ ρ ++ T)) (a : At σ r v) (hm : ∀ s, r = .v s → (v, s) ∈ T) (e : view r ρ = some d) : RepD G H [] d v := by
  have go : ∀ s, (v, s) ∈ envL σ ρ ++ T → s.fr = some d → RepD G H [] d v := fun s hm e => by
    obtain ⟨o1, h1, _⟩ := h.1.mem hm
    exact RepS.fr h1 e (fun a z => nomatch z) fun a _ z => nomatch z
  cases r with
  | v s => exact go s (List.mem_append_right _ (hm s rfl)) e
  | r i =>
    have e' : (ρ[i]?).bind Slot.fr = some d := e
    cases q : ρ[i]? with
    | none => rw [q] at e'; cases e'
    | some s =>
      rw [q] at e'
      exact go s (List.mem_append_left _ (env_mem a q)) e'
theorem views_rep {ρ : Sl} {T : Hd} {O : List Addr} (h : Hold G H O (envL σ ρ ++ T)) : ∀ {rs : List R} {vs : List V} {ds : List D}, Ats σ rs vs → (∀ x ∈ zipR vs rs, x ∈ T) → views rs ρ = some ds → RepDs G H [] ds vs
  | [], vs, ds, a, hm, e => by
    unfold views at e
    cases e
    exact a
  | r :: rs, vs, ds, a, hm, e => by
    unfold views at e
    obtain ⟨v, w, ev, a1, a2⟩ := a
    subst ev
    cases e1 : view r ρ with
    | none => rw [e1] at e; cases e
    | some d =>
      cases e2 : views rs ρ with
      | none => rw [e1, e2] at e; cases e
      | some ds' =>
        rw [e1, e2] at e
        cases e
        exact ⟨v, w, rfl, view_rep h a1 (fun s e => by subst e; exact hm _ List.mem_cons_self) e1, views_rep h a2 (fun x hx => hm x (List.mem_cons_of_mem _ hx)) e2⟩
theorem rep_scal {d : D} {v : V} {O O' : List Addr} {H H' : Hp} (hs : d.scal = true) (h : RepD G H O d v) : RepD G H' O' d v := by
  cases d <;> first | exact h | cases hs
theorem ok_callV {F : FnD} {n : Nat} (A : ArOk G W t fs) : EvOk G W (tCallSD (spF G n F) [] (WE W) t) (eCallV n F fs) := by
  intro σ H ρ T Q sr p
  refine A σ H ρ T _ sr ((Post.bind p).imp fun rs ρ1 p1 vs H1 sr1 a1 => ?_)
  rw [List.append_nil]
  have p2 : Post G W σ T (Rt G σ T Q) (if rs.length = n then (match views rs ρ1 with
    | some ds => (match F (shs ds) with
      | .ok (.sh d) _ => if d.scal then .ok (.v (.sh d)) ρ1 else .stuck
      | _ => .stuck)
    | none => .stuck) else .stuck) := p1
  split at p2
  · rename_i hl
    cases e : views rs ρ1 with
    | none => simp only [e] at p2; exact p2.elim
    | some ds =>
      simp only [e] at p2
      obtain ⟨O, h⟩ := sr1.h
      have rd := views_rep h a1 (fun x hx => List.mem_append_left _ hx) e
      refine ⟨by rw [a1.length, hl], shs ds, [], _, by rw [List.append_nil]; exact sr1.h.under rd, by rw [List.length_map, ← rd.length, a1.length, hl], ?_⟩
      cases ef : F (shs ds) with
      | stuck => simp only [ef] at p2; exact p2.elim
      | exc => simp only [ef] at p2; exact p2.elim
      | ok s fs' =>
        simp only [ef] at p2
        cases s <;> first | (exact p2.elim) | skip
        rename_i d
        simp only at p2
        split at p2
        · rename_i hs
          intro v H' hh
          have rv : RepD G H' [] d v := by
            obtain ⟨O', h', _⟩ := hh
            obtain ⟨o1, o2, _, r1, _⟩ := h'
            have r2 := r1.2
            rw [RepD_w] at r2
            exact rep_scal (O := O') hs r2
          have h2 : Holds G H' (envL σ ρ1 ++ (zipR vs rs ++ T)) := hh.out
          have sr2 : SR G σ ρ1 (zipR vs rs ++ T) H' := ⟨h2, sr1.len, sr1.as⟩
          exact p2 v H' (drops (sr2.scal fun O => rep_scal hs rv)) trivial
        · exact p2.elim
  · exact p2.elim
theorem de_callV {k j n : Nat} {f : Addr} {fd : FuncData} {ps : List Str} {F : FnD} {x : Str} {p : Pos} (C : Cok k X G W) (Fo : FnOk X.prog X.w X.K X.mg X.base (L2.CX X.prog X.w) j f fd ps (spF G n F)) (hj : j ≤ k) (hg : Gl X x) (hm : X.mg x = some (.ref f)) (hk : PySem.W.keepIn X.K (.ref f) = true) (hb : Binds X.K fd ps [])
    (A : DA X G W (a :: es) t fs) (hdb : (x == ("__debug__" : Str)) = false := by decide) (he : starEach (a :: es) X.env = (false, eval a X.env) :: starEach es X.env := by rfl) (hpl : (backTo pos (starEach es X.env)).any (·.1) = false := by rfl) :
    DE X G W (.Call (.Name x p) (a :: es) [] pos) (tCallSD (spF G n F) [] (WE W) t) (eCallV n F fs) :=
  ⟨pe_callSD Fo (C.rm.mono hj) hg hm hk hb .nil (fun σ => passAt C.tk σ) A.pa hdb he hpl, ok_callV A.ok⟩

/-! ### [a, b] of things of their own -/
def consO (r : R) (ρ : Sl) : Out Slot := match r with
  | .v s => .ok s ρ
  | .r i => (cons (.r i) ρ).bind fun d ρ' => .ok (.sh d) ρ'
def consOs : List R → Sl → Out (List Slot)
  | [], ρ => .ok [] ρ
  | r :: rs, ρ => (consO r ρ).bind fun s ρ1 => (consOs rs ρ1).bind fun ss ρ2 => .ok (s :: ss) ρ2
theorem consO_or (r : R) (ρ : Sl) : (∃ s ρ', consO r ρ = .ok s ρ') ∨ consO r ρ = .stuck := by
  cases r with
  | v s => exact .inl ⟨s, ρ, rfl⟩
  | r i =>
    rcases cons_or (.r i) ρ with ⟨d, ρ', e⟩ | e
    · exact .inl ⟨.sh d, ρ', by simp only [consO, e, Out.bind]⟩
    · exact .inr (by simp only [consO, e, Out.bind])
theorem consOs_or : ∀ (rs : List R) (ρ : Sl), (∃ s ρ', consOs rs ρ = .ok s ρ') ∨ consOs rs ρ = .stuck
  | [], ρ => .inl ⟨[], ρ, rfl⟩
  | r :: rs, ρ => by
    unfold consOs
    rcases consO_or r ρ with ⟨s, ρ1, e⟩ | e
    · rw [e]
      rcases consOs_or rs ρ1 with ⟨ds, ρ2, e2⟩ | e2
      · exact .inl ⟨s :: ds, ρ2, by simp only [Out.bind, e2]⟩
      · exact .inr (by simp only [Out.bind, e2])
    · rw [e]; exact .inr rfl
theorem SR.takeO {r : R} {v : V} {s : Slot} {ρ ρ' : Sl} {T : Hd} (sr : SR G σ ρ ((v, r.slot) :: T) H) (a : At σ r v) (e : consO r ρ = .ok s ρ') : SR G σ ρ' ((v, s) :: T) H := by
  cases r with
  | v s' => cases e; exact sr
  | r i =>
    rcases cons_or (.r i) ρ with ⟨d, ρ2, e1⟩ | e1
    · simp only [consO, e1, Out.bind] at e
      cases e
      exact sr.take1 a e1
    · simp only [consO, e1, Out.bind] at e; cases e
theorem SR.takeOs : ∀ {rs : List R} {vs : List V} {ρ ρ' : Sl} {ss : List Slot} {T : Hd}, SR G σ ρ (zipR vs rs ++ T) H → Ats σ rs vs → consOs rs ρ = .ok ss ρ' → SR G σ ρ' (vs.zip ss ++ T) H ∧ vs.length = ss.length
  | [], vs, ρ, ρ', ss, T, sr, a, e => by
    unfold consOs at e
    cases e
    cases (show vs = [] from a)
    exact ⟨sr, rfl⟩
  | r :: rs, vs, ρ, ρ', ss, T, sr, a, e => by
    unfold consOs at e
    obtain ⟨v, w, ev, a1, a2⟩ := a
    subst ev
    rcases consO_or r ρ with ⟨s, ρ1, e1⟩ | e1
    · rw [e1] at e
      rcases consOs_or rs ρ1 with ⟨ss', ρ2, e2⟩ | e2
      · simp only [Out.bind, e2] at e
        cases e
        have s1 : SR G σ ρ1 ((v, s) :: (zipR w rs ++ T)) H := SR.takeO (sr : SR G σ ρ ((v, r.slot) :: (zipR w rs ++ T)) H) a1 e1
        obtain ⟨s2, hl⟩ := SR.takeOs (T := (v, s) :: T) (s1.permT List.perm_middle.symm) a2 e2
        exact ⟨s2.permT List.perm_middle, by simp [hl]⟩
      · simp only [Out.bind, e2] at e
        cases e
    · rw [e1] at e; cases e
theorem RepL.slots {O : List Addr} {L : Hd} : ∀ {vs : List V} {ss : List Slot} {os : List Addr}, vs.length = ss.length → RepL G H O (vs.zip ss ++ L) os → ∃ o1 o2, os = o1 ++ o2 ∧ RepSs G H O ss vs o1 ∧ RepL G H O L o2
  | [], [], os, _, h => ⟨[], os, rfl, ⟨rfl, rfl⟩, h⟩
  | v :: vs, s :: ss, os, hl, h => by
    obtain ⟨o1, o2, eo, h1, h2⟩ := h
    obtain ⟨o3, o4, e2, r, h3⟩ := RepL.slots (vs := vs) (ss := ss) (by simpa using hl) h2
    exact ⟨o1 ++ o3, o4, by rw [eo, e2, List.append_assoc], ⟨v, vs, o1, o3, rfl, rfl, h1, r⟩, h3⟩
theorem Holds.newLO {L : Hd} {vs : List V} {ss : List Slot} {p : Addr} (h : Holds G H (vs.zip ss ++ L)) (hl : vs.length = ss.length) (hp : H p = none) : Holds G (upd H p (.lst vs)) ((.ref p, .lst ss) :: L) := by
  obtain ⟨O, h, OF, hf, nd⟩ := h
  obtain ⟨o1, o2, eo, h1, h2⟩ := RepL.slots hl h
  have k : Keep [] H (upd H p (.lst vs)) := fun a o q _ => Same.new hp a o q
  have hO : ∀ a ∈ p :: O, a ∈ O ∨ H a = none := fun a z => (List.mem_cons.mp z).elim (fun q => .inr (q ▸ hp)) .inl
  refine ⟨p :: O, ⟨p :: o1, o2, by rw [eo]; rfl, ⟨p, vs, o1, rfl, rfl, upd_same, ?_⟩, ?_⟩, OF, hf.step k (fun a z => nomatch z) hO (fun a _ z => nomatch z), List.nodup_cons.mpr ⟨fun z => ?_, nd⟩⟩
  · exact RepSs.step k (fun a z => nomatch z) hO ss vs o1 h1 fun a _ z => nomatch z
  · exact RepL.step k (fun a z => nomatch z) hO h2 fun a _ z => nomatch z
  · exact (List.mem_append.mp z).elim (notO h hp) fun q => hf.there p q hp
def eLstO (fs : Sl → Out (List R)) : Ev := fun ρ => (fs ρ).bind fun rs ρ1 => (consOs rs ρ1).bind fun ss ρ2 => if ss.length ≤ LIM then .ok (.v (.lst ss)) ρ2 else .stuck
theorem ok_lstO (A : ArOk G W t fs) : EvOk G W (tLst t) (eLstO fs) := by
  intro σ H ρ T Q sr p
  refine A σ H ρ T _ sr ((Post.bind p).imp fun rs ρ1 p1 vs H1 sr1 a1 => ?_)
  rcases consOs_or rs ρ1 with ⟨ss, ρ2, e⟩ | e
  · simp only [e, Out.bind] at p1
    obtain ⟨sr2, hl⟩ := sr1.takeOs a1 e
    split at p1
    · rename_i hz
      refine ⟨by rw [hl]; exact lim_le hz, fun q hq => p1 _ _ (SR.push ⟨(sr2.h.perm (L' := vs.zip ss ++ (envL σ ρ2 ++ T)) ?_).dropL, sr2.len, sr2.as⟩ (Holds.newLO (sr2.h.perm ?_) hl hq)) trivial⟩
      · rw [← List.append_assoc, ← List.append_assoc]
        exact List.perm_append_comm.append_right T
      · rw [← List.append_assoc, ← List.append_assoc]
        exact List.perm_append_comm.append_right T
    · exact p1.elim
  · simp only [e, Out.bind] at p1; exact p1.elim
theorem de_lstO (A : DA X G W es t fs) : DE X G W (.List es pos) (tLst t) (eLstO fs) := ⟨pe_lst A.pa, ok_lstO A.ok⟩

/-! ### for .. in a list or a tuple -/
theorem pi_or {tg iter : Expr} {w1 w2 : TI} (A : PI X tg iter w1) (B : PI X tg iter w2) : PI X tg iter (fun σ H R => w1 σ H R ∨ w2 σ H R) :=
  ⟨fun pins s σ H R I h => h.elim (A.run pins s σ H R I) (B.run pins s σ H R I)⟩
def iSeq (fa : Ev) : Sl → Out (List D) := fun ρ => (fa ρ).bind fun r ρ1 => (cons r ρ1).bind fun d ρ2 => match d with
  | .lst ds => .ok ds ρ2
  | .rol ds => .ok ds ρ2
  | .tup ds => .ok ds ρ2
  | _ => .stuck
def wSeq (K : PySem.W.Frag) (ta : TE) : TI := fun σ H R => ta σ H fun x H1 => (∃ a, x = .ref a ∧ (∃ xs, SqL K H1 a xs) ∧ R (Itl K a) H1) ∨ (∃ a, x = .ref a ∧ (∃ xs, SqT K H1 a xs) ∧ R (Itt K a) H1)
theorem pi_seq {tg : Expr} (A : PE X a ta) : PI X tg a (wSeq X.K ta) := by
  refine ⟨fun pins s σ H R I h => ?_⟩
  refine thn (A.run pins s σ H _ I h) fun v s1 ⟨x, H1, I1, r1, q1⟩ => ?_
  rcases q1 with ⟨a, e, ⟨xs, hq⟩, q⟩ | ⟨a, e, ⟨xs, hq⟩, q⟩
  · subst e
    cases r1
    obtain ⟨its, rv, p, hz⟩ := I1.list hq
    refine wpAny_pyIter_list p.isList ?_
    refine ⟨s1.heap.objs.size, [s1.heap.objs.size], _, _, H1, rfl, I1.kept (t' := s1.toks) fun b o e => Heap.get?_push_of_some _ e, turn_list a _, ⟨_, Heap.get?_push_size _ rfl, rfl, rfl⟩, fun b hb => ?_, q⟩
    have e : b = s1.heap.objs.size := by simpa using hb
    subst e
    exact I1.fpOk (Nat.le_refl _) (I1.hok.fresh (Nat.le_refl _))
  · subst e
    cases r1
    obtain ⟨its, rv, p, hz⟩ := I1.tuple hq
    refine wpAny_pyIter_tuple (show s1.heap.IsTuple a its.toArray from p) ?_
    refine ⟨s1.heap.objs.size, [s1.heap.objs.size], _, _, H1, rfl, I1.kept (t' := s1.toks) fun b o e => Heap.get?_push_of_some _ e, turn_tuple a _, ⟨_, Heap.get?_push_size _ rfl, rfl, rfl⟩, fun b hb => ?_, q⟩
    have e : b = s1.heap.objs.size := by simpa using hb
    subst e
    exact I1.fpOk (Nat.le_refl _) (I1.hok.fresh (Nat.le_refl _))
theorem ok_iSeq (A : EvOk G W ta fa) : ItOk G W (wSeq G.K ta) (iSeq fa) := by
  intro σ H ρ T R sr p
  refine A σ H ρ T _ sr ((Post.bind p).imp fun r ρ1 p1 v H1 sr1 a1 => ?_)
  rcases cons_or r ρ1 with ⟨d, ρ2, e⟩ | e
  · simp only [e, Out.bind] at p1
    have sr2 := sr1.take1 a1 e
    obtain ⟨O, ho, rd⟩ := sr2.top
    cases d <;> first | (exact p1.elim) | skip
    · rename_i ds
      obtain ⟨a, xs, ea, h1, h2⟩ := rd
      subst ea
      exact .inr ⟨a, rfl, ⟨xs, sqT_of h1⟩, p1 _ [(.ref a, .sh (.tup ds))] H1 sr2 walks_tup⟩
    · rename_i ds
      obtain ⟨a, xs, ea, h1, h2⟩ := rd
      subst ea
      exact .inl ⟨a, rfl, ⟨xs, .of h1.1⟩, p1 _ [(.ref a, .sh (.lst ds))] H1 sr2 (walks_seq fun H O q => by
        obtain ⟨a', ys, e1, h1, h2⟩ := q
        cases e1
        exact ⟨ys, .of h1.1, h2⟩)⟩
    · rename_i ds
      obtain ⟨a, xs, ea, h1, h2⟩ := rd
      subst ea
      exact .inl ⟨a, rfl, ⟨xs, sqL_of h1⟩, p1 _ [(.ref a, .sh (.rol ds))] H1 sr2 (walks_seq fun H O q => by
        obtain ⟨a', ys, e1, h1, h2⟩ := q
        cases e1
        exact ⟨ys, sqL_of h1, h2⟩)⟩
  · simp only [e, Out.bind] at p1; exact p1.elim
theorem di_seq {tg : Expr} (hK : X.K = G.K) (A : DE X G W a ta fa) : DI X G W tg a (wSeq G.K ta) (iSeq fa) := ⟨by have := pi_seq (tg := tg) A.pe; rw [hK] at this; exact this, ok_iSeq A.ok⟩

/-! ### x[k].append(e), x a list of lists of one's own: behind it the item is no longer told -/
theorem RepSs.takeAt {O : List Addr} : ∀ {ss : List Slot} {xs : List V} {os : List Addr} {j : Nat} {s : Slot}, RepSs G H O ss xs os → ss[j]? = some s → ∃ v o1 o2, xs[j]? = some v ∧ os.Perm (o1 ++ o2) ∧ RepS G H O s v o1 ∧ RepSs G H O (ss.set j .no) xs o2
  | [], xs, os, j, s, h, e => by simp at e
  | s' :: ss, xs, os, 0, s, ⟨v, r, o1, o2, ex, eo, h1, h2⟩, e => by
    have e' : s' = s := by simpa using e
    subst e'
    exact ⟨v, o1, o2, by rw [ex]; rfl, by rw [eo], h1, v, r, [], o2, ex, rfl, rfl, h2⟩
  | s' :: ss, xs, os, j + 1, s, ⟨v, r, o1, o2, ex, eo, h1, h2⟩, e => by
    obtain ⟨u, o3, o4, e1, p, h3, h4⟩ := RepSs.takeAt (j := j) h2 (by simpa using e)
    refine ⟨u, o3, o1 ++ o4, by rw [ex]; simpa using e1, ?_, h3, v, r, o1, o4, ex, rfl, h1, h4⟩
    rw [eo]
    have q1 : (o1 ++ o2).Perm (o1 ++ (o3 ++ o4)) := p.append_left o1
    refine q1.trans ?_
    rw [← List.append_assoc, ← List.append_assoc]
    exact List.perm_append_comm.append_right o4
theorem Holds.takeAt {L : Hd} {v : V} {ss : List Slot} {j : Nat} {s : Slot} (h : Holds G H ((v, .lst ss) :: L)) (e : ss[j]? = some s) : ∃ a xs w, v = .ref a ∧ H a = some (.lst xs) ∧ xs.length = ss.length ∧ xs[j]? = some w ∧ Holds G H ((w, s) :: (v, .lst (ss.set j .no)) :: L) := by
  obtain ⟨O, ⟨o1, o2, eo, ⟨a, xs, os', ev, e1, h1, h2⟩, h3⟩, OF, hf, nd⟩ := h
  subst e1
  obtain ⟨w, o3, o4, e2, p, h4, h5⟩ := h2.takeAt e
  have pO : O.Perm (o3 ++ ((a :: o4) ++ o2)) := by
    rw [eo]
    have q : (a :: os' ++ o2).Perm (a :: ((o3 ++ o4) ++ o2)) := (p.append_right o2).cons a
    refine q.trans ?_
    rw [List.append_assoc]
    exact List.perm_middle.symm
  refine ⟨a, xs, w, ev, h1, h2.length, e2, o3 ++ ((a :: o4) ++ o2), ⟨o3, (a :: o4) ++ o2, rfl, ?_, a :: o4, o2, rfl, ⟨a, xs, o4, ev, rfl, h1, ?_⟩, ?_⟩, OF, hf.reO fun b z => pO.symm.subset z, (pO.append_right OF).nodup nd⟩
  · exact RepS.step (W := []) (fun a o q _ => q) (fun a z => nomatch z) (fun b z => .inl (pO.symm.subset z)) _ _ _ h4 fun a _ z => nomatch z
  · exact RepSs.step (W := []) (fun a o q _ => q) (fun a z => nomatch z) (fun b z => .inl (pO.symm.subset z)) _ _ _ h5 fun a _ z => nomatch z
  · exact h3.reO fun b z => pO.symm.subset z
def eApp2 (i : Nat) (fk fb : Ev) : Ev := fun ρ => match ρ[i]? with
  | some (.lst _) => (fk ρ).bind fun r1 ρ1 => (match look r1 ρ1, ρ1[i]? with
    | some (.int k), some (.lst ss) => (match (ixN ss.length k).bind fun j => (ss[j]?).map fun s => (j, s) with
      | some (j, .lst ss2) => if ss2.length < LIM then (fb (ρ1.set i (.lst (ss.set j .no)))).bind fun r2 ρ2 => (cons r2 ρ2).bind fun _ ρ3 => .ok (.v (.sh .non)) ρ3 else .stuck
      | _ => .stuck)
    | _, _ => .stuck)
  | _ => .stuck
theorem ok_app2 {i : Nat} {tk : TE} {fk : Ev} (K : EvOk G W tk fk) (B : EvOk G W tb fb) : EvOk G W (tBM G.K "list" rAppend (tOp (rIxL G.K) (tVar i) tk) (tCons tb tNil)) (eApp2 i fk fb) := by
  intro σ H ρ T Q sr p
  unfold eApp2 at p
  cases e0 : ρ[i]? with
  | none => simp only [e0] at p; exact p.elim
  | some s0 =>
    simp only [e0] at p
    cases s0 <;> first | (exact p.elim) | skip
    rename_i ss0
    obtain ⟨x, hx, _⟩ := sr.val e0 (by simp)
    refine ⟨x, hx, K σ H ρ T _ sr ((Post.bind p).imp fun r1 ρ1 p1 y H1 sr1 a1 => ?_)⟩
    cases e1 : look r1 ρ1 with
    | none => simp only [e1] at p1; exact p1.elim
    | some d1 =>
      cases e2 : ρ1[i]? with
      | none => simp only [e1, e2] at p1; cases d1 <;> exact p1.elim
      | some s1 =>
        simp only [e1, e2] at p1
        cases d1 <;> cases s1 <;> first | (exact p1.elim) | skip
        rename_i k ss
        simp only at p1
        obtain ⟨O, ho⟩ := sr1.h
        have ey : y = .int k := sr1.lookP ho a1 (fun s e => by subst e; exact List.mem_cons_self) e1
        cases e3 : (ixN ss.length k).bind fun j => (ss[j]?).map fun s => (j, s) with
        | none => simp only [e3] at p1; exact p1.elim
        | some q =>
          obtain ⟨j, s⟩ := q
          simp only [e3] at p1
          cases s <;> first | (exact p1.elim) | skip
          rename_i ss2
          simp only at p1
          obtain ⟨j', ej, e4⟩ := Option.bind_eq_some_iff.mp e3
          obtain ⟨s', es, e5⟩ := Option.map_eq_some_iff.mp e4
          cases e5
          split at p1
          · rename_i hz
            obtain ⟨L0, h1, back⟩ := sr1.pop.out hx e2
            obtain ⟨a, xs, w, ea, ha, hl, ew, h2⟩ := Holds.takeAt h1 es
            refine ⟨a, xs, k, w, ea, ey, .of ha, ?_, ?_⟩
            · unfold atI
              rw [hl, ej]; exact ew
            · have h3 : Holds G H1 ((x, .lst (ss.set j .no)) :: (L0 ++ ((w, .lst ss2) :: T))) := h2.perm ((List.Perm.swap _ _ _).trans (List.Perm.cons _ List.perm_middle.symm))
              have sr2 : SR G σ (ρ1.set i (.lst (ss.set j .no))) ((w, .lst ss2) :: T) H1 := back _ _ _ h3
              obtain ⟨l, ys, el, hl2⟩ : ∃ l ys, w = .ref l ∧ H1 l = some (.lst ys) := by
                obtain ⟨O, hh⟩ := sr2.pull
                obtain ⟨l, ys, os', ev, ha, _, _⟩ := Holds.wr hh
                exact ⟨l, ys, ev, ha⟩
              subst el
              refine ⟨.inl ⟨rfl, _, .of hl2⟩, B σ H1 _ ((.ref l, .lst ss2) :: T) _ sr2 ((Post.bind p1).more.imp fun r2 ρ2 p2 z H2 sr3 a2 => ?_)⟩
              rcases cons_or r2 ρ2 with ⟨d, ρ3, e⟩ | e
              · simp only [e, Out.bind] at p2
                have sr4 := sr3.take1 a2 e
                obtain ⟨l', ys', el', hl3, hlen, h5⟩ := Holds.appendL (L := envL σ ρ3 ++ T) (sr4.h.perm (by
                  refine List.perm_middle.trans (List.Perm.cons _ List.perm_middle)))
                cases el'
                refine ⟨l, ys', z, rfl, rfl, hl3, by rw [hlen]; exact Nat.lt_of_lt_of_le hz (by rw [sizeLine_eq]; exact Nat.le_refl _), p2 _ _ (SR.scal ⟨h5.tail, sr4.len, sr4.as⟩ fun _ => rfl) trivial⟩
              · simp only [e, Out.bind] at p2; exact p2.elim
          · exact p1.elim
theorem de_app2 {apos ipos vpos : Pos} {x : Str} {i : Nat} {kx : Expr} {tk : TE} {fk : Ev} (hK : X.K = G.K) (hN : X.N[i]? = some x) (hv : Vis X.env.scope x) (A : DE X G W kx tk fk) (B : DE X G W b tb fb) (hs : PlainIx kx := by exact fun _ _ => rfl)
    (hd : (x == ("__debug__" : Str)) = false := by decide) (hcd : (x == ("__classdict__" : Str)) = false := by decide)
    (hbase : attributeBase (.Subscript (.Name x vpos) kx ipos) ("append" : Str) X.env (eval (.Subscript (.Name x vpos) kx ipos) X.env) = eval (.Subscript (.Name x vpos) kx ipos) X.env := by rfl)
    (hfew : ((backTo pos (starEach [b] X.env)).all (fun x => !x.1) && (backToKw pos (keywordEach [] X.env)).all (fun x => x.1.isSome) && decide (([b] : List Expr).length + ([] : List Keyword).length + (if ([] : List Keyword).isEmpty then 0 else 1) < 30)) = true := by rfl)
    (hline : (apos.endLine == pos.line) = true := by rfl) (h1 : starEach [b] X.env = (false, eval b X.env) :: starEach [] X.env := by rfl) (h2 : (backTo pos (starEach [] X.env)).any (·.1) = false := by rfl) :
    DE X G W (.Call (.Attribute (.Subscript (.Name x vpos) kx ipos) "append" apos) [b] [] pos) (tBM G.K "list" rAppend (tOp (rIxL G.K) (tVar i) tk) (tCons tb tNil)) (eApp2 i fk fb) :=
  ⟨by
    have := pe_bm (cpos := pos) (apos := apos) PySem.F.plainAttrs_list PySem.F.slot_list_append PySem.F.type_list_append mt_append (pe_ix (pos := ipos) ix_list (pe_var (pos := vpos) hN hv hd hcd) A.pe hs) (pa_cons B.pe pa_nil h1) hbase hfew hline h1 h2
    rw [hK] at this; exact this, ok_app2 A.ok B.ok⟩

/-! ### x = [..] of a comprehension on one line -/
theorem ds_setLc {k : Nat} (C : Cok k X G W) {i : Nat} {y : Str} {py spos : Pos} {elt tg iter : Expr} {wi : TI} {gt : TG} {tt : TT} {fi : Sl → Out (List D)} {gg : D → Sl → Option Sl} {pt : Sl → Out Bool} {ifs : List Expr} {scope : Scope} (own : List (Str × Nat)) (hf : fx i = false) (I : DI X G W tg iter wi fi) (ok : BlkOk X.N X.env.scope scope own)
    (hg : ∀ (s : Shared) (H : Hp) (Ca : Addr) (cl : List (Str × Addr)) (fp : List Addr), Cok k (X.blk s H scope (compEnvC scope cl Ca X.env) fp) G W0 → DG (outV (own.map (·.2))) (X.blk s H scope (compEnvC scope cl Ca X.env) fp) G tg gt gg)
    (ht : ∀ (s : Shared) (H : Hp) (Ca : Addr) (cl : List (Str × Addr)) (fp : List Addr), Cok k (X.blk s H scope (compEnvC scope cl Ca X.env) fp) G W0 → DTs (X.blk s H scope (compEnvC scope cl Ca X.env) fp) G W0 ifs tt pt)
    (he : ∀ (s : Shared) (H : Hp) (Ca : Addr) (cl : List (Str × Addr)) (fp : List Addr), Cok k (X.blk s H scope (compEnvC scope cl Ca X.env) fp) G W0 → DE (X.blk s H scope (compEnvC scope cl Ca X.env) fp) G W0 elt te fe)
    (hy : X.N[i]? = some y := by rfl) (hyl : X.env.scope.names.lookup y = some .local := by rfl) (hsw : swapsWith (.ListComp elt [⟨tg, iter, ifs, 0⟩] scope pos) (some (.Name y py)) spos.line X.env = pure true := by exact sw_true rfl rfl rfl (by decide +kernel))
    (hs : ∀ x, foldedSetIterable iter X.env x = pure x := by intro _; rfl) : DS fx X G W (.Assign [.Name y py] (.ListComp elt [⟨tg, iter, ifs, 0⟩] scope pos) spos) (tAsg (tLc wi gt tt te (own.map (·.2))) (gName i)) (sSet i (eComp (own.map (·.2)) fi gg pt fe)) := by
  refine ⟨ps_setLc C.calm C.nd hy hyl hsw I.pi ok (fun s H Ca cl fp => (hg s H Ca cl fp (cok_blk C s H _ _ fp)).pg) (fun s H Ca cl fp => (ht s H Ca cl fp (cok_blk C s H _ _ fp)).pts) (fun s H Ca cl fp => (he s H Ca cl fp (cok_blk C s H _ _ fp)).pe) hs, ?_⟩
  exact ok_set hf (ok_comp I.ok (hg X.s_0 X.H_0 (0 : Nat) [] [] (cok_blk C _ _ _ _ _)).ok (ht X.s_0 X.H_0 (0 : Nat) [] [] (cok_blk C _ _ _ _ _)).ok (he X.s_0 X.H_0 (0 : Nat) [] [] (cok_blk C _ _ _ _ _)).ok)
theorem ds_setLcF {k : Nat} (C : Cok k X G W) {i : Nat} {y : Str} {py spos : Pos} {elt tg iter : Expr} {wi : TI} {gt : TG} {tt : TT} {fi : Sl → Out (List D)} {gg : D → Sl → Option Sl} {pt : Sl → Out Bool} {ifs : List Expr} {scope : Scope} (own : List (Str × Nat)) (hf : fx i = false) (I : DI X G W tg iter wi fi) (ok : BlkOk X.N X.env.scope scope own)
    (hg : ∀ (s : Shared) (H : Hp) (Ca : Addr) (cl : List (Str × Addr)) (fp : List Addr), Cok k (X.blk s H scope (compEnvC scope cl Ca X.env) fp) G W0 → DG (outV (own.map (·.2))) (X.blk s H scope (compEnvC scope cl Ca X.env) fp) G tg gt gg)
    (ht : ∀ (s : Shared) (H : Hp) (Ca : Addr) (cl : List (Str × Addr)) (fp : List Addr), Cok k (X.blk s H scope (compEnvC scope cl Ca X.env) fp) G W0 → DTs (X.blk s H scope (compEnvC scope cl Ca X.env) fp) G W0 ifs tt pt)
    (he : ∀ (s : Shared) (H : Hp) (Ca : Addr) (cl : List (Str × Addr)) (fp : List Addr), Cok k (X.blk s H scope (compEnvC scope cl Ca X.env) fp) G W0 → DE (X.blk s H scope (compEnvC scope cl Ca X.env) fp) G W0 elt te fe)
    (hy : X.N[i]? = some y := by rfl) (hyl : X.env.scope.names.lookup y = some .local := by rfl) (hsw : swapsWith (.ListComp elt [⟨tg, iter, ifs, 0⟩] scope pos) (some (.Name y py)) spos.line X.env = pure true := by exact sw_true rfl rfl rfl (by decide +kernel))
    (hs : ∀ x, foldedSetIterable iter X.env x = pure x := by intro _; rfl) : DS fx X G W (.Assign [.Name y py] (.ListComp elt [⟨tg, iter, ifs, 0⟩] scope pos) spos) (tAsg (tLc wi gt tt te (own.map (·.2))) (gName i)) (sSetF i (eComp (own.map (·.2)) fi gg pt fe)) := by
  refine ⟨ps_setLc C.calm C.nd hy hyl hsw I.pi ok (fun s H Ca cl fp => (hg s H Ca cl fp (cok_blk C s H _ _ fp)).pg) (fun s H Ca cl fp => (ht s H Ca cl fp (cok_blk C s H _ _ fp)).pts) (fun s H Ca cl fp => (he s H Ca cl fp (cok_blk C s H _ _ fp)).pe) hs, ?_⟩
  exact ok_setF hf (ok_comp I.ok (hg X.s_0 X.H_0 (0 : Nat) [] [] (cok_blk C _ _ _ _ _)).ok (ht X.s_0 X.H_0 (0 : Nat) [] [] (cok_blk C _ _ _ _ _)).ok (he X.s_0 X.H_0 (0 : Nat) [] [] (cok_blk C _ _ _ _ _)).ok)
/-- what is never come to -/
def sStuck : SEv := fun _ => .stuck
theorem ds_never {st : Stmt} : DS fx X G W st tNever sStuck := ⟨ps_never, fun _ _ _ _ _ _ p => p.elim⟩
theorem ds_doc {x j pos pos'} : DS fx X G W (.Expr (.Constant (.str x) j pos) pos') tNext sPass := ⟨ps_doc, fun D σ H ρ T sr p => p σ H .refl sr⟩
end
end Sep

/-! SepL: calls with arguments as data; the end of a law. -/
namespace Sep
open PySem L2
/-- f(e, ..), the arguments handed over as data -/
def eCallF (n : Nat) (F : FnD) (fs : Sl → Out (List R)) : Ev := fun ρ => (fs ρ).bind fun rs ρ1 => (consAll rs ρ1).bind fun ds ρ2 => if ds.length = n then (match F (shs ds) with
  | .ok s _ => .ok (.v s) ρ2
  | .exc c ns es _ => .exc c ns es ρ2
  | .stuck => .stuck) else .stuck
section
variable {X : Cx} {G : Gm} {W : WX} {fx : FX} {a b c : Expr} {es : List Expr} {ta tb tc te : TE} {t : TA} {fa fb fc fe : Ev} {fs : Sl → Out (List R)} {pos : Pos} {σ : L2.St} {H : Hp}
theorem ok_callF {F : FnD} {n : Nat} (A : ArOk G W t fs) : EvOk G W (tCallSD (spF G n F) [] (WE W) t) (eCallF n F fs) := by
  intro σ H ρ T Q sr p
  refine A σ H ρ T _ sr ((Post.bind p).imp fun rs ρ1 p1 vs H1 sr1 a1 => ?_)
  rw [List.append_nil]
  rcases consAll_or rs ρ1 with ⟨ds, ρ2, e⟩ | e
  · simp only [e, Out.bind] at p1
    obtain ⟨sr2, hl⟩ := sr1.takes a1 e
    split at p1
    · rename_i hn
      refine ⟨by rw [hl, hn], shs ds, envL σ ρ2 ++ T, G.fr, sr2.h.perm (by
        rw [← List.append_assoc, ← List.append_assoc]
        exact List.perm_append_comm.append_right T), by rw [List.length_map, hn], ?_⟩
      have back : ∀ {H' : Hp} {y : V × Slot} {fs : Sl}, Holds G H' (y :: (vs.zip fs ++ (envL σ ρ2 ++ T))) → SR G σ ρ2 (y :: T) H' := fun {H' y fs} h => by
        have h2 : Holds G H' (vs.zip fs ++ (y :: (envL σ ρ2 ++ T))) := h.perm List.perm_middle.symm
        exact ⟨h2.dropL.perm List.perm_middle.symm, sr2.len, sr2.as⟩
      cases ef : F (shs ds) with
      | stuck => simp only [ef] at p1; exact p1.elim
      | ok s fs => simp only [ef] at p1; exact fun v H' h => p1 v H' (back h) trivial
      | exc c ns es fs => simp only [ef] at p1; exact fun d H' h => p1 d H' (back h)
    · exact p1.elim
  · simp only [e, Out.bind] at p1; exact p1.elim
theorem de_callF {k j n : Nat} {f : Addr} {fd : FuncData} {ps : List Str} {F : FnD} {x : Str} {p : Pos} (C : Cok k X G W) (Fo : FnOk X.prog X.w X.K X.mg X.base (L2.CX X.prog X.w) j f fd ps (spF G n F)) (hj : j ≤ k) (hg : Gl X x) (hm : X.mg x = some (.ref f)) (hk : PySem.W.keepIn X.K (.ref f) = true) (hb : Binds X.K fd ps [])
    (A : DA X G W (a :: es) t fs) (hdb : (x == ("__debug__" : Str)) = false := by decide) (he : starEach (a :: es) X.env = (false, eval a X.env) :: starEach es X.env := by rfl) (hpl : (backTo pos (starEach es X.env)).any (·.1) = false := by rfl) :
    DE X G W (.Call (.Name x p) (a :: es) [] pos) (tCallSD (spF G n F) [] (WE W) t) (eCallF n F fs) :=
  ⟨pe_callSD Fo (C.rm.mono hj) hg hm hk hb .nil (fun σ => passAt C.tk σ) A.pa hdb he hpl, ok_callF A.ok⟩
end
/-- what is made, told to be data -/
def eFz (fa : Ev) : Ev := fun ρ => (fa ρ).bind fun r ρ1 => (cons r ρ1).bind fun d ρ2 => .ok (.v (.sh d)) ρ2
theorem ok_fz {G : Gm} {W : WX} {ta : TE} {fa : Ev} (A : EvOk G W ta fa) : EvOk G W ta (eFz fa) := by
  intro σ H ρ T Q sr p
  refine A σ H ρ T _ sr ((Post.bind p).imp fun r ρ1 p1 v H1 sr1 a1 => ?_)
  rcases cons_or r ρ1 with ⟨d, ρ2, e⟩ | e
  · simp only [e, Out.bind] at p1
    exact p1 v H1 (sr1.take1 a1 e) trivial
  · simp only [e, Out.bind] at p1; exact p1.elim
theorem de_fz {X : Cx} {G : Gm} {W : WX} {a : Expr} {ta : TE} {fa : Ev} (A : DE X G W a ta fa) : DE X G W a ta (eFz fa) := ⟨A.pe, ok_fz A.ok⟩
/-- a def of the text, as callers need it -/
structure Df (K : PySem.W.Frag) (mg : Str → Option Value) (x : Str) (st : Stmt) (ps : List Str) where
  f : Addr
  fd : FuncData
  fu : Fun K x x st f fd
  mgf : mg x = some (.ref f)
  bd : Binds K fd ps []
/-- the law's promise from what its def does -/
theorem law_sp {G : Gm} {F : FnD} {H : Hp} {a : Addr} {ns : List Int} (hO : Only H) (hS : SqL G.K H a (ns.map V.int)) (hF : ∃ fs, F [.sh (.rol (ns.map D.int))] = .ok (.sh (.bl true)) fs) : spF G 1 F [.ref a] H (fun v _ => v = .bl true) fun _ _ _ => False := by
  obtain ⟨fs, hF⟩ := hF
  refine ⟨rfl, [.sh (.rol (ns.map D.int))], [], [], ⟨[], ?_, [], rfl, List.nodup_nil⟩, rfl, ?_⟩
  · refine ⟨[], [], rfl, ⟨rfl, ?_⟩, rfl⟩
    refine ⟨a, ns.map V.int, rfl, ?_, ?_⟩
    · rcases hS with h | h
      · exact .inl ⟨h, by simp⟩
      · exact .inr h
    · exact reps_ints ns
  · rw [hF]
    intro v H' h
    obtain ⟨O, ⟨o1, o2, _, r1, _⟩, _⟩ := h
    exact r1.2
end Sep

/-! SepM: to evaluate what a text computes. -/
namespace Sep
open PySem L2
def kVar (i : Nat) (ρ : Sl) : Option Slot → Out R
  | some (.sh d) => .ok (.v (.sh d)) ρ
  | some .no => .stuck
  | none => .stuck
  | some _ => .ok (.r i) ρ
def kOpD (ρ : Sl) : Option Slot → Out R
  | some s => .ok (.v s) ρ
  | none => .stuck
def kOpC (g : D → D → Option Slot) (ρ : Sl) : Option D → Option D → Out R
  | some a, some b => kOpD ρ (g a b)
  | _, _ => .stuck
def kOpB (g : D → D → Option Slot) (r1 : R) (o : Out R) : Out R := o.bind fun r2 ρ2 => kOpC g ρ2 (look r1 ρ2) (look r2 ρ2)
def kOpA (g : D → D → Option Slot) (fb : Ev) (o : Out R) : Out R := o.bind fun r1 ρ1 => kOpB g r1 (fb ρ1)
def kUnC (g : D → Option Slot) (ρ : Sl) : Option D → Out R
  | some a => kOpD ρ (g a)
  | none => .stuck
def kUn (g : D → Option Slot) (o : Out R) : Out R := o.bind fun r1 ρ1 => kUnC g ρ1 (look r1 ρ1)
def kArB (r : R) (o : Out (List R)) : Out (List R) := o.bind fun rs ρ2 => .ok (r :: rs) ρ2
def kArA (g : Sl → Out (List R)) (o : Out R) : Out (List R) := o.bind fun r ρ1 => kArB r (g ρ1)
def kCB2 (g : List D → Option Slot) (ρ : Sl) : Option (List D) → Out R
  | some ds => kOpD ρ (g ds)
  | none => .stuck
def kCB (g : List D → Option Slot) (o : Out (List R)) : Out R := o.bind fun rs ρ1 => kCB2 g ρ1 (looks rs ρ1)
def kLk (d : Option D) (o : Option (List D)) : Option (List D) := match d, o with
  | some d, some ds => some (d :: ds)
  | _, _ => none
def kFr (ρ : Sl) : Option D → Out D
  | some d => .ok d ρ
  | none => .stuck
def kFrR (i : Nat) (ρ : Sl) : Option D → Out D
  | some d => .ok d (ρ.set i (.sh d))
  | none => .stuck
def kCoB (d : D) (o : Out (List D)) : Out (List D) := o.bind fun ds ρ2 => .ok (d :: ds) ρ2
def kCoA (rs : List R) (o : Out D) : Out (List D) := o.bind fun d ρ1 => kCoB d (consAll rs ρ1)
def kTupE (o : Out (List D)) : Out R := o.bind fun ds ρ2 => if ds.length ≤ LIM then .ok (.v (.sh (.tup ds))) ρ2 else .stuck
def kTupA (o : Out (List R)) : Out R := o.bind fun rs ρ1 => kTupE (consAll rs ρ1)
def kLstE (o : Out (List D)) : Out R := o.bind fun ds ρ2 => if ds.length ≤ LIM then .ok (.v (.lst (shs ds))) ρ2 else .stuck
def kLstA (o : Out (List R)) : Out R := o.bind fun rs ρ1 => kLstE (consAll rs ρ1)
def kTst (o : Out R) : Out Bool := o.bind fun r ρ1 => match r with
  | .v (.sh (.bl b)) => .ok b ρ1
  | _ => .stuck
def kTruC (ρ : Sl) : Option Bool → Out Bool
  | some b => .ok b ρ
  | none => .stuck
def kTruB (ρ : Sl) : Option D → Out Bool
  | some d => kTruC ρ (gTru d)
  | none => .stuck
def kTru (o : Out R) : Out Bool := o.bind fun r ρ1 => kTruB ρ1 (look r ρ1)
def kAnd (q : Sl → Out Bool) (o : Out Bool) : Out Bool := o.bind fun b ρ1 => if b then q ρ1 else .ok false ρ1
def kOr (q : Sl → Out Bool) (o : Out Bool) : Out Bool := o.bind fun b ρ1 => if b then .ok true ρ1 else q ρ1
def kNot (o : Out Bool) : Out Bool := o.bind fun b ρ1 => .ok (!b) ρ1
def kAndV (g : Ev) (o : Out R) : Out R := o.bind fun r ρ1 => match r with
  | .v (.sh (.bl b)) => if b then g ρ1 else .ok (.v (.sh (.bl false))) ρ1
  | _ => .stuck
def kOrV (g : Ev) (o : Out R) : Out R := o.bind fun r ρ1 => match r with
  | .v (.sh (.bl b)) => if b then .ok (.v (.sh (.bl true))) ρ1 else g ρ1
  | _ => .stuck
def kNotV (o : Out R) : Out R := o.bind fun r ρ1 => match r with
  | .v (.sh (.bl b)) => .ok (.v (.sh (.bl (!b)))) ρ1
  | _ => .stuck
def kIfE (f g : Ev) (o : Out Bool) : Out R := o.bind fun k ρ1 => if k then f ρ1 else g ρ1
def kSeq (g : SEv) : Out Fl → Out Fl
  | .ok .nx ρ1 => g ρ1
  | o => o
def kIf (f g : SEv) (o : Out Bool) : Out Fl := o.bind fun k ρ1 => if k then f ρ1 else g ρ1
def kExpr (o : Out R) : Out Fl := o.bind fun _ ρ1 => .ok .nx ρ1
def kSetC (i : Nat) (o : Out D) : Out Fl := o.bind fun d ρ2 => .ok .nx (ρ2.set i (.sh d))
def kSet (i : Nat) (o : Out R) : Out Fl := o.bind fun r ρ1 => match r with
  | .v s => .ok .nx (ρ1.set i s)
  | .r j => kSetC i (cons (.r j) ρ1)
def kSetF (i : Nat) (o : Out R) : Out Fl := o.bind fun r ρ1 => kSetC i (cons r ρ1)
def kRetM2 (j : Nat) (ρ1 : Sl) : Option Slot → Out Fl
  | some s => .ok (.ret s) (ρ1.set j .no)
  | none => .stuck
def kRetM (o : Out R) : Out Fl := o.bind fun r ρ1 => match r with
  | .v s => .ok (.ret s) ρ1
  | .r j => kRetM2 j ρ1 (ρ1[j]?)
def kAsgC : Option Sl → Out Fl
  | some ρ3 => .ok .nx ρ3
  | none => .stuck
def kAsgB (g : D → Sl → Option Sl) (o : Out D) : Out Fl := o.bind fun d ρ2 => kAsgC (g d ρ2)
def kAsg (g : D → Sl → Option Sl) (o : Out R) : Out Fl := o.bind fun r ρ1 => kAsgB g (cons r ρ1)
def kFor (g : D → Sl → Option Sl) (body : SEv) (o : Out (List D)) : Out Fl := o.bind fun ds ρ1 => forL g body ds ρ1
def kForB (g : D → Sl → Option Sl) (body : SEv) (ds : List D) : Out Fl → Out Fl
  | .ok .nx ρ2 => forL g body ds ρ2
  | .ok .ct ρ2 => forL g body ds ρ2
  | .ok .bk ρ2 => .ok .nx ρ2
  | .ok (.ret s) ρ2 => .ok (.ret s) ρ2
  | .exc c ns es ρ2 => .exc c ns es ρ2
  | .stuck => .stuck
def kForA (g : D → Sl → Option Sl) (body : SEv) (ds : List D) : Option Sl → Out Fl
  | none => .stuck
  | some ρ1 => kForB g body ds (body ρ1)
def kSeqI2 (ρ : Sl) : D → Out (List D)
  | .lst ds => .ok ds ρ
  | .rol ds => .ok ds ρ
  | .tup ds => .ok ds ρ
  | _ => .stuck
def kSeqI1 (o : Out D) : Out (List D) := o.bind fun d ρ2 => kSeqI2 ρ2 d
def kSeqI (o : Out R) : Out (List D) := o.bind fun r ρ1 => kSeqI1 (cons r ρ1)
def kRng1B (ρ : Sl) : Option D → Out (List D)
  | some (.int j) => if j < 2 ^ 62 ∧ -(2 ^ 62) ≤ j then .ok (rngD 0 j.toNat) ρ else .stuck
  | _ => .stuck
def kRng1 (o : Out R) : Out (List D) := o.bind fun r ρ1 => kRng1B ρ1 (look r ρ1)
def kRng2C (ρ : Sl) : Option D → Option D → Out (List D)
  | some (.int i), some (.int j) => if i < 2 ^ 62 ∧ j < 2 ^ 62 ∧ -(2 ^ 62) ≤ i ∧ -(2 ^ 62) ≤ j then .ok (rngD i (j - i).toNat) ρ else .stuck
  | _, _ => .stuck
def kRng2B (r1 : R) (o : Out R) : Out (List D) := o.bind fun r2 ρ2 => kRng2C ρ2 (look r1 ρ2) (look r2 ρ2)
def kRng2 (fb : Ev) (o : Out R) : Out (List D) := o.bind fun r1 ρ1 => kRng2B r1 (fb ρ1)
def kFn (np : Nat) (fx : FX) : Out Fl → Out Slot
  | .ok (.ret s) ρ => .ok s (fins fx 0 np ρ)
  | .ok .nx ρ => .ok (.sh .non) (fins fx 0 np ρ)
  | .exc c ns ds ρ => .exc c ns ds (fins fx 0 np ρ)
  | _ => .stuck
def kCallB (rs : List R) (ρ : Sl) : Out Slot → Out R
  | .ok s fs => .ok (.v s) (giveB rs fs ρ)
  | .exc c ns ds fs => .exc c ns ds (giveB rs fs ρ)
  | .stuck => .stuck
def kCallN (n : Nat) (F : FnD) (o : Out (List R)) : Out R := o.bind fun rs ρ1 => if rs.length = n then kCallB rs (lend rs ρ1).2 (F (lend rs ρ1).1) else .stuck
def kCallFC (ρ : Sl) : Out Slot → Out R
  | .ok s _ => .ok (.v s) ρ
  | .exc c ns es _ => .exc c ns es ρ
  | .stuck => .stuck
def kCallFB (n : Nat) (F : FnD) (o : Out (List D)) : Out R := o.bind fun ds ρ2 => if ds.length = n then kCallFC ρ2 (F (shs ds)) else .stuck
def kCallF (n : Nat) (F : FnD) (o : Out (List R)) : Out R := o.bind fun rs ρ1 => kCallFB n F (consAll rs ρ1)
def kCallVC (ρ : Sl) : Out Slot → Out R
  | .ok (.sh d) _ => if d.scal then .ok (.v (.sh d)) ρ else .stuck
  | _ => .stuck
def kCallVB (F : FnD) (ρ : Sl) : Option (List D) → Out R
  | some ds => kCallVC ρ (F (shs ds))
  | none => .stuck
def kCallV (n : Nat) (F : FnD) (o : Out (List R)) : Out R := o.bind fun rs ρ1 => if rs.length = n then kCallVB F ρ1 (views rs ρ1) else .stuck
def kAppC (i : Nat) (d : D) (ρ3 : Sl) : Option Slot → Out R
  | some (.lst ss) => if ss.length < LIM then .ok (.v (.sh .non)) (ρ3.set i (.lst (ss ++ [.sh d]))) else .stuck
  | _ => .stuck
def kAppB (i : Nat) (o : Out D) : Out R := o.bind fun d ρ3 => kAppC i d ρ3 (ρ3[i]?)
def kAppA (i : Nat) (o : Out R) : Out R := o.bind fun r2 ρ2 => kAppB i (cons r2 ρ2)
def kApp1 (i : Nat) (fb : Ev) (ρ : Sl) : Option Slot → Out R
  | some (.lst _) => kAppA i (fb ρ)
  | _ => .stuck
def kApp0 (fb : Ev) (o : Out R) : Out R := o.bind fun r1 ρ1 => match r1 with
  | .r i => kApp1 i fb ρ1 (ρ1[i]?)
  | _ => .stuck
def kSubD (i : Nat) (d : D) (k : Int) (ρ : Sl) : Option (List D) → Option Sl
  | some ds => (ixN ds.length k).map fun j => ρ.set i (.lst (shs (ds.set j d)))
  | none => none
def kSubC (i : Nat) (d : D) (ρ : Sl) : Option D → Option Slot → Option Sl
  | some (.int k), some (.lst ss) => kSubD i d k ρ (flats ss)
  | _, _ => none
def kSubB (i : Nat) (d : D) : Out R → Option Sl
  | .ok r2 ρ2 => kSubC i d ρ2 (look r2 ρ2) (ρ2[i]?)
  | _ => none
def kSubA (fb : Ev) (d : D) : Out R → Option Sl
  | .ok (.r i) ρ1 => kSubB i d (fb ρ1)
  | _ => none
def kCmpE (o : Out (List D)) : Out R := o.bind fun ys ρ2 => .ok (.v (.lst (shs ys))) ρ2
def kCmp (vs : List Nat) (g : D → Sl → Option Sl) (p : Sl → Out Bool) (e : Ev) (o : Out (List D)) : Out R := o.bind fun ds ρ1 => kCmpE (compL vs g p e ds [] (wipeR ρ1 vs))
def kCmD (vs : List Nat) (g : D → Sl → Option Sl) (p : Sl → Out Bool) (e : Ev) (ds acc : List D) (o : Out D) : Out (List D) := o.bind fun y ρ4 => if acc.length < LIM then compL vs g p e ds (acc ++ [y]) (wipeR ρ4 vs) else .stuck
def kCmC (vs : List Nat) (g : D → Sl → Option Sl) (p : Sl → Out Bool) (e : Ev) (ds acc : List D) : Out R → Out (List D)
  | .ok r ρ3 => kCmD vs g p e ds acc (cons r ρ3)
  | _ => .stuck
def kCmB (vs : List Nat) (g : D → Sl → Option Sl) (p : Sl → Out Bool) (e : Ev) (ds acc : List D) : Out Bool → Out (List D)
  | .ok true ρ2 => kCmC vs g p e ds acc (e ρ2)
  | .ok false ρ2 => compL vs g p e ds acc (wipeR ρ2 vs)
  | _ => .stuck
def kCmA (vs : List Nat) (g : D → Sl → Option Sl) (p : Sl → Out Bool) (e : Ev) (ds acc : List D) : Option Sl → Out (List D)
  | none => .stuck
  | some ρ1 => kCmB vs g p e ds acc (p ρ1)

theorem bind_ok {α β : Type} (a : α) (ρ : Sl) (k : α → Sl → Out β) : (Out.ok a ρ).bind k = k a ρ := rfl
theorem bind_exc {α β : Type} (c ns ds) (ρ : Sl) (k : α → Sl → Out β) : (Out.exc c ns ds ρ).bind k = .exc c ns ds ρ := rfl

/-- one step of each -/
theorem ev1 :
    (∀ i ρ, eVar i ρ = kVar i ρ (ρ[i]?)) ∧
    (∀ d ρ, eC d ρ = .ok (.v (.sh d)) ρ) ∧
    (∀ i ρ d, kVar i ρ (some (.sh d)) = .ok (.v (.sh d)) ρ) ∧
    (∀ i ρ ss, kVar i ρ (some (.lst ss)) = .ok (.r i) ρ) ∧
    (∀ i ρ c ns ss, kVar i ρ (some (.obj c ns ss)) = .ok (.r i) ρ) ∧
    (∀ i ρ ks ss, kVar i ρ (some (.dct ks ss)) = .ok (.r i) ρ) ∧
    (∀ g fa fb ρ, eOp g fa fb ρ = kOpA g fb (fa ρ)) ∧
    (∀ g fb r ρ, kOpA g fb (.ok r ρ) = kOpB g r (fb ρ)) ∧
    (∀ g r1 r ρ, kOpB g r1 (.ok r ρ) = kOpC g ρ (look r1 ρ) (look r ρ)) ∧
    (∀ g fb c ns ds ρ, kOpA g fb (.exc c ns ds ρ) = .exc c ns ds ρ) ∧
    (∀ g r1 c ns ds ρ, kOpB g r1 (.exc c ns ds ρ) = .exc c ns ds ρ) ∧
    (∀ g ρ a b, kOpC g ρ (some a) (some b) = kOpD ρ (g a b)) ∧
    (∀ ρ s, kOpD ρ (some s) = .ok (.v s) ρ) ∧
    (∀ s ρ, look (.v s) ρ = s.flat) ∧
    (∀ i ρ, look (.r i) ρ = (ρ[i]?).bind Slot.flat) ∧
    (∀ d, Slot.flat (.sh d) = some d) ∧
    (∀ ss, Slot.flat (.lst ss) = (flats ss).map D.lst) ∧
    (∀ c ns ss, Slot.flat (.obj c ns ss) = (flats ss).map (D.obj c ns)) ∧
    (flats [] = some []) ∧
    (∀ d ss, flats (.sh d :: ss) = (flats ss).map (d :: ·)) ∧
    (∀ ds, flats (shs ds) = some ds) ∧
    (∀ (ds : List D), flats (ds.map Slot.sh) = some ds) ∧
    (∀ d, Slot.fr (.sh d) = some d) ∧
    (∀ ss, Slot.fr (.lst ss) = (frs ss).map D.lst) ∧
    (∀ c ns ss, Slot.fr (.obj c ns ss) = (frs ss).map (D.obj c ns)) ∧
    (frs [] = some []) ∧
    (∀ ds, frs (shs ds) = some ds) ∧
    (∀ (ds : List D), frs (ds.map Slot.sh) = some ds) ∧
    (∀ g fa ρ, eUn g fa ρ = kUn g (fa ρ)) ∧
    (∀ g r ρ, kUn g (.ok r ρ) = kUnC g ρ (look r ρ)) ∧
    (∀ g ρ a, kUnC g ρ (some a) = kOpD ρ (g a)) ∧
    (∀ ρ, aNil ρ = .ok [] ρ) ∧
    (∀ f g ρ, aCons f g ρ = kArA g (f ρ)) ∧
    (∀ g r ρ, kArA g (.ok r ρ) = kArB r (g ρ)) ∧
    (∀ g c ns ds ρ, kArA g (.exc c ns ds ρ) = .exc c ns ds ρ) ∧
    (∀ r rs ρ, kArB r (.ok rs ρ) = .ok (r :: rs) ρ) ∧
    (∀ r c ns ds ρ, kArB r (.exc c ns ds ρ) = .exc c ns ds ρ) ∧
    (∀ g fs ρ, eCB g fs ρ = kCB g (fs ρ)) ∧
    (∀ g rs ρ, kCB g (.ok rs ρ) = kCB2 g ρ (looks rs ρ)) ∧
    (∀ g c ns ds ρ, kCB g (.exc c ns ds ρ) = .exc c ns ds ρ) ∧
    (∀ g ds ρ, kCB2 g ρ (some ds) = kOpD ρ (g ds)) ∧
    (∀ ρ, looks [] ρ = some []) ∧
    (∀ r rs ρ, looks (r :: rs) ρ = kLk (look r ρ) (looks rs ρ)) ∧
    (∀ d ds, kLk (some d) (some ds) = some (d :: ds)) ∧
    (∀ g d, g1 g [d] = g d) ∧
    (∀ g d e, g2 g [d, e] = g d e) := by
  refine ⟨fun i ρ => ?_, fun _ _ => rfl, fun _ _ _ => rfl, fun _ _ _ => rfl, fun _ _ _ _ _ => rfl, fun _ _ _ _ => rfl, fun _ _ _ _ => ?_, fun _ _ _ _ => rfl, fun _ _ _ _ => rfl, fun _ _ _ _ _ _ => rfl, fun _ _ _ _ _ _ => rfl, fun _ _ _ _ => rfl, fun _ _ => rfl, fun _ _ => rfl, fun _ _ => rfl, fun _ => rfl, fun _ => rfl, fun _ _ _ => rfl, rfl, fun _ _ => rfl, flats_sh, flats_sh, fun _ => rfl, fun _ => rfl, fun _ _ _ => rfl, rfl, frs_sh, frs_sh, fun _ _ _ => ?_, fun _ _ _ => rfl, fun _ _ _ => rfl, fun _ => rfl, fun _ _ _ => rfl, fun _ _ _ => rfl, fun _ _ _ _ _ => rfl, fun _ _ _ => rfl, fun _ _ _ _ _ => rfl, fun _ _ _ => ?_, fun _ _ _ => rfl, fun _ _ _ _ _ => rfl, fun _ _ _ => rfl, fun _ => rfl, fun _ _ _ => rfl, fun _ _ => rfl, fun _ _ => rfl, fun _ _ _ => rfl⟩
  · unfold eVar kVar; split <;> simp_all
  · unfold eOp kOpA kOpB kOpC kOpD; rfl
  · unfold eUn kUn kUnC kOpD; rfl
  · unfold eCB kCB kCB2 kOpD; rfl
theorem ev2 :
    (∀ fs ρ, eTup fs ρ = kTupA (fs ρ)) ∧
    (∀ rs ρ, kTupA (.ok rs ρ) = kTupE (consAll rs ρ)) ∧
    (∀ c ns ds ρ, kTupA (.exc c ns ds ρ) = .exc c ns ds ρ) ∧
    (∀ ds ρ, kTupE (.ok ds ρ) = if ds.length ≤ LIM then .ok (.v (.sh (.tup ds))) ρ else .stuck) ∧
    (∀ fs ρ, eLst fs ρ = kLstA (fs ρ)) ∧
    (∀ rs ρ, kLstA (.ok rs ρ) = kLstE (consAll rs ρ)) ∧
    (∀ c ns ds ρ, kLstA (.exc c ns ds ρ) = .exc c ns ds ρ) ∧
    (∀ ds ρ, kLstE (.ok ds ρ) = if ds.length ≤ LIM then .ok (.v (.lst (shs ds))) ρ else .stuck) ∧
    (∀ ρ, consAll [] ρ = .ok [] ρ) ∧
    (∀ r rs ρ, consAll (r :: rs) ρ = kCoA rs (cons r ρ)) ∧
    (∀ rs d ρ, kCoA rs (.ok d ρ) = kCoB d (consAll rs ρ)) ∧
    (∀ d ds ρ, kCoB d (.ok ds ρ) = .ok (d :: ds) ρ) ∧
    (∀ s ρ, cons (.v s) ρ = kFr ρ s.fr) ∧
    (∀ i ρ, cons (.r i) ρ = kFrR i ρ ((ρ[i]?).bind Slot.fr)) ∧
    (∀ d ρ, kFr ρ (some d) = .ok d ρ) ∧
    (∀ i d ρ, kFrR i ρ (some d) = .ok d (ρ.set i (.sh d))) ∧
    (∀ f ρ, tOfE f ρ = kTst (f ρ)) ∧
    (∀ b ρ, kTst (.ok (.v (.sh (.bl b))) ρ) = .ok b ρ) ∧
    (∀ c ns ds ρ, kTst (.exc c ns ds ρ) = .exc c ns ds ρ) ∧
    (∀ f ρ, eTru f ρ = kTru (f ρ)) ∧
    (∀ r ρ, kTru (.ok r ρ) = kTruB ρ (look r ρ)) ∧
    (∀ d ρ, kTruB ρ (some d) = kTruC ρ (gTru d)) ∧
    (∀ b ρ, kTruC ρ (some b) = .ok b ρ) ∧
    (∀ p q ρ, eAnd p q ρ = kAnd q (p ρ)) ∧
    (∀ q ρ, kAnd q (.ok true ρ) = q ρ) ∧
    (∀ q ρ, kAnd q (.ok false ρ) = .ok false ρ) ∧
    (∀ p q ρ, eOr p q ρ = kOr q (p ρ)) ∧
    (∀ q ρ, kOr q (.ok true ρ) = .ok true ρ) ∧
    (∀ q ρ, kOr q (.ok false ρ) = q ρ) ∧
    (∀ p ρ, eNot p ρ = kNot (p ρ)) ∧
    (∀ b ρ, kNot (.ok b ρ) = .ok (!b) ρ) ∧
    (∀ p q ρ, eAndV p q ρ = kAndV q (p ρ)) ∧
    (∀ q ρ, kAndV q (.ok (.v (.sh (.bl true))) ρ) = q ρ) ∧
    (∀ q ρ, kAndV q (.ok (.v (.sh (.bl false))) ρ) = .ok (.v (.sh (.bl false))) ρ) ∧
    (∀ p q ρ, eOrV p q ρ = kOrV q (p ρ)) ∧
    (∀ q ρ, kOrV q (.ok (.v (.sh (.bl true))) ρ) = .ok (.v (.sh (.bl true))) ρ) ∧
    (∀ q ρ, kOrV q (.ok (.v (.sh (.bl false))) ρ) = q ρ) ∧
    (∀ p ρ, eNotV p ρ = kNotV (p ρ)) ∧
    (∀ b ρ, kNotV (.ok (.v (.sh (.bl b))) ρ) = .ok (.v (.sh (.bl (!b)))) ρ) ∧
    (∀ p f g ρ, eIf p f g ρ = kIfE f g (p ρ)) ∧
    (∀ f g ρ, kIfE f g (.ok true ρ) = f ρ) ∧
    (∀ f g ρ, kIfE f g (.ok false ρ) = g ρ) ∧
    (∀ n F fs ρ, eCallN n F fs ρ = kCallN n F (fs ρ)) ∧
    (∀ n F rs ρ, kCallN n F (.ok rs ρ) = if rs.length = n then kCallB rs (lend rs ρ).2 (F (lend rs ρ).1) else .stuck) ∧
    (∀ rs s fs ρ, kCallB rs ρ (.ok s fs) = .ok (.v s) (giveB rs fs ρ)) ∧
    (∀ rs c ns ds fs ρ, kCallB rs ρ (.exc c ns ds fs) = .exc c ns ds (giveB rs fs ρ)) ∧
    (∀ ρ, lend [] ρ = ([], ρ)) ∧
    (∀ s rs ρ, lend (.v s :: rs) ρ = (s :: (lend rs ρ).1, (lend rs ρ).2)) ∧
    (∀ i rs ρ, lend (.r i :: rs) ρ = ((ρ[i]?).getD .no :: (lend rs (ρ.set i .no)).1, (lend rs (ρ.set i .no)).2)) ∧
    (∀ ρ fs, giveB [] fs ρ = ρ) ∧
    (∀ s rs f fs ρ, giveB (.v s :: rs) (f :: fs) ρ = giveB rs fs ρ) ∧
    (∀ i rs f fs ρ, giveB (.r i :: rs) (f :: fs) ρ = giveB rs fs (ρ.set i f)) ∧
    (∀ n F fs ρ, eCallF n F fs ρ = kCallF n F (fs ρ)) ∧
    (∀ n F rs ρ, kCallF n F (.ok rs ρ) = kCallFB n F (consAll rs ρ)) ∧
    (∀ n F ds ρ, kCallFB n F (.ok ds ρ) = if ds.length = n then kCallFC ρ (F (shs ds)) else .stuck) ∧
    (∀ s fs ρ, kCallFC ρ (.ok s fs) = .ok (.v s) ρ) ∧
    (∀ c ns es fs ρ, kCallFC ρ (.exc c ns es fs) = .exc c ns es ρ) ∧
    (∀ n F fs ρ, eCallV n F fs ρ = kCallV n F (fs ρ)) ∧
    (∀ n F rs ρ, kCallV n F (.ok rs ρ) = if rs.length = n then kCallVB F ρ (views rs ρ) else .stuck) ∧
    (∀ F ds ρ, kCallVB F ρ (some ds) = kCallVC ρ (F (shs ds))) ∧
    (∀ d fs ρ, kCallVC ρ (.ok (.sh d) fs) = if d.scal then .ok (.v (.sh d)) ρ else .stuck) ∧
    (∀ ρ, views [] ρ = some []) ∧
    (∀ r rs ρ, views (r :: rs) ρ = kLk (view r ρ) (views rs ρ)) ∧
    (∀ s ρ, view (.v s) ρ = s.fr) ∧
    (∀ i ρ, view (.r i) ρ = (ρ[i]?).bind Slot.fr) := by
  refine ⟨fun _ _ => rfl, fun _ _ => rfl, fun _ _ _ _ => rfl, fun _ _ => rfl, fun _ _ => rfl, fun _ _ => rfl, fun _ _ _ _ => rfl, fun _ _ => rfl, fun _ => rfl, fun _ _ _ => rfl, fun _ _ _ => rfl, fun _ _ _ => rfl, fun s ρ => ?_, fun i ρ => ?_, fun _ _ => rfl, fun _ _ _ => rfl, fun _ _ => rfl, fun _ _ => rfl, fun _ _ _ _ => rfl,
    fun _ _ => ?_, fun _ _ => rfl, fun _ _ => rfl, fun _ _ => rfl, fun _ _ _ => rfl, fun _ _ => rfl, fun _ _ => rfl, fun _ _ _ => rfl, fun _ _ => rfl, fun _ _ => rfl, fun _ _ => rfl, fun _ _ => rfl, fun _ _ _ => rfl, fun _ _ => rfl, fun _ _ => rfl, fun _ _ _ => rfl, fun _ _ => rfl, fun _ _ => rfl, fun _ _ => rfl, fun _ _ => rfl, fun _ _ _ _ => rfl, fun _ _ _ => rfl, fun _ _ _ => rfl,
    fun _ _ _ _ => ?_, fun _ _ _ _ => rfl, fun _ _ _ _ => rfl, fun _ _ _ _ _ _ => rfl, fun _ => rfl, fun _ _ _ => rfl, fun _ _ _ => rfl, fun ρ fs => ?_, fun _ _ _ _ _ => rfl, fun _ _ _ _ _ => rfl, fun _ _ _ _ => ?_, fun _ _ _ _ => rfl, fun _ _ _ _ => rfl, fun _ _ _ => rfl, fun _ _ _ _ _ => rfl, fun _ _ _ _ => ?_, fun _ _ _ _ => rfl, fun _ _ _ => rfl, fun _ _ _ => rfl, fun _ => rfl, fun _ _ _ => rfl, fun _ _ => rfl, fun _ _ => rfl⟩
  · cases h : s.fr with
    | none => simp [cons, kFr, h]
    | some d => simp [cons, kFr, h]
  · simp only [cons, kFrR]
    cases h0 : ρ[i]? with
    | none => simp
    | some s => cases h : s.fr <;> simp [h]
  · unfold eTru kTru kTruB kTruC; rfl
  · unfold eCallN kCallN callOn kCallB; rfl
  · cases fs <;> rfl
  · unfold eCallF kCallF kCallFB kCallFC; rfl
  · unfold eCallV kCallV kCallVB kCallVC; rfl
theorem ev3 :
    (∀ f g ρ, sSeq f g ρ = kSeq g (f ρ)) ∧
    (∀ g ρ, kSeq g (.ok .nx ρ) = g ρ) ∧
    (∀ g s ρ, kSeq g (.ok (.ret s) ρ) = .ok (.ret s) ρ) ∧
    (∀ g ρ, kSeq g (.ok .bk ρ) = .ok .bk ρ) ∧
    (∀ g ρ, kSeq g (.ok .ct ρ) = .ok .ct ρ) ∧
    (∀ g c ns ds ρ, kSeq g (.exc c ns ds ρ) = .exc c ns ds ρ) ∧
    (∀ ρ, sNil ρ = .ok .nx ρ) ∧ (∀ ρ, sPass ρ = .ok .nx ρ) ∧ (∀ ρ, sBk ρ = .ok .bk ρ) ∧ (∀ ρ, sCt ρ = .ok .ct ρ) ∧
    (∀ f ρ, sExpr f ρ = kExpr (f ρ)) ∧
    (∀ r ρ, kExpr (.ok r ρ) = .ok .nx ρ) ∧
    (∀ c ns ds ρ, kExpr (.exc c ns ds ρ) = .exc c ns ds ρ) ∧
    (∀ i f ρ, sSet i f ρ = kSet i (f ρ)) ∧
    (∀ i s ρ, kSet i (.ok (.v s) ρ) = .ok .nx (ρ.set i s)) ∧
    (∀ i j ρ, kSet i (.ok (.r j) ρ) = kSetC i (cons (.r j) ρ)) ∧
    (∀ i c ns ds ρ, kSet i (.exc c ns ds ρ) = .exc c ns ds ρ) ∧
    (∀ i d ρ, kSetC i (.ok d ρ) = .ok .nx (ρ.set i (.sh d))) ∧
    (∀ i f ρ, sSetF i f ρ = kSetF i (f ρ)) ∧
    (∀ i r ρ, kSetF i (.ok r ρ) = kSetC i (cons r ρ)) ∧
    (∀ i c ns ds ρ, kSetF i (.exc c ns ds ρ) = .exc c ns ds ρ) ∧
    (∀ f ρ, sRetM f ρ = kRetM (f ρ)) ∧
    (∀ s ρ, kRetM (.ok (.v s) ρ) = .ok (.ret s) ρ) ∧
    (∀ j ρ, kRetM (.ok (.r j) ρ) = kRetM2 j ρ (ρ[j]?)) ∧
    (∀ c ns ds ρ, kRetM (.exc c ns ds ρ) = .exc c ns ds ρ) ∧
    (∀ j s ρ, kRetM2 j ρ (some s) = .ok (.ret s) (ρ.set j .no)) ∧
    (∀ ρ, sRetN ρ = .ok (.ret (.sh .non)) ρ) ∧
    (∀ p f g ρ, sIf p f g ρ = kIf f g (p ρ)) ∧
    (∀ f g ρ, kIf f g (.ok true ρ) = f ρ) ∧
    (∀ f g ρ, kIf f g (.ok false ρ) = g ρ) ∧
    (∀ f g c ns ds ρ, kIf f g (.exc c ns ds ρ) = .exc c ns ds ρ) ∧
    (∀ g f ρ, sAsg g f ρ = kAsg g (f ρ)) ∧
    (∀ g r ρ, kAsg g (.ok r ρ) = kAsgB g (cons r ρ)) ∧
    (∀ g d ρ, kAsgB g (.ok d ρ) = kAsgC (g d ρ)) ∧
    (∀ ρ, kAsgC (some ρ) = .ok .nx ρ) ∧
    (∀ g c ns ds ρ, kAsg g (.exc c ns ds ρ) = .exc c ns ds ρ) ∧
    (∀ i d ρ, kName i d ρ = some (ρ.set i (.sh d))) ∧
    (∀ ρ, kNil [] ρ = some ρ) ∧
    (∀ g h d ds ρ, kCons g h (d :: ds) ρ = (g d ρ).bind (h ds)) ∧
    (∀ n h ds ρ, kTup n h (.tup ds) ρ = if ds.length = n then h ds ρ else none) ∧
    (∀ it g b ρ, sFor it g b ρ = kFor g b (it ρ)) ∧
    (∀ g b ds ρ, kFor g b (.ok ds ρ) = forL g b ds ρ) ∧
    (∀ g b ρ, forL g b [] ρ = .ok .nx ρ) ∧
    (∀ g b d ds ρ, forL g b (d :: ds) ρ = kForA g b ds (g d ρ)) ∧
    (∀ g b ds ρ, kForA g b ds (some ρ) = kForB g b ds (b ρ)) ∧
    (∀ g b ds ρ, kForB g b ds (.ok .nx ρ) = forL g b ds ρ) ∧
    (∀ g b ds ρ, kForB g b ds (.ok .ct ρ) = forL g b ds ρ) ∧
    (∀ g b ds ρ, kForB g b ds (.ok .bk ρ) = .ok .nx ρ) ∧
    (∀ g b ds s ρ, kForB g b ds (.ok (.ret s) ρ) = .ok (.ret s) ρ) ∧
    (∀ g b ds c ns es ρ, kForB g b ds (.exc c ns es ρ) = .exc c ns es ρ) ∧
    (∀ f ρ, iSeq f ρ = kSeqI (f ρ)) ∧
    (∀ r ρ, kSeqI (.ok r ρ) = kSeqI1 (cons r ρ)) ∧
    (∀ d ρ, kSeqI1 (.ok d ρ) = kSeqI2 ρ d) ∧
    (∀ ds ρ, kSeqI2 ρ (.lst ds) = .ok ds ρ) ∧ (∀ ds ρ, kSeqI2 ρ (.rol ds) = .ok ds ρ) ∧ (∀ ds ρ, kSeqI2 ρ (.tup ds) = .ok ds ρ) ∧
    (∀ f ρ, iRange1 f ρ = kRng1 (f ρ)) ∧
    (∀ r ρ, kRng1 (.ok r ρ) = kRng1B ρ (look r ρ)) ∧
    (∀ j ρ, kRng1B ρ (some (.int j)) = if j < 2 ^ 62 ∧ -(2 ^ 62) ≤ j then .ok (rngD 0 j.toNat) ρ else .stuck) ∧
    (∀ f g ρ, iRange2 f g ρ = kRng2 g (f ρ)) ∧
    (∀ g r ρ, kRng2 g (.ok r ρ) = kRng2B r (g ρ)) ∧
    (∀ r r2 ρ, kRng2B r (.ok r2 ρ) = kRng2C ρ (look r ρ) (look r2 ρ)) ∧
    (∀ i j ρ, kRng2C ρ (some (.int i)) (some (.int j)) = if i < 2 ^ 62 ∧ j < 2 ^ 62 ∧ -(2 ^ 62) ≤ i ∧ -(2 ^ 62) ≤ j then .ok (rngD i (j - i).toNat) ρ else .stuck) ∧
    (∀ n np fx b args, fnOf n np fx b args = kFn np fx (b (args ++ List.replicate (n - np) .no))) ∧
    (∀ np fx s ρ, kFn np fx (.ok (.ret s) ρ) = .ok s (fins fx 0 np ρ)) ∧
    (∀ np fx ρ, kFn np fx (.ok .nx ρ) = .ok (.sh .non) (fins fx 0 np ρ)) ∧
    (∀ np fx c ns ds ρ, kFn np fx (.exc c ns ds ρ) = .exc c ns ds (fins fx 0 np ρ)) := by
  refine ⟨fun f g ρ => ?_, fun _ _ => rfl, fun _ _ _ => rfl, fun _ _ => rfl, fun _ _ => rfl, fun _ _ _ _ _ => rfl, fun _ => rfl, fun _ => rfl, fun _ => rfl, fun _ => rfl, fun _ _ => rfl, fun _ _ => rfl, fun _ _ _ _ => rfl, fun _ _ _ => rfl, fun _ _ _ => rfl, fun _ _ _ => rfl, fun _ _ _ _ _ => rfl, fun _ _ _ => rfl, fun _ _ _ => rfl, fun _ _ _ => rfl, fun _ _ _ _ _ => rfl, fun _ _ => ?_, fun _ _ => rfl, fun _ _ => rfl, fun _ _ _ _ => rfl, fun _ _ _ => rfl, fun _ => rfl, fun _ _ _ _ => rfl, fun _ _ _ => rfl, fun _ _ _ => rfl, fun _ _ _ _ _ _ => rfl, fun _ _ _ => ?_, fun _ _ _ => rfl, fun _ _ _ => rfl, fun _ => rfl, fun _ _ _ _ _ => rfl, fun _ _ _ => rfl, fun _ => rfl, fun _ _ _ _ _ => rfl, fun _ _ _ _ => rfl, fun _ _ _ _ => rfl, fun _ _ _ _ => rfl, fun _ _ _ => rfl, fun _ _ _ _ _ => ?_, fun _ _ _ _ => rfl, fun _ _ _ _ => rfl, fun _ _ _ _ => rfl, fun _ _ _ _ => rfl, fun _ _ _ _ _ => rfl, fun _ _ _ _ _ _ _ => rfl, fun _ _ => ?_, fun _ _ => rfl, fun _ _ => rfl, fun _ _ => rfl, fun _ _ => rfl, fun _ _ => rfl, fun _ _ => ?_, fun _ _ => rfl, fun _ _ => rfl, fun _ _ _ => ?_, fun _ _ _ => rfl, fun _ _ _ => rfl, fun _ _ _ => rfl, fun _ _ _ _ _ => ?_, fun _ _ _ _ => rfl, fun _ _ _ => rfl, fun _ _ _ _ _ _ => rfl⟩
  · unfold sSeq kSeq; rfl
  · unfold sRetM kRetM kRetM2; rfl
  · unfold sAsg kAsg kAsgB kAsgC; rfl
  · conv => lhs; unfold forL
    unfold kForA kForB; rfl
  · unfold iSeq kSeqI kSeqI1 kSeqI2; rfl
  · unfold iRange1 kRng1 kRng1B; rfl
  · unfold iRange2 kRng2 kRng2B kRng2C; rfl
  · unfold fnOf kFn; rfl
theorem ev4 :
    (∀ fa fb ρ, eApp fa fb ρ = kApp0 fb (fa ρ)) ∧
    (∀ fb i ρ, kApp0 fb (.ok (.r i) ρ) = kApp1 i fb ρ (ρ[i]?)) ∧
    (∀ fb i ss ρ, kApp1 i fb ρ (some (.lst ss)) = kAppA i (fb ρ)) ∧
    (∀ i r ρ, kAppA i (.ok r ρ) = kAppB i (cons r ρ)) ∧
    (∀ i c ns ds ρ, kAppA i (.exc c ns ds ρ) = .exc c ns ds ρ) ∧
    (∀ i d ρ, kAppB i (.ok d ρ) = kAppC i d ρ (ρ[i]?)) ∧
    (∀ i d ρ ss, kAppC i d ρ (some (.lst ss)) = if ss.length < LIM then .ok (.v (.sh .non)) (ρ.set i (.lst (ss ++ [.sh d]))) else .stuck) ∧
    (∀ fa fb d ρ, kSub fa fb d ρ = kSubA fb d (fa ρ)) ∧
    (∀ fb d i ρ, kSubA fb d (.ok (.r i) ρ) = kSubB i d (fb ρ)) ∧
    (∀ i d r ρ, kSubB i d (.ok r ρ) = kSubC i d ρ (look r ρ) (ρ[i]?)) ∧
    (∀ i d ρ k ss, kSubC i d ρ (some (.int k)) (some (.lst ss)) = kSubD i d k ρ (flats ss)) ∧
    (∀ i d k ρ ds, kSubD i d k ρ (some ds) = (ixN ds.length k).map fun j => ρ.set i (.lst (shs (ds.set j d)))) ∧
    (∀ vs it g p e ρ, eComp vs it g p e ρ = kCmp vs g p e (it ρ)) ∧
    (∀ vs g p e ds ρ, kCmp vs g p e (.ok ds ρ) = kCmpE (compL vs g p e ds [] (wipeR ρ vs))) ∧
    (∀ ds ρ, kCmpE (.ok ds ρ) = .ok (.v (.lst (shs ds))) ρ) ∧
    (∀ vs g p e acc ρ, compL vs g p e [] acc ρ = .ok acc ρ) ∧
    (∀ vs g p e d ds acc ρ, compL vs g p e (d :: ds) acc ρ = kCmA vs g p e ds acc (g d ρ)) ∧
    (∀ vs g p e ds acc ρ, kCmA vs g p e ds acc (some ρ) = kCmB vs g p e ds acc (p ρ)) ∧
    (∀ vs g p e ds acc ρ, kCmB vs g p e ds acc (.ok true ρ) = kCmC vs g p e ds acc (e ρ)) ∧
    (∀ vs g p e ds acc ρ, kCmB vs g p e ds acc (.ok false ρ) = compL vs g p e ds acc (wipeR ρ vs)) ∧
    (∀ vs g p e ds acc r ρ, kCmC vs g p e ds acc (.ok r ρ) = kCmD vs g p e ds acc (cons r ρ)) ∧
    (∀ vs g p e ds acc y ρ, kCmD vs g p e ds acc (.ok y ρ) = if acc.length < LIM then compL vs g p e ds (acc ++ [y]) (wipeR ρ vs) else .stuck) ∧
    (∀ ρ, pYes ρ = .ok true ρ) ∧
    (∀ ρ, wipeR ρ [] = ρ) ∧
    (∀ ρ v vs, wipeR ρ (v :: vs) = (wipeR ρ vs).set v .no) ∧
    (∀ ρ, oNone ρ = .ok none ρ) := by
  refine ⟨fun _ _ _ => ?_, fun _ _ _ => rfl, fun _ _ _ _ => rfl, fun _ _ _ => rfl, fun _ _ _ _ _ => rfl, fun _ _ _ => rfl, fun _ _ _ _ => rfl, fun _ _ _ _ => ?_, fun _ _ _ _ => rfl, fun _ _ _ _ => rfl, fun _ _ _ _ _ => rfl, fun _ _ _ _ _ => rfl, fun _ _ _ _ _ _ => rfl, fun _ _ _ _ _ _ => rfl, fun _ _ => rfl, fun _ _ _ _ _ _ => rfl, fun _ _ _ _ _ _ _ _ => ?_, fun _ _ _ _ _ _ _ => rfl, fun _ _ _ _ _ _ _ => rfl, fun _ _ _ _ _ _ _ => rfl, fun _ _ _ _ _ _ _ _ => rfl, fun _ _ _ _ _ _ _ _ => rfl, fun _ => rfl, fun _ => rfl, fun _ _ _ => rfl, fun _ => rfl⟩
  · unfold eApp kApp0 kApp1 kAppA kAppB kAppC; rfl
  · unfold kSub kSubA kSubB kSubC kSubD; rfl
  · conv => lhs; unfold compL
    unfold kCmA kCmB kCmC kCmD; rfl

end Sep

/-! SepN: operations on data; draw. -/
namespace Sep
open PySem L2
theorem eq_int (i j : Int) : gEq (.int i) (.int j) = some (.sh (.bl (i == j))) := rfl
theorem ne_int (i j : Int) : gNe (.int i) (.int j) = some (.sh (.bl (!(i == j)))) := rfl
theorem eq_bl (i j : Bool) : gEq (.bl i) (.bl j) = some (.sh (.bl (i == j))) := rfl
theorem fins_s (fx : FX) (i n : Nat) (s : Slot) (ρ : Sl) : fins fx i (n + 1) (s :: ρ) = (if fx i then s else .no) :: fins fx (i + 1) n ρ := rfl
theorem fins_0 (fx : FX) (i : Nat) (ρ : Sl) : fins fx i 0 ρ = [] := by cases ρ <;> rfl
theorem atI_nn {α : Type} (xs : List α) (i : Int) (h0 : 0 ≤ i) (h1 : i < xs.length) : atI xs i = xs[i.toNat]? := by
  unfold atI ixN; rw [if_pos h0, if_pos h1]; rfl
theorem atI_nat {α : Type} (xs : List α) (i : Nat) (h : i < xs.length) : atI xs (i : Int) = xs[i]? := by
  rw [atI_nn xs i (by omega) (by omega), Int.toNat_natCast]
theorem ev5 :
    (∀ i j, gAdd (.int i) (.int j) = some (.sh (.int (i + j)))) ∧
    (∀ x y, gAdd (.lst x) (.lst y) = if x.length + y.length ≤ LIM then some (.lst (shs (x ++ y))) else none) ∧
    (∀ x y, gAdd (.tup x) (.tup y) = if x.length + y.length ≤ LIM then some (.sh (.tup (x ++ y))) else none) ∧
    (∀ i j, gSubt (.int i) (.int j) = some (.sh (.int (i - j)))) ∧
    (∀ C g i j, gInt C g (.int i) (.int j) = if C i j then some (.sh (.int (g i j))) else none) ∧
    (∀ g i j, gCmp g (.int i) (.int j) = some (.sh (.bl (g i j)))) ∧
    (∀ i j, gEq (.int i) (.int j) = some (.sh (.bl (i == j)))) ∧
    (∀ i j, gNe (.int i) (.int j) = some (.sh (.bl (!(i == j))))) ∧
    (∀ i j, gEq (.bl i) (.bl j) = some (.sh (.bl (i == j)))) ∧
    (∀ ds i, gIx (.lst ds) (.int i) = (atI ds i).map Slot.sh) ∧
    (∀ ds i, gIx (.rol ds) (.int i) = (atI ds i).map Slot.sh) ∧
    (∀ ds i, gIx (.tup ds) (.int i) = (atI ds i).map Slot.sh) ∧
    (∀ i, gNeg (.int i) = some (.sh (.int (-i)))) ∧
    (∀ ds, gLen (.lst ds) = some (.sh (.int (ds.length : Nat)))) ∧
    (∀ ds, gLen (.rol ds) = some (.sh (.int (ds.length : Nat)))) ∧
    (∀ ds, gLen (.tup ds) = some (.sh (.int (ds.length : Nat)))) ∧
    (∀ i, gToInt (.int i) = some (.sh (.int i))) ∧
    (∀ i, gToInt (.bl i) = some (.sh (.int (if i then 1 else 0)))) ∧
    (∀ i, gAbs (.int i) = some (.sh (.int (if i < 0 then -i else i)))) ∧
    (∀ f i j, gM2 f (.int i) (.int j) = some (.sh (.int (f i j)))) ∧
    (∀ ds, gToL (.lst ds) = some (.lst (shs ds))) ∧
    (∀ ds, gToL (.rol ds) = some (.lst (shs ds))) ∧
    (∀ ds, gToL (.tup ds) = some (.lst (shs ds))) ∧
    (∀ ds, gToT (.lst ds) = some (.sh (.tup ds))) ∧
    (∀ ds, gToT (.rol ds) = some (.sh (.tup ds))) ∧
    (∀ ds, gToT (.tup ds) = some (.sh (.tup ds))) ∧
    (∀ b, gTru (.bl b) = some b) ∧
    (∀ b, gTru (.int b) = some (b != 0)) ∧
    (∀ ds, gTru (.lst ds) = some (!ds.isEmpty)) ∧
    (∀ ds, gTru (.tup ds) = some (!ds.isEmpty)) ∧
    (gTru .non = some false) ∧
    (∀ fx i n s ρ, fins fx i (n + 1) (s :: ρ) = (if fx i then s else .no) :: fins fx (i + 1) n ρ) ∧
    (∀ fx i ρ, fins fx i 0 ρ = []) ∧
    (∀ k, gIsN k .non .non = some (.sh (.bl (!k)))) ∧
    (∀ k i, gIsN k (.int i) .non = some (.sh (.bl k))) ∧
    (∀ k i, gIsN k (.bl i) .non = some (.sh (.bl k))) ∧
    (∀ k i, gIsN k (.str i) .non = some (.sh (.bl k))) ∧
    (∀ k i, gIsN k (.tup i) .non = some (.sh (.bl k))) ∧
    (∀ k i, gIsN k (.lst i) .non = some (.sh (.bl k))) ∧
    (∀ k i, gIsN k (.rol i) .non = some (.sh (.bl k))) ∧
    (∀ k c ns i, gIsN k (.obj c ns i) .non = some (.sh (.bl k))) ∧
    (∀ k ks i, gIsN k (.dct ks i) .non = some (.sh (.bl k))) ∧
    (∀ (α β : Type) (f : α → β) (a : α), Option.map f (some a) = some (f a)) ∧
    (∀ (α β : Type) (f : α → Option β) (a : α), Option.bind (some a) f = f a) ∧
    (∀ (α : Type) (a : α) l, (a :: l)[0]? = some a) ∧
    (∀ (α : Type) (a : α) l i, (a :: l)[i+1]? = l[i]?) ∧
    (∀ (α : Type) (a b : α) l, (a :: l).set 0 b = b :: l) ∧
    (∀ (α : Type) (a b : α) l i, (a :: l).set (i+1) b = a :: l.set i b) ∧
    (∀ (α : Type) (l : List α), [] ++ l = l) ∧
    (∀ (α : Type) (a : α) (l m : List α), (a :: l) ++ m = a :: (l ++ m)) ∧
    (∀ (α : Type) (a : α), List.replicate 0 a = []) ∧
    (∀ (α : Type) (a : α) n, List.replicate (n+1) a = a :: List.replicate n a) ∧
    (∀ (α : Type), ([] : List α).length = 0) ∧
    (∀ (α : Type) (a : α) l, (a :: l).length = l.length + 1) ∧
    (∀ (α β : Type) (f : α → β), List.map f [] = []) ∧
    (∀ (α β : Type) (f : α → β) a l, List.map f (a :: l) = f a :: List.map f l) :=
  ⟨fun _ _ => rfl, fun _ _ => rfl, fun _ _ => rfl, fun _ _ => rfl, fun _ _ _ _ => rfl, fun _ _ _ => rfl, eq_int, ne_int, eq_bl, fun _ _ => rfl, fun _ _ => rfl, fun _ _ => rfl, fun _ => rfl, fun _ => rfl, fun _ => rfl, fun _ => rfl, fun _ => rfl, fun _ => rfl, fun _ => rfl, fun _ _ _ => rfl, fun _ => rfl, fun _ => rfl, fun _ => rfl, fun _ => rfl, fun _ => rfl, fun _ => rfl, fun _ => rfl, fun _ => rfl, fun _ => rfl, fun _ => rfl, rfl, fins_s, fins_0, fun _ => rfl, fun _ _ => rfl, fun _ _ => rfl, fun _ _ => rfl, fun _ _ => rfl, fun _ _ => rfl, fun _ _ => rfl, fun _ _ _ _ => rfl, fun _ _ _ => rfl,
   fun _ _ _ _ => rfl, fun _ _ _ _ => rfl, fun _ _ _ => rfl, fun _ _ _ _ => rfl, fun _ _ _ _ => rfl, fun _ _ _ _ _ => rfl, fun _ _ => rfl, fun _ _ _ _ => rfl, fun _ _ => rfl, fun _ _ _ => rfl, fun _ => rfl, fun _ _ _ => rfl, fun _ _ _ => rfl, fun _ _ _ _ _ => rfl⟩
theorem ixN_lit {n : Nat} (i : Nat) (h : i < n) : ixN n (i : Int) = some i := by
  unfold ixN; rw [if_pos (by omega), if_pos (by omega), Int.toNat_natCast]
theorem atI_lit {α : Type} {xs : List α} {a : α} (i : Nat) (h : i < xs.length) (e : xs[i]? = some a) : atI xs (i : Int) = some a := by
  rw [atI_nat xs i h, e]
theorem ev6 :
    (∀ (α : Type) (a0 : α) l, atI (a0 :: l) 0 = some a0) ∧
    (∀ (α : Type) (a0 a1 : α) l, atI (a0 :: a1 :: l) 1 = some a1) ∧
    (∀ (α : Type) (a0 a1 a2 : α) l, atI (a0 :: a1 :: a2 :: l) 2 = some a2) ∧
    (∀ (α : Type) (a0 a1 a2 a3 : α) l, atI (a0 :: a1 :: a2 :: a3 :: l) 3 = some a3) ∧
    (∀ (α : Type) (a0 a1 a2 a3 a4 : α) l, atI (a0 :: a1 :: a2 :: a3 :: a4 :: l) 4 = some a4) ∧
    (∀ (α : Type) (a0 a1 a2 a3 a4 a5 : α) l, atI (a0 :: a1 :: a2 :: a3 :: a4 :: a5 :: l) 5 = some a5) ∧
    (∀ (α : Type) (a0 a1 a2 a3 a4 a5 a6 : α) l, atI (a0 :: a1 :: a2 :: a3 :: a4 :: a5 :: a6 :: l) 6 = some a6) ∧
    (∀ (α : Type) (a0 a1 a2 a3 a4 a5 a6 a7 : α) l, atI (a0 :: a1 :: a2 :: a3 :: a4 :: a5 :: a6 :: a7 :: l) 7 = some a7) ∧
    (∀ (α : Type) (a0 a1 a2 a3 a4 a5 a6 a7 a8 : α) l, atI (a0 :: a1 :: a2 :: a3 :: a4 :: a5 :: a6 :: a7 :: a8 :: l) 8 = some a8) ∧
    (∀ (α : Type) (a0 a1 a2 a3 a4 a5 a6 a7 a8 a9 : α) l, atI (a0 :: a1 :: a2 :: a3 :: a4 :: a5 :: a6 :: a7 :: a8 :: a9 :: l) 9 = some a9) ∧
    (∀ n, ixN (n + 1) 0 = some 0) ∧
    (∀ n, ixN (n + 2) 1 = some 1) ∧
    (∀ n, ixN (n + 3) 2 = some 2) ∧
    (∀ n, ixN (n + 4) 3 = some 3) ∧
    (∀ n, ixN (n + 5) 4 = some 4) ∧
    (∀ n, ixN (n + 6) 5 = some 5) ∧
    (∀ n, ixN (n + 7) 6 = some 6) ∧
    (∀ n, ixN (n + 8) 7 = some 7) ∧
    (∀ n, ixN (n + 9) 8 = some 8) ∧
    (∀ n, ixN (n + 10) 9 = some 9) :=
  ⟨fun _ _ l => atI_lit 0 (by simp) rfl, fun _ _ _ l => atI_lit 1 (by simp) rfl, fun _ _ _ _ l => atI_lit 2 (by simp) rfl, fun _ _ _ _ _ l => atI_lit 3 (by simp) rfl, fun _ _ _ _ _ _ l => atI_lit 4 (by simp) rfl, fun _ _ _ _ _ _ _ l => atI_lit 5 (by simp) rfl, fun _ _ _ _ _ _ _ _ l => atI_lit 6 (by simp) rfl, fun _ _ _ _ _ _ _ _ _ l => atI_lit 7 (by simp) rfl, fun _ _ _ _ _ _ _ _ _ _ l => atI_lit 8 (by simp) rfl, fun _ _ _ _ _ _ _ _ _ _ _ l => atI_lit 9 (by simp) rfl, fun n => ixN_lit 0 (by omega), fun n => ixN_lit 1 (by omega), fun n => ixN_lit 2 (by omega), fun n => ixN_lit 3 (by omega), fun n => ixN_lit 4 (by omega), fun n => ixN_lit 5 (by omega), fun n => ixN_lit 6 (by omega), fun n => ixN_lit 7 (by omega), fun n => ixN_lit 8 (by omega), fun n => ixN_lit 9 (by omega)⟩
end Sep
namespace Lw
open PySem L2 Sep
def fx__law_box : FX := fun i => match i with | 0 => true | _ => false
def F__law_box : FnD := fnOf 1 1 fx__law_box (sRetM (eLst (aCons (eCB (g1 gToL) (aCons (eVar 0) aNil)) (aCons (eC (.int 0)) (aCons (eC (.int 0)) (aCons (eC (.int 0)) (aCons (eC (.int 0)) aNil)))))))
def fx__law_draw : FX := fun i => match i with | 0 => true | 1 => true | _ => false
def draw_b : SEv := (sSeq (sAsg (kSub (eVar 0) (eC (.int 3))) (eOp gSubt (eOp gIx (eVar 0) (eC (.int 3))) (eC (.int 1))))
  (sSeq (sIf (tOfE (eOp gEq (eOp gIx (eVar 0) (eC (.int 4))) (eC (.int 1))))
  (sSeq (sSetF 3 (eOp gMod (eCB (g1 gToInt) (aCons (eOp gIx (eVar 0) (eC (.int 2))) aNil)) (eVar 1)))
  (sSeq (sAsg (kSub (eVar 0) (eC (.int 2))) (eOp gDiv (eCB (g1 gToInt) (aCons (eOp gIx (eVar 0) (eC (.int 2))) aNil)) (eVar 1)))
  (sSeq (sIf (tOfE (eOp gEq (eOp gIx (eVar 0) (eC (.int 2))) (eC (.int 0))))
  (sAsg (kSub (eVar 0) (eC (.int 3))) (eC (.int 0)))
  sNil)
  (sRetM (eVar 3)))))
  sNil)
  (sSeq (sSetF 2 (eOp gMod (eCB (g1 gToInt) (aCons (eOp gAdd (eOp gAdd (eOp gMul (eCB (g1 gToInt) (aCons (eOp gIx (eVar 0) (eC (.int 2))) aNil)) (eC (.int 48271))) (eOp gMul (eOp gIx (eVar 0) (eC (.int 3))) (eC (.int 69621)))) (eC (.int 13))) aNil)) (eC (.int 2147483647))))
  (sSeq (sSetF 2 (eOp gMod (eCB (g1 gToInt) (aCons (eOp gAdd (eOp gAdd (eOp gMul (eVar 2) (eC (.int 16807))) (eOp gMul (eOp gIx (eVar 0) (eC (.int 3))) (eC (.int 40692)))) (eC (.int 7))) aNil)) (eC (.int 2147483629))))
  (sRetM (eOp gMod (eCB (g1 gToInt) (aCons (eVar 2) aNil)) (eVar 1)))))))
def draw_a : SEv := (sIf (tOfE (eOp gEq (eOp gIx (eVar 0) (eC (.int 3))) (eC (.int 0))))
  (sSeq (sIf (tOfE (eOp gGe (eOp gIx (eVar 0) (eC (.int 1))) (eCB (g1 gLen) (aCons (eOp gIx (eVar 0) (eC (.int 0))) aNil))))
  (sRetM (eC (.int 0)))
  sNil)
  (sSeq (sAsg (kSub (eVar 0) (eC (.int 2))) (eCB (g1 gAbs) (aCons (eCB (g1 gToInt) (aCons (eOp gIx (eOp gIx (eVar 0) (eC (.int 0))) (eOp gIx (eVar 0) (eC (.int 1)))) aNil)) aNil)))
  (sSeq (sAsg (kSub (eVar 0) (eC (.int 1))) (eOp gAdd (eOp gIx (eVar 0) (eC (.int 1))) (eC (.int 1))))
  (sSeq (sAsg (kSub (eVar 0) (eC (.int 4))) (eCB (g1 gToInt) (aCons (eOp gGe (eOp gIx (eVar 0) (eC (.int 2))) (eOp gPow (eC (.int 10)) (eC (.int 18)))) aNil)))
  (sAsg (kSub (eVar 0) (eC (.int 3))) (eOp gAdd (eC (.int 12)) (eOp gMul (eC (.int 48)) (eOp gIx (eVar 0) (eC (.int 4))))))))))
  sNil)
def F__law_draw : FnD := fnOf 4 2 fx__law_draw (sSeq draw_a draw_b)
def Bx (ns : List Int) (p v n w : Int) : Slot := .lst [.sh (.lst (ns.map D.int)), .sh (.int p), .sh (.int v), .sh (.int n), .sh (.int w)]
theorem box_ok (ns : List Int) : F__law_box [.sh (.rol (ns.map D.int))] = .ok (Bx ns 0 0 0 0) [.sh (.rol (ns.map D.int))] := by
  unfold F__law_box
  simp only [ev1, ev2, ev3, ev4, ev5, ev6, LIM, ↓reduceIte, Nat.reduceAdd, Nat.reduceSub, Nat.reduceLeDiff, Nat.reduceLT, Nat.reduceEqDiff, Int.reduceEq, Int.reduceLT, Int.reduceLE, Int.reduceNeg, Int.reduceBEq, decide_true, decide_false, Bool.not_true, Bool.not_false, Option.getD_some, eq_self, Bool.false_eq_true]
  simp [fx__law_box, Bx, shs]
theorem log2_lt {a k : Nat} (h : a < 2 ^ k) (hk : 0 < k) : a.log2 < k := by
  by_cases e : a = 0
  · subst e; simpa using hk
  · exact (Nat.log2_lt e).mpr h
structure Bok (p v n w : Int) : Prop where
  p0 : 0 ≤ p
  v0 : 0 ≤ v
  n0 : 0 ≤ n
  n1 : n ≤ 60
  w1 : w = 1 ∨ w = 0 ∧ v < 10 ^ 18
theorem draw_b1 {ns : List Int} {p v n size : Int} (h : Bok p v n 1) (hs : 0 < size) (hl : size.natAbs.log2 < 9000) (hn : 1 ≤ n) : ∃ z v' n' m d, draw_b [Bx ns p v n 1, .sh (.int size), .no, .no] = .ok (.ret (.sh (.int z))) [Bx ns p v' n' 1, .sh (.int size), m, d] ∧ 0 ≤ z ∧ z < size ∧ Bok p v' n' 1 := by
  have hv : 0 ≤ v / size := Int.ediv_nonneg h.v0 (by omega)
  by_cases q : v / size = 0
  · refine ⟨v % size, v / size, 0, .no, .sh (.int (v % size)), ?_, Int.emod_nonneg _ (by omega), Int.emod_lt_of_pos _ hs, ⟨h.p0, hv, by omega, by omega, .inl rfl⟩⟩
    unfold draw_b Bx
    simp only [ev1, ev2, ev3, ev4, ev5, ev6, LIM, ↓reduceIte, Nat.reduceAdd, Nat.reduceSub, Nat.reduceLeDiff, Nat.reduceLT, Nat.reduceEqDiff, Int.reduceEq, Int.reduceLT, Int.reduceLE, Int.reduceNeg, Int.reduceBEq, decide_true, decide_false, Bool.not_true, Bool.not_false, Option.getD_some, eq_self, Bool.false_eq_true, shs, cMod, cDiv, hs, hl, true_and, beq_self_eq_true, q]
  · refine ⟨v % size, v / size, n - 1, .no, .sh (.int (v % size)), ?_, Int.emod_nonneg _ (by omega), Int.emod_lt_of_pos _ hs, ⟨h.p0, hv, by omega, by have := h.n1; omega, .inl rfl⟩⟩
    unfold draw_b Bx
    have q' : (v / size == 0) = false := by simpa using q
    simp only [ev1, ev2, ev3, ev4, ev5, ev6, LIM, ↓reduceIte, Nat.reduceAdd, Nat.reduceSub, Nat.reduceLeDiff, Nat.reduceLT, Nat.reduceEqDiff, Int.reduceEq, Int.reduceLT, Int.reduceLE, Int.reduceNeg, Int.reduceBEq, decide_true, decide_false, Bool.not_true, Bool.not_false, Option.getD_some, eq_self, Bool.false_eq_true, shs, cMod, cDiv, hs, hl, true_and, beq_self_eq_true, q']
theorem draw_b0 {ns : List Int} {p v n size : Int} (h : Bok p v n 0) (hs : 0 < size) (hl : size.natAbs.log2 < 9000) (hn : 1 ≤ n) : ∃ z v' n' m d, draw_b [Bx ns p v n 0, .sh (.int size), .no, .no] = .ok (.ret (.sh (.int z))) [Bx ns p v' n' 0, .sh (.int size), m, d] ∧ 0 ≤ z ∧ z < size ∧ Bok p v' n' 0 := by
  have hv : v < 10 ^ 18 := by rcases h.w1 with h | h; (cases h); exact h.2
  have h0 := h.v0
  have hn1 := h.n1
  have g : ∀ (a : Int) (b : Nat), 0 ≤ a → a < 2 ^ 64 → b < 2 ^ 64 → a.natAbs.log2 + b.log2 < 1000000 := fun a b h1 h2 h3 => by
    have e1 : a.natAbs.log2 < 64 := log2_lt (by omega) (by decide)
    have e2 : b.log2 < 64 := log2_lt h3 (by decide)
    omega
  have c1 : v.natAbs.log2 + (48271 : Int).natAbs.log2 < 1000000 := g v 48271 h0 (by omega) (by decide)
  have c2 : (n - 1).natAbs.log2 + (69621 : Int).natAbs.log2 < 1000000 := g (n - 1) 69621 (by omega) (by omega) (by decide)
  have c3 : (n - 1).natAbs.log2 + (40692 : Int).natAbs.log2 < 1000000 := g (n - 1) 40692 (by omega) (by omega) (by decide)
  generalize e1 : (v * 48271 + (n - 1) * 69621 + 13) % 2147483647 = m1
  have m0 : 0 ≤ m1 ∧ m1 < 2147483647 := by omega
  have c4 : m1.natAbs.log2 + (16807 : Int).natAbs.log2 < 1000000 := g m1 16807 (by omega) (by omega) (by decide)
  generalize e2 : (m1 * 16807 + (n - 1) * 40692 + 7) % 2147483629 = m2
  refine ⟨m2 % size, v, n - 1, .sh (.int m2), .no, ?_, Int.emod_nonneg _ (by omega), Int.emod_lt_of_pos _ hs, ⟨h.p0, h0, by omega, by omega, h.w1⟩⟩
  unfold draw_b Bx
  simp only [ev1, ev2, ev3, ev4, ev5, ev6, LIM, ↓reduceIte, Nat.reduceAdd, Nat.reduceSub, Nat.reduceLeDiff, Nat.reduceLT, Nat.reduceEqDiff, Int.reduceEq, Int.reduceLT, Int.reduceLE, Int.reduceNeg, Int.reduceBEq, decide_true, decide_false, Bool.not_true, Bool.not_false, Option.getD_some, eq_self, Bool.false_eq_true, shs, cMod, cDiv, cMul, hs, hl, true_and, c1, c2, c3, c4, e1, e2]
theorem draw_b2 {ns : List Int} {p v n w size : Int} (h : Bok p v n w) (hs : 0 < size) (hl : size.natAbs.log2 < 9000) (hn : 1 ≤ n) : ∃ z v' n' m d, draw_b [Bx ns p v n w, .sh (.int size), .no, .no] = .ok (.ret (.sh (.int z))) [Bx ns p v' n' w, .sh (.int size), m, d] ∧ 0 ≤ z ∧ z < size ∧ Bok p v' n' w := by
  rcases h.w1 with e | ⟨e, _⟩
  · subst e; exact draw_b1 h hs hl hn
  · subst e; exact draw_b0 h hs hl hn
/-- a draw: a number below its size, and the box stays sound -/
theorem draw_ok {ns : List Int} {p v n w size : Int} (h : Bok p v n w) (hs : 0 < size) (hl : size.natAbs.log2 < 9000) : ∃ z p' v' n' w', F__law_draw [Bx ns p v n w, .sh (.int size)] = .ok (.sh (.int z)) [Bx ns p' v' n' w', .sh (.int size)] ∧ 0 ≤ z ∧ z < size ∧ Bok p' v' n' w' := by
  unfold F__law_draw
  by_cases q : n = 0
  · subst q
    by_cases c : (ns.length : Int) ≤ p
    · refine ⟨0, p, v, 0, w, ?_, by omega, hs, h⟩
      unfold draw_a Bx
      simp only [ev1, ev2, ev3, ev4, ev5, ev6, LIM, ↓reduceIte, Nat.reduceAdd, Nat.reduceSub, Nat.reduceLeDiff, Nat.reduceLT, Nat.reduceEqDiff, Int.reduceEq, Int.reduceLT, Int.reduceLE, Int.reduceNeg, Int.reduceBEq, decide_true, decide_false, Bool.not_true, Bool.not_false, Option.getD_some, eq_self, Bool.false_eq_true, shs, c, List.length_map, fx__law_draw]
    · have hp := h.p0
      obtain ⟨x, hx⟩ : ∃ x, ns[p.toNat]? = some x := ⟨ns[p.toNat]'(by omega), List.getElem?_eq_getElem (by omega)⟩
      have ha : atI (ns.map D.int) p = some (.int x) := by
        rw [atI_nn _ _ hp (by rw [List.length_map]; omega), List.getElem?_map, hx]; rfl
      generalize ev : (if x < 0 then -x else x) = v1
      have hv1 : 0 ≤ v1 := by subst ev; split <;> omega
      have hb : ∃ w1 : Int, (if decide ((10 : Int) ^ 18 ≤ v1) then (1 : Int) else 0) = w1 ∧ Bok (p + 1) v1 (12 + 48 * w1) w1 := by
        by_cases z : (10 : Int) ^ 18 ≤ v1
        · exact ⟨1, by rw [if_pos (by simpa using z)], ⟨by omega, hv1, by omega, by omega, .inl rfl⟩⟩
        · exact ⟨0, by rw [if_neg (by simpa using z)], ⟨by omega, hv1, by omega, by omega, .inr ⟨rfl, by omega⟩⟩⟩
      obtain ⟨w1, ew, hb⟩ := hb
      have hw : 0 ≤ w1 ∧ w1 ≤ 1 := by rcases hb.w1 with e | ⟨e, _⟩ <;> subst e <;> decide
      have cm : (48 : Int).natAbs.log2 + w1.natAbs.log2 < 1000000 := by
        have e1 : w1.natAbs.log2 < 64 := log2_lt (by omega) (by decide)
        have e2 : (48 : Int).natAbs.log2 < 64 := by decide
        omega
      obtain ⟨z, v', n', m, d, e, z0, z1, hb'⟩ := draw_b2 (ns := ns) (size := size) hb hs hl (by omega)
      refine ⟨z, p + 1, v', n', w1, ?_, z0, z1, hb'⟩
      have cp : cPow 10 18 = true := by decide +kernel
      have tn : (18 : Int).toNat = 18 := rfl
      have st : draw_a [Bx ns p v 0 w, .sh (.int size), .no, .no] = .ok .nx [Bx ns (p + 1) v1 (12 + 48 * w1) w1, .sh (.int size), .no, .no] := by
        unfold draw_a Bx
        simp only [ev1, ev2, ev3, ev4, ev5, ev6, LIM, ↓reduceIte, Nat.reduceAdd, Nat.reduceSub, Nat.reduceLeDiff, Nat.reduceLT, Nat.reduceEqDiff, Int.reduceEq, Int.reduceLT, Int.reduceLE, Int.reduceNeg, Int.reduceBEq, decide_true, decide_false, Bool.not_true, Bool.not_false, Option.getD_some, eq_self, Bool.false_eq_true, shs, c, List.length_map, ha, ev, cp, tn, ew, cMul, cm, beq_self_eq_true]
      simp only [ev1, ev2, ev3, ev4, ev5, ev6, LIM, ↓reduceIte, Nat.reduceAdd, Nat.reduceSub, Nat.reduceLeDiff, Nat.reduceLT, Nat.reduceEqDiff, Int.reduceEq, Int.reduceLT, Int.reduceLE, Int.reduceNeg, Int.reduceBEq, decide_true, decide_false, Bool.not_true, Bool.not_false, Option.getD_some, eq_self, Bool.false_eq_true, st, e, fx__law_draw]
  · have hn := h.n0
    obtain ⟨z, v', n', m, d, e, z0, z1, hb'⟩ := draw_b2 (ns := ns) (size := size) h hs hl (by omega)
    refine ⟨z, p, v', n', w, ?_, z0, z1, hb'⟩
    have q' : (n == 0) = false := by simpa using q
    have st : draw_a [Bx ns p v n w, .sh (.int size), .no, .no] = .ok .nx [Bx ns p v n w, .sh (.int size), .no, .no] := by
      unfold draw_a Bx
      simp only [ev1, ev2, ev3, ev4, ev5, ev6, LIM, ↓reduceIte, Nat.reduceAdd, Nat.reduceSub, Nat.reduceLeDiff, Nat.reduceLT, Nat.reduceEqDiff, Int.reduceEq, Int.reduceLT, Int.reduceLE, Int.reduceNeg, Int.reduceBEq, decide_true, decide_false, Bool.not_true, Bool.not_false, Option.getD_some, eq_self, Bool.false_eq_true, q']
    simp only [ev1, ev2, ev3, ev4, ev5, ev6, LIM, ↓reduceIte, Nat.reduceAdd, Nat.reduceSub, Nat.reduceLeDiff, Nat.reduceLT, Nat.reduceEqDiff, Int.reduceEq, Int.reduceLT, Int.reduceLE, Int.reduceNeg, Int.reduceBEq, decide_true, decide_false, Bool.not_true, Bool.not_false, Option.getD_some, eq_self, Bool.false_eq_true, st, e, fx__law_draw]
end Lw

/-! SepO: the compare of a law. -/
namespace Sep
open PySem L2
/-- data that equality knows, no deeper than n -/
def plainN : Nat → D → Bool
  | _, .non => true
  | _, .bl _ => true
  | _, .int _ => true
  | _, .str s => PyData.canLay0 (.str s)
  | n + 1, .tup ds => decide (ds.length < 2 ^ 62) && ds.all (plainN n)
  | n + 1, .lst ds => decide (ds.length < 2 ^ 62) && ds.all (plainN n)
  | _, _ => false
theorem isI_eqs : (∀ T, gIsi T .non = some (.sh (.bl false))) ∧ (∀ T b, gIsi T (.bl b) = some (.sh (.bl (decide (T = "bool") || decide (T = "int"))))) ∧ (∀ T i, gIsi T (.int i) = some (.sh (.bl (decide (T = "int"))))) ∧ (∀ T i, gIsi T (.str i) = some (.sh (.bl (decide (T = "str"))))) ∧ (∀ T i, gIsi T (.tup i) = some (.sh (.bl (decide (T = "tuple"))))) ∧ (∀ T i, gIsi T (.lst i) = some (.sh (.bl (decide (T = "list"))))) ∧ (∀ T i, gIsi T (.rol i) = some (.sh (.bl (decide (T = "list"))))) ∧ (∀ T ks i, gIsi T (.dct ks i) = some (.sh (.bl (decide (T = "dict"))))) ∧
    ("bool" = "int") = False ∧ ("bool" = "str") = False ∧ ("bool" = "tuple") = False ∧ ("bool" = "list") = False ∧ ("int" = "bool") = False ∧ ("int" = "str") = False ∧ ("int" = "tuple") = False ∧ ("int" = "list") = False ∧ ("tuple" = "bool") = False ∧ ("tuple" = "int") = False ∧ ("tuple" = "str") = False ∧ ("tuple" = "list") = False ∧ ("list" = "bool") = False ∧ ("list" = "int") = False ∧ ("list" = "str") = False ∧ ("list" = "tuple") = False ∧ ("str" = "bool") = False ∧ ("str" = "int") = False ∧ ("str" = "tuple") = False ∧ ("str" = "list") = False := by
  refine ⟨fun _ => rfl, fun _ _ => rfl, fun _ _ => rfl, fun _ _ => rfl, fun _ _ => rfl, fun _ _ => rfl, fun _ _ => rfl, fun _ _ _ => rfl, ?_⟩
  simp
theorem eq_str {x : Str} (h : PyData.canLay0 (.str x) = true) (y : Str) (h2 : PyData.canLay0 (.str y) = true) : gEq (.str x) (.str y) = some (.sh (.bl (x == y))) := by
  unfold gEq
  simp only [D.py, SeqAt.shaped, h, h2, PyData.depth, Bool.true_and, PyData.eqv]
  rfl
theorem rng_get {d : D} {n i : Nat} {lo : Int} (h : (rngD lo n)[i]? = some d) : d = .int (lo + i) := by
  unfold rngD at h
  rw [List.getElem?_map] at h
  by_cases q : i < n
  · rw [List.getElem?_range q] at h
    exact (Option.some.inj h).symm
  · rw [List.getElem?_eq_none (by rw [List.length_range]; omega)] at h
    cases h
theorem rngD_nat (m n : Nat) : rngD (m : Int) n = (List.range' m n).map fun (i : Nat) => D.int i := by
  unfold rngD
  rw [List.range'_eq_map_range, List.map_map]
  refine List.map_congr_left fun i _ => ?_
  show D.int _ = D.int _
  congr 1
end Sep
namespace LwA
open PySem L2 Sep
def fx__law_same : FX := fun i => match i with | 0 => true | 1 => true | _ => false
def F__law_same : Nat → FnD
  | 0 => fun _ => .stuck
  | n + 1 => fnOf 3 2 fx__law_same (sSeq (sIf (tOfE (eOp (gIsN false) (eVar 1) (eC .non)))
  (sRetM (eOp (gIsN false) (eVar 0) (eC .non)))
  sNil)
  (sSeq (sIf (eTru (eUn (gIsi "bool") (eVar 1)))
  (sRetM (eAndV (eUn (gIsi "bool") (eVar 0)) (eOp gEq (eVar 0) (eVar 1))))
  sNil)
  (sSeq (sIf (eTru (eUn (gIsi "int") (eVar 1)))
  (sRetM (eAndV (eUn (gIsi "int") (eVar 0)) (eAndV (eNotV (eUn (gIsi "bool") (eVar 0))) (eOp gEq (eVar 0) (eVar 1)))))
  sNil)
  (sSeq (sIf (eTru (eUn (gIsi "str") (eVar 1)))
  (sRetM (eAndV (eUn (gIsi "str") (eVar 0)) (eOp gEq (eVar 0) (eVar 1))))
  sNil)
  (sSeq (sIf (eAnd (eTru (eUn (gIsi "tuple") (eVar 1))) (eNot (eTru (eUn (gIsi "tuple") (eVar 0)))))
  (sRetM (eC (.bl false)))
  sNil)
  (sSeq (sIf (eOr (eAnd (eTru (eUn (gIsi "list") (eVar 1))) (eNot (eTru (eUn (gIsi "list") (eVar 0))))) (tOfE (eOp gNe (eCB (g1 gLen) (aCons (eVar 0) aNil)) (eCB (g1 gLen) (aCons (eVar 1) aNil)))))
  (sRetM (eC (.bl false)))
  sNil)
  (sSeq (sFor (iRange1 (eCB (g1 gLen) (aCons (eVar 1) aNil))) (kName 2)
  (sIf (eNot (eTru (eCallF 2 (F__law_same n) (aCons (eOp gIx (eVar 0) (eVar 2)) (aCons (eOp gIx (eVar 1) (eVar 2)) aNil)))))
  (sRetM (eC (.bl false)))
  sNil))
  (sRetM (eC (.bl true))))))))))

abbrev bodyS (F : FnD) : SEv := sIf (eNot (eTru (eCallF 2 F (aCons (eOp gIx (eVar 0) (eVar 2)) (aCons (eOp gIx (eVar 1) (eVar 2)) aNil))))) (sRetM (eC (D.bl false))) sNil
theorem loopS {F : FnD} {a : D} {ds : List D} (hix : ∀ (i : Nat) d, ds[i]? = some d → gIx a (.int i) = some (.sh d)) (hF : ∀ d ∈ ds, ∃ fs, F [.sh d, .sh d] = .ok (.sh (.bl true)) fs) : ∀ (m i : Nat) (s : Slot), i + m = ds.length → ∃ s', forL (kName 2) (bodyS F) ((List.range' i m).map fun (i : Nat) => D.int i) [.sh a, .sh a, s] = .ok .nx [.sh a, .sh a, s']
  | 0, i, s, h => ⟨s, rfl⟩
  | m + 1, i, s, h => by
    obtain ⟨d, hd⟩ : ∃ d, ds[i]? = some d := ⟨ds[i]'(by omega), List.getElem?_eq_getElem (by omega)⟩
    obtain ⟨fs, hf⟩ := hF d (List.mem_of_getElem? hd)
    obtain ⟨s', h'⟩ := loopS hix hF m (i + 1) (.sh (.int i)) (by omega)
    refine ⟨s', ?_⟩
    rw [List.range'_succ, List.map_cons]
    simp only [ev1, ev2, ev3, ev4, ev5, ev6, LIM, ↓reduceIte, Nat.reduceAdd, Nat.reduceSub, Nat.reduceLeDiff, Nat.reduceLT, Nat.reduceEqDiff, Int.reduceEq, Int.reduceLT, Int.reduceLE, Int.reduceNeg, Int.reduceBEq, decide_true, decide_false, Bool.not_true, Bool.not_false, Option.getD_some, eq_self, Bool.false_eq_true, hix i d hd, shs, hf]
    exact h'
theorem ix_tup {ds : List D} (i : Nat) (d : D) (h : ds[i]? = some d) : gIx (.tup ds) (.int i) = some (.sh d) := by
  have hi := (List.getElem?_eq_some_iff.mp h).1
  show (atI ds (i : Int)).map Slot.sh = _
  rw [atI_nat ds i hi, h]; rfl
theorem ix_lst {ds : List D} (i : Nat) (d : D) (h : ds[i]? = some d) : gIx (.lst ds) (.int i) = some (.sh d) := ix_tup i d h
theorem ix_rol {ds : List D} (i : Nat) (d : D) (h : ds[i]? = some d) : gIx (.rol ds) (.int i) = some (.sh d) := ix_tup i d h
theorem same_ok : ∀ n d, plainN n d = true → F__law_same (n + 1) [.sh d, .sh d] = .ok (.sh (.bl true)) [.sh d, .sh d] := by
  intro n
  induction n with
  | zero =>
    intro d h
    cases d with
    | non => unfold F__law_same; simp only [ev1, ev2, ev3, ev4, ev5, ev6, LIM, ↓reduceIte, Nat.reduceAdd, Nat.reduceSub, Nat.reduceLeDiff, Nat.reduceLT, Nat.reduceEqDiff, Int.reduceEq, Int.reduceLT, Int.reduceLE, Int.reduceNeg, Int.reduceBEq, decide_true, decide_false, Bool.not_true, Bool.not_false, Option.getD_some, eq_self, Bool.false_eq_true, isI_eqs, fx__law_same]
    | bl b => unfold F__law_same; simp only [ev1, ev2, ev3, ev4, ev5, ev6, LIM, ↓reduceIte, Nat.reduceAdd, Nat.reduceSub, Nat.reduceLeDiff, Nat.reduceLT, Nat.reduceEqDiff, Int.reduceEq, Int.reduceLT, Int.reduceLE, Int.reduceNeg, Int.reduceBEq, decide_true, decide_false, Bool.not_true, Bool.not_false, Option.getD_some, eq_self, Bool.false_eq_true, isI_eqs, fx__law_same, beq_self_eq_true, Bool.or_false]
    | int i => unfold F__law_same; simp only [ev1, ev2, ev3, ev4, ev5, ev6, LIM, ↓reduceIte, Nat.reduceAdd, Nat.reduceSub, Nat.reduceLeDiff, Nat.reduceLT, Nat.reduceEqDiff, Int.reduceEq, Int.reduceLT, Int.reduceLE, Int.reduceNeg, Int.reduceBEq, decide_true, decide_false, Bool.not_true, Bool.not_false, Option.getD_some, eq_self, Bool.false_eq_true, isI_eqs, fx__law_same, beq_self_eq_true, Bool.or_false]
    | str s =>
      have e : gEq (.str s) (.str s) = some (.sh (.bl true)) := by
        rw [eq_str h s h]; simp
      unfold F__law_same; simp only [ev1, ev2, ev3, ev4, ev5, ev6, LIM, ↓reduceIte, Nat.reduceAdd, Nat.reduceSub, Nat.reduceLeDiff, Nat.reduceLT, Nat.reduceEqDiff, Int.reduceEq, Int.reduceLT, Int.reduceLE, Int.reduceNeg, Int.reduceBEq, decide_true, decide_false, Bool.not_true, Bool.not_false, Option.getD_some, eq_self, Bool.false_eq_true, isI_eqs, fx__law_same, beq_self_eq_true, Bool.or_false, e]
    | _ => cases h
  | succ n ih =>
    intro d h
    cases d with
    | non => unfold F__law_same; simp only [ev1, ev2, ev3, ev4, ev5, ev6, LIM, ↓reduceIte, Nat.reduceAdd, Nat.reduceSub, Nat.reduceLeDiff, Nat.reduceLT, Nat.reduceEqDiff, Int.reduceEq, Int.reduceLT, Int.reduceLE, Int.reduceNeg, Int.reduceBEq, decide_true, decide_false, Bool.not_true, Bool.not_false, Option.getD_some, eq_self, Bool.false_eq_true, isI_eqs, fx__law_same]
    | bl b => unfold F__law_same; simp only [ev1, ev2, ev3, ev4, ev5, ev6, LIM, ↓reduceIte, Nat.reduceAdd, Nat.reduceSub, Nat.reduceLeDiff, Nat.reduceLT, Nat.reduceEqDiff, Int.reduceEq, Int.reduceLT, Int.reduceLE, Int.reduceNeg, Int.reduceBEq, decide_true, decide_false, Bool.not_true, Bool.not_false, Option.getD_some, eq_self, Bool.false_eq_true, isI_eqs, fx__law_same, beq_self_eq_true, Bool.or_false]
    | int i => unfold F__law_same; simp only [ev1, ev2, ev3, ev4, ev5, ev6, LIM, ↓reduceIte, Nat.reduceAdd, Nat.reduceSub, Nat.reduceLeDiff, Nat.reduceLT, Nat.reduceEqDiff, Int.reduceEq, Int.reduceLT, Int.reduceLE, Int.reduceNeg, Int.reduceBEq, decide_true, decide_false, Bool.not_true, Bool.not_false, Option.getD_some, eq_self, Bool.false_eq_true, isI_eqs, fx__law_same, beq_self_eq_true, Bool.or_false]
    | str s =>
      have e : gEq (.str s) (.str s) = some (.sh (.bl true)) := by
        rw [eq_str h s h]; simp
      unfold F__law_same; simp only [ev1, ev2, ev3, ev4, ev5, ev6, LIM, ↓reduceIte, Nat.reduceAdd, Nat.reduceSub, Nat.reduceLeDiff, Nat.reduceLT, Nat.reduceEqDiff, Int.reduceEq, Int.reduceLT, Int.reduceLE, Int.reduceNeg, Int.reduceBEq, decide_true, decide_false, Bool.not_true, Bool.not_false, Option.getD_some, eq_self, Bool.false_eq_true, isI_eqs, fx__law_same, beq_self_eq_true, Bool.or_false, e]
    | tup ds =>
      unfold plainN at h
      obtain ⟨hl, hp⟩ := Bool.and_eq_true_iff.mp h
      have hl := of_decide_eq_true hl
      have hl2 : (ds.length : Int) < 2 ^ 62 ∧ -(2 ^ 62) ≤ (ds.length : Int) := by omega
      obtain ⟨s', e⟩ := loopS (F := F__law_same (n + 1)) (a := .tup ds) ix_tup (fun d hd => ⟨_, ih d (List.all_eq_true.mp hp d hd)⟩) ds.length 0 .no (by omega)
      have er : rngD 0 ds.length = (List.range' 0 ds.length).map fun (i : Nat) => D.int i := rngD_nat 0 _
      unfold F__law_same
      simp only [ev1, ev2, ev3, ev4, ev5, ev6, LIM, ↓reduceIte, Nat.reduceAdd, Nat.reduceSub, Nat.reduceLeDiff, Nat.reduceLT, Nat.reduceEqDiff, Int.reduceEq, Int.reduceLT, Int.reduceLE, Int.reduceNeg, Int.reduceBEq, decide_true, decide_false, Bool.not_true, Bool.not_false, Option.getD_some, eq_self, Bool.false_eq_true, isI_eqs, fx__law_same, beq_self_eq_true, Bool.or_false, hl2, Int.toNat_natCast, er, e, and_self]
    | lst ds =>
      unfold plainN at h
      obtain ⟨hl, hp⟩ := Bool.and_eq_true_iff.mp h
      have hl := of_decide_eq_true hl
      have hl2 : (ds.length : Int) < 2 ^ 62 ∧ -(2 ^ 62) ≤ (ds.length : Int) := by omega
      obtain ⟨s', e⟩ := loopS (F := F__law_same (n + 1)) (a := .lst ds) ix_lst (fun d hd => ⟨_, ih d (List.all_eq_true.mp hp d hd)⟩) ds.length 0 .no (by omega)
      have er : rngD 0 ds.length = (List.range' 0 ds.length).map fun (i : Nat) => D.int i := rngD_nat 0 _
      unfold F__law_same
      simp only [ev1, ev2, ev3, ev4, ev5, ev6, LIM, ↓reduceIte, Nat.reduceAdd, Nat.reduceSub, Nat.reduceLeDiff, Nat.reduceLT, Nat.reduceEqDiff, Int.reduceEq, Int.reduceLT, Int.reduceLE, Int.reduceNeg, Int.reduceBEq, decide_true, decide_false, Bool.not_true, Bool.not_false, Option.getD_some, eq_self, Bool.false_eq_true, isI_eqs, fx__law_same, beq_self_eq_true, Bool.or_false, hl2, Int.toNat_natCast, er, e, and_self]
    | _ => cases h
end LwA

/-! SepP: more rules of evaluation. -/
namespace Sep
open PySem L2
def kChF (ρ : Sl) : Option Slot → Out R
  | some s => .ok (.v s) ρ
  | none => .stuck
def kChE (g' : D → D → Option Slot) (ρ : Sl) : Option D → Option D → Out R
  | some a, some b => kChF ρ (g' a b)
  | _, _ => .stuck
def kChC (g' : D → D → Option Slot) (r2 : R) (o : Out R) : Out R := o.bind fun r3 ρ3 => kChE g' ρ3 (look r2 ρ3) (look r3 ρ3)
def kChB (g' : D → D → Option Slot) (r2 : R) (fc : Ev) (ρ : Sl) : Option Slot → Out R
  | some (.sh (.bl k)) => if k then kChC g' r2 (fc ρ) else .ok (.v (.sh (.bl false))) ρ
  | _ => .stuck
def kChA (g g' : D → D → Option Slot) (r2 : R) (fc : Ev) (ρ : Sl) : Option D → Option D → Out R
  | some a, some b => kChB g' r2 fc ρ (g a b)
  | _, _ => .stuck
def kCh2 (g g' : D → D → Option Slot) (r1 : R) (fc : Ev) (o : Out R) : Out R := o.bind fun r2 ρ2 => kChA g g' r2 fc ρ2 (look r1 ρ2) (look r2 ρ2)
def kCh1 (g g' : D → D → Option Slot) (fb fc : Ev) (o : Out R) : Out R := o.bind fun r1 ρ1 => kCh2 g g' r1 fc (fb ρ1)
def kPart2 (ρ : Sl) : Option D → Out (Option Int)
  | some (.int i) => .ok (some i) ρ
  | _ => .stuck
def kPart (o : Out R) : Out (Option Int) := o.bind fun r ρ1 => kPart2 ρ1 (look r ρ1)
def kSl4 (lo hi : Option Int) (ρ : Sl) : Option D → Out R
  | some d => kOpD ρ (gSl d lo hi)
  | none => .stuck
def kSl3 (r : R) (lo : Option Int) (o : Out (Option Int)) : Out R := o.bind fun hi ρ3 => kSl4 lo hi ρ3 (look r ρ3)
def kSl2 (r : R) (fh : Sl → Out (Option Int)) (o : Out (Option Int)) : Out R := o.bind fun lo ρ2 => kSl3 r lo (fh ρ2)
def kSl1 (fl fh : Sl → Out (Option Int)) (o : Out R) : Out R := o.bind fun r ρ1 => kSl2 r fh (fl ρ1)
def kLoE (o : Out (List Slot)) : Out R := o.bind fun ss ρ2 => if ss.length ≤ LIM then .ok (.v (.lst ss)) ρ2 else .stuck
def kLoA (o : Out (List R)) : Out R := o.bind fun rs ρ1 => kLoE (consOs rs ρ1)
def kOsB (s : Slot) (o : Out (List Slot)) : Out (List Slot) := o.bind fun ss ρ2 => .ok (s :: ss) ρ2
def kOsA (rs : List R) (o : Out Slot) : Out (List Slot) := o.bind fun s ρ1 => kOsB s (consOs rs ρ1)
def kOsC (o : Out D) : Out Slot := o.bind fun d ρ' => .ok (.sh d) ρ'
theorem ev7 :
    (∀ g g' fa fb fc ρ, eChain g g' fa fb fc ρ = kCh1 g g' fb fc (fa ρ)) ∧
    (∀ g g' fb fc r ρ, kCh1 g g' fb fc (.ok r ρ) = kCh2 g g' r fc (fb ρ)) ∧
    (∀ g g' r1 fc r ρ, kCh2 g g' r1 fc (.ok r ρ) = kChA g g' r fc ρ (look r1 ρ) (look r ρ)) ∧
    (∀ g g' r fc ρ a b, kChA g g' r fc ρ (some a) (some b) = kChB g' r fc ρ (g a b)) ∧
    (∀ g' r fc ρ, kChB g' r fc ρ (some (.sh (.bl true))) = kChC g' r (fc ρ)) ∧
    (∀ g' r fc ρ, kChB g' r fc ρ (some (.sh (.bl false))) = .ok (.v (.sh (.bl false))) ρ) ∧
    (∀ g' r2 r ρ, kChC g' r2 (.ok r ρ) = kChE g' ρ (look r2 ρ) (look r ρ)) ∧
    (∀ g' ρ a b, kChE g' ρ (some a) (some b) = kChF ρ (g' a b)) ∧
    (∀ ρ s, kChF ρ (some s) = .ok (.v s) ρ) ∧
    (∀ f ρ, oSome f ρ = kPart (f ρ)) ∧
    (∀ r ρ, kPart (.ok r ρ) = kPart2 ρ (look r ρ)) ∧
    (∀ i ρ, kPart2 ρ (some (.int i)) = .ok (some i) ρ) ∧
    (∀ fe fl fh ρ, eSl fe fl fh ρ = kSl1 fl fh (fe ρ)) ∧
    (∀ fl fh r ρ, kSl1 fl fh (.ok r ρ) = kSl2 r fh (fl ρ)) ∧
    (∀ fh r lo ρ, kSl2 r fh (.ok lo ρ) = kSl3 r lo (fh ρ)) ∧
    (∀ r lo hi ρ, kSl3 r lo (.ok hi ρ) = kSl4 lo hi ρ (look r ρ)) ∧
    (∀ lo hi ρ d, kSl4 lo hi ρ (some d) = kOpD ρ (gSl d lo hi)) ∧
    (∀ ds lo hi, gSl (.lst ds) lo hi = some (.lst (shs (cutD ds lo hi)))) ∧
    (∀ ds lo hi, gSl (.rol ds) lo hi = some (.lst (shs (cutD ds lo hi)))) ∧
    (∀ ds lo hi, gSl (.tup ds) lo hi = some (.sh (.tup (cutD ds lo hi)))) ∧
    (∀ fs ρ, eLstO fs ρ = kLoA (fs ρ)) ∧
    (∀ rs ρ, kLoA (.ok rs ρ) = kLoE (consOs rs ρ)) ∧
    (∀ ss ρ, kLoE (.ok ss ρ) = if ss.length ≤ LIM then .ok (.v (.lst ss)) ρ else .stuck) ∧
    (∀ ρ, consOs [] ρ = .ok [] ρ) ∧
    (∀ r rs ρ, consOs (r :: rs) ρ = kOsA rs (consO r ρ)) ∧
    (∀ rs s ρ, kOsA rs (.ok s ρ) = kOsB s (consOs rs ρ)) ∧
    (∀ s ss ρ, kOsB s (.ok ss ρ) = .ok (s :: ss) ρ) ∧
    (∀ s ρ, consO (.v s) ρ = .ok s ρ) ∧
    (∀ i ρ, consO (.r i) ρ = kOsC (cons (.r i) ρ)) ∧
    (∀ d ρ, kOsC (.ok d ρ) = .ok (.sh d) ρ) := by
  refine ⟨fun _ _ _ _ _ _ => ?_, fun _ _ _ _ _ _ => rfl, fun _ _ _ _ _ _ => rfl, fun _ _ _ _ _ _ _ => rfl, fun _ _ _ _ => rfl, fun _ _ _ _ => rfl, fun _ _ _ _ => rfl, fun _ _ _ _ => rfl, fun _ _ => rfl, fun _ _ => ?_, fun _ _ => rfl, fun _ _ => rfl, fun _ _ _ _ => ?_, fun _ _ _ _ => rfl, fun _ _ _ _ => rfl, fun _ _ _ _ => rfl, fun _ _ _ _ => rfl, fun _ _ _ => rfl, fun _ _ _ => rfl, fun _ _ _ => rfl, fun _ _ => rfl, fun _ _ => rfl, fun _ _ => rfl, fun _ => rfl, fun _ _ _ => rfl, fun _ _ _ => rfl, fun _ _ _ => rfl, fun _ _ => rfl, fun _ _ => rfl, fun _ _ => rfl⟩
  · unfold eChain kCh1 kCh2 kChA kChB kChC kChE kChF; rfl
  · unfold oSome kPart kPart2; rfl
  · unfold eSl kSl1 kSl2 kSl3 kSl4 kOpD; rfl
theorem app2_ok {i : Nat} {fk fb : Ev} {ρ ρ2 ρ3 : Sl} {ss ss2 : List Slot} {k : Int} {j : Nat} {r : R} {d : D} (h0 : ρ[i]? = some (.lst ss)) (hk : fk ρ = .ok (.v (.sh (.int k))) ρ) (hj : ixN ss.length k = some j) (hs : ss[j]? = some (.lst ss2)) (hl : ss2.length < LIM) (hb : fb (ρ.set i (.lst (ss.set j .no))) = .ok r ρ2) (hc : cons r ρ2 = .ok d ρ3) : eApp2 i fk fb ρ = .ok (.v (.sh .non)) ρ3 := by
  unfold eApp2
  simp only [h0, hk, Out.bind, look, Slot.flat, hj, Option.bind_some, hs, Option.map_some, hl, ↓reduceIte, hb, hc]
/-- what a for walks -/
structure Sq (d : D) (ds : List D) : Prop where
  i : ∀ ρ, kSeqI2 ρ d = .ok ds ρ
  l : gToL d = some (.lst (shs ds))
  t : gToT d = some (.sh (.tup ds))
  n : gLen d = some (.sh (.int (ds.length : Nat)))
  x : ∀ i, gIx d (.int i) = (atI ds i).map Slot.sh
theorem sq_lst (ds : List D) : Sq (.lst ds) ds := ⟨fun _ => rfl, rfl, rfl, rfl, fun _ => rfl⟩
theorem sq_rol (ds : List D) : Sq (.rol ds) ds := ⟨fun _ => rfl, rfl, rfl, rfl, fun _ => rfl⟩
theorem sq_tup (ds : List D) : Sq (.tup ds) ds := ⟨fun _ => rfl, rfl, rfl, rfl, fun _ => rfl⟩
end Sep

/-! SepQ: loops and comprehensions, as folds. -/
namespace Sep
open PySem L2
/-- a call's result, whatever becomes of the arguments -/
def Ret (o : Out Slot) (s : Slot) : Prop := ∃ fs, o = .ok s fs
theorem Ret.mk {s t : Slot} {fs : Sl} (h : s = t) : Ret (.ok s fs) t := ⟨fs, by rw [h]⟩
section
variable {α β : Type} {g : D → Sl → Option Sl} {b : SEv} {en : α → D}
theorem forL_fold {S : β → Sl → Prop} {f : β → α → β} : ∀ (xs : List α) (hs : ∀ a ∈ xs, ∀ acc ρ ds, S acc ρ → ∃ ρ', S (f acc a) ρ' ∧ forL g b (en a :: ds) ρ = forL g b ds ρ') (acc : β) (ρ : Sl), S acc ρ → ∃ ρ', S (xs.foldl f acc) ρ' ∧ forL g b (xs.map en) ρ = .ok .nx ρ'
  | [], hs, acc, ρ, h => ⟨ρ, h, rfl⟩
  | a :: xs, hs, acc, ρ, h => by
    obtain ⟨ρ1, h1, e1⟩ := hs a (by simp) acc ρ (xs.map en) h
    obtain ⟨ρ2, h2, e2⟩ := forL_fold xs (fun a ha => hs a (by simp [ha])) (f acc a) ρ1 h1
    exact ⟨ρ2, h2, by rw [List.map_cons, e1, e2]⟩
theorem forL_rem {S : List α → β → Sl → Prop} {f : β → α → β} (hs : ∀ a as acc ρ, S (a :: as) acc ρ → ∃ ρ', S as (f acc a) ρ' ∧ forL g b (en a :: as.map en) ρ = forL g b (as.map en) ρ') : ∀ (xs : List α) (acc : β) (ρ : Sl), S xs acc ρ → ∃ ρ', S [] (xs.foldl f acc) ρ' ∧ forL g b (xs.map en) ρ = .ok .nx ρ'
  | [], acc, ρ, h => ⟨ρ, h, rfl⟩
  | a :: xs, acc, ρ, h => by
    obtain ⟨ρ1, h1, e1⟩ := hs a xs acc ρ h
    obtain ⟨ρ2, h2, e2⟩ := forL_rem hs xs (f acc a) ρ1 h1
    exact ⟨ρ2, h2, by rw [List.map_cons, e1, e2]⟩
/-- the same, with what is made along the way not told -/
theorem forL_inv {S : List α → Sl → Prop} (hs : ∀ a as ρ, S (a :: as) ρ → ∃ ρ', S as ρ' ∧ forL g b (en a :: as.map en) ρ = forL g b (as.map en) ρ') : ∀ (xs : List α) (ρ : Sl), S xs ρ → ∃ ρ', S [] ρ' ∧ forL g b (xs.map en) ρ = .ok .nx ρ'
  | [], ρ, h => ⟨ρ, h, rfl⟩
  | a :: xs, ρ, h => by
    obtain ⟨ρ1, h1, e1⟩ := hs a xs ρ h
    obtain ⟨ρ2, h2, e2⟩ := forL_inv hs xs ρ1 h1
    exact ⟨ρ2, h2, by rw [List.map_cons, e1, e2]⟩
theorem forL_any {S : Sl → Prop} {c : α → Bool} {s : Slot} : ∀ (xs : List α) (hs : ∀ a ∈ xs, ∀ ρ ds, S ρ → (c a = true → ∃ ρ', forL g b (en a :: ds) ρ = .ok (.ret s) ρ' ∧ S ρ') ∧ (c a = false → ∃ ρ', S ρ' ∧ forL g b (en a :: ds) ρ = forL g b ds ρ')) (ρ : Sl), S ρ → (xs.any c = true → ∃ ρ', forL g b (xs.map en) ρ = .ok (.ret s) ρ' ∧ S ρ') ∧ (xs.any c = false → ∃ ρ', S ρ' ∧ forL g b (xs.map en) ρ = .ok .nx ρ')
  | [], hs, ρ, h => ⟨(fun e => by cases e), fun _ => ⟨ρ, h, rfl⟩⟩
  | a :: xs, hs, ρ, h => by
    obtain ⟨h1, h2⟩ := hs a (by simp) ρ (xs.map en) h
    cases q : c a with
    | true =>
      obtain ⟨ρ', e, k⟩ := h1 q
      refine ⟨fun _ => ⟨ρ', by rw [List.map_cons, e], k⟩, fun e => ?_⟩
      rw [List.any_cons, q] at e; cases e
    | false =>
      obtain ⟨ρ1, k, e⟩ := h2 q
      obtain ⟨i1, i2⟩ := forL_any xs (fun a ha => hs a (by simp [ha])) ρ1 k
      rw [List.map_cons, List.any_cons, q, Bool.false_or, e]
      exact ⟨i1, i2⟩
theorem compL_fm {vs : List Nat} {p : Sl → Out Bool} {e : Ev} {f : α → Option D} {ρ : Sl} : ∀ (xs : List α) (hs : ∀ a ∈ xs, ∀ ds acc, acc.length < LIM → compL vs g p e (en a :: ds) acc ρ = compL vs g p e ds (acc ++ (f a).toList) ρ) (acc : List D), acc.length + xs.length ≤ LIM → compL vs g p e (xs.map en) acc ρ = .ok (acc ++ xs.filterMap f) ρ
  | [], hs, acc, h => by rw [List.map_nil, List.filterMap_nil, List.append_nil]; unfold compL; rfl
  | a :: xs, hs, acc, h => by
    rw [List.length_cons] at h
    rw [List.map_cons, hs a (by simp) _ _ (by omega), compL_fm xs (fun a ha => hs a (by simp [ha])) _ (by
      have : (f a).toList.length ≤ 1 := by cases f a <;> simp
      rw [List.length_append]; omega), List.append_assoc]
    congr 2
    rw [List.filterMap_cons]
    cases f a <;> rfl
/-- a comprehension whose state moves along -/
theorem compL_st {vs : List Nat} {p : Sl → Out Bool} {e : Ev} {S : Sl → Prop} {P : D → Prop} : ∀ (xs : List α) (hs : ∀ a ∈ xs, ∀ ρ ds acc, S ρ → acc.length < LIM → ∃ d ρ', P d ∧ S ρ' ∧ compL vs g p e (en a :: ds) acc ρ = compL vs g p e ds (acc ++ [d]) ρ') (acc : List D) (ρ : Sl), S ρ → acc.length + xs.length ≤ LIM → ∃ ys ρ', (ys.length = xs.length ∧ ∀ d ∈ ys, P d) ∧ S ρ' ∧ compL vs g p e (xs.map en) acc ρ = .ok (acc ++ ys) ρ'
  | [], hs, acc, ρ, h, hl => ⟨[], ρ, ⟨rfl, fun _ h => by cases h⟩, h, by rw [List.append_nil, List.map_nil]; unfold compL; rfl⟩
  | a :: xs, hs, acc, ρ, h, hl => by
    rw [List.length_cons] at hl
    obtain ⟨d, ρ1, h1, h2, e1⟩ := hs a (by simp) ρ (xs.map en) acc h (by omega)
    obtain ⟨ys, ρ2, h3, h4, e2⟩ := compL_st xs (fun a ha => hs a (by simp [ha])) (acc ++ [d]) ρ1 h2 (by rw [List.length_append, List.length_singleton]; omega)
    exact ⟨d :: ys, ρ2, ⟨by rw [List.length_cons, List.length_cons, h3.1], fun z hz => by
      rcases List.mem_cons.mp hz with rfl | hz
      · exact h1
      · exact h3.2 z hz⟩, h4, by rw [List.map_cons, e1, e2, List.append_assoc]; rfl⟩
end
theorem rngD0 (n : Nat) : rngD 0 n = (List.range' 0 n).map fun (i : Nat) => D.int i := rngD_nat 0 n
theorem rngD1 (n : Nat) : rngD 1 n = (List.range' 1 n).map fun (i : Nat) => D.int i := rngD_nat 1 n
theorem mem_isort {x : Int} {xs : List Int} : x ∈ isort xs ↔ x ∈ xs := (isort_perm xs).mem_iff
theorem len_isort (xs : List Int) : (isort xs).length = xs.length := (isort_perm xs).length_eq
end Sep
namespace Sep
open PySem L2
theorem ev8 : (∀ s ss, Sep.frs (s :: ss) = kLk s.fr (Sep.frs ss)) ∧ (∀ n i, plainN n (.int i) = true) ∧ (∀ n i, plainN n (.bl i) = true) ∧ (∀ n, plainN n .non = true) ∧ (∀ n ds, plainN (n + 1) (.tup ds) = (decide (ds.length < 2 ^ 62) && ds.all (plainN n))) ∧ (∀ n ds, plainN (n + 1) (.lst ds) = (decide (ds.length < 2 ^ 62) && ds.all (plainN n))) := by
  refine ⟨fun s ss => ?_, fun n i => ?_, fun n i => ?_, fun n => ?_, fun n ds => ?_, fun n ds => ?_⟩
  · conv => lhs; unfold Sep.frs
    cases s.fr <;> cases Sep.frs ss <;> rfl
  · cases n <;> simp [plainN]
  · cases n <;> simp [plainN]
  · cases n <;> simp [plainN]
  · simp only [plainN]
  · simp only [plainN]
def kA2f (o : Out D) : Out R := o.bind fun _ ρ3 => .ok (.v (.sh .non)) ρ3
def kA2e (o : Out R) : Out R := o.bind fun r2 ρ2 => kA2f (cons r2 ρ2)
def kA2d (i : Nat) (fb : Ev) (ρ1 : Sl) (ss : List Slot) : Option (Nat × Slot) → Out R
  | some (j, .lst ss2) => if ss2.length < LIM then kA2e (fb (ρ1.set i (.lst (ss.set j .no)))) else .stuck
  | _ => .stuck
def kPick2 (ss : List Slot) : Option Nat → Option (Nat × Slot)
  | some j => (ss[j]?).map fun s => (j, s)
  | none => none
def kPick (ss : List Slot) (k : Int) : Option (Nat × Slot) := kPick2 ss (ixN ss.length k)
def kA2c (i : Nat) (fb : Ev) (ρ1 : Sl) : Option D → Option Slot → Out R
  | some (.int k), some (.lst ss) => kA2d i fb ρ1 ss (kPick ss k)
  | _, _ => .stuck
def kA2b (i : Nat) (fb : Ev) (o : Out R) : Out R := o.bind fun r1 ρ1 => kA2c i fb ρ1 (look r1 ρ1) (ρ1[i]?)
def kA2 (i : Nat) (fk fb : Ev) (ρ : Sl) : Option Slot → Out R
  | some (.lst _) => kA2b i fb (fk ρ)
  | _ => .stuck
theorem ev9 :
    (∀ i fk fb ρ, eApp2 i fk fb ρ = kA2 i fk fb ρ (ρ[i]?)) ∧
    (∀ i fk fb ρ ss, kA2 i fk fb ρ (some (.lst ss)) = kA2b i fb (fk ρ)) ∧
    (∀ i fb r ρ, kA2b i fb (.ok r ρ) = kA2c i fb ρ (look r ρ) (ρ[i]?)) ∧
    (∀ i fb ρ k ss, kA2c i fb ρ (some (.int k)) (some (.lst ss)) = kA2d i fb ρ ss (kPick ss k)) ∧
    (∀ ss k, kPick ss k = kPick2 ss (ixN ss.length k)) ∧
    (∀ ss j, kPick2 ss (some j) = (ss[j]?).map fun s => (j, s)) ∧
    (∀ i fb ρ ss j ss2, kA2d i fb ρ ss (some (j, .lst ss2)) = if ss2.length < LIM then kA2e (fb (ρ.set i (.lst (ss.set j .no)))) else .stuck) ∧
    (∀ r ρ, kA2e (.ok r ρ) = kA2f (cons r ρ)) ∧
    (∀ d ρ, kA2f (.ok d ρ) = .ok (.v (.sh .non)) ρ) := by
  refine ⟨fun i fk fb ρ => ?_, fun _ _ _ _ _ => rfl, fun _ _ _ _ => rfl, fun _ _ _ _ _ => rfl, fun _ _ => rfl, fun _ _ => rfl, fun _ _ _ _ _ _ => rfl, fun _ _ => rfl, fun _ _ => rfl⟩
  unfold eApp2
  cases h : ρ[i]? with
  | none => rfl
  | some s =>
    cases s with
    | lst ss =>
      show Out.bind (fk ρ) _ = Out.bind (fk ρ) _
      congr 1
      funext r1 ρ1
      unfold kA2c
      cases look r1 ρ1 with
      | none => rfl
      | some d =>
        cases d with
        | int k =>
          cases ρ1[i]? with
          | none => rfl
          | some s =>
            cases s with
            | lst ss =>
              show (match (ixN ss.length k).bind fun j => (ss[j]?).map fun s => (j, s) with
                | some (j, .lst ss2) => _
                | _ => _) = kA2d i fb ρ1 ss (kPick2 ss (ixN ss.length k))
              have : ((ixN ss.length k).bind fun j => (ss[j]?).map fun s => (j, s)) = kPick2 ss (ixN ss.length k) := by cases ixN ss.length k <;> rfl
              rw [this]
              unfold kA2d kA2e kA2f
              rfl
            | _ => rfl
        | _ => rfl
    | _ => rfl
def kFz2 (o : Out D) : Out R := o.bind fun d ρ2 => .ok (.v (.sh d)) ρ2
def kFz (o : Out R) : Out R := o.bind fun r ρ1 => kFz2 (cons r ρ1)
theorem ev10 : (∀ f ρ, eFz f ρ = kFz (f ρ)) ∧ (∀ r ρ, kFz (.ok r ρ) = kFz2 (cons r ρ)) ∧ (∀ d ρ, kFz2 (.ok d ρ) = .ok (.v (.sh d)) ρ) := ⟨fun _ _ => rfl, fun _ _ => rfl, fun _ _ => rfl⟩
theorem str_eq (a b : Str) (k : Bool) (ha : PyData.canLay0 (.str a) = true) (hb : PyData.canLay0 (.str b) = true) (h : (a == b) = k) : gEq (.str a) (.str b) = some (.sh (.bl k)) := by rw [eq_str ha b hb, h]
theorem plain_lst {ds : List D} {n : Nat} (h : ds.length < 2 ^ 62) (k : ∀ d ∈ ds, plainN n d = true) : plainN (n + 1) (.lst ds) = true := by
  rw [ev8.2.2.2.2.2, Bool.and_eq_true]
  exact ⟨decide_eq_true h, List.all_eq_true.mpr k⟩
theorem plain_tup {ds : List D} {n : Nat} (h : ds.length < 2 ^ 62) (k : ∀ d ∈ ds, plainN n d = true) : plainN (n + 1) (.tup ds) = true := by
  rw [ev8.2.2.2.2.1, Bool.and_eq_true]
  exact ⟨decide_eq_true h, List.all_eq_true.mpr k⟩
end Sep
namespace Lw
open PySem L2 Sep
/-- a box in order -/
structure BOK (ns : List Int) (s : Slot) : Prop where
  ex : ∃ p v n w, s = Bx ns p v n w ∧ Bok p v n w
theorem BOK.start (ns : List Int) : BOK ns (Bx ns 0 0 0 0) := ⟨0, 0, 0, 0, rfl, ⟨by decide, by decide, by decide, by decide, .inr ⟨rfl, by decide⟩⟩⟩
theorem BOK.var {ns : List Int} {s : Slot} (h : BOK ns s) (i : Nat) (ρ : Sl) : kVar i ρ (some s) = .ok (.r i) ρ := by
  obtain ⟨p, v, n, w, e, _⟩ := h.ex
  subst e; rfl
theorem BOK.draw {ns : List Int} {s : Slot} (h : BOK ns s) (size : Int) (hs : 0 < size) (hl : size.natAbs.log2 < 9000) : ∃ z s', F__law_draw [s, .sh (.int size)] = .ok (.sh (.int z)) [s', .sh (.int size)] ∧ 0 ≤ z ∧ z < size ∧ BOK ns s' := by
  obtain ⟨p, v, n, w, e, b⟩ := h.ex
  subst e
  obtain ⟨z, p', v', n', w', e, z0, z1, b'⟩ := draw_ok (ns := ns) b hs hl
  exact ⟨z, _, e, z0, z1, p', v', n', w', rfl, b'⟩
end Lw

/-! SepR: instances: fields, methods, makers, their operators. -/
namespace Sep
open PySem L2
/-- a class of the text: what its instances' fields need -/
structure ClF (K : PySem.W.Frag) (C : Addr) (f : Str) : Prop where
  cl : Cls K C
  na : NoAttr K C f

/-! ### one operand -/
def UnD (G : Gm) (r : V → Hp → VK → Prop) (g : D → Option Slot) : Prop := ∀ H O L x dx s Q, Hold G H O L → RepP G H O dx x → g dx = some s → (∀ v H', Holds G H' ((v, s) :: L) → Q v H') → r x H Q
section
variable {X : Cx} {G : Gm} {W : WX} {fx : FX} {a b c : Expr} {es : List Expr} {ta tb tc te : TE} {t : TA} {fa fb fc fe : Ev} {fs : Sl → Out (List R)} {pos : Pos}
theorem ok_unD {r : V → Hp → VK → Prop} {g : D → Option Slot} (ho : UnD G r g) (A : EvOk G W ta fa) : EvOk G W (fun σ H Q => ta σ H fun x H1 => r x H1 Q) (eUn g fa) := by
  intro σ H ρ T Q sr p
  refine A σ H ρ T _ sr ((Post.bind p).imp fun r1 ρ1 p1 x H1 sr1 a1 => ?_)
  cases e1 : look r1 ρ1 with
  | none => simp only [e1] at p1; exact p1.elim
  | some d =>
    simp only [e1] at p1
    cases e3 : g d with
    | none => simp only [e3] at p1; exact p1.elim
    | some s =>
      simp only [e3] at p1
      obtain ⟨O, h⟩ := sr1.h
      exact ho H1 O _ x d s Q h (sr1.lookP h a1 (fun s e => by subst e; exact List.mem_cons_self) e1) e3 fun v H' hs => p1 v H' (sr1.push hs).pop2 trivial
/-! ### a field -/
def gFld (cs : List Str) (f : Str) : D → Option Slot := fun d => match d with
  | .obj c ns ds => if cs.contains c then ((ns.zip ds).lookup f).map Slot.sh else none
  | _ => none
theorem RepDs.look {H : Hp} {O : List Addr} {f : Str} {d : D} : ∀ {ns : List Str} {ds : List D} {xs : List V}, RepDs G H O ds xs → (ns.zip ds).lookup f = some d → ∃ v, (ns.zip xs).lookup f = some v ∧ RepD G H O d v
  | [], ds, xs, _, e => by cases e
  | n :: ns, [], xs, _, e => by cases e
  | n :: ns, d' :: ds, xs, ⟨v, r, ex, h1, h2⟩, e => by
    subst ex
    rw [List.zip_cons_cons, List.lookup_cons] at e ⊢
    cases q : f == n with
    | true =>
      simp only [q] at e ⊢
      cases e
      exact ⟨v, rfl, h1⟩
    | false =>
      simp only [q] at e ⊢
      exact RepDs.look h2 e
theorem ud_fld {cs : List Str} {f : Str} (hc : ∀ c ∈ cs, ClF G.K (G.cls c) f) : UnD G (fun x H1 Q => ∃ a C dx fs v, x = .ref a ∧ H1 a = some (.ins C dx fs) ∧ Cls G.K C ∧ NoAttr G.K C f ∧ fs.lookup f = some v ∧ Q v H1) (gFld cs f) := by
  intro H O L x dx s Q h hx e q
  cases dx <;> first | (cases e; done) | skip
  rename_i c ns ds
  unfold gFld at e
  dsimp only at e
  split at e
  · rename_i hm
    cases e4 : (ns.zip ds).lookup f with
    | none => rw [e4] at e; cases e
    | some d =>
      rw [e4] at e
      cases e
      obtain ⟨a, dx, xs, ex, h1, hl, h2⟩ := hx
      obtain ⟨v, l, r⟩ := RepDs.look h2 e4
      have k := hc c (by simpa using hm)
      exact ⟨a, _, dx, _, v, ex, h1, k.cl, k.na, l, q v H (h.add r)⟩
  · cases e
theorem de_fld {cs : List Str} {f : Str} (hK : X.K = G.K) (hc : ∀ c ∈ cs, ClF G.K (G.cls c) f) (A : DE X G W a ta fa) (hb : attributeBase a f X.env (eval a X.env) = eval a X.env := by rfl) : DE X G W (.Attribute a f pos) (tFld X.K ta f) (eUn (gFld cs f) fa) :=
  ⟨pe_fld A.pe hb, by rw [hK]; exact ok_unD (r := fun x H1 Q => ∃ a C dx fs v, x = .ref a ∧ H1 a = some (.ins C dx fs) ∧ Cls G.K C ∧ NoAttr G.K C f ∧ fs.lookup f = some v ∧ Q v H1) (ud_fld hc) A.ok⟩
/-! ### self.f = e -/
def putN (f : Str) : List Str → List Str
  | [] => [f]
  | g :: r => if g = f then g :: r else g :: putN f r
def putA {α : Type} (f : Str) (v : α) : List Str → List α → List α
  | [], _ => [v]
  | g :: r, x :: xs => if g = f then v :: xs else x :: putA f v r xs
  | _ :: _, [] => []
theorem putF_zip (f : Str) (v : V) : ∀ {ns : List Str} {xs : List V}, ns.length = xs.length → putF f v (ns.zip xs) = (putN f ns).zip (putA f v ns xs)
  | [], [], _ => rfl
  | g :: r, x :: xs, h => by
    have ih := putF_zip f v (ns := r) (xs := xs) (by simpa using h)
    unfold putN putA
    rw [List.zip_cons_cons]
    unfold putF
    by_cases e : g = f
    · rw [if_pos e, if_pos e, if_pos e]; rfl
    · rw [if_neg e, if_neg e, if_neg e, ih]; rfl
theorem put_len {α : Type} (f : Str) (v : α) : ∀ {ns : List Str} {xs : List α}, ns.length = xs.length → (putN f ns).length = (putA f v ns xs).length
  | [], [], _ => rfl
  | g :: r, x :: xs, h => by
    have ih := put_len f v (ns := r) (xs := xs) (by simpa using h)
    unfold putN putA
    by_cases e : g = f
    · rw [if_pos e, if_pos e]; exact h
    · rw [if_neg e, if_neg e, List.length_cons, List.length_cons, ih]
theorem RepSs.put {H : Hp} {O : List Addr} {f : Str} {d : D} {w : V} (hd : RepD G H O d w) : ∀ {ns : List Str} {ds : List D} {xs : List V}, ns.length = ds.length → RepDs G H O ds xs → RepDs G H O (putA f d ns ds) (putA f w ns xs)
  | [], [], xs, _, h => by
    rw [show xs = [] from h]
    exact ⟨w, [], rfl, hd, rfl⟩
  | g :: r, d' :: ds, xs, hl, ⟨v, rs, e, h1, h2⟩ => by
    subst e
    unfold putA
    by_cases e : g = f
    · rw [if_pos e, if_pos e]; exact ⟨w, rs, rfl, hd, h2⟩
    · rw [if_neg e, if_neg e]; exact ⟨v, _, rfl, h1, RepSs.put hd (by simpa using hl) h2⟩
theorem Holds.wrO {H : Hp} {O : List Addr} {L : Hd} {v : V} {c : Str} {ns : List Str} {ss : List Slot} (h : Hold G H O ((v, .obj c ns ss) :: L)) : ∃ a dx xs os', v = .ref a ∧ H a = some (.ins (G.cls c) dx (ns.zip xs)) ∧ ns.length = xs.length ∧ RepSs G H O ss xs os' ∧
    ∀ ns' xs' ss', ns'.length = xs'.length → RepSs G H O ss' xs' os' → Holds G (upd H a (.ins (G.cls c) dx (ns'.zip xs'))) ((v, .obj c ns' ss') :: L) := by
  obtain ⟨⟨o1, o2, eo, ⟨a, dx, xs, os', ev, e1, h1, hl, h2⟩, h3⟩, OF, hf, nd⟩ := h
  subst e1
  refine ⟨a, dx, xs, os', ev, h1, hl, h2, fun ns' xs' ss' hl' h4 => ?_⟩
  have nd0 := nd
  rw [eo] at nd
  have ndO := List.nodup_append.mp nd
  have nd1 := List.nodup_append.mp ndO.1
  have na : a ∉ os' := (List.nodup_cons.mp nd1.1).1
  have na2 : a ∉ o2 := fun z => nd1.2.2 a List.mem_cons_self a z rfl
  have na3 : a ∉ OF := fun z => ndO.2.2 a (List.mem_append_left _ List.mem_cons_self) a z rfl
  have k : Keep [a] H (upd H a (.ins (G.cls c) dx (ns'.zip xs'))) := fun b o e n => by rw [upd_ne (fun (z : b = a) => n (by rw [z]; exact List.mem_cons_self))]; exact e
  have hW : ∀ b ∈ [a], b ∈ O := fun b z => by rw [List.mem_singleton.mp z, eo]; exact List.mem_append_left _ List.mem_cons_self
  refine ⟨O, ⟨a :: os', o2, eo, ⟨a, dx, xs', os', ev, rfl, upd_same, hl', ?_⟩, ?_⟩, OF, ?_, nd0⟩
  · exact RepSs.step k hW (fun b z => .inl z) ss' xs' os' h4 fun b z q => na (List.mem_singleton.mp q ▸ z)
  · exact RepL.step k hW (fun b z => .inl z) h3 fun b z q => na2 (List.mem_singleton.mp q ▸ z)
  · exact hf.step k hW (fun b z => .inl z) fun b z q => na3 (List.mem_singleton.mp q ▸ z)
theorem Holds.putO {H : Hp} {L : Hd} {v w : V} {d : D} {c f : Str} {ns : List Str} {ds : List D} (hn : ns.length = ds.length) (h : Holds G H ((w, .sh d) :: (v, .obj c ns (shs ds)) :: L)) : ∃ a dx xs, v = .ref a ∧ H a = some (.ins (G.cls c) dx (ns.zip xs)) ∧ ns.length = xs.length ∧ Holds G (upd H a (.ins (G.cls c) dx (putF f w (ns.zip xs)))) ((v, .obj c (putN f ns) (shs (putA f d ns ds))) :: L) := by
  obtain ⟨O, ⟨o1, o2, eo, h1, h2⟩, nd⟩ := h
  have e1 : o1 = [] := h1.1
  subst e1
  have eo' : O = o2 := eo
  subst eo'
  obtain ⟨a, dx, xs, os', ev, ha, hl, hr, k⟩ := Holds.wrO (G := G) (H := H) (O := O) (v := v) (L := L) ⟨h2, nd⟩
  obtain ⟨e2, rd⟩ := hr.flat
  subst e2
  refine ⟨a, dx, xs, ev, ha, hl, ?_⟩
  rw [putF_zip f w hl]
  exact k _ _ _ (put_len f w hl) (RepSs.put h1.2 hn rd).sh
def sFldS (cs : List Str) (i : Nat) (f : Str) (fe : Ev) : SEv := fun ρ => (fe ρ).bind fun r ρ1 => (cons r ρ1).bind fun d ρ2 => match ρ2[i]? with
  | some (.obj c ns ss) => (match flats ss with
    | some ds => if cs.contains c = true ∧ ns.length < 1000 ∧ ns.length = ds.length then .ok .nx (ρ2.set i (.obj c (putN f ns) (shs (putA f d ns ds)))) else .stuck
    | none => .stuck)
  | _ => .stuck
theorem obj_at {σ : L2.St} {ρ : Sl} {T : Hd} {H : Hp} {i : Nat} {c : Str} {ns : List Str} {ss : List Slot} (sr : SR G σ ρ T H) (e : ρ[i]? = some (.obj c ns ss)) : ∃ v, σ[i]? = some (some v) := by
  obtain ⟨v, h, _⟩ := sr.val e (by intro z; cases z)
  exact ⟨v, h⟩
theorem ok_fldS {cs : List Str} {i : Nat} {f : Str} (hc : ∀ c ∈ cs, ClF G.K (G.cls c) f) (A : EvOk G W ta fa) : SsOk G W fx (sFld G.K (tVar i) ta f) (sFldS cs i f fa) := by
  intro D σ H ρ T sr p
  refine A σ H ρ T _ sr ((PostS.of p).imp fun r ρ1 p1 y H1 sr1 a1 => ?_)
  rcases cons_or r ρ1 with ⟨d, ρ2, e⟩ | e
  · simp only [e, Out.bind] at p1
    have sr2 := sr1.take1 a1 e
    cases e3 : ρ2[i]? with
    | none => simp only [e3] at p1; exact p1.elim
    | some s =>
      simp only [e3] at p1
      cases s <;> first | (exact p1.elim) | skip
      rename_i c ns ss
      cases e4 : flats ss with
      | none => simp only [e4] at p1; exact p1.elim
      | some ds =>
        simp only [e4] at p1
        split at p1
        · rename_i hq
          obtain ⟨v, ev⟩ := obj_at sr2 e3
          refine ⟨v, ev, ?_⟩
          rw [flats_eq e4] at e3
          obtain ⟨L0, h1, back⟩ := sr2.out ev e3
          obtain ⟨a, dx, xs, ea, ha, hl, h2⟩ := Holds.putO (f := f) hq.2.2 (L := L0 ++ T) (h1.perm ((List.Perm.cons _ List.perm_middle).trans (.swap _ _ _)))
          have k := hc c (by simpa using hq.1)
          refine ⟨a, _, dx, _, ea, ha, k.cl, k.na, by rw [List.length_zip, ← hl, Nat.min_self]; exact hq.2.1, ?_⟩
          exact p1 σ _ .refl (back T _ _ h2)
        · exact p1.elim
  · simp only [e, Out.bind] at p1; exact p1.elim
theorem ds_fldS {cs : List Str} {i : Nat} {f : Str} {o : Expr} {pos' : Pos} (hK : X.K = G.K) (hc : ∀ c ∈ cs, ClF G.K (G.cls c) f) (V : DE X G W o (tVar i) (eVar i)) (A : DE X G W a ta fa) (hs : swapsWith a (some (.Attribute o f pos')) pos.line X.env = pure false := by rfl) : DS fx X G W (.Assign [.Attribute o f pos'] a pos) (sFld X.K (tVar i) ta f) (sFldS cs i f fa) :=
  ⟨ps_fld V.pe A.pe hs, by rw [hK]; exact ok_fldS hc A.ok⟩
end

/-! ### calls, what is raised wished for at the caller's slots -/
section
variable {X : Cx} {CX : CXT} {k n : Nat} {f C : Addr} {fd : FuncData} {ps ks : List Str} {sp : Sp} {E : L2.St → XK} {x m : Str} {p pos apos : Pos} {e o : Expr} {es : List Expr} {ta : TE} {t tk : TA} {kws : List Keyword}
theorem run_gen {pins : List (Addr × Obj)} {σ : L2.St} {H : Hp} {s : Shared} {Q : VK} {us ws : List Value} {kw : List (Str × Value)} {vs : List V} (F : FnOk X.prog X.w X.K X.mg X.base CX k f fd ps sp) (hr : Room k X.A)
    (hb : BindsTo s fd ⟨us, kw⟩ (ps.zip ws)) (hx : PassesAt CX X σ (E σ)) (I : Inv X pins σ H s) (r : Vals vs ws) (h : sp vs H Q (E σ)) :
    wpAny (model X.prog X.w) X.A (call (.ref f) us kw) (EP X pins σ Q) X.xe s := by
  refine wpAny_call (codeAny_mono (F.run X.A X.stack s H ⟨us, kw⟩ ws vs Q (E σ) hr I.env0 hb r h) fun z s' hz => ?_)
  rcases z with er | fl
  · exact hx pins H s er s' I hz
  · cases fl with
    | ret u => exact I.after hz
    | _ => exact hz.elim
theorem run_mk {pins : List (Addr × Obj)} {σ : L2.St} {H : Hp} {s : Shared} {Q : VK} {us ws : List Value} {kw : List (Str × Value)} {vs : List V} (M : Mk X.K C f) (F : FnOk X.prog X.w X.K X.mg X.base CX k f fd ps sp) (hr : Room (k + 1) X.A)
    (hb : ∀ (a : Addr) (s : Shared), X.K.In s.heap → BindsTo s fd ⟨.ref a :: us, kw⟩ (ps.zip (.ref a :: ws))) (hx : PassesAt CX X σ (E σ)) (I : Inv X pins σ H s) (r : Vals vs ws)
    (h : ∀ a dx, H a = none → H dx = none → dx ≠ a → sp (.ref a :: vs) (upd (upd H dx (.own a)) a (.ins C dx [])) (fun v H2 => v = .non ∧ Q (.ref a) H2) (E σ)) :
    wpAny (model X.prog X.w) X.A (call (.ref C) us kw) (EP X pins σ Q) X.xe s := by
  let N := s.heap.objs.size
  have q := h (N + 1) N (I.hok.fresh (Nat.le_succ N)) (I.hok.fresh (Nat.le_refl N)) (Nat.ne_of_lt (Nat.lt_succ_self N))
  have J := Inv.made (C := C) I
  have rr : Vals (V.ref (N + 1) :: vs) (Value.ref (N + 1) :: ws) := .cons rfl r
  have B := F.run _ X.stack _ _ ⟨.ref (N + 1) :: us, kw⟩ (.ref (N + 1) :: ws) _ _ (E σ) (hr.make C us kw) (J.env0.make C us kw) (hb (N + 1) _ J.kIn) rr q
  refine wpAny_call (make_map (f := f) I.kIn M.makes M.init (beq_iff_eq.mp M.fn) (codeAny_mono B fun z s' hz => ?_))
  rcases z with er | fl
  · exact hx pins _ _ er s' J hz
  · cases fl with
    | ret u =>
      obtain ⟨v, H', J', rv, ev, q'⟩ := J.after hz
      subst ev
      exact ⟨rv, ⟨V.ref (N + 1), H', J', rfl, q'⟩⟩
    | _ => exact hz.elim
end
end Sep

/-! SepS: calls with keywords and defaults, makers, methods. -/
namespace Sep
open PySem L2
/-- pieces of some lists, told by list and place -/
def pk {α : Type} (tm : List (Nat × Nat)) (ls : List (List α)) : List α := tm.filterMap fun p => (ls[p.1]?).bind fun l => l[p.2]?
section
variable {G : Gm} {H : Hp} {O : List Addr} {L T : Hd} {σ : L2.St} {ρ ρ1 ρ2 : Sl} {W : WX}
theorem RepDs.at_ : ∀ {ds : List D} {xs : List V} {i : Nat}, RepDs G H O ds xs → (ds[i]? = none ∧ xs[i]? = none) ∨ ∃ d v, ds[i]? = some d ∧ xs[i]? = some v ∧ RepD G H O d v
  | ds, xs, i, h => by
    cases e : ds[i]? with
    | none =>
      refine .inl ⟨rfl, ?_⟩
      rw [List.getElem?_eq_none_iff] at e ⊢
      rw [h.length]; exact e
    | some d =>
      obtain ⟨v, e2, r⟩ := h.get e
      exact .inr ⟨d, v, rfl, e2, r⟩
theorem pk_rep {dss : List (List D)} {vss : List (List V)} (hl : dss.length = vss.length) (h : ∀ (i : Nat) ds vs, dss[i]? = some ds → vss[i]? = some vs → RepDs G H O ds vs) : ∀ tm, RepDs G H O (pk tm dss) (pk tm vss)
  | [] => rfl
  | p :: tm => by
    have ih := pk_rep hl h tm
    unfold pk at ih ⊢
    rw [List.filterMap_cons, List.filterMap_cons]
    cases e1 : dss[p.1]? with
    | none =>
      have e2 : vss[p.1]? = none := by
        rw [List.getElem?_eq_none_iff] at e1 ⊢; omega
      rw [e2]; exact ih
    | some ds =>
      obtain ⟨vs, e2⟩ : ∃ vs, vss[p.1]? = some vs := by
        have := (List.getElem?_eq_some_iff.mp e1).1
        exact ⟨vss[p.1]'(by omega), List.getElem?_eq_getElem (by omega)⟩
      rw [e2]
      rcases (h _ _ _ e1 e2).at_ (i := p.2) with ⟨q1, q2⟩ | ⟨d, v, q1, q2, r⟩
      · simp only [Option.bind_some, q1, q2]; exact ih
      · simp only [Option.bind_some, q1, q2]; exact ⟨v, _, rfl, r, ih⟩
theorem Hold.datas : ∀ {ds : List D} {vs : List V}, vs.length = ds.length → Hold G H O (vs.zip (shs ds) ++ L) → RepDs G H O ds vs ∧ Hold G H O L := fun {ds vs} hl h => by
  obtain ⟨h1, h2⟩ := h
  have go : ∀ (ds : List D) (vs : List V) (os : List Addr), vs.length = ds.length → RepL G H O (vs.zip (shs ds) ++ L) os → RepDs G H O ds vs ∧ RepL G H O L os := fun ds => by
    induction ds with
    | nil =>
      intro vs os hl h
      cases vs with
      | nil => exact ⟨rfl, h⟩
      | cons v vs => cases hl
    | cons d ds ih =>
      intro vs os hl h
      cases vs with
      | nil => cases hl
      | cons v vs =>
        obtain ⟨o1, o2, eo, ⟨e1, hd⟩, h3⟩ := h
        obtain ⟨a, b⟩ := ih vs o2 (by simpa using hl) h3
        subst e1
        have : os = o2 := eo
        subst this
        exact ⟨⟨v, vs, rfl, hd, a⟩, b⟩
  obtain ⟨a, b⟩ := go ds vs O hl h1
  exact ⟨a, b, h2⟩
theorem Hold.adds : ∀ {ds : List D} {vs : List V}, RepDs G H O ds vs → Hold G H O L → Hold G H O (vs.zip (shs ds) ++ L)
  | [], vs, h, k => by rw [show vs = [] from h]; exact k
  | d :: ds, vs, ⟨v, r, e, h1, h2⟩, k => by subst e; exact (Hold.adds h2 k).add' h1
/-- what is wanted of a call's outcome -/
def PostC (G : Gm) (σ : L2.St) (ρ : Sl) (T : Hd) (Q : VK) (E : XK) : Out Slot → Prop
  | .ok s _ => ∀ v H', SR G σ ρ ((v, s) :: T) H' → Q v H'
  | .exc c ns es _ => ∀ d H', SR G σ ρ ((.ref d, .sh (.xd ns es)) :: T) H' → E (.ref (G.cls c)) (some d) H'
  | .stuck => False
theorem core {F : FnD} {N : Nat} {ds es : List D} {vs us : List V} {Q : VK} {E : XK} (sr : SR G σ ρ2 (vs.zip (shs ds) ++ T) H) (hl : vs.length = ds.length) (hr : ∀ O, RepDs G H O ds vs → RepDs G H O es us) (hN : es.length = N) (p : PostC G σ ρ2 T Q E (F (shs es))) : spF G N F us H Q E := by
  obtain ⟨O, h⟩ := sr.h.perm (L' := vs.zip (shs ds) ++ (envL σ ρ2 ++ T)) (by
    rw [← List.append_assoc, ← List.append_assoc]
    exact List.perm_append_comm.append_right T)
  obtain ⟨rd, h0⟩ := h.datas hl
  have re := hr O rd
  have lu := re.length
  refine ⟨by rw [lu, hN], shs es, envL σ ρ2 ++ T, G.fr, ⟨O, h0.adds re⟩, by rw [List.length_map, hN], ?_⟩
  have back : ∀ {H' : Hp} {y : V × Slot} {fs : Sl}, Holds G H' (y :: (us.zip fs ++ (envL σ ρ2 ++ T))) → SR G σ ρ2 (y :: T) H' := fun {H' y fs} h => by
    have h2 : Holds G H' (us.zip fs ++ (y :: (envL σ ρ2 ++ T))) := h.perm List.perm_middle.symm
    exact ⟨h2.dropL.perm List.perm_middle.symm, sr.len, sr.as⟩
  cases ef : F (shs es) with
  | stuck => rw [ef] at p; exact p.elim
  | ok s fs => rw [ef] at p; exact fun v H' h => p v H' (back h)
  | exc c ns es fs => rw [ef] at p; exact fun d H' h => p d H' (back h)
theorem Hold.newO {p dx : Addr} {c : Str} (h : Hold G H O L) (hp : H p = none) (hd : H dx = none) (ne : dx ≠ p) : Holds G (upd (upd H dx (.own p)) p (.ins (G.cls c) dx [])) ((.ref p, .obj c [] []) :: L) := by
  have same : ∀ b o, H b = some o → upd (upd H dx (.own p)) p (.ins (G.cls c) dx []) b = some o := fun b o e => by
    rw [upd_ne (fun z => by rw [z, hp] at e; cases e), upd_ne (fun z => by rw [z, hd] at e; cases e)]; exact e
  have k : Keep [] H (upd (upd H dx (.own p)) p (.ins (G.cls c) dx [])) := fun b o e _ => same b o e
  obtain ⟨h1, OF, hf, nd⟩ := h
  have np : p ∉ O := fun z => h1.there p z hp
  have np2 : p ∉ OF := fun z => hf.there p z hp
  refine ⟨p :: O, ⟨[p], O, rfl, ⟨p, dx, [], [], rfl, rfl, upd_same, rfl, rfl, rfl⟩, ?_⟩, OF, ?_, ?_⟩
  · exact RepL.step k (fun a z => by cases z) (fun a z => by
      rcases List.mem_cons.mp z with e | e
      · exact .inr (by rw [e]; exact hp)
      · exact .inl e) h1 fun a _ z => by cases z
  · exact RepF.step k (fun a z => by cases z) (fun a z => by
      rcases List.mem_cons.mp z with e | e
      · exact .inr (by rw [e]; exact hp)
      · exact .inl e) hf fun a _ z => by cases z
  · rw [List.cons_append, List.nodup_cons]
    exact ⟨fun z => by
      rcases List.mem_append.mp z with e | e
      · exact np e
      · exact np2 e, nd⟩
/-- what is wanted of a maker's outcome -/
def PostM (G : Gm) (σ : L2.St) (ρ : Sl) (T : Hd) (Q : VK) (E : XK) : Out Slot → Prop
  | .ok (.sh .non) (s :: _) => ∀ v H', SR G σ ρ ((v, s) :: T) H' → Q v H'
  | .exc c ns es _ => ∀ d H', SR G σ ρ ((.ref d, .sh (.xd ns es)) :: T) H' → E (.ref (G.cls c)) (some d) H'
  | _ => False
theorem coreM {F : FnD} {N : Nat} {ds es : List D} {vs us : List V} {Q : VK} {E : XK} {c : Str} {p dx : Addr} (sr : SR G σ ρ2 (vs.zip (shs ds) ++ T) H) (hl : vs.length = ds.length) (hr : ∀ O, RepDs G H O ds vs → RepDs G H O es us) (hN : es.length + 1 = N) (hp : H p = none) (hd : H dx = none) (ne : dx ≠ p)
    (po : PostM G σ ρ2 T Q E (F (.obj c [] [] :: shs es))) : spF G N F (.ref p :: us) (upd (upd H dx (.own p)) p (.ins (G.cls c) dx [])) (fun v H3 => v = .non ∧ Q (.ref p) H3) E := by
  obtain ⟨O, h⟩ := sr.h.perm (L' := vs.zip (shs ds) ++ (envL σ ρ2 ++ T)) (by
    rw [← List.append_assoc, ← List.append_assoc]
    exact List.perm_append_comm.append_right T)
  obtain ⟨rd, h0⟩ := h.datas hl
  have re := hr O rd
  have lu := re.length
  refine ⟨by rw [List.length_cons, lu, hN], .obj c [] [] :: shs es, envL σ ρ2 ++ T, G.fr, Hold.newO (h0.adds re) hp hd ne, by rw [List.length_cons, List.length_map, hN], ?_⟩
  have back : ∀ {H' : Hp} {y : V × Slot} {fs : Sl}, Holds G H' (y :: (us.zip fs ++ (envL σ ρ2 ++ T))) → SR G σ ρ2 (y :: T) H' := fun {H' y fs} h => by
    have h2 : Holds G H' (us.zip fs ++ (y :: (envL σ ρ2 ++ T))) := h.perm List.perm_middle.symm
    exact ⟨h2.dropL.perm List.perm_middle.symm, sr.len, sr.as⟩
  cases ef : F (.obj c [] [] :: shs es) with
  | stuck => rw [ef] at po; exact po.elim
  | exc c ns es fs =>
    rw [ef] at po
    refine fun d H' h => po d H' (back (fs := fs.tail) ?_)
    cases fs with
    | nil =>
      have z1 : (V.ref p :: us).zip ([] : Sl) = [] := by simp
      have z2 : us.zip ([] : Sl) = [] := by simp
      rw [z1] at h
      show Holds G H' (_ :: (us.zip ([] : Sl) ++ _))
      rw [z2]; exact h
    | cons s fs => exact (Holds.perm h (.swap _ _ _)).tail
  | ok s fs =>
    rw [ef] at po
    cases s <;> first | (exact po.elim) | skip
    rename_i d
    cases d <;> first | (exact po.elim) | skip
    cases fs with
    | nil => exact po.elim
    | cons s0 fs =>
      intro v H' h
      have ev : v = .non := by
        obtain ⟨O, ⟨o1, o2, eo, h1, _⟩, _⟩ := h
        exact h1.2
      exact ⟨ev, po _ H' (back (fs := fs) h.tail)⟩
end
/-! ### the combinators -/
/-- what a call's outcome is at the caller -/
def retC (ρ : Sl) : Out Slot → Out R
  | .ok s _ => .ok (.v s) ρ
  | .exc c ns es _ => .exc c ns es ρ
  | .stuck => .stuck
def retM (ρ : Sl) : Out Slot → Out R
  | .ok (.sh .non) (s :: _) => .ok (.v s) ρ
  | .exc c ns es _ => .exc c ns es ρ
  | _ => .stuck
section
variable {G : Gm} {H : Hp} {O : List Addr} {L T : Hd} {σ : L2.St} {ρ ρ1 ρ2 : Sl} {W : WX} {Q : VK}
theorem PostC.of {o : Out Slot} (p : Post G W σ T (Rt G σ T Q) (retC ρ o)) : PostC G σ ρ T Q (WE W σ) o := by
  cases o with
  | ok s fs => exact fun v H' h => p v H' h trivial
  | exc c ns es fs => exact fun d H' h => p d H' h
  | stuck => exact p
theorem PostM.of {o : Out Slot} (p : Post G W σ T (Rt G σ T Q) (retM ρ o)) : PostM G σ ρ T Q (WE W σ) o := by
  cases o with
  | ok s fs =>
    cases s <;> first | (exact p.elim) | skip
    rename_i d
    cases d <;> first | (exact p.elim) | skip
    cases fs with
    | nil => exact p.elim
    | cons s0 fs => exact fun v H' h => p v H' h trivial
  | exc c ns es fs => exact fun d H' h => p d H' h
  | stuck => exact p
end
/-- values for the defaults -/
structure Dfl (G : Gm) (dD : List D) (dV : List V) : Prop where
  rep : ∀ H O, RepDs G H O dD dV
/-- positional values, positional defaults, keyword-only defaults, keywords -/
abbrev mix {α : Type} (tm : List (Nat × Nat)) (n : Nat) (dv mv xs : List α) : List α := pk tm [xs.take n, dv, mv, xs.drop n]
theorem mix_rep {G : Gm} {H : Hp} {O : List Addr} {tm : List (Nat × Nat)} {n : Nat} {dD mD ds : List D} {dV mV vs : List V} (hd : Dfl G dD dV) (hm : Dfl G mD mV) (h : RepDs G H O ds vs) : RepDs G H O (mix tm n dD mD ds) (mix tm n dV mV vs) := by
  refine pk_rep rfl (fun i a b e1 e2 => ?_) tm
  match i, e1, e2 with
  | 0, e1, e2 => cases e1; cases e2; exact h.take
  | 1, e1, e2 => cases e1; cases e2; exact hd.rep H O
  | 2, e1, e2 => cases e1; cases e2; exact hm.rep H O
  | 3, e1, e2 => cases e1; cases e2; exact h.drop
/-- f(e, .., k = v, ..): N parameters, n positional values -/
def eCallK (N n : Nat) (tm : List (Nat × Nat)) (dD mD : List D) (F : FnD) (fs fz : Sl → Out (List R)) : Ev := fun ρ => (fs ρ).bind fun rs ρ1 => (fz ρ1).bind fun zs ρ2 => (consAll (rs ++ zs) ρ2).bind fun ds ρ3 =>
  if rs.length = n ∧ (mix tm n dD mD ds).length = N then retC ρ3 (F (shs (mix tm n dD mD ds))) else .stuck
def eMakeK (c : Str) (N n : Nat) (tm : List (Nat × Nat)) (dD mD : List D) (F : FnD) (fs fz : Sl → Out (List R)) : Ev := fun ρ => (fs ρ).bind fun rs ρ1 => (fz ρ1).bind fun zs ρ2 => (consAll (rs ++ zs) ρ2).bind fun ds ρ3 =>
  if rs.length = n ∧ (mix tm n dD mD ds).length + 1 = N then retM ρ3 (F (.obj c [] [] :: shs (mix tm n dD mD ds))) else .stuck
def eMethK (cs : Str) (m : Str) (N n : Nat) (tm : List (Nat × Nat)) (dD mD : List D) (F : FnD) (fo : Ev) (fs : Sl → Out (List R)) : Ev := fun ρ => (fo ρ).bind fun r ρ1 => match look r ρ1 with
  | some (.obj c ns _) => if c = cs ∧ ns.contains m = false then ((fs ρ1).bind fun rs ρ2 => (consAll (r :: rs) ρ2).bind fun ds ρ3 =>
      if rs.length = n ∧ (mix tm n dD mD ds.tail).length + 1 = N then retC ρ3 (F (shs (ds.headD .non :: mix tm n dD mD ds.tail))) else .stuck) else .stuck
  | _ => .stuck
/-- x(..), x an instance -/
def eObjK (cs : Str) (N n : Nat) (F : FnD) (fo : Ev) (fs : Sl → Out (List R)) : Ev := fun ρ => (fo ρ).bind fun r ρ1 => (fs ρ1).bind fun rs ρ2 => match look r ρ2 with
  | some (.obj c _ _) => if c = cs then ((consAll (r :: rs) ρ2).bind fun ds ρ3 => if rs.length = n ∧ ds.length = N then retC ρ3 (F (shs ds)) else .stuck) else .stuck
  | _ => .stuck
section
variable {X : Cx} {G : Gm} {W : WX} {a b o : Expr} {es : List Expr} {ta tb : TE} {t tk : TA} {fo : Ev} {fs fz : Sl → Out (List R)} {F : FnD} {N n : Nat} {tm : List (Nat × Nat)} {dD mD : List D} {dV mV : List V}
theorem zipR_app {vs zs : List V} {rs rz : List R} (h : vs.length = rs.length) : zipR (vs ++ zs) (rs ++ rz) = zipR vs rs ++ zipR zs rz := by
  unfold zipR
  rw [List.map_append, List.zip_append (by rw [List.length_map, h])]
theorem Ats.len {σ : L2.St} : ∀ {rs : List R} {vs : List V}, Ats σ rs vs → vs.length = rs.length
  | [], vs, a => by cases (show vs = [] from a); rfl
  | r :: rs, vs, ⟨v, w, e, _, h⟩ => by subst e; rw [List.length_cons, List.length_cons, Ats.len h]
theorem Ats.app {σ : L2.St} : ∀ {rs rz : List R} {vs zs : List V}, Ats σ rs vs → Ats σ rz zs → Ats σ (rs ++ rz) (vs ++ zs)
  | [], rz, vs, zs, a, b => by cases (show vs = [] from a); exact b
  | r :: rs, rz, vs, zs, ⟨v, w, e, h1, h⟩, b => by subst e; exact ⟨v, w ++ zs, rfl, h1, Ats.app h b⟩
/-- both kinds of arguments, as data -/
theorem args2 {σ : L2.St} {H : Hp} {ρ2 ρ3 : Sl} {T : Hd} {vs zs : List V} {rs rz : List R} {ds : List D} (sr : SR G σ ρ2 (zipR zs rz ++ (zipR vs rs ++ T)) H) (a : Ats σ rs vs) (a2 : Ats σ rz zs) (e : consAll (rs ++ rz) ρ2 = .ok ds ρ3) : SR G σ ρ3 ((vs ++ zs).zip (shs ds) ++ T) H ∧ (vs ++ zs).length = ds.length := by
  refine SR.takes (sr.permT ?_) (a.app a2) e
  rw [zipR_app a.len, List.append_assoc, ← List.append_assoc, ← List.append_assoc]
  exact List.perm_append_comm.append_right T
abbrev gMix (tm : List (Nat × Nat)) (dV mV : List V) : List V → List V → List V := fun vs zs => pk tm [vs, dV, mV, zs]
theorem ok_callK (hd : Dfl G dD dV) (hm : Dfl G mD mV) (A : ArOk G W t fs) (B : ArOk G W tk fz) (m : Nat) (hm2 : ∀ ρ rs ρ', fz ρ = .ok rs ρ' → rs.length = m) :
    EvOk G W (fun σ H Q => t σ H fun vs H1 => tk σ H1 fun zs H2 => vs.length = n ∧ zs.length = m ∧ spF G N F (gMix tm dV mV vs zs) H2 Q (WE W σ)) (eCallK N n tm dD mD F fs fz) := by
  intro σ H ρ T Q sr p
  refine A σ H ρ T _ sr ((Post.bind p).imp fun rs ρ1 p1 vs H1 sr1 a1 => ?_)
  refine B σ H1 ρ1 (zipR vs rs ++ T) _ sr1 ?_
  have p1' : Post G W σ T _ (fz ρ1) := Post.bind p1
  cases ez : fz ρ1 with
  | stuck => rw [ez] at p1'; exact p1'.elim
  | exc c ns es ρ2 =>
    rw [ez] at p1'
    exact fun d H' h => p1' d H' (by
      have h2 : SR G σ ρ2 (zipR vs rs ++ ((.ref d, .sh (.xd ns es)) :: T)) H' := h.permT List.perm_middle.symm
      exact ⟨by
        obtain ⟨hh, _, _⟩ := h2
        exact (Holds.dropL (L := zipR vs rs) (hh.perm (by
          rw [← List.append_assoc, ← List.append_assoc]
          exact List.perm_append_comm.append_right _))), h2.len, h2.as⟩)
  | ok rz ρ2 =>
    rw [ez] at p1'
    intro zs H2 sr2 a2
    rcases consAll_or (rs ++ rz) ρ2 with ⟨ds, ρ3, e⟩ | e
    · have p2 : Post G W σ T (Rt G σ T Q) ((consAll (rs ++ rz) ρ2).bind _) := p1'
      simp only [e, Out.bind] at p2
      obtain ⟨sr3, hl⟩ := args2 sr2 a1 a2 e
      split at p2
      · rename_i hn
        have lv : vs.length = n := by rw [a1.len, hn.1]
        refine ⟨lv, by rw [a2.len]; exact hm2 _ _ _ ez, core sr3 hl (fun O r => ?_) hn.2 (PostC.of p2)⟩
        have := mix_rep (tm := tm) (n := n) hd hm r
        have e1 : (vs ++ zs).take n = vs := by rw [← lv]; simp
        have e2 : (vs ++ zs).drop n = zs := by rw [← lv]; simp
        unfold mix at this
        rw [e1, e2] at this
        exact this
      · exact p2.elim
    · have p2 : Post G W σ T (Rt G σ T Q) ((consAll (rs ++ rz) ρ2).bind _) := p1'
      simp only [e, Out.bind] at p2; exact p2.elim
theorem ok_makeK {c : Str} (hd : Dfl G dD dV) (hm : Dfl G mD mV) (A : ArOk G W t fs) (B : ArOk G W tk fz) (m : Nat) (hm2 : ∀ ρ rs ρ', fz ρ = .ok rs ρ' → rs.length = m) :
    EvOk G W (fun σ H Q => t σ H fun vs H1 => tk σ H1 fun zs H2 => vs.length = n ∧ zs.length = m ∧ ∀ x dx, H2 x = none → H2 dx = none → dx ≠ x → spF G N F (.ref x :: gMix tm dV mV vs zs) (upd (upd H2 dx (.own x)) x (.ins (G.cls c) dx [])) (fun v H3 => v = .non ∧ Q (.ref x) H3) (WE W σ)) (eMakeK c N n tm dD mD F fs fz) := by
  intro σ H ρ T Q sr p
  refine A σ H ρ T _ sr ((Post.bind p).imp fun rs ρ1 p1 vs H1 sr1 a1 => ?_)
  refine B σ H1 ρ1 (zipR vs rs ++ T) _ sr1 ?_
  have p1' : Post G W σ T _ (fz ρ1) := Post.bind p1
  cases ez : fz ρ1 with
  | stuck => rw [ez] at p1'; exact p1'.elim
  | exc c ns es ρ2 =>
    rw [ez] at p1'
    exact fun d H' h => p1' d H' (by
      have h2 : SR G σ ρ2 (zipR vs rs ++ ((.ref d, .sh (.xd ns es)) :: T)) H' := h.permT List.perm_middle.symm
      exact ⟨by
        obtain ⟨hh, _, _⟩ := h2
        exact (Holds.dropL (L := zipR vs rs) (hh.perm (by
          rw [← List.append_assoc, ← List.append_assoc]
          exact List.perm_append_comm.append_right _))), h2.len, h2.as⟩)
  | ok rz ρ2 =>
    rw [ez] at p1'
    intro zs H2 sr2 a2
    rcases consAll_or (rs ++ rz) ρ2 with ⟨ds, ρ3, e⟩ | e
    · have p2 : Post G W σ T (Rt G σ T Q) ((consAll (rs ++ rz) ρ2).bind _) := p1'
      simp only [e, Out.bind] at p2
      obtain ⟨sr3, hl⟩ := args2 sr2 a1 a2 e
      split at p2
      · rename_i hn
        have lv : vs.length = n := by rw [a1.len, hn.1]
        refine ⟨lv, by rw [a2.len]; exact hm2 _ _ _ ez, fun x dx hx hdx ne => coreM sr3 hl (fun O r => ?_) hn.2 hx hdx ne (PostM.of p2)⟩
        have := mix_rep (tm := tm) (n := n) hd hm r
        have e1 : (vs ++ zs).take n = vs := by rw [← lv]; simp
        have e2 : (vs ++ zs).drop n = zs := by rw [← lv]; simp
        unfold mix at this
        rw [e1, e2] at this
        exact this
      · exact p2.elim
    · have p2 : Post G W σ T (Rt G σ T Q) ((consAll (rs ++ rz) ρ2).bind _) := p1'
      simp only [e, Out.bind] at p2; exact p2.elim
end
end Sep

/-! SepT: the rules of such calls. -/
namespace Sep
open PySem L2
theorem Vals.at_ : ∀ {xs : List V} {us : List Value} {i : Nat}, Vals xs us → (xs[i]? = none ∧ us[i]? = none) ∨ ∃ x u, xs[i]? = some x ∧ us[i]? = some u ∧ RelV x u
  | _, _, i, .nil => .inl ⟨by simp, by simp⟩
  | _, _, 0, .cons h _ => .inr ⟨_, _, rfl, rfl, h⟩
  | _, _, i + 1, .cons _ t => by
    rw [List.getElem?_cons_succ, List.getElem?_cons_succ]
    exact Vals.at_ t
theorem pk_vals {vss : List (List V)} {uss : List (List Value)} (hl : vss.length = uss.length) (h : ∀ (i : Nat) vs us, vss[i]? = some vs → uss[i]? = some us → Vals vs us) : ∀ tm, Vals (pk tm vss) (pk tm uss)
  | [] => .nil
  | p :: tm => by
    have ih := pk_vals hl h tm
    unfold pk at ih ⊢
    rw [List.filterMap_cons, List.filterMap_cons]
    cases e1 : vss[p.1]? with
    | none =>
      have e2 : uss[p.1]? = none := by
        rw [List.getElem?_eq_none_iff] at e1 ⊢; omega
      rw [e2]; exact ih
    | some ds =>
      obtain ⟨vs, e2⟩ : ∃ vs, uss[p.1]? = some vs := by
        have := (List.getElem?_eq_some_iff.mp e1).1
        exact ⟨uss[p.1]'(by omega), List.getElem?_eq_getElem (by omega)⟩
      rw [e2]
      rcases Vals.at_ (i := p.2) (h _ _ _ e1 e2) with ⟨q1, q2⟩ | ⟨d, v, q1, q2, r⟩
      · simp only [Option.bind_some, q1, q2]; exact ih
      · simp only [Option.bind_some, q1, q2]; exact .cons r ih
/-- how a def binds n positional values (behind s that come by themselves) and keywords -/
structure KBm (K : PySem.W.Frag) (fd : FuncData) (ps : List Str) (s n : Nat) (ks : List Str) (tm : List (Nat × Nat)) (dV mV : List V) : Prop where
  to : ∃ dU mU : List Value, Vals dV dU ∧ Vals mV mU ∧ ∀ (sf : List Value) (sh : Shared) (us ws : List Value), sf.length = s → K.In sh.heap → us.length = n → ws.length = ks.length → BindsTo sh fd ⟨sf ++ us, ks.zip ws⟩ (ps.zip (sf ++ pk tm [us, dU, mU, ws]))
section
variable {K : PySem.W.Frag} {fd : FuncData} {ps ks : List Str} {s n : Nat} {tm : List (Nat × Nat)} {dV mV vs zs : List V} {us ws : List Value}
theorem mix_vals {dU mU : List Value} (hd : Vals dV dU) (hm : Vals mV mU) (h : Vals vs us) (hz : Vals zs ws) : Vals (pk tm [vs, dV, mV, zs]) (pk tm [us, dU, mU, ws]) := by
  refine pk_vals rfl (fun i a b e1 e2 => ?_) tm
  match i, e1, e2 with
  | 0, e1, e2 => cases e1; cases e2; exact h
  | 1, e1, e2 => cases e1; cases e2; exact hd
  | 2, e1, e2 => cases e1; cases e2; exact hm
  | 3, e1, e2 => cases e1; cases e2; exact hz
end
section
variable {X : Cx} {CX : CXT} {k n N : Nat} {f C : Addr} {fd : FuncData} {ps ks : List Str} {sp : Sp} {E : L2.St → XK} {x m : Str} {p pos apos : Pos} {e o : Expr} {es : List Expr} {ta : TE} {t tk : TA} {kws : List Keyword} {tm : List (Nat × Nat)} {dV mV : List V}
/-- readings -/
def tFnK (sp : Sp) (E : L2.St → XK) (n m : Nat) (tm : List (Nat × Nat)) (dV mV : List V) (t tk : TA) : TE := fun σ H Q => t σ H fun vs H1 => tk σ H1 fun zs H2 => vs.length = n ∧ zs.length = m ∧ sp (gMix tm dV mV vs zs) H2 Q (E σ)
def tMkK (C : Addr) (sp : Sp) (E : L2.St → XK) (n m : Nat) (tm : List (Nat × Nat)) (dV mV : List V) (t tk : TA) : TE := fun σ H Q => t σ H fun vs H1 => tk σ H1 fun zs H2 => vs.length = n ∧ zs.length = m ∧ ∀ x dx, H2 x = none → H2 dx = none → dx ≠ x → sp (.ref x :: gMix tm dV mV vs zs) (upd (upd H2 dx (.own x)) x (.ins C dx [])) (fun v H3 => v = .non ∧ Q (.ref x) H3) (E σ)
theorem pe_fnK (F : FnOk X.prog X.w X.K X.mg X.base CX k f fd ps sp) (hr : Room k X.A) (hg : Gl X x) (hm : X.mg x = some (.ref f)) (hk : PySem.W.keepIn X.K (.ref f) = true) (hb : KBm X.K fd ps 0 n ks tm dV mV) (hx : ∀ σ, PassesAt CX X σ (E σ)) (ha : PA X (e :: es) t) (hkw : PK X kws tk)
    (hall : (backToKw pos (keywordEach kws X.env)).all (·.1.isSome) = true := by rfl) (hks : (backToKw pos (keywordEach kws X.env)).filterMap (·.1) = ks := by rfl) (hdb : (x == ("__debug__" : Str)) = false := by decide)
    (he : starEach (e :: es) X.env = (false, eval e X.env) :: starEach es X.env := by rfl) (hpl : ((backTo pos (starEach (e :: es) X.env)).any (·.1) || (backToKw pos (keywordEach kws X.env)).any (·.1.isNone)) = false := by rfl) :
    PE X (.Call (.Name x p) (e :: es) kws pos) (tFnK sp E n ks.length tm dV mV t tk) := by
  refine ⟨fun pins s σ H Q I h => wpAny_Call_Name_kw (ld_glob I hg hm (PySem.W.callWith_KW (h₀ := X.base) I.ok.mod.kin hk hall ?_ hpl he) hdb)⟩
  refine thn (ha.run pos pins s σ H _ I h) fun us s1 z1 => ?_
  obtain ⟨vs, H1, I1, r, q⟩ := z1
  refine thn (hkw.run pos pins s1 σ H1 _ I1 q) fun ws s2 z2 => ?_
  obtain ⟨zs, H2, I2, rz, l1, l2, q2⟩ := z2
  refine ⟨I2.kIn, ?_⟩
  obtain ⟨dU, mU, hd, hmv, to⟩ := hb.to
  rw [hks]
  exact run_gen F hr (to [] s2 us ws rfl I2.kIn (by rw [← r.length, l1]) (by rw [← rz.length, l2])) (hx σ) I2 (mix_vals hd hmv r rz) q2
theorem pe_fnK0 (F : FnOk X.prog X.w X.K X.mg X.base CX k f fd ps sp) (hr : Room k X.A) (hg : Gl X x) (hm : X.mg x = some (.ref f)) (hk : PySem.W.keepIn X.K (.ref f) = true) (hb : KBm X.K fd ps 0 0 ks tm dV mV) (hx : ∀ σ, PassesAt CX X σ (E σ)) (hkw : PK X kws tk)
    (hall : (backToKw pos (keywordEach kws X.env)).all (·.1.isSome) = true := by rfl) (hks : (backToKw pos (keywordEach kws X.env)).filterMap (·.1) = ks := by rfl) (hdb : (x == ("__debug__" : Str)) = false := by decide)
    (hpl : ((backTo pos (starEach [] X.env)).any (·.1) || (backToKw pos (keywordEach kws X.env)).any (·.1.isNone)) = false := by rfl) :
    PE X (.Call (.Name x p) [] kws pos) (tFnK sp E 0 ks.length tm dV mV tNil tk) := by
  refine ⟨fun pins s σ H Q I h => wpAny_Call_Name_kw (ld_glob I hg hm (PySem.W.callWith_KW0 (h₀ := X.base) I.ok.mod.kin hk hall ?_ hpl) hdb)⟩
  refine thn (hkw.run pos pins s σ H _ I h) fun ws s2 z2 => ?_
  obtain ⟨zs, H2, I2, rz, l1, l2, q2⟩ := z2
  refine ⟨I2.kIn, ?_⟩
  obtain ⟨dU, mU, hd, hmv, to⟩ := hb.to
  rw [hks]
  exact run_gen F hr (to [] s2 [] ws rfl I2.kIn rfl (by rw [← rz.length, l2])) (hx σ) I2 (mix_vals hd hmv .nil rz) q2
theorem pe_mkK (M : Mk X.K C f) (F : FnOk X.prog X.w X.K X.mg X.base CX k f fd ps sp) (hr : Room (k + 1) X.A) (hg : Gl X x) (hm : X.mg x = some (.ref C)) (hb : KBm X.K fd ps 1 n ks tm dV mV) (hx : ∀ σ, PassesAt CX X σ (E σ)) (ha : PA X (e :: es) t) (hkw : PK X kws tk)
    (hall : (backToKw pos (keywordEach kws X.env)).all (·.1.isSome) = true := by rfl) (hks : (backToKw pos (keywordEach kws X.env)).filterMap (·.1) = ks := by rfl) (hdb : (x == ("__debug__" : Str)) = false := by decide)
    (he : starEach (e :: es) X.env = (false, eval e X.env) :: starEach es X.env := by rfl) (hpl : ((backTo pos (starEach (e :: es) X.env)).any (·.1) || (backToKw pos (keywordEach kws X.env)).any (·.1.isNone)) = false := by rfl) :
    PE X (.Call (.Name x p) (e :: es) kws pos) (tMkK C sp E n ks.length tm dV mV t tk) := by
  refine ⟨fun pins s σ H Q I h => wpAny_Call_Name_kw (ld_glob I hg hm (PySem.W.callWith_KW (h₀ := X.base) I.ok.mod.kin M.kp hall ?_ hpl he) hdb)⟩
  refine thn (ha.run pos pins s σ H _ I h) fun us s1 z1 => ?_
  obtain ⟨vs, H1, I1, r, q⟩ := z1
  refine thn (hkw.run pos pins s1 σ H1 _ I1 q) fun ws s2 z2 => ?_
  obtain ⟨zs, H2, I2, rz, l1, l2, q2⟩ := z2
  refine ⟨I2.kIn, ?_⟩
  obtain ⟨dU, mU, hd, hmv, to⟩ := hb.to
  rw [hks]
  exact run_mk M F hr (fun a sh hK => to [.ref a] sh us ws rfl hK (by rw [← r.length, l1]) (by rw [← rz.length, l2])) (hx σ) I2 (mix_vals hd hmv r rz) q2
theorem pe_mkK0 (M : Mk X.K C f) (F : FnOk X.prog X.w X.K X.mg X.base CX k f fd ps sp) (hr : Room (k + 1) X.A) (hg : Gl X x) (hm : X.mg x = some (.ref C)) (hb : KBm X.K fd ps 1 0 ks tm dV mV) (hx : ∀ σ, PassesAt CX X σ (E σ)) (hkw : PK X kws tk)
    (hall : (backToKw pos (keywordEach kws X.env)).all (·.1.isSome) = true := by rfl) (hks : (backToKw pos (keywordEach kws X.env)).filterMap (·.1) = ks := by rfl) (hdb : (x == ("__debug__" : Str)) = false := by decide)
    (hpl : ((backTo pos (starEach [] X.env)).any (·.1) || (backToKw pos (keywordEach kws X.env)).any (·.1.isNone)) = false := by rfl) :
    PE X (.Call (.Name x p) [] kws pos) (tMkK C sp E 0 ks.length tm dV mV tNil tk) := by
  refine ⟨fun pins s σ H Q I h => wpAny_Call_Name_kw (ld_glob I hg hm (PySem.W.callWith_KW0 (h₀ := X.base) I.ok.mod.kin M.kp hall ?_ hpl) hdb)⟩
  refine thn (hkw.run pos pins s σ H _ I h) fun ws s2 z2 => ?_
  obtain ⟨zs, H2, I2, rz, l1, l2, q2⟩ := z2
  refine ⟨I2.kIn, ?_⟩
  obtain ⟨dU, mU, hd, hmv, to⟩ := hb.to
  rw [hks]
  exact run_mk M F hr (fun a sh hK => to [.ref a] sh [] ws rfl hK rfl (by rw [← rz.length, l2])) (hx σ) I2 (mix_vals hd hmv .nil rz) q2
/-- o.m(e, ..) -/
def tMeS (C : Addr) (m : Str) (sp : Sp) (E : L2.St → XK) (n : Nat) (tm : List (Nat × Nat)) (dV mV : List V) (ta : TE) (t : TA) : TE := fun σ H Q => ta σ H fun x H1 => ∃ a dx fs, x = .ref a ∧ H1 a = some (.ins C dx fs) ∧ fs.lookup m = none ∧ t σ H1 fun vs H2 => vs.length = n ∧ sp (.ref a :: gMix tm dV mV vs []) H2 Q (E σ)
theorem pe_meS {pl : Sem Bool} (he : PE X o ta) (c : Cls X.K C) (hm : Meth X.K C m f) (F : FnOk X.prog X.w X.K X.mg X.base CX k f fd ps sp) (hr : Room k X.A) (hb : KBm X.K fd ps 1 n [] tm dV mV) (hx : ∀ σ, PassesAt CX X σ (E σ)) (ha : PA X (e :: es) t)
    (hst : starEach (e :: es) X.env = (false, eval e X.env) :: starEach es X.env := by rfl) (hpl : (backTo pos (starEach es X.env)).any (·.1) = false := by rfl)
    (ht : eval (.Call (.Attribute o m apos) (e :: es) [] pos) X.env = (do
      let ov ← eval o X.env
      standAt apos.atName
      let (f, first) ← holding [ov] (getMethod ov m pl)
      callWith pos f first (backTo pos (starEach (e :: es) X.env)) (backToKw pos (keywordEach [] X.env))) := by rfl) :
    PE X (.Call (.Attribute o m apos) (e :: es) [] pos) (tMeS C m sp E n tm dV mV ta t) := by
  refine ⟨fun pins s σ H Q I h => PySem.W.methodCall_KW (pl := pl) (thn (he.run pins s σ H _ I h) fun u s1 z => ?_) ht⟩
  obtain ⟨x, H1, I1, rx, a, dx, fs, ex, ea, l, q⟩ := z
  subst ex
  obtain rfl : u = Value.ref a := rx
  refine getmeth_ok I1 ea c hm l (PySem.W.callWith_K (first := [.ref a]) (h₀ := X.base) I.ok.mod.kin hm.kp (thn (ha.run pos pins s1 σ H1 _ I1 q) fun us s2 z2 => ?_) hst hpl)
  obtain ⟨vs, H2, I2, r, l1, q2⟩ := z2
  refine ⟨I2.kIn, ?_⟩
  obtain ⟨dU, mU, hd, hmv, to⟩ := hb.to
  have B := to [.ref a] s2 us [] rfl I2.kIn (by rw [← r.length, l1]) rfl
  have rr : Vals (V.ref a :: gMix tm dV mV vs []) (Value.ref a :: pk tm [us, dU, mU, []]) := .cons rfl (mix_vals hd hmv r .nil)
  exact run_gen F hr B (hx σ) I2 rr q2
theorem pe_meS0 {pl : Sem Bool} (he : PE X o ta) (c : Cls X.K C) (hm : Meth X.K C m f) (F : FnOk X.prog X.w X.K X.mg X.base CX k f fd ps sp) (hr : Room k X.A) (hb : KBm X.K fd ps 1 0 [] tm dV mV) (hx : ∀ σ, PassesAt CX X σ (E σ))
    (ht : eval (.Call (.Attribute o m apos) [] [] pos) X.env = (do
      let ov ← eval o X.env
      standAt apos.atName
      let (f, first) ← holding [ov] (getMethod ov m pl)
      callWith pos f first (backTo pos (starEach [] X.env)) (backToKw pos (keywordEach [] X.env))) := by rfl) :
    PE X (.Call (.Attribute o m apos) [] [] pos) (tMeS C m sp E 0 tm dV mV ta tNil) := by
  refine ⟨fun pins s σ H Q I h => PySem.W.methodCall_KW (pl := pl) (thn (he.run pins s σ H _ I h) fun u s1 z => ?_) ht⟩
  obtain ⟨x, H1, I1, rx, a, dx, fs, ex, ea, l, l1, q⟩ := z
  subst ex
  obtain rfl : u = Value.ref a := rx
  obtain ⟨dU, mU, hd, hmv, to⟩ := hb.to
  have B := to [.ref a] { s1 with toks := s1.toks } [] [] rfl I1.kIn rfl rfl
  refine getmeth_ok I1 ea c hm l (PySem.W.callWith_K0 (first := [.ref a]) I1.kIn hm.kp ?_)
  have rr : Vals (V.ref a :: gMix tm dV mV [] []) (Value.ref a :: pk tm [[], dU, mU, []]) := .cons rfl (mix_vals hd hmv .nil .nil)
  exact run_gen F hr B (hx σ) I1 rr q
end
end Sep

/-! SepU: such calls as derivations. -/
namespace Sep
open PySem L2
structure DK (X : Cx) (G : Gm) (W : WX) (kws : List Keyword) (t : TA) (f : Sl → Out (List R)) : Prop where
  pk : PK X kws t
  ok : ArOk G W t f
  len : ∀ ρ rs ρ', f ρ = .ok rs ρ' → rs.length = kws.length
section
variable {X : Cx} {G : Gm} {W : WX} {a b o e : Expr} {es : List Expr} {kws : List Keyword} {ta tb te : TE} {t tk : TA} {fo fa fe : Ev} {fs fz : Sl → Out (List R)} {F : FnD} {N n : Nat} {tm : List (Nat × Nat)} {dD mD : List D} {dV mV : List V} {nm : Option Str} {kpos pos p apos : Pos}
theorem dk_nil : DK X G W [] tNil aNil := ⟨pk_nil, da_nil (X := X).ok, fun ρ rs ρ' e => by cases e; rfl⟩
theorem dk_cons (A : DE X G W e te fe) (B : DK X G W kws t fs) : DK X G W (⟨nm, e, kpos⟩ :: kws) (tCons te t) (aCons fe fs) :=
  ⟨pk_cons A.pe B.pk, ok_cons A.ok B.ok, fun ρ rs ρ' q => by
    unfold aCons at q
    cases h1 : fe ρ with
    | stuck => rw [h1] at q; cases q
    | exc c ns ds ρ1 => rw [h1] at q; cases q
    | ok r ρ1 =>
      rw [h1] at q
      cases h2 : fs ρ1 with
      | stuck => simp only [Out.bind, h2] at q; cases q
      | exc c ns ds ρ1 => simp only [Out.bind, h2] at q; cases q
      | ok rs2 ρ2 =>
        simp only [Out.bind, h2] at q
        cases q
        rw [List.length_cons, List.length_cons, B.len _ _ _ h2]⟩
theorem de_callK {k j : Nat} {f : Addr} {fd : FuncData} {ps ks : List Str} {x : Str} (C : Cok k X G W) (Fo : FnOk X.prog X.w X.K X.mg X.base (L2.CX X.prog X.w) j f fd ps (spF G N F)) (hj : j ≤ k) (hg : Gl X x) (hm : X.mg x = some (.ref f)) (hk : PySem.W.keepIn X.K (.ref f) = true) (hb : KBm X.K fd ps 0 n ks tm dV mV) (hd : Dfl G dD dV) (hd2 : Dfl G mD mV)
    (A : DA X G W (a :: es) t fs) (B : DK X G W kws tk fz) (hkl : kws.length = ks.length := by rfl)
    (hall : (backToKw pos (keywordEach kws X.env)).all (·.1.isSome) = true := by rfl) (hks : (backToKw pos (keywordEach kws X.env)).filterMap (·.1) = ks := by rfl) (hdb : (x == ("__debug__" : Str)) = false := by decide)
    (he : starEach (a :: es) X.env = (false, eval a X.env) :: starEach es X.env := by rfl) (hpl : ((backTo pos (starEach (a :: es) X.env)).any (·.1) || (backToKw pos (keywordEach kws X.env)).any (·.1.isNone)) = false := by rfl) :
    DE X G W (.Call (.Name x p) (a :: es) kws pos) (tFnK (spF G N F) (WE W) n ks.length tm dV mV t tk) (eCallK N n tm dD mD F fs fz) :=
  ⟨pe_fnK Fo (C.rm.mono hj) hg hm hk hb (fun σ => passAt C.tk σ) A.pa B.pk hall hks hdb he hpl, ok_callK hd hd2 A.ok B.ok ks.length fun ρ rs ρ' e => by rw [B.len _ _ _ e, hkl]⟩
theorem de_callK0 {k j : Nat} {f : Addr} {fd : FuncData} {ps ks : List Str} {x : Str} (C : Cok k X G W) (Fo : FnOk X.prog X.w X.K X.mg X.base (L2.CX X.prog X.w) j f fd ps (spF G N F)) (hj : j ≤ k) (hg : Gl X x) (hm : X.mg x = some (.ref f)) (hk : PySem.W.keepIn X.K (.ref f) = true) (hb : KBm X.K fd ps 0 0 ks tm dV mV) (hd : Dfl G dD dV) (hd2 : Dfl G mD mV)
    (B : DK X G W kws tk fz) (hkl : kws.length = ks.length := by rfl)
    (hall : (backToKw pos (keywordEach kws X.env)).all (·.1.isSome) = true := by rfl) (hks : (backToKw pos (keywordEach kws X.env)).filterMap (·.1) = ks := by rfl) (hdb : (x == ("__debug__" : Str)) = false := by decide)
    (hpl : ((backTo pos (starEach [] X.env)).any (·.1) || (backToKw pos (keywordEach kws X.env)).any (·.1.isNone)) = false := by rfl) :
    DE X G W (.Call (.Name x p) [] kws pos) (tFnK (spF G N F) (WE W) 0 ks.length tm dV mV tNil tk) (eCallK N 0 tm dD mD F aNil fz) :=
  ⟨pe_fnK0 Fo (C.rm.mono hj) hg hm hk hb (fun σ => passAt C.tk σ) B.pk hall hks hdb hpl, ok_callK hd hd2 ok_nil B.ok ks.length fun ρ rs ρ' e => by rw [B.len _ _ _ e, hkl]⟩
theorem de_makeK {k j : Nat} {f : Addr} {fd : FuncData} {ps ks : List Str} {x c : Str} (C : Cok k X G W) (M : Mk X.K (G.cls c) f) (Fo : FnOk X.prog X.w X.K X.mg X.base (L2.CX X.prog X.w) j f fd ps (spF G N F)) (hj : j + 1 ≤ k) (hg : Gl X x) (hm : X.mg x = some (.ref (G.cls c))) (hb : KBm X.K fd ps 1 n ks tm dV mV) (hd : Dfl G dD dV) (hd2 : Dfl G mD mV)
    (A : DA X G W (a :: es) t fs) (B : DK X G W kws tk fz) (hkl : kws.length = ks.length := by rfl)
    (hall : (backToKw pos (keywordEach kws X.env)).all (·.1.isSome) = true := by rfl) (hks : (backToKw pos (keywordEach kws X.env)).filterMap (·.1) = ks := by rfl) (hdb : (x == ("__debug__" : Str)) = false := by decide)
    (he : starEach (a :: es) X.env = (false, eval a X.env) :: starEach es X.env := by rfl) (hpl : ((backTo pos (starEach (a :: es) X.env)).any (·.1) || (backToKw pos (keywordEach kws X.env)).any (·.1.isNone)) = false := by rfl) :
    DE X G W (.Call (.Name x p) (a :: es) kws pos) (tMkK (G.cls c) (spF G N F) (WE W) n ks.length tm dV mV t tk) (eMakeK c N n tm dD mD F fs fz) :=
  ⟨pe_mkK M Fo (C.rm.mono hj) hg hm hb (fun σ => passAt C.tk σ) A.pa B.pk hall hks hdb he hpl, ok_makeK hd hd2 A.ok B.ok ks.length fun ρ rs ρ' e => by rw [B.len _ _ _ e, hkl]⟩
theorem de_makeK0 {k j : Nat} {f : Addr} {fd : FuncData} {ps ks : List Str} {x c : Str} (C : Cok k X G W) (M : Mk X.K (G.cls c) f) (Fo : FnOk X.prog X.w X.K X.mg X.base (L2.CX X.prog X.w) j f fd ps (spF G N F)) (hj : j + 1 ≤ k) (hg : Gl X x) (hm : X.mg x = some (.ref (G.cls c))) (hb : KBm X.K fd ps 1 0 ks tm dV mV) (hd : Dfl G dD dV) (hd2 : Dfl G mD mV)
    (B : DK X G W kws tk fz) (hkl : kws.length = ks.length := by rfl)
    (hall : (backToKw pos (keywordEach kws X.env)).all (·.1.isSome) = true := by rfl) (hks : (backToKw pos (keywordEach kws X.env)).filterMap (·.1) = ks := by rfl) (hdb : (x == ("__debug__" : Str)) = false := by decide)
    (hpl : ((backTo pos (starEach [] X.env)).any (·.1) || (backToKw pos (keywordEach kws X.env)).any (·.1.isNone)) = false := by rfl) :
    DE X G W (.Call (.Name x p) [] kws pos) (tMkK (G.cls c) (spF G N F) (WE W) 0 ks.length tm dV mV tNil tk) (eMakeK c N 0 tm dD mD F aNil fz) :=
  ⟨pe_mkK0 M Fo (C.rm.mono hj) hg hm hb (fun σ => passAt C.tk σ) B.pk hall hks hdb hpl, ok_makeK hd hd2 ok_nil B.ok ks.length fun ρ rs ρ' e => by rw [B.len _ _ _ e, hkl]⟩
/-! ### methods -/
theorem lookup_none {m : Str} : ∀ {ns : List Str} {xs : List V}, ns.contains m = false → (ns.zip xs).lookup m = none
  | [], _, _ => rfl
  | n :: ns, [], _ => rfl
  | n :: ns, x :: xs, h => by
    rw [List.contains_cons, Bool.or_eq_false_iff] at h
    rw [List.zip_cons_cons, List.lookup_cons, h.1]
    exact lookup_none h.2
theorem ok_methK {c m : Str} (hd : Dfl G dD dV) (hd2 : Dfl G mD mV) (A : EvOk G W ta fo) (B : ArOk G W t fs) : EvOk G W (tMeS (G.cls c) m (spF G N F) (WE W) n tm dV mV ta t) (eMethK c m N n tm dD mD F fo fs) := by
  intro σ H ρ T Q sr p
  refine A σ H ρ T _ sr ((Post.bind p).imp fun r ρ1 p1 x H1 sr1 a1 => ?_)
  cases e1 : look r ρ1 with
  | none => simp only [e1] at p1; exact p1.elim
  | some d =>
    simp only [e1] at p1
    cases d <;> first | (exact p1.elim) | skip
    rename_i c' ns ds0
    simp only at p1
    split at p1
    · rename_i hq
      obtain ⟨O, h⟩ := sr1.h
      obtain ⟨a, dx, xs, ex, ha, hl, hrd⟩ := sr1.lookP h a1 (fun s e => by subst e; exact List.mem_cons_self) e1
      rw [hq.1] at ha
      refine ⟨a, dx, _, ex, ha, lookup_none hq.2, ?_⟩
      refine B σ H1 ρ1 ((x, r.slot) :: T) _ sr1 ((Post.bind p1).more.imp fun rs ρ2 p2 vs H2 sr2 a2 => ?_)
      rcases consAll_or (r :: rs) ρ2 with ⟨ds, ρ3, e⟩ | e
      · simp only [e, Out.bind] at p2
        have ats : Ats σ (r :: rs) (x :: vs) := ⟨x, vs, rfl, a1, a2⟩
        obtain ⟨sr3, hl3⟩ := SR.takes (vs := x :: vs) (sr2.permT (List.perm_middle)) ats e
        split at p2
        · rename_i hn
          have lv : vs.length = n := by rw [a2.len, hn.1]
          refine ⟨lv, ?_⟩
          rw [← ex]
          refine core (es := ds.headD .non :: mix tm n dD mD ds.tail) sr3 hl3 (fun O r => ?_) hn.2 (PostC.of p2)
          cases ds with
          | nil => cases hl3
          | cons d0 dr =>
            obtain ⟨v, w, ev, r1, r2⟩ := r
            cases ev
            have := mix_rep (tm := tm) (n := n) hd hd2 r2
            have z1 : vs.take n = vs := by rw [← lv]; simp
            have z2 : vs.drop n = [] := by rw [← lv]; simp
            unfold mix at this
            rw [z1, z2] at this
            exact ⟨x, _, rfl, r1, this⟩
        · exact p2.elim
      · simp only [e, Out.bind] at p2; exact p2.elim
    · exact p1.elim
theorem de_methK {k j : Nat} {f : Addr} {fd : FuncData} {ps : List Str} {c m : Str} {pl : Sem Bool} (C : Cok k X G W) (hc : Cls X.K (G.cls c)) (hm : Meth X.K (G.cls c) m f) (Fo : FnOk X.prog X.w X.K X.mg X.base (L2.CX X.prog X.w) j f fd ps (spF G N F)) (hj : j ≤ k) (hb : KBm X.K fd ps 1 n [] tm dV mV) (hd : Dfl G dD dV) (hd2 : Dfl G mD mV)
    (O : DE X G W o ta fo) (A : DA X G W (a :: es) t fs)
    (hst : starEach (a :: es) X.env = (false, eval a X.env) :: starEach es X.env := by rfl) (hpl : (backTo pos (starEach es X.env)).any (·.1) = false := by rfl)
    (ht : eval (.Call (.Attribute o m apos) (a :: es) [] pos) X.env = (do
      let ov ← eval o X.env
      standAt apos.atName
      let (f, first) ← holding [ov] (getMethod ov m pl)
      callWith pos f first (backTo pos (starEach (a :: es) X.env)) (backToKw pos (keywordEach [] X.env))) := by rfl) :
    DE X G W (.Call (.Attribute o m apos) (a :: es) [] pos) (tMeS (G.cls c) m (spF G N F) (WE W) n tm dV mV ta t) (eMethK c m N n tm dD mD F fo fs) :=
  ⟨pe_meS O.pe hc hm Fo (C.rm.mono hj) hb (fun σ => passAt C.tk σ) A.pa hst hpl ht, ok_methK hd hd2 O.ok A.ok⟩
theorem de_methK0 {k j : Nat} {f : Addr} {fd : FuncData} {ps : List Str} {c m : Str} {pl : Sem Bool} (C : Cok k X G W) (hc : Cls X.K (G.cls c)) (hm : Meth X.K (G.cls c) m f) (Fo : FnOk X.prog X.w X.K X.mg X.base (L2.CX X.prog X.w) j f fd ps (spF G N F)) (hj : j ≤ k) (hb : KBm X.K fd ps 1 0 [] tm dV mV) (hd : Dfl G dD dV) (hd2 : Dfl G mD mV)
    (O : DE X G W o ta fo)
    (ht : eval (.Call (.Attribute o m apos) [] [] pos) X.env = (do
      let ov ← eval o X.env
      standAt apos.atName
      let (f, first) ← holding [ov] (getMethod ov m pl)
      callWith pos f first (backTo pos (starEach [] X.env)) (backToKw pos (keywordEach [] X.env))) := by rfl) :
    DE X G W (.Call (.Attribute o m apos) [] [] pos) (tMeS (G.cls c) m (spF G N F) (WE W) 0 tm dV mV ta tNil) (eMethK c m N 0 tm dD mD F fo aNil) :=
  ⟨pe_meS0 O.pe hc hm Fo (C.rm.mono hj) hb (fun σ => passAt C.tk σ) ht, ok_methK hd hd2 O.ok ok_nil⟩
end
end Sep

/-! SepV: an instance's class asked for; own comparisons; an instance called. -/
namespace Sep
open PySem L2
/-- what is asked of a class so that type(x) is known -/
structure ClT (K : PySem.W.Frag) (C : Addr) : Prop where
  cl : Cls K C
  ha : PySem.W.findIn K (.ref C) "__class__" = some (some (.builtin "object.__class__"))
  hn : PySem.W.specialIn K (.builtin "object.__class__") "__get__" = some (some (.builtin "getset_descriptor.__get__"))
  htk : PySem.W.takesIn K (.builtin "object.__class__") = some true
  hm : PySem.W.mroIn K C (.type "object") = some true
abbrev btN : List String := ["NoneType", "bool", "int", "str", "tuple", "list", "dict"]
def tyV (G : Gm) : D → Value
  | .obj c _ _ => .ref (G.cls c)
  | d => .type (tyN d)
theorem tyN_bt {d : D} (h : ∀ c ns ds, d ≠ .obj c ns ds) (h2 : d.odd = false) : tyN d ∈ btN := by
  cases d <;> first | (simp [tyN, btN]; done) | exact absurd rfl (h _ _ _) | cases h2
theorem tyx_all {G : Gm} {H : Hp} {O : List Addr} {d : D} {v : V} (h : RepP G H O d v) (hc : ∀ c ns ds, d = .obj c ns ds → ClT G.K (G.cls c)) (n2 : d.odd = false) : TyX G.K H v (tyV G d) := by
  cases d with
  | obj c ns ds =>
    obtain ⟨a, dx, xs, e, h1, _⟩ := h
    subst e
    have k := hc c ns ds rfl
    exact .base (.ins h1 k.cl k.ha k.hn k.htk k.hm)
  | xd ns ds => cases n2
  | raw _ => cases n2
  | kls _ => cases n2
  | _ => exact tyx_of h (fun _ _ _ z => by cases z) rfl
/-! ### isinstance(x, C) -/
structure IsC (K : PySem.W.Frag) (cls : Str → Addr) (c : Str) (tab : Str → Option Bool) : Prop where
  own : ∀ c' b, tab c' = some b → ClT K (cls c') ∧ PySem.W.kitOne K (.ref (cls c')) (.ref (cls c)) = some b
  bt : ∀ T ∈ btN, PySem.W.kitOne K (.type T) (.ref (cls c)) = some false
def gIsc (tab : Str → Option Bool) : D → Option Slot := fun d => match d with
  | .obj c _ _ => (tab c).map fun b => .sh (.bl b)
  | .xd _ _ => none
  | .raw _ _ => none
  | .kls _ => none
  | _ => some (.sh (.bl false))
section
variable {X : Cx} {G : Gm} {W : WX} {a b o e : Expr} {es : List Expr} {ta tb te : TE} {t : TA} {fo fa fb fe : Ev} {fs : Sl → Out (List R)} {F : FnD} {N n k j : Nat} {pos p : Pos} {tm : List (Nat × Nat)} {dV mV : List V}
theorem ud_isc {c : Str} {tab : Str → Option Bool} (hc : IsC G.K G.cls c tab) : UnD G (fun x H Q => rIsi G.K [x, .ref (G.cls c)] H Q) (gIsc tab) := by
  intro H O L x dx s Q h hx e q
  have fin : ∀ b, (∀ c' ns ds, dx = .obj c' ns ds → ClT G.K (G.cls c')) → dx.odd = false → PySem.W.kitOne G.K (tyV G dx) (.ref (G.cls c)) = some b → s = .sh (.bl b) → rIsi G.K [x, .ref (G.cls c)] H Q := fun b h1 h2 h3 h4 =>
    ⟨x, .ref (G.cls c), _, _, b, rfl, .own _, tyx_all hx h1 h2, h3, q _ _ (h4 ▸ h.sc rfl)⟩
  cases dx with
  | obj c' ns ds =>
    unfold gIsc at e
    dsimp only at e
    cases e2 : tab c' with
    | none => rw [e2] at e; cases e
    | some b =>
      rw [e2] at e
      have k := hc.own c' b e2
      exact fin b (fun c2 _ _ z => by cases z; exact k.1) rfl k.2 (Option.some.inj e).symm
  | xd ns ds => cases e
  | raw _ => cases e
  | kls _ => cases e
  | _ => exact fin false (fun _ _ _ z => by cases z) rfl (hc.bt _ (by simp [tyN, btN])) (Option.some.inj e).symm
/-! ### own comparisons -/
structure Nf (K : PySem.W.Frag) (cls : Str → Addr) (c : Str) (cs : List Str) : Prop where
  own : ∀ c' ∈ cs, ClT K (cls c') ∧ PySem.W.notFirst K (cls c) (.ref (cls c')) = true
  bt : ∀ T ∈ btN, PySem.W.notFirst K (cls c) (.type T) = true
def gTy (cs : List Str) : D → Bool
  | .obj c _ _ => cs.contains c
  | .xd _ _ => false
  | .raw _ _ => false
  | .kls _ => false
  | _ => true
theorem nf_of {H : Hp} {O : List Addr} {c : Str} {cs : List Str} (hc : Nf G.K G.cls c cs) {d : D} {v : V} (h : RepP G H O d v) (e : gTy cs d = true) : TyX G.K H v (tyV G d) ∧ PySem.W.notFirst G.K (G.cls c) (tyV G d) = true := by
  cases d with
  | obj c' ns ds =>
    have k := hc.own c' (by simpa [gTy] using e)
    exact ⟨tyx_all h (fun c2 _ _ z => by cases z; exact k.1) rfl, k.2⟩
  | xd ns ds => cases e
  | raw _ => cases e
  | kls _ => cases e
  | _ => exact ⟨tyx_all h (fun _ _ _ z => by cases z) rfl, hc.bt _ (by simp [tyN, btN])⟩
def rOwn (K : PySem.W.Frag) (C : Addr) (sp : Sp) : R2 := fun x y H Q => ∃ a dx fs t, x = .ref a ∧ H a = some (.ins C dx fs) ∧ TyX K H y t ∧ PySem.W.notFirst K C t = true ∧ sp [x, y] H (fun v H' => (∃ b, v = .bl b) ∧ Q v H') (fun _ _ _ => False)
theorem op_own {op : CmpOp} {C f : Addr} {fd : FuncData} {ps : List Str} {sp : Sp} (F : FnOk X.prog X.w X.K X.mg X.base (L2.CX X.prog X.w) k f fd ps sp) (hr : Room k X.A) (hs : PySem.W.findIn X.K (.ref C) (cmpInfo op).2.1 = some (some (.ref f))) (hf : PySem.W.isFn X.K (.ref f) = true) (hb : Binds X.K fd ps [])
    (hop : compareOp op = richCompare op) (hps : ps.length = 2) (hx : ∀ σ, PassesAt (L2.CX X.prog X.w) X σ (fun _ _ _ => False)) : OpR X (compareOp op) (rOwn X.K C sp) := by
  intro pins s σ H x y v u Q I rx ry h
  obtain ⟨a, dx, fs, t, ex, ha, ty, hn, h⟩ := h
  subst ex
  cases rx
  rw [hop]
  obtain ⟨mA, J, _⟩ := ins_get I.hok ha
  obtain ⟨od, J, _⟩ := J.look
  obtain ⟨P, kit, hP, _⟩ := kit_of I ry ty
  obtain ⟨m, hF⟩ := I.fr
  refine PySem.W.cmp_K (op := op) (tb := t) hr.units0 hF I.ok.mod.kin J (kit.ty _ _ I.kIn hP) hn hs hf ?_
  have r2 : Vals [V.ref a, y] [Value.ref a, u] := .cons rfl (.cons ry .nil)
  have B := hb s [.ref a, u] I.kIn (by simp [hps])
  rw [List.append_nil] at B
  refine wpAny_mono (run_gen (E := fun _ _ _ _ => False) F hr B (hx σ) I r2 h) (fun v s' z => ?_) fun _ _ z => z
  obtain ⟨w, H', I', rw', ⟨b, eb⟩, q⟩ := z
  subst eb
  cases rw'
  exact ⟨.bl b, H', I', rfl, q⟩
/-- a op b by a's own method: both as data, a truth comes back -/
def eOwn2 (c : Str) (cs : List Str) (F : FnD) (fa fb : Ev) : Ev := fun ρ => (fa ρ).bind fun r1 ρ1 => (fb ρ1).bind fun r2 ρ2 => (consAll [r1, r2] ρ2).bind fun ds ρ3 => match ds with
  | [.obj c' ns es, d2] => if c' = c ∧ gTy cs d2 = true then (match F [.sh (.obj c' ns es), .sh d2] with
    | .ok (.sh (.bl b)) _ => .ok (.v (.sh (.bl b))) ρ3
    | _ => .stuck) else .stuck
  | _ => .stuck
theorem ok_own2 {c : Str} {cs : List Str} (hc : Nf G.K G.cls c cs) (A : EvOk G W ta fa) (B : EvOk G W tb fb) : EvOk G W (tOp (rOwn G.K (G.cls c) (spF G 2 F)) ta tb) (eOwn2 c cs F fa fb) := by
  intro σ H ρ T Q sr p
  refine A σ H ρ T _ sr ((Post.bind p).imp fun r1 ρ1 p1 x H1 sr1 a1 => ?_)
  refine B σ H1 ρ1 ((x, r1.slot) :: T) _ sr1 ((Post.bind p1).more.imp fun r2 ρ2 p2 y H2 sr2 a2 => ?_)
  rcases consAll_or [r1, r2] ρ2 with ⟨ds, ρ3, e⟩ | e
  · simp only [e, Out.bind] at p2
    have ats : Ats σ [r1, r2] [x, y] := ⟨x, [y], rfl, a1, y, [], rfl, a2, rfl⟩
    obtain ⟨sr3, hl⟩ := SR.takes (vs := [x, y]) (sr2.permT (.swap _ _ _)) ats e
    rcases ds with _ | ⟨d1, _ | ⟨d2, _ | ⟨d3, ds⟩⟩⟩
    · cases hl
    · cases hl
    · cases d1 <;> first | (exact p2.elim) | skip
      rename_i c' ns es
      simp only at p2
      split at p2
      · rename_i hq
        obtain ⟨e1, e2⟩ := hq
        subst e1
        obtain ⟨O, h⟩ := sr3.h.perm (L' := [x, y].zip (shs [.obj c' ns es, d2]) ++ (envL σ ρ3 ++ T)) (by
          rw [← List.append_assoc, ← List.append_assoc]
          exact List.perm_append_comm.append_right T)
        obtain ⟨⟨v1, w1, ev, ⟨a, dx, xs, ex, ha, _, _⟩, ⟨v2, w2, ev2, rd2, _⟩⟩, _⟩ := h.datas hl
        cases ev
        cases ev2
        obtain ⟨ty, nf⟩ := nf_of hc rd2.p e2
        refine ⟨a, dx, _, _, ex, ha.1, ty, nf, ?_⟩
        refine core (ds := [.obj c' ns es, d2]) (es := [.obj c' ns es, d2]) (vs := [x, y]) (us := [x, y]) sr3 hl (fun O r => r) rfl ?_
        cases ef : F (shs [.obj c' ns es, d2]) with
        | stuck => rw [show F [.sh (.obj c' ns es), .sh d2] = .stuck from ef] at p2; exact p2.elim
        | exc c ns2 es2 fs => rw [show F [.sh (.obj c' ns es), .sh d2] = .exc c ns2 es2 fs from ef] at p2; exact p2.elim
        | ok s fs =>
          rw [show F [.sh (.obj c' ns es), .sh d2] = .ok s fs from ef] at p2
          cases s <;> first | (exact p2.elim) | skip
          rename_i d
          cases d <;> first | (exact p2.elim) | skip
          rename_i b
          exact fun v H' hs => ⟨⟨b, hs.bl⟩, p2 v H' hs trivial⟩
      · exact p2.elim
    · cases hl
  · simp only [e, Out.bind] at p2; exact p2.elim
theorem pass_no (C : Cok k X G W) (σ : L2.St) : PassesAt (L2.CX X.prog X.w) X σ (fun _ _ _ => False) := passAt (W := fun _ _ _ _ => False) (C.tk.imp fun _ _ _ _ z => z.elim) σ
theorem dt_own2 {op : CmpOp} {c : Str} {cs : List Str} {f : Addr} {fd : FuncData} {ps : List Str} (C : Cok k X G W) (hc : Nf G.K G.cls c cs) (Fo : FnOk X.prog X.w X.K X.mg X.base (L2.CX X.prog X.w) j f fd ps (spF G 2 F)) (hj : j ≤ k) (hs : PySem.W.findIn X.K (.ref (G.cls c)) (cmpInfo op).2.1 = some (some (.ref f))) (hf : PySem.W.isFn X.K (.ref f) = true) (hb : Binds X.K fd ps []) (hps : ps.length = 2)
    (A : DE X G W a ta fa) (B : DE X G W b tb fb) (hop : compareOp op = richCompare op := by rfl) (hm : behindInMarks op b = false := by rfl) : DT X G W (.Compare a [op] [b] pos) (tTest (tOp (rOwn G.K (G.cls c) (spF G 2 F)) ta tb)) (tOfE (eOwn2 c cs F fa fb)) :=
  ⟨pt_cmpR (by rw [← C.hK]; exact op_own Fo (C.rm.mono hj) hs hf hb hop hps (pass_no C)) A.pe B.pe hm, ok_tTest (ok_own2 hc A.ok B.ok)⟩
theorem de_own2 {op : CmpOp} {c : Str} {cs : List Str} {f : Addr} {fd : FuncData} {ps : List Str} (C : Cok k X G W) (hc : Nf G.K G.cls c cs) (Fo : FnOk X.prog X.w X.K X.mg X.base (L2.CX X.prog X.w) j f fd ps (spF G 2 F)) (hj : j ≤ k) (hs : PySem.W.findIn X.K (.ref (G.cls c)) (cmpInfo op).2.1 = some (some (.ref f))) (hf : PySem.W.isFn X.K (.ref f) = true) (hb : Binds X.K fd ps []) (hps : ps.length = 2)
    (A : DE X G W a ta fa) (B : DE X G W b tb fb) (hop : compareOp op = richCompare op := by rfl) (hm : behindInMarks op b = false := by rfl) : DE X G W (.Compare a [op] [b] pos) (tOp (rOwn G.K (G.cls c) (spF G 2 F)) ta tb) (eOwn2 c cs F fa fb) :=
  ⟨pe_cmpR (by rw [← C.hK]; exact op_own Fo (C.rm.mono hj) hs hf hb hop hps (pass_no C)) A.pe B.pe hm, ok_own2 hc A.ok B.ok⟩
/-- isinstance(x, C) -/
theorem de_isc {c : Str} {tab : Str → Option Bool} {x : Str} {p p2 : Pos} (hK : X.K = G.K) (hc : IsC G.K G.cls c tab) (hg : Gl X "isinstance") (hm : X.mg "isinstance" = none) (hg2 : Gl X x) (hm2 : X.mg x = some (.ref (G.cls c))) (A : DE X G W a ta fa) (hd : (x == ("__debug__" : Str)) = false := by decide)
    (he : starEach [a, .Name x p2] X.env = (false, eval a X.env) :: starEach [.Name x p2] X.env := by rfl) (he1 : starEach [.Name x p2] X.env = (false, eval (.Name x p2) X.env) :: starEach [] X.env := by rfl) (hpl : (backTo pos (starEach [.Name x p2] X.env)).any (·.1) = false := by rfl) :
    DE X G W (.Call (.Name "isinstance" p) [a, .Name x p2] [] pos) (tCB (rIsi G.K) (tCons ta (tCons (tC (.ref (G.cls c))) tNil))) (eUn (gIsc tab) fa) :=
  ⟨pe_callB (by rw [← hK]; exact call_isi) hg hm boot_isi (pa_cons A.pe (pa_cons (pe_glob hg2 hm2 rfl hd) pa_nil he1) he) (by decide) (by decide) he hpl, ok_unD (r := fun x H Q => rIsi G.K [x, .ref (G.cls c)] H Q) (ud_isc hc) A.ok⟩
/-! ### x(e, ..), x an instance -/
def tObS (C : Addr) (sp : Sp) (E : L2.St → XK) (n : Nat) (ta : TE) (t : TA) : TE := fun σ H Q => ta σ H fun x H1 => ∃ a, x = V.ref a ∧ t σ H1 fun vs H2 => (∃ dx fs, H2 a = some (.ins C dx fs)) ∧ vs.length = n ∧ sp (V.ref a :: vs) H2 Q (E σ)
theorem pe_obS {C f : Addr} {fd : FuncData} {ps : List Str} {sp : Sp} {E : L2.St → XK} (ho : PE X o ta) (hc : PySem.W.findIn X.K (.ref C) "__call__" = some (some (.ref f))) (hfn : PySem.W.isFn X.K (.ref f) = true) (hfi : PySem.W.fnIn X.K f = true) (F : FnOk X.prog X.w X.K X.mg X.base (L2.CX X.prog X.w) k f fd ps sp) (hr : Room k X.A) (hb : KBm X.K fd ps 1 n [] (tm) dV mV) (htm : ∀ vs : List V, vs.length = n → gMix tm dV mV vs [] = vs) (hx : ∀ σ, PassesAt (L2.CX X.prog X.w) X σ (E σ)) (ha : PA X (a :: es) t)
    (ht : eval (.Call o (a :: es) [] pos) X.env = (do callWith pos (← eval o X.env) [] (backTo pos (starEach (a :: es) X.env)) (backToKw pos (keywordEach [] X.env))) := by rfl)
    (he : starEach (a :: es) X.env = (false, eval a X.env) :: starEach es X.env := by rfl) (hpl : (backTo pos (starEach es X.env)).any (·.1) = false := by rfl) : PE X (.Call o (a :: es) [] pos) (tObS C sp E n ta t) := by
  refine ⟨fun pins s σ H Q I h => PyProof.Rows.Call_ (thn (ho.run pins s σ H _ I h) fun u s1 z => ?_) ht⟩
  obtain ⟨x, H1, I1, rx, b, ex, q⟩ := z
  subst ex
  obtain rfl : u = Value.ref b := rx
  refine StX.callO_with (thn (ha.run pos pins s1 σ H1 _ I1 q) fun us s2 z2 => ?_) he hpl
  obtain ⟨vs, H2, I2, r, ⟨dx, fs, hi⟩, l1, q2⟩ := z2
  obtain ⟨mA, O, _⟩ := ins_get I2.hok hi
  obtain ⟨od, J, _⟩ := O.look
  obtain ⟨dU, mU, hd, hmv, to⟩ := hb.to
  have B := to [.ref b] s2 us [] rfl I2.kIn (by rw [← r.length, l1]) rfl
  have rr : Vals (V.ref b :: gMix tm dV mV vs []) (Value.ref b :: pk tm [us, dU, mU, []]) := .cons rfl (mix_vals hd hmv r .nil)
  have q3 : sp (V.ref b :: gMix tm dV mV vs []) H2 Q (E σ) := by rw [htm vs l1]; exact q2
  refine ⟨⟨C, _, _, J, rfl⟩, ?_⟩
  refine wpAny_call (PySem.W.kco_code I2.kIn J rfl hc hfn hfi (codeAny_mono (F.run X.A X.stack s2 H2 _ _ _ Q (E σ) hr I2.env0 B rr q3) fun z s' hz => ?_))
  rcases z with er | fl
  · exact hx σ pins H2 s2 er s' I2 hz
  · cases fl with
    | ret u => exact I2.after hz
    | _ => exact hz.elim
end
end Sep

/-! SepW: an instance called, divmod; bindings from a def's data. -/
namespace Sep
open PySem L2
/-- x(..), x an instance -/
def eObj (c : Str) (N n : Nat) (F : FnD) (fo : Ev) (fs : Sl → Out (List R)) : Ev := fun ρ => (fo ρ).bind fun r ρ1 => match look r ρ1 with
  | some (.obj _ _ _) => (fs ρ1).bind fun rs ρ2 => (consAll (r :: rs) ρ2).bind fun ds ρ3 => match ds with
    | .obj c' ns es :: dr => if c' = c ∧ rs.length = n ∧ dr.length + 1 = N then retC ρ3 (F (shs (.obj c' ns es :: dr))) else .stuck
    | _ => .stuck
  | _ => .stuck
section
variable {X : Cx} {G : Gm} {W : WX} {a b o e : Expr} {es : List Expr} {ta tb te : TE} {t : TA} {fo fa fb fe : Ev} {fs : Sl → Out (List R)} {F : FnD} {N n k j : Nat} {pos p : Pos} {tm : List (Nat × Nat)} {dV mV : List V}
theorem ok_obj {c : Str} (A : EvOk G W ta fo) (B : ArOk G W t fs) : EvOk G W (tObS (G.cls c) (spF G N F) (WE W) n ta t) (eObj c N n F fo fs) := by
  intro σ H ρ T Q sr p
  refine A σ H ρ T _ sr ((Post.bind p).imp fun r ρ1 p1 x H1 sr1 a1 => ?_)
  cases e1 : look r ρ1 with
  | none => simp only [e1] at p1; exact p1.elim
  | some d =>
    simp only [e1] at p1
    cases d <;> first | (exact p1.elim) | skip
    rename_i c0 ns0 ds0
    simp only at p1
    obtain ⟨O, h⟩ := sr1.h
    obtain ⟨a, dx, xs, ex, ha, hl, hrd⟩ := sr1.lookP h a1 (fun s e => by subst e; exact List.mem_cons_self) e1
    refine ⟨a, ex, ?_⟩
    refine B σ H1 ρ1 ((x, r.slot) :: T) _ sr1 ((Post.bind p1).more.imp fun rs ρ2 p2 vs H2 sr2 a2 => ?_)
    rcases consAll_or (r :: rs) ρ2 with ⟨ds, ρ3, e⟩ | e
    · simp only [e, Out.bind] at p2
      have ats : Ats σ (r :: rs) (x :: vs) := ⟨x, vs, rfl, a1, a2⟩
      obtain ⟨sr3, hl3⟩ := SR.takes (vs := x :: vs) (sr2.permT (List.perm_middle)) ats e
      rcases ds with _ | ⟨d1, dr⟩
      · exact p2.elim
      · cases d1 <;> first | (exact p2.elim) | skip
        rename_i c' ns es
        simp only at p2
        split at p2
        · rename_i hq
          obtain ⟨e2, hn, hN⟩ := hq
          subst e2
          obtain ⟨O, h⟩ := sr3.h.perm (L' := (x :: vs).zip (shs (.obj c' ns es :: dr)) ++ (envL σ ρ3 ++ T)) (by
            rw [← List.append_assoc, ← List.append_assoc]
            exact List.perm_append_comm.append_right T)
          obtain ⟨⟨v1, w1, ev, ⟨a', dx', xs', ex', ha', _, _⟩, _⟩, _⟩ := h.datas hl3
          cases ev
          have : V.ref a = V.ref a' := ex.symm.trans ex'
          cases this
          refine ⟨⟨_, _, ha'.1⟩, by rw [a2.len, hn], ?_⟩
          rw [← ex]
          exact core (ds := .obj c' ns es :: dr) (es := .obj c' ns es :: dr) (vs := x :: vs) (us := x :: vs) sr3 hl3 (fun O r => r) hN (PostC.of p2)
        · exact p2.elim
    · simp only [e, Out.bind] at p2; exact p2.elim
theorem de_obj {c : Str} {f : Addr} {fd : FuncData} {ps : List Str} (C : Cok k X G W) (hc : PySem.W.findIn X.K (.ref (G.cls c)) "__call__" = some (some (.ref f))) (hfn : PySem.W.isFn X.K (.ref f) = true) (hfi : PySem.W.fnIn X.K f = true) (Fo : FnOk X.prog X.w X.K X.mg X.base (L2.CX X.prog X.w) j f fd ps (spF G N F)) (hj : j ≤ k) (hb : KBm X.K fd ps 1 n [] tm dV mV) (htm : ∀ vs : List V, vs.length = n → gMix tm dV mV vs [] = vs)
    (O : DE X G W o ta fo) (A : DA X G W (a :: es) t fs)
    (ht : eval (.Call o (a :: es) [] pos) X.env = (do callWith pos (← eval o X.env) [] (backTo pos (starEach (a :: es) X.env)) (backToKw pos (keywordEach [] X.env))) := by rfl)
    (he : starEach (a :: es) X.env = (false, eval a X.env) :: starEach es X.env := by rfl) (hpl : (backTo pos (starEach es X.env)).any (·.1) = false := by rfl) :
    DE X G W (.Call o (a :: es) [] pos) (tObS (G.cls c) (spF G N F) (WE W) n ta t) (eObj c N n F fo fs) :=
  ⟨pe_obS O.pe hc hfn hfi Fo (C.rm.mono hj) hb htm (fun σ => passAt C.tk σ) A.pa ht he hpl, ok_obj O.ok A.ok⟩
/-- divmod(i, j), j small and positive -/
def gDm : D → D → Option Slot := fun a b => match a, b with
  | .int i, .int j => if 0 < j ∧ j < 1073741824 then some (.sh (.tup [.int (i / j), .int (i % j)])) else none
  | _, _ => none
theorem cd_dm : CallD G (fun xs H Q => ∃ i j, xs = [.int i, .int j] ∧ CDiv i j ∧ ∀ p, H p = none → Q (.ref p) (upd H p (.tup [.int (i / j), .int (i % j)]))) (g2 gDm) := by
  refine CallD.two fun H O L v v2 d d2 s Q h hx hy e q => ?_
  cases d with
  | int i =>
    cases d2 with
    | int j =>
      cases hx; cases hy
      unfold gDm at e
      dsimp only at e
      split at e
      · rename_i hc
        cases e
        exact ⟨i, j, rfl, hc, fun p hp => q _ _ (h.newT hp ⟨_, _, rfl, rfl, _, _, rfl, rfl, rfl⟩)⟩
      · cases e
    | _ => cases e
  | _ => cases d2 <;> cases e
theorem boot_dm : bootBuiltins "divmod" = some (.builtin "divmod") := by decide +kernel
theorem de_divmod {p : Pos} (hg : Gl X "divmod") (hm : X.mg "divmod" = none) (A : DE X G W a ta fa) (B : DE X G W b tb fb) (he : starEach [a, b] X.env = (false, eval a X.env) :: starEach [b] X.env := by rfl) (he1 : starEach [b] X.env = (false, eval b X.env) :: starEach [] X.env := by rfl) (he2 : (backTo pos (starEach [b] X.env)).any (·.1) = false := by rfl) : DE X G W (.Call (.Name "divmod" p) [a, b] [] pos) (tCB (fun xs H Q => ∃ i j, xs = [.int i, .int j] ∧ CDiv i j ∧ ∀ p, H p = none → Q (.ref p) (upd H p (.tup [.int (i / j), .int (i % j)]))) (tCons ta (tCons tb tNil))) (eCB (g2 gDm) (aCons fa (aCons fb aNil))) :=
  de_cb call_divmod cd_dm hg hm boot_dm (da_cons A (da_cons B da_nil he1) he) (by decide) (by decide) he he2
end
/-! ### bindings -/
section
variable {K : PySem.W.Frag} {x qual : Str} {params : Arguments} {body : List Stmt} {scope : Scope} {kws : List (Str × V)} {f : Addr} {fd : FuncData} {ps : List Str} {dvs : List V}
theorem kb_of {s n : Nat} {ks : List Str} {tm : List (Nat × Nat)} {dV mV : List V} {g : List Value → List Value → List Value} {gV : List V → List V → List V} {dU mU : List Value} (h : KBn K fd ps (s + n) ks g gV) (hd : Vals dV dU) (hm : Vals mV mU)
    (hg : ∀ us ws, us.length = s + n → ws.length = ks.length → g us ws = us.take s ++ pk tm [us.drop s, dU, mU, ws]) : KBm K fd ps s n ks tm dV mV := by
  refine ⟨dU, mU, hd, hm, fun sf sh us ws h1 hK h2 h3 => ?_⟩
  have B := h.to sh (sf ++ us) ws hK (by rw [List.length_append, h1, h2]) h3
  rw [hg _ _ (by rw [List.length_append, h1, h2]) h3] at B
  have e1 : (sf ++ us).take s = sf := by rw [← h1]; simp
  have e2 : (sf ++ us).drop s = us := by rw [← h1]; simp
  rw [e1, e2] at B
  exact B
abbrev mixU (s : Nat) (tm : List (Nat × Nat)) (us its mv ws : List Value) : List Value := us.take s ++ pk tm [us.drop s, its, mv, ws]
/-- no defaults lack -/
theorem kb0 {s n : Nat} {ks : List Str} {tm : List (Nat × Nat)} (F : FunD K x qual params body scope [] kws f fd)
    (h : ∀ (e1 e2 e3 : Value) (e4 : Option Addr) (e5 e6 : Value) (us ws : List Value), us.length = s + n → ws.length = ks.length → bindArgs (PySem.W.fnOf x qual params body scope .none e1 e2 e3 e4 e5 e6) ⟨us, ks.zip ws⟩ = pure (ps.zip (mixU s tm us [] [] ws))) : KBm K fd ps s n ks tm [] [] := by
  obtain ⟨u1, u2, u3, u4, u5, u6, u7, u8, u9, u10, ex, w1, w2, w3, w4⟩ := F.ex
  subst ex
  rcases w3 with ⟨_, z⟩ | ⟨z, _⟩
  · subst z
    refine ⟨[], [], .nil, .nil, fun sf sh us ws h1 _ h2 h3 => ?_⟩
    have B := h u4 u5 u6 u7 u8 u9 (sf ++ us) ws (by rw [List.length_append, h1, h2]) h3
    have q1 : (sf ++ us).take s = sf := by rw [← h1]; simp
    have q2 : (sf ++ us).drop s = us := by rw [← h1]; simp
    unfold mixU at B
    rw [q1, q2] at B
    exact .of_eq B
  · exact absurd rfl z
/-- keyword-only defaults lack -/
theorem kbk {s n : Nat} {ks : List Str} {tm : List (Nat × Nat)} {ms : List (Str × V)} (F : FunD K x qual params body scope [] kws f fd) (hk : kws ≠ []) (hms : ∀ q ∈ ms, q ∈ kws)
    (h : ∀ (dd : Addr) (e2 e3 : Value) (e4 : Option Addr) (e5 e6 : Value) (us mv ws : List Value), us.length = s + n → mv.length = ms.length → ws.length = ks.length → KwChain dd ((ms.map (·.1)).zip mv) (bindArgs (PySem.W.fnOf x qual params body scope .none (.ref dd) e2 e3 e4 e5 e6) ⟨us, ks.zip ws⟩) (ps.zip (mixU s tm us [] mv ws))) : KBm K fd ps s n ks tm [] (ms.map (·.2)) := by
  obtain ⟨u1, u2, u3, u4, u5, u6, u7, u8, u9, u10, ex, w1, w2, w3, w4⟩ := F.ex
  subst ex
  rcases w3 with ⟨_, z⟩ | ⟨z, _⟩
  · subst z
    rcases w4 with z | ⟨dd, z, hq⟩
    · exact absurd z hk
    · subst z
      obtain ⟨mv, hl, rk, hks⟩ := kwd_vals (ms := ms) fun q hm => hq q (hms q hm)
      refine ⟨[], mv, .nil, rk, fun sf sh us ws h1 hK h2 h3 => BindsTo.of_looks fun M => KwChain.looks hK hks ?_⟩
      have B := h dd u5 u6 u7 u8 u9 (sf ++ us) mv ws (by rw [List.length_append, h1, h2]) hl h3
      have q1 : (sf ++ us).take s = sf := by rw [← h1]; simp
      have q2 : (sf ++ us).drop s = us := by rw [← h1]; simp
      unfold mixU at B
      rw [q1, q2] at B
      exact B
  · exact absurd rfl z
/-- positional defaults -/
theorem kbd {s n : Nat} {ks : List Str} {tm : List (Nat × Nat)} (F : FunD K x qual params body scope dvs kws f fd) (hd : dvs ≠ [])
    (h : ∀ (tt : Addr) (e1 e2 e3 : Value) (e4 : Option Addr) (e5 e6 : Value) (us its ws : List Value), us.length = s + n → its.length = dvs.length → ws.length = ks.length →
      ∃ k, bindArgs (PySem.W.fnOf x qual params body scope (.ref tt) e1 e2 e3 e4 e5 e6) ⟨us, ks.zip ws⟩ = seqItems? (.ref tt) >>= k ∧ k (some its.toArray) = pure (ps.zip (mixU s tm us its [] ws))) : KBm K fd ps s n ks tm dvs [] := by
  obtain ⟨u1, u2, u3, u4, u5, u6, u7, u8, u9, u10, ex, w1, w2, w3, w4⟩ := F.ex
  subst ex
  rcases w3 with ⟨z, _⟩ | ⟨_, tt, o, its, m, z, lT, oT, rT⟩
  · exact absurd z hd
  · subst z
    refine ⟨its, [], rT, .nil, fun sf sh us ws h1 hK h2 h3 => ?_⟩
    obtain ⟨k, B1, B2⟩ := h tt u4 u5 u6 u7 u8 u9 (sf ++ us) its ws (by rw [List.length_append, h1, h2]) rT.length.symm h3
    have q1 : (sf ++ us).take s = sf := by rw [← h1]; simp
    have q2 : (sf ++ us).drop s = us := by rw [← h1]; simp
    unfold mixU at B2
    rw [q1, q2] at B2
    refine BindsTo.of_looks fun M => ?_
    rw [B1]
    exact looks_items hK lT oT (.of_pure B2)
/-- both -/
theorem kbdk {s n : Nat} {ks : List Str} {tm : List (Nat × Nat)} {ms : List (Str × V)} (F : FunD K x qual params body scope dvs kws f fd) (hd : dvs ≠ []) (hk : kws ≠ []) (hms : ∀ q ∈ ms, q ∈ kws)
    (h : ∀ (tt dd : Addr) (e2 e3 : Value) (e4 : Option Addr) (e5 e6 : Value) (us its mv ws : List Value), us.length = s + n → its.length = dvs.length → mv.length = ms.length → ws.length = ks.length →
      ∃ k, bindArgs (PySem.W.fnOf x qual params body scope (.ref tt) (.ref dd) e2 e3 e4 e5 e6) ⟨us, ks.zip ws⟩ = seqItems? (.ref tt) >>= k ∧ KwChain dd ((ms.map (·.1)).zip mv) (k (some its.toArray)) (ps.zip (mixU s tm us its mv ws))) : KBm K fd ps s n ks tm dvs (ms.map (·.2)) := by
  obtain ⟨u1, u2, u3, u4, u5, u6, u7, u8, u9, u10, ex, w1, w2, w3, w4⟩ := F.ex
  subst ex
  rcases w3 with ⟨z, _⟩ | ⟨_, tt, o, its, m, z, lT, oT, rT⟩
  · exact absurd z hd
  · subst z
    rcases w4 with z | ⟨dd, z, hq⟩
    · exact absurd z hk
    · subst z
      obtain ⟨mv, hl, rk, hks⟩ := kwd_vals (ms := ms) fun q hm => hq q (hms q hm)
      refine ⟨its, mv, rT, rk, fun sf sh us ws h1 hK h2 h3 => ?_⟩
      obtain ⟨k, B1, B2⟩ := h tt dd u5 u6 u7 u8 u9 (sf ++ us) its mv ws (by rw [List.length_append, h1, h2]) rT.length.symm hl h3
      have q1 : (sf ++ us).take s = sf := by rw [← h1]; simp
      have q2 : (sf ++ us).drop s = us := by rw [← h1]; simp
      unfold mixU at B2
      rw [q1, q2] at B2
      refine BindsTo.of_looks fun M => ?_
      rw [B1]
      exact looks_items hK lT oT (KwChain.looks hK hks B2)
/-- the rule of a def that stands as data -/
theorem fn_okD {P : Program} {w : World} {mg : Str → Option Value} {base : Heap} {G : Gm} {N : List Str} {k n np : Nat} {fx : FX} {b : SEv} (hK : K = G.K) (Fu : FunD K x qual params body scope dvs kws f fd) (S : FnScope N ps scope) (hn : N.length = n) (hp : ps.length = np) (hnp : np ≤ n)
    (hb : ∀ (cdv : Value) (A : Around) (outer : List PySem.Env) (s : Shared) (H : Hp) (E : XK) (fr : List Hd), Cok k (cxOf (L2.CX P w) P w K mg base N qual scope f cdv A outer s H E) (G.w fr) (fun cls d _ H => E cls d H) →
      ∃ t, DSs fx (cxOf (L2.CX P w) P w K mg base N qual scope f cdv A outer s H E) (G.w fr) (fun cls d _ H => E cls d H) body t b) :
    FnOk P w K mg base (L2.CX P w) (k + 1) f fd ps (spF G np (fnOf n np fx b)) := by
  refine Fu.ok S (fun vs H Q E h => by rw [h.1, hp]) fun cdv A outer s H vs Q E hr h => ?_
  obtain ⟨hv, ss, T, fr, hh, hs, post⟩ := h
  obtain ⟨t, D⟩ := hb cdv A outer s H E fr (cok_def hK S.nd hr)
  refine ⟨t, D.pss, D.ok _ _ _ _ T (env_start hn hv hs hh hnp) ?_⟩
  have fin : ∀ {σ : L2.St} {ρ : Sl} {H' : Hp} {y : V × Slot}, Fix fx (L2.start N vs) σ → SR (G.w fr) σ ρ (y :: T) H' → Holds (G.w fr) H' (y :: (vs.zip (fins fx 0 np ρ) ++ T)) := fun {σ ρ H' y} fi sr => by
    refine (fins_holds (T := y :: T) hv (fun j v e q => ?_) sr.h).perm List.perm_middle
    rw [Nat.zero_add] at q
    rw [fi.2 j q]
    unfold L2.start
    have hj := (List.getElem?_eq_some_iff.mp e).1
    rw [List.getElem?_append_left (by rw [List.length_map]; exact hj), List.getElem?_map, e]; rfl
  unfold fnOf at post
  cases e : b (ss ++ List.replicate (n - np) .no) with
  | stuck => rw [e] at post; exact post.elim
  | exc c ns ds ρ =>
    rw [e] at post
    exact fun d σ H' fi sr => post d H' (fin fi sr)
  | ok fl ρ =>
    rw [e] at post
    cases fl with
    | nx => exact fun σ H' fi sr => post .non H' (fin fi (sr.scal (d := .non) fun _ => rfl))
    | ret s => exact fun v σ H' fi sr => post v H' (fin fi sr)
    | bk => exact post.elim
    | ct => exact post.elim
end
end Sep
namespace Sep
open PySem L2
theorem dfl_nil {G : Gm} : Dfl G [] [] := ⟨fun _ _ => rfl⟩
theorem dfl_cons {G : Gm} {d : D} {v : V} {ds : List D} {vs : List V} (h : ∀ H O, RepD G H O d v) (r : Dfl G ds vs) : Dfl G (d :: ds) (v :: vs) := ⟨fun H O => ⟨v, vs, rfl, h H O, r.rep H O⟩⟩
def tabL (l : List (Str × Bool)) : Str → Option Bool := fun c => l.lookup c
theorem look_mem {α : Type} {c : Str} {b : α} : ∀ {l : List (Str × α)}, l.lookup c = some b → (c, b) ∈ l
  | [], h => by cases h
  | (x, y) :: l, h => by
    rw [List.lookup_cons] at h
    cases q : c == x with
    | true => rw [q] at h; cases h; rw [beq_iff_eq.mp q]; exact List.mem_cons_self
    | false => rw [q] at h; exact List.mem_cons_of_mem _ (look_mem h)
theorem isL {K : PySem.W.Frag} {cls : Str → Addr} {c : Str} {l : List (Str × Bool)} (h : ∀ p ∈ l, ClT K (cls p.1) ∧ PySem.W.kitOne K (.ref (cls p.1)) (.ref (cls c)) = some p.2) : ∀ c' b, tabL l c' = some b → ClT K (cls c') ∧ PySem.W.kitOne K (.ref (cls c')) (.ref (cls c)) = some b := fun c' b e => h _ (look_mem e)
theorem de_gint {X : Cx} {G : Gm} {W : WX} {x : Str} {i : Int} {pos : Pos} (hg : Gl X x) (hm : ∃ t, X.mg x = some (.int i t)) (hd : (x == ("__debug__" : Str)) = false := by decide) : DE X G W (.Name x pos) (tC (.int i)) (eC (.int i)) := by
  obtain ⟨t, hm⟩ := hm
  exact de_glob hg hm ⟨t, rfl⟩ (fun _ _ => rfl) hd
theorem walk_w {l : PySem.W.OpenLaw} {n k : Nat} {q : Program} {loose : List Str} {XP : (Str → Option Value) → Heap → Prop} {YP : World → Heap → Prop} {d : DefRec} {CX : World → CXT} {x : Str}
    (hn : l.most = some n) (hn2 : n ≤ sizeLine) (hdf : d.params.defaults = []) (hr : Room k callerA)
    (F : ∀ (w : World) (mg : Str → Option Value) (fa : Addr) (h : Heap), YP w h → h.Ns mainGlobals mg → mg d.name = some (.ref fa) → ∃ (K : PySem.W.Frag) (fd : FuncData) (sp : Sp), K.In h ∧ (∀ (s : Shared) (u : Value), BindsTo s fd ⟨[u], []⟩ [(x, u)]) ∧
      (∀ (H : Hp) (a : Addr) (ns : List Int), ns.length ≤ n → Only H → SqL K H a (ns.map V.int) → sp [.ref a] H (fun v _ => v = .bl true) fun _ _ _ => False) ∧ ∀ base : Heap, K.In base → base.Ns mainGlobals mg → FnOk l.prog w K mg base (CX w) k fa fd [x] sp)
    (hC : ∀ (w : World) (H : Hp) (s : Shared) (e : Value) (s' : Shared), CX w [] H s (fun _ _ _ => False) e s' → False) : PySem.W.WalkO q loose XP YP l.row.toRowW d [] (fun f vs => PySem.call f vs) := by
  apply Att.attach_call hn hdf
  intro w t0 t1 mg mb fa o pm cd doc ad vs ns GG YY h1 h2 h3 hmg h4 h5 hlen h6
  obtain ⟨K, fd, sp, kx, hb, hs, hF⟩ := F w mg fa _ YY GG.T.g hmg
  refine law_call kx GG.T.g GG.T.b GG.T.builtins GG.T.nolimit h6 h4 h5 (Nat.le_trans hlen hn2) hr hF hb ?_ ?_
  · exact fun H hO hS => hs H ad ns hlen hO hS
  · exact fun H e s' => hC w H t1 e s'
end Sep

/-! SepX: rules of evaluation for instances. -/
namespace Sep
open PySem L2
def pkC {α : Type} (o : Option α) (r : List α) : List α := match o with
  | some a => a :: r
  | none => r
def kMkC (c : Str) (N n : Nat) (tm : List (Nat × Nat)) (dD mD : List D) (F : FnD) (l : Nat) (o : Out (List D)) : Out R := o.bind fun ds ρ3 => if l = n ∧ (mix tm n dD mD ds).length + 1 = N then retM ρ3 (F (.obj c [] [] :: shs (mix tm n dD mD ds))) else .stuck
def kMkB (c : Str) (N n : Nat) (tm : List (Nat × Nat)) (dD mD : List D) (F : FnD) (rs : List R) (o : Out (List R)) : Out R := o.bind fun zs ρ2 => kMkC c N n tm dD mD F rs.length (consAll (rs ++ zs) ρ2)
def kMkA (c : Str) (N n : Nat) (tm : List (Nat × Nat)) (dD mD : List D) (F : FnD) (fz : Sl → Out (List R)) (o : Out (List R)) : Out R := o.bind fun rs ρ1 => kMkB c N n tm dD mD F rs (fz ρ1)
def kCkC (N n : Nat) (tm : List (Nat × Nat)) (dD mD : List D) (F : FnD) (l : Nat) (o : Out (List D)) : Out R := o.bind fun ds ρ3 => if l = n ∧ (mix tm n dD mD ds).length = N then retC ρ3 (F (shs (mix tm n dD mD ds))) else .stuck
def kCkB (N n : Nat) (tm : List (Nat × Nat)) (dD mD : List D) (F : FnD) (rs : List R) (o : Out (List R)) : Out R := o.bind fun zs ρ2 => kCkC N n tm dD mD F rs.length (consAll (rs ++ zs) ρ2)
def kCkA (N n : Nat) (tm : List (Nat × Nat)) (dD mD : List D) (F : FnD) (fz : Sl → Out (List R)) (o : Out (List R)) : Out R := o.bind fun rs ρ1 => kCkB N n tm dD mD F rs (fz ρ1)
def kMeD (N n : Nat) (tm : List (Nat × Nat)) (dD mD : List D) (F : FnD) (l : Nat) (o : Out (List D)) : Out R := o.bind fun ds ρ3 => if l = n ∧ (mix tm n dD mD ds.tail).length + 1 = N then retC ρ3 (F (shs (ds.headD .non :: mix tm n dD mD ds.tail))) else .stuck
def kMeC (N n : Nat) (tm : List (Nat × Nat)) (dD mD : List D) (F : FnD) (r : R) (o : Out (List R)) : Out R := o.bind fun rs ρ2 => kMeD N n tm dD mD F rs.length (consAll (r :: rs) ρ2)
def kMeB (cs m : Str) (N n : Nat) (tm : List (Nat × Nat)) (dD mD : List D) (F : FnD) (r : R) (fs : Sl → Out (List R)) (ρ1 : Sl) : Option D → Out R
  | some (.obj c ns _) => if c = cs ∧ ns.contains m = false then kMeC N n tm dD mD F r (fs ρ1) else .stuck
  | _ => .stuck
def kMeA (cs m : Str) (N n : Nat) (tm : List (Nat × Nat)) (dD mD : List D) (F : FnD) (fs : Sl → Out (List R)) (o : Out R) : Out R := o.bind fun r ρ1 => kMeB cs m N n tm dD mD F r fs ρ1 (look r ρ1)
def kObC (c : Str) (N n l : Nat) (F : FnD) (ρ3 : Sl) : List D → Out R
  | .obj c' ns es :: dr => if c' = c ∧ l = n ∧ dr.length + 1 = N then retC ρ3 (F (shs (.obj c' ns es :: dr))) else .stuck
  | _ => .stuck
def kObB2 (c : Str) (N n l : Nat) (F : FnD) (o : Out (List D)) : Out R := o.bind fun ds ρ3 => kObC c N n l F ρ3 ds
def kObB1 (c : Str) (N n : Nat) (F : FnD) (r : R) (o : Out (List R)) : Out R := o.bind fun rs ρ2 => kObB2 c N n rs.length F (consAll (r :: rs) ρ2)
def kObB (c : Str) (N n : Nat) (F : FnD) (r : R) (fs : Sl → Out (List R)) (ρ1 : Sl) : Option D → Out R
  | some (.obj _ _ _) => kObB1 c N n F r (fs ρ1)
  | _ => .stuck
def kObA (c : Str) (N n : Nat) (F : FnD) (fs : Sl → Out (List R)) (o : Out R) : Out R := o.bind fun r ρ1 => kObB c N n F r fs ρ1 (look r ρ1)
def kOwE (ρ3 : Sl) : Out Slot → Out R
  | .ok (.sh (.bl b)) _ => .ok (.v (.sh (.bl b))) ρ3
  | _ => .stuck
def kOwD (c : Str) (cs : List Str) (F : FnD) (ρ3 : Sl) : List D → Out R
  | [.obj c' ns es, d2] => if c' = c ∧ gTy cs d2 = true then kOwE ρ3 (F [.sh (.obj c' ns es), .sh d2]) else .stuck
  | _ => .stuck
def kOwC (c : Str) (cs : List Str) (F : FnD) (o : Out (List D)) : Out R := o.bind fun ds ρ3 => kOwD c cs F ρ3 ds
def kOwB (c : Str) (cs : List Str) (F : FnD) (r1 : R) (o : Out R) : Out R := o.bind fun r2 ρ2 => kOwC c cs F (consAll [r1, r2] ρ2)
def kOwA (c : Str) (cs : List Str) (F : FnD) (fb : Ev) (o : Out R) : Out R := o.bind fun r1 ρ1 => kOwB c cs F r1 (fb ρ1)
def kFsD (cs : List Str) (i : Nat) (f : Str) (d : D) (ρ2 : Sl) (c : Str) (ns : List Str) : Option (List D) → Out Fl
  | some ds => if cs.contains c = true ∧ ns.length < 1000 ∧ ns.length = ds.length then .ok .nx (ρ2.set i (.obj c (putN f ns) (shs (putA f d ns ds)))) else .stuck
  | none => .stuck
def kFsC (cs : List Str) (i : Nat) (f : Str) (d : D) (ρ2 : Sl) : Option Slot → Out Fl
  | some (.obj c ns ss) => kFsD cs i f d ρ2 c ns (flats ss)
  | _ => .stuck
def kFsB (cs : List Str) (i : Nat) (f : Str) (o : Out D) : Out Fl := o.bind fun d ρ2 => kFsC cs i f d ρ2 (ρ2[i]?)
def kFsA (cs : List Str) (i : Nat) (f : Str) (o : Out R) : Out Fl := o.bind fun r ρ1 => kFsB cs i f (cons r ρ1)
theorem ev11 :
    (∀ c N n tm dD mD F fs fz ρ, eMakeK c N n tm dD mD F fs fz ρ = kMkA c N n tm dD mD F fz (fs ρ)) ∧
    (∀ c N n tm dD mD F fz rs ρ, kMkA c N n tm dD mD F fz (.ok rs ρ) = kMkB c N n tm dD mD F rs (fz ρ)) ∧
    (∀ c N n tm dD mD F rs zs ρ, kMkB c N n tm dD mD F rs (.ok zs ρ) = kMkC c N n tm dD mD F rs.length (consAll (rs ++ zs) ρ)) ∧
    (∀ c N n tm dD mD F l ds ρ, kMkC c N n tm dD mD F l (.ok ds ρ) = if l = n ∧ (mix tm n dD mD ds).length + 1 = N then retM ρ (F (.obj c [] [] :: shs (mix tm n dD mD ds))) else .stuck) ∧
    (∀ N n tm dD mD F fs fz ρ, eCallK N n tm dD mD F fs fz ρ = kCkA N n tm dD mD F fz (fs ρ)) ∧
    (∀ N n tm dD mD F fz rs ρ, kCkA N n tm dD mD F fz (.ok rs ρ) = kCkB N n tm dD mD F rs (fz ρ)) ∧
    (∀ N n tm dD mD F rs zs ρ, kCkB N n tm dD mD F rs (.ok zs ρ) = kCkC N n tm dD mD F rs.length (consAll (rs ++ zs) ρ)) ∧
    (∀ N n tm dD mD F l ds ρ, kCkC N n tm dD mD F l (.ok ds ρ) = if l = n ∧ (mix tm n dD mD ds).length = N then retC ρ (F (shs (mix tm n dD mD ds))) else .stuck) ∧
    (∀ ρ s r, retM ρ (.ok (.sh .non) (s :: r)) = .ok (.v s) ρ) ∧
    (∀ ρ c ns es fs, retM ρ (.exc c ns es fs) = .exc c ns es ρ) ∧
    (∀ ρ s fs, retC ρ (.ok s fs) = .ok (.v s) ρ) ∧
    (∀ ρ c ns es fs, retC ρ (.exc c ns es fs) = .exc c ns es ρ) ∧
    (∀ cs m N n tm dD mD F fo fs ρ, eMethK cs m N n tm dD mD F fo fs ρ = kMeA cs m N n tm dD mD F fs (fo ρ)) ∧
    (∀ cs m N n tm dD mD F fs r ρ, kMeA cs m N n tm dD mD F fs (.ok r ρ) = kMeB cs m N n tm dD mD F r fs ρ (look r ρ)) ∧
    (∀ cs m N n tm dD mD F r fs ρ c ns es, kMeB cs m N n tm dD mD F r fs ρ (some (.obj c ns es)) = if c = cs ∧ ns.contains m = false then kMeC N n tm dD mD F r (fs ρ) else .stuck) ∧
    (∀ N n tm dD mD F r rs ρ, kMeC N n tm dD mD F r (.ok rs ρ) = kMeD N n tm dD mD F rs.length (consAll (r :: rs) ρ)) ∧
    (∀ N n tm dD mD F l d ds ρ, kMeD N n tm dD mD F l (.ok (d :: ds) ρ) = if l = n ∧ (mix tm n dD mD ds).length + 1 = N then retC ρ (F (shs (d :: mix tm n dD mD ds))) else .stuck) ∧
    (∀ c N n F fo fs ρ, eObj c N n F fo fs ρ = kObA c N n F fs (fo ρ)) ∧
    (∀ c N n F fs r ρ, kObA c N n F fs (.ok r ρ) = kObB c N n F r fs ρ (look r ρ)) ∧
    (∀ c N n F r fs ρ c' ns es, kObB c N n F r fs ρ (some (.obj c' ns es)) = kObB1 c N n F r (fs ρ)) ∧
    (∀ c N n F r rs ρ, kObB1 c N n F r (.ok rs ρ) = kObB2 c N n rs.length F (consAll (r :: rs) ρ)) ∧
    (∀ c N n l F ds ρ, kObB2 c N n l F (.ok ds ρ) = kObC c N n l F ρ ds) ∧
    (∀ c N n l F ρ c' ns es dr, kObC c N n l F ρ (.obj c' ns es :: dr) = if c' = c ∧ l = n ∧ dr.length + 1 = N then retC ρ (F (shs (.obj c' ns es :: dr))) else .stuck) ∧
    (∀ c cs F fa fb ρ, eOwn2 c cs F fa fb ρ = kOwA c cs F fb (fa ρ)) ∧
    (∀ c cs F fb r ρ, kOwA c cs F fb (.ok r ρ) = kOwB c cs F r (fb ρ)) ∧
    (∀ c cs F r1 r ρ, kOwB c cs F r1 (.ok r ρ) = kOwC c cs F (consAll [r1, r] ρ)) ∧
    (∀ c cs F ds ρ, kOwC c cs F (.ok ds ρ) = kOwD c cs F ρ ds) ∧
    (∀ c cs F ρ c' ns es d2, kOwD c cs F ρ [.obj c' ns es, d2] = if c' = c ∧ gTy cs d2 = true then kOwE ρ (F [.sh (.obj c' ns es), .sh d2]) else .stuck) ∧
    (∀ ρ b fs, kOwE ρ (.ok (.sh (.bl b)) fs) = .ok (.v (.sh (.bl b))) ρ) ∧
    (∀ cs i f fe ρ, sFldS cs i f fe ρ = kFsA cs i f (fe ρ)) ∧
    (∀ cs i f r ρ, kFsA cs i f (.ok r ρ) = kFsB cs i f (cons r ρ)) ∧
    (∀ cs i f d ρ, kFsB cs i f (.ok d ρ) = kFsC cs i f d ρ (ρ[i]?)) ∧
    (∀ cs i f d ρ c ns ss, kFsC cs i f d ρ (some (.obj c ns ss)) = kFsD cs i f d ρ c ns (flats ss)) ∧
    (∀ cs i f d ρ c ns ds, kFsD cs i f d ρ c ns (some ds) = if cs.contains c = true ∧ ns.length < 1000 ∧ ns.length = ds.length then .ok .nx (ρ.set i (.obj c (putN f ns) (shs (putA f d ns ds)))) else .stuck) ∧
    (∀ (α : Type) (ls : List (List α)), pk [] ls = []) ∧
    (∀ (α : Type) p tm (ls : List (List α)), pk (p :: tm) ls = pkC ((ls[p.1]?).bind fun l => l[p.2]?) (pk tm ls)) ∧
    (∀ (α : Type) (a : α) r, pkC (some a) r = a :: r) ∧
    (∀ (α : Type) (a : α) n l, (a :: l).take (n + 1) = a :: l.take n) ∧ (∀ (α : Type) (l : List α), l.take 0 = []) ∧ (∀ (α : Type) n, ([] : List α).take n = []) ∧
    (∀ (α : Type) (a : α) n l, (a :: l).drop (n + 1) = l.drop n) ∧ (∀ (α : Type) (l : List α), l.drop 0 = l) ∧ (∀ (α : Type) n, ([] : List α).drop n = []) ∧
    (∀ i j, gDm (.int i) (.int j) = if 0 < j ∧ j < 1073741824 then some (.sh (.tup [.int (i / j), .int (i % j)])) else none) ∧
    (∀ t c ns ds, gIsc t (.obj c ns ds) = (t c).map fun b => .sh (.bl b)) ∧
    (∀ t, gIsc t .non = some (.sh (.bl false))) ∧ (∀ t i, gIsc t (.int i) = some (.sh (.bl false))) ∧ (∀ t i, gIsc t (.tup i) = some (.sh (.bl false))) ∧ (∀ t i, gIsc t (.lst i) = some (.sh (.bl false))) ∧ (∀ t i, gIsc t (.str i) = some (.sh (.bl false))) ∧ (∀ t i, gIsc t (.bl i) = some (.sh (.bl false))) ∧
    (∀ cs c ns ds, gTy cs (.obj c ns ds) = cs.contains c) ∧ (∀ cs, gTy cs .non = true) ∧ (∀ cs i, gTy cs (.int i) = true) ∧ (∀ cs i, gTy cs (.tup i) = true) ∧ (∀ cs i, gTy cs (.lst i) = true) := by
  refine ⟨fun _ _ _ _ _ _ _ _ _ _ => rfl, fun _ _ _ _ _ _ _ _ _ _ => rfl, fun _ _ _ _ _ _ _ _ _ _ => rfl, fun _ _ _ _ _ _ _ _ _ _ => rfl, fun _ _ _ _ _ _ _ _ _ => rfl, fun _ _ _ _ _ _ _ _ _ => rfl, fun _ _ _ _ _ _ _ _ _ => rfl, fun _ _ _ _ _ _ _ _ _ => rfl, fun _ _ _ => rfl, fun _ _ _ _ _ => rfl, fun _ _ _ => rfl, fun _ _ _ _ _ => rfl, fun _ _ _ _ _ _ _ _ _ _ _ => ?_, fun _ _ _ _ _ _ _ _ _ _ _ => rfl, fun _ _ _ _ _ _ _ _ _ _ _ _ _ _ => rfl, fun _ _ _ _ _ _ _ _ _ => rfl, fun _ _ _ _ _ _ _ _ _ _ => rfl,
    fun _ _ _ _ _ _ _ => ?_, fun _ _ _ _ _ _ _ => rfl, fun _ _ _ _ _ _ _ _ _ _ => rfl, fun _ _ _ _ _ _ _ => rfl, fun _ _ _ _ _ _ _ => rfl, fun _ _ _ _ _ _ _ _ _ _ => rfl, fun _ _ _ _ _ _ => ?_, fun _ _ _ _ _ _ => rfl, fun _ _ _ _ _ _ => rfl, fun _ _ _ _ _ => rfl, fun _ _ _ _ _ _ _ _ => rfl, fun _ _ _ => rfl, fun _ _ _ _ _ => ?_, fun _ _ _ _ _ => rfl, fun _ _ _ _ _ => rfl, fun _ _ _ _ _ _ _ _ => rfl, fun _ _ _ _ _ _ _ _ => rfl,
    fun _ _ => rfl, fun _ p tm ls => ?_, fun _ _ _ => rfl, fun _ _ _ _ => rfl, fun _ l => rfl, fun _ n => by simp, fun _ _ _ _ => rfl, fun _ _ => rfl, fun _ n => by simp, fun _ _ => rfl, fun _ _ _ _ => rfl, fun _ => rfl, fun _ _ => rfl, fun _ _ => rfl, fun _ _ => rfl, fun _ _ => rfl, fun _ _ => rfl, fun _ _ _ _ => rfl, fun _ => rfl, fun _ _ => rfl, fun _ _ => rfl, fun _ _ => rfl⟩
  · unfold eMethK kMeA kMeB kMeC kMeD; rfl
  · unfold eObj kObA kObB kObB1 kObB2 kObC; rfl
  · unfold eOwn2 kOwA kOwB kOwC kOwD kOwE; rfl
  · unfold sFldS kFsA kFsB kFsC kFsD; rfl
  · unfold pk; rw [List.filterMap_cons]
    cases (ls[p.1]?).bind fun l => l[p.2]? <;> rfl
theorem ev12 : (∀ i j, gNe (.bl i) (.bl j) = some (.sh (.bl (!(i == j))))) ∧ ((true == true) = true) ∧ ((false == false) = true) ∧ ((true == false) = false) ∧ ((false == true) = false) ∧ (∀ i, gEq .non (.int i) = some (.sh (.bl false))) ∧ (∀ i, gEq (.int i) .non = some (.sh (.bl false))) ∧ (gEq .non .non = some (.sh (.bl true))) ∧ (∀ i, gNe .non (.int i) = some (.sh (.bl true))) ∧ (∀ i, gNe (.int i) .non = some (.sh (.bl true))) ∧ (gNe .non .non = some (.sh (.bl false))) :=
  ⟨fun _ _ => rfl, rfl, rfl, rfl, rfl, fun _ => rfl, fun _ => rfl, rfl, fun _ => rfl, fun _ => rfl, rfl⟩
end Sep

/-! SepY: the other compare of a law. -/
namespace LwB
open PySem L2 Sep
def fx__law_same : FX := fun i => match i with | 0 => true | 1 => true | _ => false
def F__law_same : Nat → FnD
  | 0 => fun _ => .stuck
  | n + 1 => fnOf 3 2 fx__law_same (sSeq (sIf (eOr (tOfE (eOp gNe (eUn (gIsi "tuple") (eVar 1)) (eUn (gIsi "tuple") (eVar 0)))) (tOfE (eOp gNe (eUn (gIsi "list") (eVar 1)) (eUn (gIsi "list") (eVar 0)))))
  (sRetM (eC (.bl false)))
  sNil)
  (sSeq (sIf (eOr (eTru (eUn (gIsi "tuple") (eVar 1))) (eTru (eUn (gIsi "list") (eVar 1))))
  (sRetM (eAndV (eOp gEq (eCB (g1 gLen) (aCons (eVar 0) aNil)) (eCB (g1 gLen) (aCons (eVar 1) aNil))) (eCB (g1 gAll) (aCons (eComp [2] (iRange1 (eCB (g1 gLen) (aCons (eVar 1) aNil))) (kName 2) pYes (eCallF 2 (F__law_same n) (aCons (eOp gIx (eVar 0) (eVar 2)) (aCons (eOp gIx (eVar 1) (eVar 2)) aNil)))) aNil))))
  sNil)
  (sRetM (eAndV (eOp gEq (eUn (gIsi "bool") (eVar 0)) (eUn (gIsi "bool") (eVar 1))) (eOp gEq (eVar 0) (eVar 1))))))

theorem ix_tup {ds : List D} (i : Nat) (d : D) (h : ds[i]? = some d) : gIx (.tup ds) (.int i) = some (.sh d) := LwA.ix_tup i d h
theorem ix_lst {ds : List D} (i : Nat) (d : D) (h : ds[i]? = some d) : gIx (.lst ds) (.int i) = some (.sh d) := LwA.ix_tup i d h
theorem loopB {F : FnD} {a : D} {ds : List D} (hix : ∀ (i : Nat) d, ds[i]? = some d → gIx a (.int i) = some (.sh d)) (hF : ∀ d ∈ ds, ∃ fs, F [.sh d, .sh d] = .ok (.sh (.bl true)) fs) (hl : ds.length < 16777216) :
    compL [2] (kName 2) pYes (eCallF 2 F (aCons (eOp gIx (eVar 0) (eVar 2)) (aCons (eOp gIx (eVar 1) (eVar 2)) aNil))) (rngD 0 ds.length) [] [.sh a, .sh a, .no] = .ok ((List.replicate ds.length true).map D.bl) [.sh a, .sh a, .no] := by
  rw [rngD0]
  have c := compL_fm (g := kName 2) (vs := [2]) (p := pYes) (e := eCallF 2 F (aCons (eOp gIx (eVar 0) (eVar 2)) (aCons (eOp gIx (eVar 1) (eVar 2)) aNil))) (en := fun (i : Nat) => D.int i) (ρ := [.sh a, .sh a, .no]) (f := fun _ => some (.bl true)) (List.range' 0 ds.length) (fun k hk es acc hacc => by
    rw [List.mem_range'_1] at hk
    obtain ⟨d, hd⟩ : ∃ d, ds[k]? = some d := ⟨ds[k]'(by omega), List.getElem?_eq_getElem (by omega)⟩
    obtain ⟨fs, e⟩ := hF d (List.mem_of_getElem? hd)
    have hi := hix k d hd
    simp only [ev1, ev2, ev3, ev4, ev5, ev6, ev7, LIM, ↓reduceIte, Nat.reduceAdd, Nat.reduceSub, Nat.reduceLeDiff, Nat.reduceLT, Nat.reduceEqDiff, Int.reduceEq, Int.reduceLT, Int.reduceLE, Int.reduceNeg, Int.reduceBEq, decide_true, decide_false, Bool.not_true, Bool.not_false, Option.getD_some, eq_self, Bool.false_eq_true, ev8, ev9, ev10, ev11, ev12, hi, e, hacc, Option.toList_some]) [] (by rw [List.length_nil, List.length_range']; show 0 + ds.length ≤ 16777216; omega)
  rw [c, List.nil_append]
  congr 1
  have : ∀ l : List Nat, l.filterMap (fun _ => some (D.bl true)) = (List.replicate l.length true).map D.bl := fun l => by
    induction l with
    | nil => rfl
    | cons x l ih => rw [List.filterMap_cons, ih]; rfl
  rw [this, List.length_range']
theorem all_true (n : Nat) : gAll (.lst ((List.replicate n true).map D.bl)) = some (.sh (.bl true)) := by
  show (blsOf _).map _ = _
  rw [blsOf_map, Option.map_some]
  have : (List.replicate n true).all id = true := by induction n with
    | zero => rfl
    | succ n ih => rw [List.replicate_succ, List.all_cons, ih]; rfl
  rw [this]
theorem eq_self_s : ∀ (d : D), d.scal = true → plainN 0 d = true → gEq d d = some (.sh (.bl true)) := fun d h p => by
  cases d <;> first | (cases h; done) | skip
  · rfl
  · rw [ev5.2.2.2.2.2.2.2.2.1, beq_self_eq_true]
  · rw [ev5.2.2.2.2.2.2.1, beq_self_eq_true]
  · rw [eq_str p _ p, beq_self_eq_true]
/-- limits on lengths that a list comprehension needs -/
def plainM : Nat → D → Bool
  | _, .non => true
  | _, .bl _ => true
  | _, .int _ => true
  | _, .str s => PyData.canLay0 (.str s)
  | n + 1, .tup ds => decide (ds.length < 16777216) && ds.all (plainM n)
  | n + 1, .lst ds => decide (ds.length < 16777216) && ds.all (plainM n)
  | _, _ => false
theorem same_sc (n : Nat) (d : D) (hs : d.scal = true) (hp : plainN 0 d = true) : F__law_same (n + 1) [.sh d, .sh d] = .ok (.sh (.bl true)) [.sh d, .sh d] := by
  have e := eq_self_s d hs hp
  cases d <;> first | (cases hs; done) | skip
  all_goals (unfold F__law_same; simp only [ev1, ev2, ev3, ev4, ev5, ev6, ev7, LIM, ↓reduceIte, Nat.reduceAdd, Nat.reduceSub, Nat.reduceLeDiff, Nat.reduceLT, Nat.reduceEqDiff, Int.reduceEq, Int.reduceLT, Int.reduceLE, Int.reduceNeg, Int.reduceBEq, decide_true, decide_false, Bool.not_true, Bool.not_false, Option.getD_some, eq_self, Bool.false_eq_true, ev8, ev9, ev10, ev11, ev12, isI_eqs, fx__law_same, beq_self_eq_true, Bool.or_false, Bool.or_self, Bool.or_true, e])
theorem same_ok : ∀ n d, plainM n d = true → F__law_same (n + 1) [.sh d, .sh d] = .ok (.sh (.bl true)) [.sh d, .sh d] := by
  intro n
  induction n with
  | zero =>
    intro d h
    cases d with
    | non => exact same_sc 0 _ rfl rfl
    | bl b => exact same_sc 0 _ rfl rfl
    | int i => exact same_sc 0 _ rfl rfl
    | str s => exact same_sc 0 _ rfl h
    | _ => cases h
  | succ n ih =>
    intro d h
    cases d with
    | non => exact same_sc _ _ rfl rfl
    | bl b => exact same_sc _ _ rfl rfl
    | int i => exact same_sc _ _ rfl rfl
    | str s => exact same_sc _ _ rfl h
    | tup ds =>
      unfold plainM at h
      obtain ⟨hl, hp⟩ := Bool.and_eq_true_iff.mp h
      have hl := of_decide_eq_true hl
      have hl2 : (ds.length : Int) < 2 ^ 62 ∧ -(2 ^ 62) ≤ (ds.length : Int) := by omega
      have lo := loopB (F := F__law_same (n + 1)) (a := .tup ds) ix_tup (fun d hd => ⟨_, ih d (List.all_eq_true.mp hp d hd)⟩) hl
      have al := all_true ds.length
      unfold F__law_same
      simp only [ev1, ev2, ev3, ev4, ev5, ev6, ev7, LIM, ↓reduceIte, Nat.reduceAdd, Nat.reduceSub, Nat.reduceLeDiff, Nat.reduceLT, Nat.reduceEqDiff, Int.reduceEq, Int.reduceLT, Int.reduceLE, Int.reduceNeg, Int.reduceBEq, decide_true, decide_false, Bool.not_true, Bool.not_false, Option.getD_some, eq_self, Bool.false_eq_true, ev8, ev9, ev10, ev11, ev12, isI_eqs, fx__law_same, beq_self_eq_true, Bool.or_false, Bool.or_self, hl2, Int.toNat_natCast, lo, al, and_self]
    | lst ds =>
      unfold plainM at h
      obtain ⟨hl, hp⟩ := Bool.and_eq_true_iff.mp h
      have hl := of_decide_eq_true hl
      have hl2 : (ds.length : Int) < 2 ^ 62 ∧ -(2 ^ 62) ≤ (ds.length : Int) := by omega
      have lo := loopB (F := F__law_same (n + 1)) (a := .lst ds) ix_lst (fun d hd => ⟨_, ih d (List.all_eq_true.mp hp d hd)⟩) hl
      have al := all_true ds.length
      unfold F__law_same
      simp only [ev1, ev2, ev3, ev4, ev5, ev6, ev7, LIM, ↓reduceIte, Nat.reduceAdd, Nat.reduceSub, Nat.reduceLeDiff, Nat.reduceLT, Nat.reduceEqDiff, Int.reduceEq, Int.reduceLT, Int.reduceLE, Int.reduceNeg, Int.reduceBEq, decide_true, decide_false, Bool.not_true, Bool.not_false, Option.getD_some, eq_self, Bool.false_eq_true, ev8, ev9, ev10, ev11, ev12, isI_eqs, fx__law_same, beq_self_eq_true, Bool.or_false, Bool.or_self, hl2, Int.toNat_natCast, lo, al, and_self]
    | _ => cases h
end LwB

/-! SepZ: exceptions of the text. -/
namespace Sep
open PySem L2
section
variable {X : Cx} {e : Expr} {es : List Expr} {ta : TA} {p1 p2 pos : Pos} {x : Str} {C : Addr} {mc : Value}
/-- Base.__init__(self, ..), Base a class of the text without an __init__, above ValueError -/
theorem pe_teinit {pl : Sem Bool} (hg : Gl X x) (hm : X.mg x = some (.ref C)) (r : ClX.CRead X.K C mc) (v : PySem.W.findCls X.K (.ref C) mc "__init__" = some (.val (.builtin "ValueError.__init__"))) (ha : PA X (e :: es) ta) (hd : (x == ("__debug__" : Str)) = false := by decide)
    (hc : eval (.Call (.Attribute (.Name x p1) "__init__" p2) (e :: es) [] pos) X.env = (do
      let ov ← eval (.Name x p1) X.env
      standAt p2.atName
      let (f, first) ← holding [ov] (getMethod ov "__init__" pl)
      callWith pos f first (backTo pos (starEach (e :: es) X.env)) (backToKw pos (keywordEach [] X.env))) := by rfl)
    (he : starEach (e :: es) X.env = (false, eval e X.env) :: starEach es X.env := by rfl) (hpl : (backTo pos (starEach es X.env)).any (·.1) = false := by rfl) :
    PE X (.Call (.Attribute (.Name x p1) "__init__" p2) (e :: es) [] pos) (tVeI X.K ta) := by
  refine ⟨fun pins s σ H Q I h => PySem.W.methodCall_KW (ld_glob I hg hm ?_ hd) hc⟩
  refine PySem.W.method_cls I.kIn r.ga (PySem.W.cls_value I.kIn r.rd v (by decide +kernel) ?_)
  show wpAny _ _ (callWith pos (.builtin "ValueError.__init__") [] (backTo pos (starEach (e :: es) X.env)) []) _ _ _
  refine PyProof.Rows.callWith_method1 (thn (ha.run pos pins _ σ H _ (I.tok _) h) fun us s1 z => ?_) he hpl
  obtain ⟨vs, H1, I1, r1, a, C', ws, ev, hl, T, ea, q⟩ := z
  subst ev
  rcases r1 with _ | ⟨ra, rw'⟩
  rename_i u0 ur
  obtain rfl : u0 = Value.ref a := ra
  exact oinit_ok T I1 ea (by rw [← Paired.length rw', sizeLine_eq]; omega) fun s' J => ⟨.non, H1, J, rfl, q⟩
end
end Sep

/-! SepZ2: exceptions' __init__, raise. -/
namespace Sep
open PySem L2
/-- what is looked at of an exception class of the text -/
def oexB (K : PySem.W.Frag) (C : Addr) : Bool :=
  (match K.lookup C with
    | some ⟨.type "type", _, .cls cd, sl⟩ => (match cd.mro, sl.toList with
      | .ref C' :: bm, [_, _, _, _, some (.builtin n), _] => C' == C && n == "ValueError.__new__" && !cd.hasDel && cd.hasDict && PySem.HandSPX.refsVE bm
      | _, _ => false)
    | _ => false) &&
  (decide (PySem.W.findIn K (.ref C) "__setattr__" = some (some (.builtin "object.__setattr__"))) &&
  (decide (PySem.W.subIn K (.ref C) (.type "BaseException") = some true) &&
  (decide (PySem.W.typeIn K (.ref C) = some (.type "type")) && PySem.W.keepIn K (.ref C))))
theorem oexB_ok {K : PySem.W.Frag} {C : Addr} (h : oexB K C = true) : OexC K C := by
  unfold oexB at h
  simp only [Bool.and_eq_true, decide_eq_true_eq] at h
  obtain ⟨h1, h2, h3, h4, h5⟩ := h
  refine ⟨?_, h2, h3, h4, h5⟩
  split at h1
  · rename_i dd cd sl ho
    split at h1
    · rename_i C' bm k0 k1 k2 k3 n k5 hm hs
      simp only [Bool.and_eq_true, beq_iff_eq, Bool.not_eq_true'] at h1
      obtain ⟨⟨⟨⟨e1, e2⟩, hdel⟩, hdc⟩, hr⟩ := h1
      subst e1 e2
      obtain ⟨nm, bs, mro, ns, qn, hd, sn, sub, ab, col, del⟩ := cd
      dsimp only at hm hdel hdc
      subst hm hdel hdc
      obtain ⟨l⟩ := sl
      simp only at hs
      rw [hs] at ho
      exact ⟨_, _, _, _, _, _, _, _, _, _, _, _, _, _, _, ho, hr⟩
    · cases h1
  · cases h1
/-! ### what an exception's __init__ does -/
def putsV (vs : List V) : List (Str × Nat) → List (Str × V) → List (Str × V)
  | [], acc => acc
  | p :: r, acc => putsV vs r ((p.1, vs.getD p.2 .non) :: acc)
def strsV (vs : List V) (is : List Nat) : Prop := ∀ i ∈ is, ∃ z : Str, vs[i]? = some (.str z) ∧ z.length ≤ 1000000
def spX (K : PySem.W.Frag) (n : Nat) (is : List Nat) (fs : List (Str × Nat)) : Sp := fun vs H Q _ => vs.length = n + 1 ∧ strsV vs is ∧ ∃ a C, vs[0]? = some (.ref a) ∧ OexC K C ∧ (∀ p ∈ fs, PySem.W.findIn K (.ref C) p.1 = some none) ∧ H a = some (exo a C none) ∧
  ∀ d, H d = none → d ≠ a → Q .non (upd (upd H d (exd d (putsV vs fs []))) a (exo a C (some d)))
def tPuts (K : PySem.W.Frag) : List (Str × Nat) → TS
  | [] => tNext
  | p :: r => tSeq (tOst K p.1 (tVar 0) (tVar p.2)) (tPuts K r)
theorem puts_more {K : PySem.W.Frag} {vs : List V} {σ : L2.St} {a C d : Addr} {D : Ends} (hT : OexC K C) (h0 : σ[0]? = some (some (.ref a))) (hσ : ∀ (i : Nat) (v : V), vs[i]? = some v → σ[i]? = some (some v)) :
    ∀ (fs : List (Str × Nat)) (acc : List (Str × V)) (H : Hp), (∀ p ∈ fs, p.2 < vs.length) → (∀ p ∈ fs, PySem.W.findIn K (.ref C) p.1 = some none) → acc.length + fs.length ≤ 900 → H a = some (exo a C (some d)) → H d = some (exd d acc) → d ≠ a →
      D.nx σ (upd H d (exd d (putsV vs fs acc))) → tPuts K fs D σ H
  | [], acc, H, _, _, _, ha, hd, _, h => by
    have e : upd H d (exd d acc) = H := by
      funext b
      by_cases q : b = d
      · subst q; rw [upd_same, hd]
      · rw [upd_ne q]
    rw [show putsV vs [] acc = acc from rfl, e] at h
    exact h
  | p :: r, acc, H, hi, hf, hl, ha, hd, nd, h => by
    have hlt := hi p List.mem_cons_self
    have ev : vs[p.2]? = some (vs.getD p.2 .non) := by simp [List.getD, hlt]
    refine ⟨_, hσ _ _ ev, .ref a, h0, a, C, rfl, hT, hf p List.mem_cons_self, .inr ⟨d, acc, ha, hd, by simp only [List.length_cons] at hl; omega, ?_⟩⟩
    refine puts_more hT h0 hσ r _ _ (fun q z => hi q (List.mem_cons_of_mem _ z)) (fun q z => hf q (List.mem_cons_of_mem _ z)) (by simp only [List.length_cons] at hl ⊢; omega) (by rw [upd_ne (Ne.symm nd)]; exact ha) upd_same nd ?_
    have e : upd (upd H d (exd d ((p.1, vs.getD p.2 .non) :: acc))) d (exd d (putsV vs r ((p.1, vs.getD p.2 .non) :: acc))) = upd H d (exd d (putsV vs (p :: r) acc)) := by
      funext b
      by_cases q : b = d
      · subst q; rw [upd_same, upd_same]; rfl
      · rw [upd_ne q, upd_ne q, upd_ne q]
    rw [e]; exact h
theorem puts_ok {K : PySem.W.Frag} {vs : List V} {σ : L2.St} {a C : Addr} {D : Ends} {fs : List (Str × Nat)} {H : Hp} (hT : OexC K C) (h0 : σ[0]? = some (some (.ref a))) (hσ : ∀ (i : Nat) (v : V), vs[i]? = some v → σ[i]? = some (some v)) (hne : fs ≠ [])
    (hi : ∀ p ∈ fs, p.2 < vs.length) (hf : ∀ p ∈ fs, PySem.W.findIn K (.ref C) p.1 = some none) (hl : fs.length ≤ 900) (ha : H a = some (exo a C none))
    (h : ∀ d, H d = none → d ≠ a → D.nx σ (upd (upd H d (exd d (putsV vs fs []))) a (exo a C (some d)))) : tPuts K fs D σ H := by
  cases fs with
  | nil => exact absurd rfl hne
  | cons p r =>
    have hlt := hi p List.mem_cons_self
    have ev : vs[p.2]? = some (vs.getD p.2 .non) := by simp [List.getD, hlt]
    refine ⟨_, hσ _ _ ev, .ref a, h0, a, C, rfl, hT, hf p List.mem_cons_self, .inl ⟨ha, fun d n nd => ?_⟩⟩
    refine puts_more (d := d) hT h0 hσ r [(p.1, vs.getD p.2 .non)] _ (fun q z => hi q (List.mem_cons_of_mem _ z)) (fun q z => hf q (List.mem_cons_of_mem _ z)) (by simp only [List.length_cons, List.length_nil] at hl ⊢; omega) upd_same (by rw [upd_ne nd, upd_same]) nd ?_
    have e : upd (upd (upd H d (exd d [(p.1, vs.getD p.2 .non)])) a (exo a C (some d))) d (exd d (putsV vs r [(p.1, vs.getD p.2 .non)])) = upd (upd H d (exd d (putsV vs (p :: r) []))) a (exo a C (some d)) := by
      funext b
      by_cases q : b = d
      · subst q; rw [upd_same, upd_ne nd, upd_same]; rfl
      · rw [upd_ne q]
        by_cases q2 : b = a
        · subst q2; rw [upd_same, upd_same]
        · rw [upd_ne q2, upd_ne q, upd_ne q2, upd_ne q]
    rw [e]; exact h d n nd
/-- a message: made of constants and of the texts told -/
def MsgOk (is : List Nat) (n : Nat) (tm : TE) : Prop := ∀ (vs : List V) (σ : L2.St) (H : Hp) (Q : VK), (∀ (i : Nat) (v : V), vs[i]? = some v → σ[i]? = some (some v)) → strsV vs is → (∀ v, Q v H) → tm σ H Q
theorem msg_c {is : List Nat} {n : Nat} {v : V} : MsgOk is n (tC v) := fun _ _ _ _ _ _ h => h v
theorem msg_cat {K : PySem.W.Frag} {is : List Nat} {n i : Nat} {z : Str} (hi : i ∈ is) (hz : z.length ≤ 1000000) : MsgOk is n (tOp (rAdd K) (tC (.str z)) (tVar i)) := fun vs σ H Q hσ hs h => by
  obtain ⟨y, e, hl⟩ := hs i hi
  exact ⟨_, hσ _ _ e, .inr (.inl ⟨z, y, rfl, rfl, by have : (2000000 : Nat) ≤ sizeLine := lim_le (by decide); omega, h _⟩)⟩
theorem start_at {N : List Str} {vs : List V} : ∀ (i : Nat) (v : V), vs[i]? = some v → (L2.start N vs)[i]? = some (some v) := fun i v e => by
  have hj := (List.getElem?_eq_some_iff.mp e).1
  unfold L2.start
  rw [List.getElem?_append_left (by rw [List.length_map]; exact hj), List.getElem?_map, e]; rfl
/-- THE RULE of an exception's __init__ -/
theorem fn_exc {P : Program} {w : World} {K : PySem.W.Frag} {mg : Str → Option Value} {base : Heap} {x qual : Str} {params : Arguments} {body : List Stmt} {scope : Scope} {dvs : List V} {kws : List (Str × V)} {f : Addr} {fd : FuncData} {N ps : List Str} {k n : Nat}
    {is : List Nat} {fs : List (Str × Nat)} (Fu : FunD K x qual params body scope dvs kws f fd) (S : FnScope N ps scope) (hp : ps.length = n + 1) (hne : fs ≠ []) (hi : ∀ p ∈ fs, p.2 < n + 1) (hl : fs.length ≤ 900)
    (hb : ∀ (cdv : Value) (A : Around) (outer : List PySem.Env) (s : Shared) (H : Hp) (E : XK), ∃ tm, MsgOk is n tm ∧
      PSs (cxOf (L2.CX P w) P w K mg base N qual scope f cdv A outer s H E) body (tSeq (tDrop (tVeI K (tCons (tVar 0) (tCons tm tNil)))) (tPuts K fs))) :
    FnOk P w K mg base (L2.CX P w) (k + 1) f fd ps (spX K n is fs) := by
  refine Fu.ok S (fun vs H Q E h => by rw [h.1, hp]) fun cdv A outer s H vs Q E hr h => ?_
  obtain ⟨hv, hs, a, C, e0, T, hf, ha, q⟩ := h
  obtain ⟨tm, hm, D⟩ := hb cdv A outer s H E
  refine ⟨_, D, ⟨.ref a, start_at _ _ e0, ?_⟩⟩
  refine hm vs _ _ _ start_at hs fun mv => ⟨a, C, [mv], rfl, by simp, T, ha, ?_⟩
  exact puts_ok T (start_at _ _ e0) start_at hne (fun p z => by rw [hv]; exact hi p z) hf hl ha q
/-! ### raise C(..) -/
def pickX (ds : List D) (fs : List (Str × Nat)) : List D := (fs.reverse.map fun p => ds.getD (p.2 - 1) .non)
def strsD (ds : List D) : List Nat → Bool
  | [] => true
  | i :: r => (match ds[i - 1]? with
    | some (.str z) => decide (z.length ≤ 1000000)
    | _ => false) && strsD ds r
def sRaise (c : Str) (n : Nat) (is : List Nat) (fs : List (Str × Nat)) (fa : Sl → Out (List R)) : SEv := fun ρ => (fa ρ).bind fun rs ρ1 => (consAll rs ρ1).bind fun ds ρ2 => if ds.length = n ∧ strsD ds is = true then .exc c (fs.reverse.map (·.1)) (pickX ds fs) ρ2 else .stuck
theorem putsV_eq (vs : List V) : ∀ (fs : List (Str × Nat)) (acc : List (Str × V)), putsV vs fs acc = (fs.reverse.map fun p => (p.1, vs.getD p.2 .non)) ++ acc
  | [], acc => rfl
  | p :: r, acc => by
    rw [putsV, putsV_eq vs r, List.reverse_cons, List.map_append, List.append_assoc]; rfl
section
variable {G : Gm} {W : WX} {fx : FX} {ta : TA} {fa : Sl → Out (List R)} {H : Hp} {O : List Addr}
theorem strs_of {ds : List D} {vs : List V} {v0 : V} (h : RepDs G H O ds vs) : ∀ {is : List Nat}, (∀ i ∈ is, 0 < i) → strsD ds is = true → strsV (v0 :: vs) is
  | [], _, _ => fun i z => nomatch z
  | i :: r, hp, e => by
    rw [strsD, Bool.and_eq_true] at e
    intro j z
    rcases List.mem_cons.mp z with rfl | z
    · have e1 := e.1
      have pj := hp j List.mem_cons_self
      split at e1
      · rename_i y q
        obtain ⟨v, ev, rv⟩ := h.get q
        have rv' : v = .str y := rv
        subst rv'
        refine ⟨y, ?_, of_decide_eq_true e1⟩
        rw [show j = (j - 1) + 1 by omega, List.getElem?_cons_succ]
        exact ev
      · cases e1
    · exact strs_of h (fun i q => hp i (List.mem_cons_of_mem _ q)) e.2 j z
theorem pick_rep {ds : List D} {vs : List V} (h : RepDs G H O ds vs) : ∀ (is : List Nat), (∀ i ∈ is, 0 < i ∧ i ≤ ds.length) → RepDs G H O (is.map fun i => ds.getD (i - 1) .non) (is.map fun i => vs.getD (i - 1) .non)
  | [], _ => rfl
  | i :: r, hp => by
    have p := hp i List.mem_cons_self
    have hl : i - 1 < ds.length := by omega
    obtain ⟨v, ev, rv⟩ := h.get (i := i - 1) (d := ds.getD (i - 1) .non) (by simp [List.getD, hl])
    refine ⟨v, _, ?_, rv, pick_rep h r fun j z => hp j (List.mem_cons_of_mem _ z)⟩
    rw [List.map_cons]
    congr 1
    simp [List.getD, ev]
theorem del_upd2 {H : Hp} {a d : Addr} {o1 o2 o3 : HO} (ha : H a = none) (nd : d ≠ a) : upd (del (upd (upd H d o1) a o2) a) d o3 = upd H d o3 := by
  funext b
  by_cases q : b = d
  · subst q; rw [upd_same, upd_same]
  · rw [upd_ne q, upd_ne q]
    by_cases q2 : b = a
    · subst q2; rw [del_same, ha]
    · rw [del_ne q2, upd_ne q2, upd_ne q]
theorem ok_raise {c : Str} {n : Nat} {is : List Nat} {fs : List (Str × Nat)} (T : OexC G.K (G.cls c)) (hf : ∀ p ∈ fs, PySem.W.findIn G.K (.ref (G.cls c)) p.1 = some none) (hi : ∀ p ∈ fs, 0 < p.2 ∧ p.2 ≤ n) (hs : ∀ i ∈ is, 0 < i) (hn : n ≤ 1000) (A : ArOk G W ta fa) :
    SsOk G W fx (fun _ σ H => tMkO (G.cls c) (spX G.K n is fs) [] ta σ H fun cls d H' => W cls d σ H') (sRaise c n is fs fa) := by
  intro D σ H ρ T0 sr post
  refine A σ H ρ T0 _ sr (PostS.of post |>.imp fun rs ρ1 p vs H1 sr1 at1 => ?_)
  rcases consAll_or rs ρ1 with ⟨ds, ρ2, e⟩ | e
  · rw [e] at p
    obtain ⟨sr2, O, hO, hd⟩ := sr1.datas at1 e
    have p : PostS G W fx σ T0 D (if ds.length = n ∧ strsD ds is = true then Out.exc c (fs.reverse.map (·.1)) (pickX ds fs) ρ2 else .stuck) := p
    by_cases q : ds.length = n ∧ strsD ds is = true
    · rw [if_pos q] at p
      have hlen := hd.length
      refine ⟨by omega, fun a na => ?_⟩
      rw [List.append_nil]
      refine ⟨by rw [List.length_cons]; omega, strs_of hd hs q.2, a, G.cls c, rfl, T, hf, upd_same, fun d nd nda => ⟨rfl, d, _, upd_same, by rw [upd_ne nda, upd_same], ?_, ?_⟩⟩
      · rw [upd_ne nda] at nd; exact nd
      · rw [upd_ne nda] at nd
        have eH : upd (del (upd (upd (upd H1 a (exo a (G.cls c) none)) d (exd d (putsV (V.ref a :: vs) fs []))) a (exo a (G.cls c) (some d))) a) d (.xd (putsV (V.ref a :: vs) fs [])) = upd H1 d (.xd (putsV (V.ref a :: vs) fs [])) := by
          funext b
          by_cases q : b = d
          · subst q; rw [upd_same, upd_same]
          · rw [upd_ne q, upd_ne q]
            by_cases q2 : b = a
            · subst q2; rw [del_same, na]
            · rw [del_ne q2, upd_ne q2, upd_ne q, upd_ne q2]
        rw [eH]
        refine p d σ _ Fix.refl ?_
        have kS : Same H1 (upd H1 d (.xd (putsV (V.ref a :: vs) fs []))) := Same.new nd
        have hO' : Hold G (upd H1 d (.xd (putsV (V.ref a :: vs) fs []))) O (envL σ ρ2 ++ T0) := by
          obtain ⟨hr, OF, hF, ndp⟩ := hO
          exact ⟨RepL.step (W := []) (fun a o q _ => kS a o q) (fun a z => nomatch z) (fun a z => .inl z) hr (fun a _ z => nomatch z), OF, hF.step (W := []) (fun a o q _ => kS a o q) (fun a z => nomatch z) (fun a z => .inl z) (fun a _ z => nomatch z), ndp⟩
        have dO : d ∉ O := notO hO.1 nd
        have hd' : RepDs G (upd H1 d (.xd (putsV (V.ref a :: vs) fs []))) O ds vs := RepDs.step (W := []) (fun a o q _ => kS a o q) (fun a z => nomatch z) (fun a z => .inl z) ds vs hd
        have ez : putsV (V.ref a :: vs) fs [] = (fs.reverse.map (·.1)).zip (fs.reverse.map fun p => vs.getD (p.2 - 1) .non) := by
          rw [putsV_eq, List.append_nil, List.zip_map']
          refine List.map_congr_left fun p z => ?_
          have := hi p (List.mem_reverse.mp z)
          congr 1
          conv => lhs; rw [show p.2 = (p.2 - 1) + 1 by omega]
          rfl
        have hx : RepD G (upd H1 d (.xd (putsV (V.ref a :: vs) fs []))) O (.xd (fs.reverse.map (·.1)) (pickX ds fs)) (.ref d) := by
          refine ⟨d, (fs.reverse.map fun p => vs.getD (p.2 - 1) .non), rfl, ⟨by rw [upd_same, ez], dO⟩, by simp, ?_⟩
          have := pick_rep hd' (fs.reverse.map (·.2)) (fun i z => by
            obtain ⟨p, hp, rfl⟩ := List.mem_map.mp z
            have := hi p (List.mem_reverse.mp hp)
            exact ⟨this.1, by omega⟩)
          rw [List.map_map, List.map_map] at this
          exact this
        exact SR.push ⟨⟨O, hO'⟩, sr2.len, sr2.as⟩ (hO'.add hx)
    · rw [if_neg q] at p; exact p.elim
  · rw [e] at p; exact p.elim
end
section
variable {X : Cx} {G : Gm} {W : WX} {fx : FX} {a : Expr} {es : List Expr} {ta : TA} {fa : Sl → Out (List R)} {pos p : Pos} {k j : Nat}
theorem ds_raise {c x : Str} {n : Nat} {is : List Nat} {fs : List (Str × Nat)} {fI : Addr} {fd : FuncData} {ps : List Str} (C : Cok k X G W) (T : OexC G.K (G.cls c)) (hf : ∀ p ∈ fs, PySem.W.findIn G.K (.ref (G.cls c)) p.1 = some none)
    (Fo : FnOk X.prog X.w X.K X.mg X.base (L2.CX X.prog X.w) j fI fd ps (spX G.K n is fs)) (hj : j + 1 ≤ k) (iC : PySem.W.findIn G.K (.ref (G.cls c)) "__init__" = some (some (.ref fI))) (tI : PySem.W.typeIn G.K (.ref fI) = some (.type "function")) (hb : Binds X.K fd ps [])
    (hg : Gl X x) (hm : X.mg x = some (.ref (G.cls c))) (A : DA X G W (a :: es) ta fa) (hi : ∀ p ∈ fs, 0 < p.2 ∧ p.2 ≤ n := by decide) (hs : ∀ i ∈ is, 0 < i := by decide) (hn : n ≤ 1000 := by decide)
    (hdb : (x == ("__debug__" : Str)) = false := by decide) (he : starEach (a :: es) X.env = (false, eval a X.env) :: starEach es X.env := by rfl) (hpl : (backTo pos (starEach es X.env)).any (·.1) = false := by rfl) {pos2 : Pos} :
    DS fx X G W (.Raise (some (.Call (.Name x p) (a :: es) [] pos)) none pos2) (fun _ σ H => tMkO (G.cls c) (spX G.K n is fs) [] ta σ H fun cls d H' => W cls d σ H') (sRaise c n is fs fa) :=
  ⟨ps_raise C.calm C.tk (pmk_oex (by rw [C.hK]; exact T) (by rw [C.hK]; exact iC) (by rw [C.hK]; exact tI) Fo (C.rm.mono hj) hb .nil (fun pins σ H s e s' I z => pass_no C σ pins H s e s' I z) hg hm A.pa hdb he hpl), ok_raise T hf hi hs hn A.ok⟩
end
end Sep

/-! SepZ3: try with several clauses, each with a name. -/
namespace Sep
open PySem L2 PySem.Spec PyProof.Rows
/-- the ends behind a clause, its name gone -/
abbrev Ends.un (D : Ends) (i : Nat) : Ends := { nx := fun σ' H' => D.nx (σ'.set i none) H', rt := D.rt, bk := fun σ' H' => D.bk (σ'.set i none) H', ct := fun σ' H' => D.ct (σ'.set i none) H' }
abbrev Ends.unO (D : Ends) : Option Nat → Ends
  | some i => Ends.un D i
  | none => D
abbrev setO (σ : L2.St) (v : V) : Option Nat → L2.St
  | some i => σ.set i (some v)
  | none => σ
def wManyAs (K : PySem.W.Frag) (Wout : WX) (D : Ends) : List (Value × Option Nat × (Addr → Value → Option Addr → TS)) → WX
  | [] => Wout
  | (c, i, ts) :: r => fun cls d σ H => ∃ b, PySem.W.exmOne K cls c = some b ∧ (b = true → ∀ a, H a = none → ts a cls d (Ends.unO D i) (setO σ (.ref a) i) H) ∧ (b = false → wManyAs K Wout D r cls d σ H)
inductive HdsAs (X : Cx) : List ExceptHandler → List (Value × Option Nat × (Addr → Value → Option Addr → TS)) → Prop
  | nil : HdsAs X [] []
  | cons {x n : Str} {c : Value} {i : Nat} {ts : Addr → Value → Option Addr → TS} {b₀ : Stmt} {suite : List Stmt} {np pos' : Pos} {hds : List ExceptHandler} {l : List (Value × Option Nat × (Addr → Value → Option Addr → TS))} (hc : Names X x c)
      (hi : X.N[i]? = some n) (hln : X.env.kindOf n = some .local) (hsu : ∀ (a : Addr) (oe : Obj) (cls : Value) (d : Option Addr) (pn : List (Addr × Obj)), Zc cls d oe → (∃ vs, oe.data = .fields vs) → PSs (X.suite a ((a, oe) :: pn)) (b₀ :: suite) (ts a cls d)) (r : HdsAs X hds l) :
      HdsAs X (.ExceptHandler (some (.Name x np)) (some n) (b₀ :: suite) pos' :: hds) ((c, some i, ts) :: l)
  | bare {x : Str} {c : Value} {ts : Addr → Value → Option Addr → TS} {b₀ : Stmt} {suite : List Stmt} {np pos' : Pos} {hds : List ExceptHandler} {l : List (Value × Option Nat × (Addr → Value → Option Addr → TS))} (hc : Names X x c)
      (hsu : ∀ (a : Addr) (oe : Obj) (cls : Value) (d : Option Addr) (pn : List (Addr × Obj)), Zc cls d oe → (∃ vs, oe.data = .fields vs) → PSs (X.suite a ((a, oe) :: pn)) (b₀ :: suite) (ts a cls d)) (r : HdsAs X hds l) :
      HdsAs X (.ExceptHandler (some (.Name x np)) none (b₀ :: suite) pos' :: hds) ((c, none, ts) :: l)
section
variable {X : Cx} {body : List Stmt} {h₀ : ExceptHandler} {hds : List ExceptHandler} {l : List (Value × Option Nat × (Addr → Value → Option Addr → TS))} {pos : Pos} {tb : WX → TS} {Wout : WX}
/-- the clauses, one after the other, the exception on the ground -/
theorem hands_as {B : Heap} {sI s' : Shared} {pins : List (Addr × Obj)} {σ' : L2.St} {H' : Hp} {a : Addr} {cls : Value} {d : Option Addr} {h3 : Heap} {D : Ends} (hs : X.stack = X.env :: X.outer) (hf : X.env.frame = some X.env.locals) (hN : X.N.Nodup) (ok : X.Ok) (tk : Takes X Wout)
    (J : Inv X pins σ' H' sI) (nb : ∀ b o, sI.heap.get? b = some o → b ∉ L2.frs X.stack → B.get? b = some o) (up : sI.heap.UpToSlots s'.heap) (up3 : s'.heap.UpToSlots h3) (fl3 : HandSPX.FlyingZ B (X.env :: X.outer) a (Zc cls d) h3) (na : H' a = none) (os : s'.os = sI.os) (ag : AllBare s'.gens)
    {oe3 : Obj} {vs3 : Array Value} (he3 : h3.get? a = some oe3) (hz3 : Zc cls d oe3) (hd3 : oe3.data = .fields vs3) (kI : X.K.In h3) (nL : a ≠ X.env.locals) (nF : a ∉ X.fs)
    (mk : ∀ (h4 : Heap), HandSPX.FlyingZ B (X.env :: X.outer) a (Zc cls d) h4 → h3.UpToSlots h4 → Inv X pins σ' H' { s' with heap := h4 }) :
    ∀ {hds' : List ExceptHandler} {l' : List (Value × Option Nat × (Addr → Value → Option Addr → TS))}, HdsAs X hds' l' → wManyAs X.K Wout D l' cls d σ' H' →
      wpAny (model X.prog X.w) X.A (handleBy (.ref a) X.env hds') (SP X pins D) X.xe { s' with heap := h3 } := by
  intro hds' l' hk
  have S3 := (mk h3 fl3 (Heap.UpToSlots.refl _)).suite he3 hd3 na nL nF
  induction hk with
  | nil =>
    intro w
    have w : Wout cls d σ' H' := w
    obtain ⟨_, _, _, oe, vs, T, oT, ts', he, hz, hd, h1, hr⟩ := id fl3
    refine wpAny_handleBy_nil ?_
    unfold PySem.passOn
    refine wpAny_bind (wpAny_field he hd h1 ?_)
    rw [if_neg (by simp : ¬ ((Value.ref T == Value.none) = true))]
    have last : wpAny (model X.prog X.w) X.A (setFlight (.ref a) X.env.frame) (fun _ s4 => wpAny (model X.prog X.w) X.A (throw (.ref a) : Sem Flow) (SP X pins D) X.xe s4) X.xe { s' with heap := h3 } := by
      rw [hf]; refine HandSPX.setFlight_upZ fl3 fun h4 hh4 up4 => wpAny_throw (tk _ _ ⟨a, B, sI, pins, σ', H', cls, d, rfl, J, nb, (up.trans up3).trans up4, .inr (.inr ?_), na, os, ag, w⟩)
      rw [hs]; exact hh4
    first | exact wpAny_bind (wpAny_pure (wpAny_bind last)) | exact wpAny_bind last
  | @cons x n c i ts b₀ suite np pos' hds2 l2 hc hi hln hsu r ih =>
    intro w
    obtain ⟨b, hb1, hyes, hno⟩ := w
    refine wpAny_handleBy_cons (codeAny_handlers_test ?_) (by intro q; cases q)
    have LT : PySem.W.Looks (model X.prog X.w) h3 (typeOf (.ref a)) cls := fun _ _ _ _ k q => wpAny_typeOf_ref (k _ _ he3) (by rw [hz3.1]; exact q)
    have LM := PySem.W.exm_one (M := model X.prog X.w) kI LT hb1
    have test : ∀ {Q E : Value → Shared → Prop}, Q c { s' with heap := h3 } → wpAny (model X.prog X.w) (X.A.mark (some (.ref a))) (eval (.Name x np) X.env) Q E { s' with heap := h3 } := fun {Q E} q => by
      obtain ⟨hg, hdbg, hm | ⟨hm, hv, hnn⟩⟩ := hc
      · exact ld_glob (X := X.suite a ((a, oe3) :: (X.pn ++ pins))) S3 hg hm q hdbg
      · exact ld_blt (X := X.suite a ((a, oe3) :: (X.pn ++ pins))) S3 hg hm hv q hnn hdbg
    refine test (LM.here ?_)
    cases b with
    | false =>
      show wpAny _ X.A (handleBy (.ref a) X.env hds2) _ _ _
      exact ih (hno rfl)
    | true =>
      refine codeAny_handlers_suite_as (HandSPX.lands_againZ fl3 fun h4 fl4 up4 => ?_)
      obtain ⟨oe4, vs4, he4, hz4, hd4⟩ := fl4.there
      have S4 := (mk h4 fl4 up4).suite he4 hd4 na nL nF
      refine store_ok (X := X.suite a ((a, oe4) :: (X.pn ++ pins))) (v := .ref a) S4 hN hi (.inl hln) rfl (fun s5 S5 => wpAny_mono ((hsu a oe4 cls d (X.pn ++ pins) hz4 ⟨_, hd4⟩).run [] s5 _ H' _ S5 (hyes rfl a na)) (fun f s6 hsp => ?_) (fun _ _ z => False.elim z)) (.inr hln)
      have gone : ∀ {σ6 : L2.St} {H6 : Hp} {Q : Shared → Prop}, Inv (X.suite a ((a, oe4) :: (X.pn ++ pins))) [] σ6 H6 s6 → (∀ s7, Inv X pins (σ6.set i none) H6 s7 → Q s7) →
          wpAny (model X.prog X.w) X.A (do bindName X.env n .none; unbindBehindTheSuite X.env n pos') (fun _ s7 => Q s7) X.xe s6 := fun S6 hq => gone_ok (S6.unsuite ok) hN hi hln hq
      cases f with
      | ret u => obtain ⟨v6, σ6, H6, S6, r6, q6⟩ := hsp; exact gone S6 fun s7 J7 => ⟨_, _, _, J7, r6, q6⟩
      | next => obtain ⟨σ6, H6, S6, q6⟩ := hsp; exact gone S6 fun s7 J7 => ⟨_, _, J7, q6⟩
      | brk => obtain ⟨σ6, H6, S6, q6⟩ := hsp; exact gone S6 fun s7 J7 => ⟨_, _, J7, q6⟩
      | cont => obtain ⟨σ6, H6, S6, q6⟩ := hsp; exact gone S6 fun s7 J7 => ⟨_, _, J7, q6⟩
  | @bare x c ts b₀ suite np pos' hds2 l2 hc hsu r ih =>
    intro w
    obtain ⟨b, hb1, hyes, hno⟩ := w
    refine wpAny_handleBy_cons (codeAny_handlers_test ?_) (by intro q; cases q)
    have LT : PySem.W.Looks (model X.prog X.w) h3 (typeOf (.ref a)) cls := fun _ _ _ _ k q => wpAny_typeOf_ref (k _ _ he3) (by rw [hz3.1]; exact q)
    have LM := PySem.W.exm_one (M := model X.prog X.w) kI LT hb1
    have test : ∀ {Q E : Value → Shared → Prop}, Q c { s' with heap := h3 } → wpAny (model X.prog X.w) (X.A.mark (some (.ref a))) (eval (.Name x np) X.env) Q E { s' with heap := h3 } := fun {Q E} q => by
      obtain ⟨hg, hdbg, hm | ⟨hm, hv, hnn⟩⟩ := hc
      · exact ld_glob (X := X.suite a ((a, oe3) :: (X.pn ++ pins))) S3 hg hm q hdbg
      · exact ld_blt (X := X.suite a ((a, oe3) :: (X.pn ++ pins))) S3 hg hm hv q hnn hdbg
    refine test (LM.here ?_)
    cases b with
    | false =>
      show wpAny _ X.A (handleBy (.ref a) X.env hds2) _ _ _
      exact ih (hno rfl)
    | true =>
      refine codeAny_handlers_suite (HandSPX.lands_againZ fl3 fun h4 fl4 up4 => ?_)
      obtain ⟨oe4, vs4, he4, hz4, hd4⟩ := fl4.there
      have S4 := (mk h4 fl4 up4).suite he4 hd4 na nL nF
      refine wpAny_mono ((hsu a oe4 cls d (X.pn ++ pins) hz4 ⟨_, hd4⟩).run [] _ _ H' _ S4 (hyes rfl a na)) (fun f s6 hsp => ?_) (fun _ _ z => False.elim z)
      cases f with
      | ret u => obtain ⟨v6, σ6, H6, S6, r6, q6⟩ := hsp; exact ⟨_, _, _, S6.unsuite ok, r6, q6⟩
      | next => obtain ⟨σ6, H6, S6, q6⟩ := hsp; exact ⟨_, _, S6.unsuite ok, q6⟩
      | brk => obtain ⟨σ6, H6, S6, q6⟩ := hsp; exact ⟨_, _, S6.unsuite ok, q6⟩
      | cont => obtain ⟨σ6, H6, S6, q6⟩ := hsp; exact ⟨_, _, S6.unsuite ok, q6⟩
theorem ps_try_manyAs (hs : X.stack = X.env :: X.outer) (hf : X.env.frame = some X.env.locals) (hN : X.N.Nodup) (tk : Takes X Wout)
    (hb : ∀ (W : WX) (pn : List (Addr × Obj)) (xe : Value → Shared → Prop), Takes (X.tr pn xe) W → PassesOwn (model X.prog X.w) X.A X.env xe → PSs (X.tr pn xe) body (tb W))
    (hh : HdsAs X (h₀ :: hds) l) : PS X (.Try body (h₀ :: hds) [] [] pos) (fun D σ H => tb (wManyAs X.K Wout D l) D σ H) := by
  refine ⟨fun pins s σ H D I h => ?_⟩
  have ok := I.ok
  have hfr : X.A.frames = some (X.env :: X.outer) := by rw [ok.frames, hs]
  refine wpAny_Try_except (wpAny_mono ((hb (wManyAs X.K Wout D l) (X.pn ++ pins) (fun e s₁ => wpAny (model X.prog X.w) X.A (noteFrame e X.env) (fun _ s₂ => wpAny (model X.prog X.w) X.A (setFlight e none)
    (fun _ s₃ => wpAny (model X.prog X.w) X.A (handleBy e X.env (h₀ :: hds)) (SP X pins D) X.xe s₃) X.xe s₂) X.xe s₁) (fun u s' xx => ?_) PassesOwn.looking).run [] s σ H D (I.toTry _) h) (fun f s1 hsp => ?_) (fun e s1 he => he))
  · obtain ⟨a, B, sI, pins', σ', H', cls, d, rfl, J', nb, up, sky, na, os, ag, w⟩ := xx
    have J : Inv X pins σ' H' sI := J'.ofTry ok
    have sky' : Sky B (X.env :: X.outer) a (Zc cls d) X.env.locals s'.heap := by rw [← hs]; exact sky
    show wpAny (model X.prog X.w) X.A (noteFrame (.ref a) X.env) _ _ _
    refine Sky.land Zc.steady hfr hf sky' fun h3 fl3 up3 => ?_
    have J3 : Inv X pins σ' H' { s' with heap := h3 } := J.landed nb fl3.1 (up.trans up3) os ag
    obtain ⟨oe3, vs3, he3, hz3, hd3⟩ := fl3.there
    have nfr : a ∉ L2.frs (X.env :: X.outer) := fun hm => by
      obtain ⟨_, o', e', hnf⟩ := fl3.2.2.1.mem hm
      rw [he3] at e'; cases e'; exact hnf _ hd3
    have nL : a ≠ X.env.locals := fun z => nfr (List.mem_filterMap.mpr ⟨X.env, List.mem_cons_self, by rw [hf, z]⟩)
    have nF : a ∉ X.fs := fun hm => by
      obtain ⟨e, he, q⟩ := List.mem_filterMap.mp hm
      exact nfr (List.mem_filterMap.mpr ⟨e, List.mem_cons_of_mem _ he, q⟩)
    exact hands_as hs hf hN ok tk J nb up up3 fl3 na os ag he3 hz3 hd3 J3.kIn nL nF (fun h4 fl4 up4 => J.landed nb fl4.1 ((up.trans up3).trans up4) os ag) hh w
  · cases f with
    | ret u => obtain ⟨v, σ', H', J', r, q⟩ := hsp; exact ⟨v, σ', H', J'.ofTry ok, r, q⟩
    | next => obtain ⟨σ', H', J', q⟩ := hsp; exact wpAny_execs_nil ⟨σ', H', J'.ofTry ok, q⟩
    | brk => obtain ⟨σ', H', J', q⟩ := hsp; exact ⟨σ', H', J'.ofTry ok, q⟩
    | cont => obtain ⟨σ', H', J', q⟩ := hsp; exact ⟨σ', H', J'.ofTry ok, q⟩
end

/-! ### what the clauses compute -/
structure Hnd where
  tab : Str → Option Bool
  i : Option Nat
  h : List Str → List D → SEv
def noO (ρ : Sl) : Option Nat → Sl
  | some i => ρ.set i .no
  | none => ρ
def inO (ρ : Sl) : Option Nat → Bool
  | some i => decide (i < ρ.length)
  | none => true
def clr (i : Option Nat) : Out Fl → Out Fl
  | .ok (.ret s) ρ => .ok (.ret s) (noO ρ i)
  | .ok f ρ => .ok f (noO ρ i)
  | _ => .stuck
def sHands : List Hnd → Str → List Str → List D → Sl → Out Fl
  | [], c, ns, ds, ρ => .exc c ns ds ρ
  | k :: r, c, ns, ds, ρ => match k.tab c with
    | some true => if inO ρ k.i = true then clr k.i (k.h ns ds (noO ρ k.i)) else .stuck
    | some false => sHands r c ns ds ρ
    | none => .stuck
def sTry (b : SEv) (hs : List Hnd) : SEv := fun ρ => match b ρ with
  | .exc c ns ds ρ1 => sHands hs c ns ds ρ1
  | o => o
def AtO (σ : L2.St) (a : Addr) : Option Nat → Prop
  | some i => σ[i]? = some (some (.ref a))
  | none => True
/-- a suite, the exception known -/
def SsX (i : Option Nat) (a dd : Addr) (ns : List Str) (ds : List D) (G : Gm) (fx : FX) (t : TS) (f : SEv) : Prop := ∀ D σ H ρ T, AtO σ a i → (V.ref dd, Slot.sh (.xd ns ds)) ∈ T → SR G σ ρ T H → PostS G W0 fx σ T D (f ρ) → t D σ H
def EvX (i : Option Nat) (a dd : Addr) (ns : List Str) (ds : List D) (G : Gm) (t : TE) (f : Ev) : Prop := ∀ σ H ρ T Q, AtO σ a i → (V.ref dd, Slot.sh (.xd ns ds)) ∈ T → SR G σ ρ T H → Post G W0 σ T (Rt G σ T Q) (f ρ) → t σ H Q
def ArX (i : Option Nat) (a dd : Addr) (ns : List Str) (ds : List D) (G : Gm) (t : TA) (f : Sl → Out (List R)) : Prop := ∀ σ H ρ T Q, AtO σ a i → (V.ref dd, Slot.sh (.xd ns ds)) ∈ T → SR G σ ρ T H →
  Post G W0 σ T (fun rs ρ => ∀ vs H', SR G σ ρ (zipR vs rs ++ T) H' → Ats σ rs vs → Q vs H') (f ρ) → t σ H Q
section
variable {i : Option Nat} {a dd : Addr} {ns : List Str} {ds : List D} {G : Gm} {fx : FX} {ta tb te : TE} {t : TA} {fa fb fe : Ev} {fs : Sl → Out (List R)}
theorem evx_of (A : EvOk G W0 ta fa) : EvX i a dd ns ds G ta fa := fun σ H ρ T Q _ _ sr p => A σ H ρ T Q sr p
theorem arx_nil : ArX i a dd ns ds G tNil aNil := fun σ H ρ T Q _ _ sr p => ok_nil (W := W0) σ H ρ T Q sr p
theorem arx_cons (A : EvX i a dd ns ds G ta fa) (B : ArX i a dd ns ds G t fs) : ArX i a dd ns ds G (tCons ta t) (aCons fa fs) := by
  intro σ H ρ T Q h1 h2 sr p
  refine A σ H ρ T _ h1 h2 sr ((Post.bind p).imp fun r ρ1 p1 x H1 sr1 a1 => ?_)
  refine B σ H1 ρ1 _ _ h1 (List.mem_cons_of_mem _ h2) sr1 ((Post.bind p1).more.imp fun rs ρ2 p2 vs H2 sr2 a2 => ?_)
  exact p2 (x :: vs) H2 (sr2.permT List.perm_middle) ⟨x, vs, rfl, a1, a2⟩
theorem evx_tup (A : ArX i a dd ns ds G t fs) : EvX i a dd ns ds G (tTup t) (eTup fs) := by
  intro σ H ρ T Q h1 h2 sr p
  refine A σ H ρ T _ h1 h2 sr ((Post.bind p).imp fun rs ρ1 p1 vs H1 sr1 a1 => ?_)
  rcases consAll_or rs ρ1 with ⟨es, ρ2, e⟩ | e
  · rw [e] at p1
    obtain ⟨sr2, O, hO, hd⟩ := sr1.datas a1 e
    have p1 : Post G W0 σ T (Rt G σ T Q) (if es.length ≤ LIM then Out.ok (.v (.sh (.tup es))) ρ2 else .stuck) := p1
    by_cases q : es.length ≤ LIM
    · rw [if_pos q] at p1
      refine ⟨by rw [hd.length]; exact lim_le q, fun b nb => ?_⟩
      have kS : Same H1 (upd H1 b (.tup vs)) := Same.new nb
      exact p1 _ _ (SR.push ⟨sr2.h.same kS, sr2.len, sr2.as⟩ (hO.newT nb hd)) trivial
    · rw [if_neg q] at p1; exact p1.elim
  · rw [e] at p1; exact p1.elim
theorem evx_op {r : R2} {g : D → D → Option Slot} (ho : OpD G r g) (A : EvX i a dd ns ds G ta fa) (B : EvX i a dd ns ds G tb fb) : EvX i a dd ns ds G (tOp r ta tb) (eOp g fa fb) := by
  intro σ H ρ T Q h1 h2 sr p
  refine A σ H ρ T _ h1 h2 sr ((Post.bind p).imp fun r1 ρ1 p1 x H1 sr1 a1 => ?_)
  refine B σ H1 ρ1 _ _ h1 (List.mem_cons_of_mem _ h2) sr1 ((Post.bind p1).more.imp fun r2 ρ2 p2 y H2 sr2 a2 => ?_)
  cases e1 : look r1 ρ2 with
  | none => simp only [e1] at p2; exact p2.elim
  | some d1 =>
    cases e2 : look r2 ρ2 with
    | none => simp only [e1, e2] at p2; exact p2.elim
    | some d2 =>
      simp only [e1, e2] at p2
      cases e3 : g d1 d2 with
      | none => simp only [e3] at p2; exact p2.elim
      | some s =>
        simp only [e3] at p2
        obtain ⟨O, hO⟩ := sr2.h
        refine ho H2 O _ x y d1 d2 s Q hO (sr2.lookP hO a1 (fun s e => by subst e; exact List.mem_cons_of_mem _ List.mem_cons_self) e1) (sr2.lookP hO a2 (fun s e => by subst e; exact List.mem_cons_self) e2) e3 fun v H' hh => ?_
        have s3 : SR G σ ρ2 ((v, s) :: (y, r2.slot) :: (x, r1.slot) :: T) H' := SR.push ⟨hh.tail, sr2.len, sr2.as⟩ hh
        exact p2 v H' s3.pop3 trivial
/-- err.f -/
def eXf (f : Str) (ns : List Str) (ds : List D) : Ev := fun ρ => match (ns.zip ds).lookup f with
  | some d => .ok (.v (.sh d)) ρ
  | none => .stuck
theorem evx_fld {j : Nat} {c f : Str} : EvX (some j) a dd ns ds G (tXf a (.ref (G.cls c)) (some dd) (G.cls c) f (tVar j)) (eXf f ns ds) := by
  intro σ H ρ T Q h1 h2 sr p
  refine ⟨_, h1, rfl, rfl, ?_⟩
  obtain ⟨O, hO⟩ := sr.h
  obtain ⟨o1, hx, _⟩ := hO.1.mem (List.mem_append_right _ h2)
  obtain ⟨_, b, xs, eb, ⟨hb, _⟩, hl, hd⟩ := hx
  cases eb
  unfold eXf at p
  cases e : (ns.zip ds).lookup f with
  | none => rw [e] at p; exact p.elim
  | some d =>
    rw [e] at p
    obtain ⟨v, ev, rv⟩ := hd.look e
    exact ⟨_, _, v, rfl, hb, ev, p v H (sr.push (hO.add rv)) trivial⟩
theorem ssx_ret (A : EvX i a dd ns ds G ta fa) : SsX i a dd ns ds G fx (tRet ta) (sRetF fa) := by
  intro D σ H ρ T h1 h2 sr p
  refine A σ H ρ T _ h1 h2 sr (PostS.of p |>.imp fun r ρ1 p1 x H1 sr1 a1 => ?_)
  rcases cons_or r ρ1 with ⟨d, ρ2, e⟩ | e
  · rw [e] at p1
    exact p1 x σ H1 Fix.refl (sr1.take1 a1 e)
  · rw [e] at p1; exact p1.elim
theorem ssx_of {u : TS} {f : SEv} (A : SsOk G W0 fx u f) : SsX i a dd ns ds G fx u f := fun D σ H ρ T _ _ sr p => A D σ H ρ T sr p
end
end Sep

/-! SepZ4: try as a derivation. -/
namespace Sep
open PySem L2 PySem.Spec PyProof.Rows
/-- a suite's reading, whatever it be -/
def tsOf (X : Cx) (suite : List Stmt) : Addr → Value → Option Addr → TS := fun a cls d D σ H => ∀ (oe : Obj) (pn : List (Addr × Obj)), Zc cls d oe → (∃ vs, oe.data = .fields vs) → ∃ t, PSs (X.suite a ((a, oe) :: pn)) suite t ∧ t D σ H
theorem ps_tsOf {X : Cx} {suite : List Stmt} {a : Addr} {cls : Value} {d : Option Addr} {oe : Obj} {pn : List (Addr × Obj)} (hz : Zc cls d oe) (hf : ∃ vs, oe.data = .fields vs) : PSs (X.suite a ((a, oe) :: pn)) suite (tsOf X suite a cls d) :=
  ⟨fun pins s σ H D I h => by
    obtain ⟨t, P, q⟩ := h oe pn hz hf
    exact P.run pins s σ H D I q⟩
def tbOf (X : Cx) (body : List Stmt) : WX → TS := fun W D σ H => ∀ (pn : List (Addr × Obj)) (xe : Value → Shared → Prop), Takes (X.tr pn xe) W → PassesOwn (model X.prog X.w) X.A X.env xe → ∃ t, PSs (X.tr pn xe) body t ∧ t D σ H
theorem ps_tbOf {X : Cx} {body : List Stmt} {W : WX} {pn : List (Addr × Obj)} {xe : Value → Shared → Prop} (tk : Takes (X.tr pn xe) W) (po : PassesOwn (model X.prog X.w) X.A X.env xe) : PSs (X.tr pn xe) body (tbOf X body W) :=
  ⟨fun pins s σ H D I h => by
    obtain ⟨t, P, q⟩ := h pn xe tk po
    exact P.run pins s σ H D I q⟩
def SuOk (X : Cx) (G : Gm) (fx : FX) (tab : Str → Option Bool) (i : Option Nat) (suite : List Stmt) (h : List Str → List D → SEv) : Prop :=
  ∀ (a dd : Addr) (oe : Obj) (pn : List (Addr × Obj)) (c : Str) (ns : List Str) (ds : List D), tab c = some true → Zc (.ref (G.cls c)) (some dd) oe → (∃ vs, oe.data = .fields vs) → ∃ t, PSs (X.suite a ((a, oe) :: pn)) suite t ∧ SsX i a dd ns ds G fx t (h ns ds)
def ExmOk (K : PySem.W.Frag) (G : Gm) (cv : Value) (tab : Str → Option Bool) : Prop := ∀ c b, tab c = some b → PySem.W.exmOne K (.ref (G.cls c)) cv = some b
inductive DHs (X : Cx) (G : Gm) (fx : FX) : List ExceptHandler → List (Value × Option Nat × (Addr → Value → Option Addr → TS)) → List Hnd → Prop
  | nil : DHs X G fx [] [] []
  | cons {x n : Str} {cv : Value} {i : Nat} {tab : Str → Option Bool} {h : List Str → List D → SEv} {b₀ : Stmt} {suite : List Stmt} {np pos' : Pos} {hds : List ExceptHandler} {l : List (Value × Option Nat × (Addr → Value → Option Addr → TS))} {ks : List Hnd} (hc : Names X x cv) (hi : X.N[i]? = some n)
      (hln : X.env.kindOf n = some .local) (hfx : fx i = false) (hx : ExmOk X.K G cv tab) (hs : SuOk X G fx tab (some i) (b₀ :: suite) h) (r : DHs X G fx hds l ks) :
      DHs X G fx (.ExceptHandler (some (.Name x np)) (some n) (b₀ :: suite) pos' :: hds) ((cv, some i, tsOf X (b₀ :: suite)) :: l) (⟨tab, some i, h⟩ :: ks)
  | bare {x : Str} {cv : Value} {tab : Str → Option Bool} {h : List Str → List D → SEv} {b₀ : Stmt} {suite : List Stmt} {np pos' : Pos} {hds : List ExceptHandler} {l : List (Value × Option Nat × (Addr → Value → Option Addr → TS))} {ks : List Hnd} (hc : Names X x cv)
      (hx : ExmOk X.K G cv tab) (hs : SuOk X G fx tab none (b₀ :: suite) h) (r : DHs X G fx hds l ks) :
      DHs X G fx (.ExceptHandler (some (.Name x np)) none (b₀ :: suite) pos' :: hds) ((cv, none, tsOf X (b₀ :: suite)) :: l) (⟨tab, none, h⟩ :: ks)
section
variable {X : Cx} {G : Gm} {W : WX} {fx : FX} {hds : List ExceptHandler} {l : List (Value × Option Nat × (Addr → Value → Option Addr → TS))} {ks : List Hnd} {De : Ends} {T : Hd} {σ0 : L2.St}
theorem DHs.toHds (h : DHs X G fx hds l ks) : HdsAs X hds l := by
  induction h with
  | nil => exact .nil
  | cons hc hi hln _ _ _ _ ih => exact .cons hc hi hln (fun _ _ _ _ _ hz hf => ps_tsOf hz hf) ih
  | bare hc _ _ _ ih => exact .bare hc (fun _ _ _ _ _ hz hf => ps_tsOf hz hf) ih
theorem Fix.setN {σ : L2.St} {i : Nat} {o : Option V} (h : fx i = false) : Fix fx σ (σ.set i o) :=
  ⟨List.length_set, fun j hj => by
    have : i ≠ j := fun e => by rw [e, hj] at h; cases h
    rw [List.getElem?_set_ne this]⟩
theorem hands_ok (h : DHs X G fx hds l ks) : ∀ {c : Str} {ns : List Str} {ds : List Sep.D} {ρ : Sl} {dd : Addr} {σ : L2.St} {H : Hp}, Fix fx σ0 σ → SR G σ ρ ((.ref dd, .sh (.xd ns ds)) :: T) H → PostS G W fx σ0 T De (sHands ks c ns ds ρ) → wManyAs X.K W De l (.ref (G.cls c)) (some dd) σ H := by
  induction h with
  | nil =>
    intro c ns ds ρ dd σ H fi sr p
    exact p dd σ H fi sr
  | @cons x n cv i tab hh b₀ suite np pos' hds l ks hc hi hln hfx hx hs r ih =>
    intro c ns ds ρ dd σ H fi sr p
    unfold sHands at p
    dsimp only at p
    cases e : tab c with
    | none => rw [e] at p; exact p.elim
    | some b =>
      rw [e] at p
      refine ⟨b, hx c b e, fun hb a na oe pn hz hf => ?_, fun hb => ?_⟩
      · subst hb
        obtain ⟨t, P, S⟩ := hs a dd oe pn c ns ds e hz hf
        have p : PostS G W fx σ0 T De (if inO ρ (some i) = true then clr (some i) (hh ns ds (ρ.set i .no)) else .stuck) := p
        by_cases q0 : inO ρ (some i) = true
        · rw [if_pos q0] at p
          have hlt : i < σ.length := by rw [← sr.len]; exact of_decide_eq_true q0
          have s0 : SR G (σ.set i (some (.ref a))) (ρ.set i .no) ((.ref dd, .sh (.xd ns ds)) :: T) H := SR.store sr.no
          refine ⟨t, P, S _ _ _ _ _ (List.getElem?_set_self hlt) List.mem_cons_self s0 ?_⟩
          have f1 : Fix fx σ0 (σ.set i (some (.ref a))) := fi.trans (Fix.setN hfx)
          cases q : hh ns ds (ρ.set i .no) with
          | stuck => rw [q] at p; exact p.elim
          | exc => rw [q] at p; exact p.elim
          | ok f ρ2 =>
            rw [q] at p
            cases f with
            | nx => exact fun σ2 H2 f2 s2 => p (σ2.set i none) H2 ((f1.trans f2).trans (Fix.setN hfx)) (s2.pop.unset i)
            | bk => exact fun σ2 H2 f2 s2 => p (σ2.set i none) H2 ((f1.trans f2).trans (Fix.setN hfx)) (s2.pop.unset i)
            | ct => exact fun σ2 H2 f2 s2 => p (σ2.set i none) H2 ((f1.trans f2).trans (Fix.setN hfx)) (s2.pop.unset i)
            | ret s => exact fun v σ2 H2 f2 s2 => p v (σ2.set i none) H2 ((f1.trans f2).trans (Fix.setN hfx)) (s2.pop2.unset i)
        · rw [if_neg q0] at p; exact p.elim
      · subst hb
        exact ih fi sr p
  | @bare x cv tab hh b₀ suite np pos' hds l ks hc hx hs r ih =>
    intro c ns ds ρ dd σ H fi sr p
    unfold sHands at p
    dsimp only at p
    cases e : tab c with
    | none => rw [e] at p; exact p.elim
    | some b =>
      rw [e] at p
      refine ⟨b, hx c b e, fun hb a na oe pn hz hf => ?_, fun hb => ?_⟩
      · subst hb
        obtain ⟨t, P, S⟩ := hs a dd oe pn c ns ds e hz hf
        refine ⟨t, P, S _ _ _ ρ _ True.intro List.mem_cons_self sr ?_⟩
        have p : PostS G W fx σ0 T De (clr none (hh ns ds ρ)) := p
        cases q : hh ns ds ρ with
        | stuck => rw [q] at p; exact p.elim
        | exc => rw [q] at p; exact p.elim
        | ok f ρ2 =>
          rw [q] at p
          cases f with
          | nx => exact fun σ2 H2 f2 s2 => p σ2 H2 (fi.trans f2) s2.pop
          | bk => exact fun σ2 H2 f2 s2 => p σ2 H2 (fi.trans f2) s2.pop
          | ct => exact fun σ2 H2 f2 s2 => p σ2 H2 (fi.trans f2) s2.pop
          | ret s => exact fun v σ2 H2 f2 s2 => p v σ2 H2 (fi.trans f2) s2.pop2
      · subst hb
        exact ih fi sr p
theorem ok_try {body : List Stmt} {b : SEv} (hb : ∀ (W : WX) (pn : List (Addr × Obj)) (xe : Value → Shared → Prop), Takes (X.tr pn xe) W → PassesOwn (model X.prog X.w) X.A X.env xe → ∃ t, PSs (X.tr pn xe) body t ∧ SsOk G W fx t b) (hh : DHs X G fx hds l ks) :
    SsOk G W fx (fun D σ H => tbOf X body (wManyAs X.K W D l) D σ H) (sTry b ks) := by
  intro De σ H ρ T sr p pn xe tk po
  obtain ⟨t, P, S⟩ := hb (wManyAs X.K W De l) pn xe tk po
  refine ⟨t, P, S De σ H ρ T sr ?_⟩
  unfold sTry at p
  cases q : b ρ with
  | stuck => rw [q] at p; exact p.elim
  | ok f ρ1 => rw [q] at p; exact p
  | exc c ns ds ρ1 =>
    rw [q] at p
    exact fun dd σ1 H1 fi s1 => hands_ok hh fi s1 p
theorem ds_try {k : Nat} (C : Cok k X G W) {body : List Stmt} {b : SEv} {h₀ : ExceptHandler} {pos : Pos} (hs : X.stack = X.env :: X.outer) (hf : X.env.frame = some X.env.locals)
    (hb : ∀ (W : WX) (pn : List (Addr × Obj)) (xe : Value → Shared → Prop), Cok k (X.tr pn xe) G W → ∃ t, DSs fx (X.tr pn xe) G W body t b) (hh : DHs X G fx (h₀ :: hds) l ks) :
    DS fx X G W (.Try body (h₀ :: hds) [] [] pos) (fun D σ H => tbOf X body (wManyAs X.K W D l) D σ H) (sTry b ks) :=
  ⟨ps_try_manyAs hs hf C.nd C.tk (fun _ _ _ tk po => ps_tbOf tk po) hh.toHds, ok_try (fun W pn xe tk po => by
    obtain ⟨t, d⟩ := hb W pn xe ⟨C.hK, C.calm, tk, po, C.nd, C.rm⟩
    exact ⟨t, d.pss, d.ok⟩) hh⟩
/-- return e in a clause -/
theorem su_ret {tab : Str → Option Bool} {i : Option Nat} {a : Expr} {pos : Pos} {f : List Str → List Sep.D → Ev}
    (h : ∀ (b dd : Addr) (oe : Obj) (pn : List (Addr × Obj)) (c : Str) (ns : List Str) (ds : List Sep.D), tab c = some true → Zc (.ref (G.cls c)) (some dd) oe → (∃ vs, oe.data = .fields vs) → ∃ t, PE (X.suite b ((b, oe) :: pn)) a t ∧ EvX i b dd ns ds G t (f ns ds)) :
    SuOk X G fx tab i [.Return (some a) pos] (fun ns ds => sRetF (f ns ds)) := fun b dd oe pn c ns ds e hz hf => by
  obtain ⟨t, P, E⟩ := h b dd oe pn c ns ds e hz hf
  refine ⟨_, pss_cons (ps_ret P) pss_nil, ?_⟩
  intro D σ H ρ T h1 h2 sr p
  show t σ H D.rt
  exact ssx_ret (fx := fx) E D σ H ρ T h1 h2 sr p
theorem su_continue {tab : Str → Option Bool} {i : Option Nat} {pos : Pos} : SuOk X G fx tab i [.Continue pos] (fun _ _ => sCt) := fun b dd oe pn c ns ds e hz hf =>
  ⟨_, (dss_one (ds_continue (G := G) (W := W0) (fx := fx))).pss, ssx_of (dss_one (X := X) (ds_continue (pos := pos) (G := G) (W := W0) (fx := fx))).ok⟩
/-- err.f in a clause -/
theorem px_fld {c n f : Str} {j : Nat} {b dd : Addr} {oe : Obj} {pn : List (Addr × Obj)} {ns : List Str} {ds : List Sep.D} {pos p : Pos} {tab : Str → Option Bool} (hK : X.K = G.K) (hx : ∀ c, tab c = some true → XfC G.K (G.cls c) ∧ PySem.W.findIn G.K (.ref (G.cls c)) f = some none) (e : tab c = some true)
    (hz : Zc (.ref (G.cls c)) (some dd) oe) (hf : ∃ vs, oe.data = .fields vs) (hN : X.N[j]? = some n := by rfl) (hv : Vis X.env.scope n := by first | exact Or.inl rfl | exact Or.inr (Or.inl rfl) | exact Or.inr (Or.inr rfl)) (hd : (n == ("__debug__" : Str)) = false := by decide) (hcd : (n == ("__classdict__" : Str)) = false := by decide)
    (hb : attributeBase (.Name n p) f X.env (eval (.Name n p) X.env) = eval (.Name n p) X.env := by rfl) :
    ∃ t, PE (X.suite b ((b, oe) :: pn)) (.Attribute (.Name n p) f pos) t ∧ EvX (some j) b dd ns ds G t (eXf f ns ds) :=
  ⟨_, pe_xf (X := X) (by rw [hK]; exact (hx c e).1) (by rw [hK]; exact (hx c e).2) hz hf (de_var (X := X.suite b ((b, oe) :: pn)) (G := G) (W := W0) j hN hv hd hcd).pe hb, evx_fld⟩
end
end Sep

/-! SepZ5: what is looked at of exception classes, as truths. -/
namespace Sep
open PySem L2
def crB (K : PySem.W.Frag) (C : Addr) : Bool := PySem.W.readsIn K C (.type "type") && decide (PySem.W.specialIn K (.ref C) "__getattribute__" = some (some (.builtin "type.__getattribute__"))) &&
  (match PySem.W.findCls K (.ref C) (.type "type") "__init__" with
    | some (.val (.builtin s)) => s == "ValueError.__init__"
    | _ => false)
theorem crB_ok {K : PySem.W.Frag} {C : Addr} (h : crB K C = true) : ClX.CRead K C (.type "type") ∧ PySem.W.findCls K (.ref C) (.type "type") "__init__" = some (.val (.builtin "ValueError.__init__")) := by
  unfold crB at h
  rw [Bool.and_eq_true, Bool.and_eq_true] at h
  refine ⟨⟨h.1.1, of_decide_eq_true h.1.2⟩, ?_⟩
  have h2 := h.2
  split at h2
  · rename_i s e
    rw [e, beq_iff_eq.mp h2]
  · cases h2
def exmB (K : PySem.W.Frag) (c h : Addr) (b : Bool) : Bool := decide (PySem.W.exmOne K (.ref c) (.ref h) = some b)
theorem exm_tab {K : PySem.W.Frag} {G : Gm} {cv : Value} {l : List (Str × Bool)} (h : ∀ p ∈ l, PySem.W.exmOne K (.ref (G.cls p.1)) cv = some p.2) : ExmOk K G cv (tabL l) := fun c b e => h (c, b) (look_mem e)
theorem tab_true {l : List (Str × Bool)} {P : Str → Prop} (h : ∀ p ∈ l, p.2 = true → P p.1) : ∀ c, tabL l c = some true → P c := fun c e => h (c, true) (look_mem e) rfl
theorem al_0 {α : Type} {P : α → Prop} : ∀ p ∈ ([] : List α), P p := fun _ z => nomatch z
theorem al_1 {α : Type} {P : α → Prop} {a : α} {l : List α} (h : P a) (r : ∀ p ∈ l, P p) : ∀ p ∈ a :: l, P p := fun p z => (List.mem_cons.mp z).elim (fun e => e ▸ h) (r p)
/-! expressions of a clause -/
section
variable {X : Cx} {i : Option Nat} {b dd : Addr} {ns : List Str} {ds : List Sep.D} {G : Gm} {e1 e2 e3 e4 : Expr} {f1 f2 f3 f4 : Ev} {pos : Pos}
theorem hx_c {e : Expr} {v : V} {d : Sep.D} (h : PE X e (tC v)) (r : ∀ H O, RepD G H O d v) : ∃ t, PE X e t ∧ EvX i b dd ns ds G t (eC d) := ⟨_, h, evx_of (ok_c r)⟩
theorem ha_0 : ∃ t, PA X [] t ∧ ArX i b dd ns ds G t aNil := ⟨_, pa_nil, arx_nil⟩
theorem ha_1 {es : List Expr} {fs : Sl → Out (List R)} (h1 : ∃ t, PE X e1 t ∧ EvX i b dd ns ds G t f1) (h2 : ∃ t, PA X es t ∧ ArX i b dd ns ds G t fs) (hs : starEach (e1 :: es) X.env = (false, eval e1 X.env) :: starEach es X.env := by rfl) : ∃ t, PA X (e1 :: es) t ∧ ArX i b dd ns ds G t (aCons f1 fs) := by
  obtain ⟨t1, p1, q1⟩ := h1
  obtain ⟨t2, p2, q2⟩ := h2
  exact ⟨_, pa_cons p1 p2 hs, arx_cons q1 q2⟩
theorem hx_tup {es : List Expr} {fs : Sl → Out (List R)} {x : Nat} (h2 : ∃ t, PA X es t ∧ ArX i b dd ns ds G t fs) : ∃ t, PE X (.Tuple es x pos) t ∧ EvX i b dd ns ds G t (eTup fs) := by
  obtain ⟨t2, p2, q2⟩ := h2
  exact ⟨_, pe_tup p2, evx_tup q2⟩
end
end Sep

/-! SepZ6: list(range(..)). -/
namespace Sep
open PySem L2 PySem.Spec PyProof.Rows
/-- list(r), r a range -/
def rLR : List V → Hp → VK → Prop := fun vs H Q => ∃ p i j, vs = [.ref p] ∧ H p = some (.rng i j) ∧ (-(2 ^ 62) ≤ i ∧ i < 2 ^ 62 ∧ -(2 ^ 62) ≤ j ∧ j < 2 ^ 62) ∧ (j - i).toNat ≤ LIM ∧ ∀ q, H q = none → Q (.ref q) (upd H q (.lst ((List.range (j - i).toNat).map fun (n : Nat) => V.int (i + n))))
theorem vals_range {i : Int} : ∀ (n : Nat) (k : Nat) (us : List Value), us.length = n → (∀ (j : Nat) v, us[j]? = some v → ∃ t, v = .int (i + ((k + j : Nat) : Int)) t) → Vals ((List.range' k n).map fun (m : Nat) => V.int (i + m)) us
  | 0, k, us, hl, h => by
    cases us with
    | nil => exact .nil
    | cons => cases hl
  | n + 1, k, us, hl, h => by
    cases us with
    | nil => cases hl
    | cons u us =>
      rw [List.range'_succ, List.map_cons]
      refine .cons ?_ (vals_range n (k + 1) us (by simpa using hl) fun j v e => ?_)
      · obtain ⟨t, e⟩ := h 0 u rfl
        exact ⟨t, e⟩
      · obtain ⟨t, e2⟩ := h (j + 1) v (by simpa using e)
        exact ⟨t, by rw [e2, show k + (j + 1) = k + 1 + j by omega]⟩
theorem cr_LR {X : Cx} (hc : X.calm = true) : CallR X (.type "list") rLR := by
  intro pins s σ H vs us Q I r h
  obtain ⟨p, i, j, rfl, e, hb, hl, q⟩ := h
  cases r with
  | @cons _ u _ ur ru rn =>
    cases rn
    obtain rfl : u = Value.ref p := ru
    obtain ⟨t, u, v, hr⟩ := (show ∃ t u v, s.heap.get? p = some _ from I.hok p _ e)
    refine call_list_range (I.ok.hd hc) hr (small_one hb.1 hb.2.1 hb.2.2.1 hb.2.2.2) (n := (j - i).toNat) (by rw [rangeSize_one]; split <;> omega) (Nat.le_trans hl (by decide)) fun h' tk acc c' k hk hi => ?_
    have hn : H s.heap.objs.size = none := I.hok.fresh (Nat.le_refl _)
    have hv : Vals ((List.range (j - i).toNat).map fun (n : Nat) => V.int (i + n)) acc.toList := by
      rw [List.range_eq_range']
      refine vals_range _ 0 _ (by simpa using hi.1) fun m w e => ?_
      obtain ⟨t, e2⟩ := hi.2 m w (by simpa using e)
      exact ⟨t, by rw [e2, Int.mul_one, Nat.zero_add]⟩
    refine ⟨.ref s.heap.objs.size, _, I.laid (t' := tk) (a := s.heap.objs.size) (o := .lst ((List.range (j - i).toNat).map fun (n : Nat) => V.int (i + n))) (h' := h') k (Nat.le_refl _) ⟨?_, acc.toList, c', hv, ?_⟩, rfl, q _ hn⟩
    · rw [List.length_map, List.length_range]; exact lim_le hl
    · rw [hk]
/-- list(range(a, b)) -/
def eLR (fa fb : Ev) : Ev := fun ρ => (fa ρ).bind fun r1 ρ1 => (fb ρ1).bind fun r2 ρ2 => match look r1 ρ2, look r2 ρ2 with
  | some (.int i), some (.int j) => if (-(2 ^ 62) ≤ i ∧ i < 2 ^ 62 ∧ -(2 ^ 62) ≤ j ∧ j < 2 ^ 62) ∧ (j - i).toNat ≤ LIM then .ok (.v (.lst (shs (rngD i (j - i).toNat)))) ρ2 else .stuck
  | _, _ => .stuck
def eLR1 (fa : Ev) : Ev := fun ρ => (fa ρ).bind fun r1 ρ1 => match look r1 ρ1 with
  | some (.int j) => if (-(2 ^ 62) ≤ j ∧ j < 2 ^ 62) ∧ j.toNat ≤ LIM then .ok (.v (.lst (shs (rngD 0 j.toNat)))) ρ1 else .stuck
  | _ => .stuck
theorem reps_rng {G : Gm} {H : Hp} {O : List Addr} {i : Int} (n : Nat) : ∀ k, RepDs G H O ((List.range' k n).map fun (m : Nat) => D.int (i + m)) ((List.range' k n).map fun (m : Nat) => V.int (i + m)) := by
  induction n with
  | zero => intro k; rfl
  | succ n ih =>
    intro k
    rw [List.range'_succ, List.map_cons, List.map_cons]
    exact ⟨_, _, rfl, rfl, ih (k + 1)⟩
section
variable {X : Cx} {G : Gm} {W : WX} {a b : Expr} {ta tb : TE} {fa fb : Ev} {pos p p2 pos2 : Pos}
theorem lr_end {σ : L2.St} {ρ : Sl} {T : Hd} {H : Hp} {Q : VK} {i : Int} {n : Nat} {x y : V × Slot} (sr : SR G σ ρ (x :: y :: T) H) (p : Post G W σ T (Rt G σ T Q) (.ok (.v (.lst (shs (rngD i n)))) ρ)) (z : Addr) (hz : H z = none) {o : HO} (q : Addr) (hq : (upd H z o) q = none) : Q (.ref q) (upd (upd H z o) q (.lst ((List.range n).map fun (m : Nat) => V.int (i + m)))) := by
  have s1 := sr.pop.pop
  have s2 : SR G σ ρ T (upd H z o) := ⟨s1.h.same (Same.new hz), s1.len, s1.as⟩
  obtain ⟨O, hO⟩ := s2.h
  have r : RepDs G (upd H z o) O (rngD i n) ((List.range n).map fun (m : Nat) => V.int (i + m)) := by
    unfold rngD; rw [List.range_eq_range']; exact reps_rng n 0
  exact p _ _ (SR.push s2 (hO.newL hq r.sh)) trivial
theorem ok_LR (A : EvOk G W ta fa) (B : EvOk G W tb fb) : EvOk G W (tCB rLR (tCons (tCB (fun vs H Q => ∃ i j, vs = [V.int i, V.int j] ∧ ∀ p, H p = none → Q (.ref p) (upd H p (.rng i j))) (tCons ta (tCons tb tNil))) tNil)) (eLR fa fb) := by
  intro σ H ρ T Q sr p
  refine A σ H ρ T _ sr ((Post.bind p).imp fun r1 ρ1 p1 x H1 sr1 a1 => ?_)
  refine B σ H1 ρ1 _ _ sr1 ((Post.bind p1).more.imp fun r2 ρ2 p2 y H2 sr2 a2 => ?_)
  obtain ⟨O, hO⟩ := sr2.h
  cases e1 : look r1 ρ2 with
  | none => simp only [e1] at p2; exact p2.elim
  | some d1 =>
    cases e2 : look r2 ρ2 with
    | none => simp only [e1, e2] at p2; cases d1 <;> exact p2.elim
    | some d2 =>
      simp only [e1, e2] at p2
      cases d1 with
      | int i =>
        cases d2 with
        | int j =>
          have k1 := sr2.lookP hO a1 (fun s e => by subst e; exact List.mem_cons_of_mem _ List.mem_cons_self) e1
          have k2 := sr2.lookP hO a2 (fun s e => by subst e; exact List.mem_cons_self) e2
          have k1 : x = .int i := k1
          have k2 : y = .int j := k2
          subst k1 k2
          dsimp only at p2
          split at p2
          · rename_i hc
            refine ⟨i, j, rfl, fun z hz => ⟨z, i, j, rfl, upd_same, hc.1, hc.2, fun q hq => lr_end sr2 p2 z hz q hq⟩⟩
          · exact p2.elim
        | _ => exact p2.elim
      | _ => exact p2.elim
theorem de_LR (C0 : X.calm = true) (hg : Gl X "list") (hm : X.mg "list" = none) (hg2 : Gl X "range") (hm2 : X.mg "range" = none) (A : DE X G W a ta fa) (B : DE X G W b tb fb)
    (h1 : starEach [Expr.Call (.Name "range" p2) [a, b] [] pos2] X.env = (false, eval (Expr.Call (.Name "range" p2) [a, b] [] pos2) X.env) :: starEach [] X.env := by rfl) (h2 : (backTo pos (starEach [] X.env)).any (·.1) = false := by rfl)
    (h3 : starEach [a, b] X.env = (false, eval a X.env) :: starEach [b] X.env := by rfl) (h4 : starEach [b] X.env = (false, eval b X.env) :: starEach [] X.env := by rfl) (h5 : (backTo pos2 (starEach [b] X.env)).any (·.1) = false := by rfl) :
    DE X G W (.Call (.Name "list" p) [.Call (.Name "range" p2) [a, b] [] pos2] [] pos) (tCB rLR (tCons (tCB (fun vs H Q => ∃ i j, vs = [V.int i, V.int j] ∧ ∀ p, H p = none → Q (.ref p) (upd H p (.rng i j))) (tCons ta (tCons tb tNil))) tNil)) (eLR fa fb) :=
  ⟨pe_callTy (cr_LR C0) hg hm boot_list (pa_cons (pe_callTy cr_range2 hg2 hm2 (by decide +kernel) (pa_cons A.pe (pa_cons B.pe pa_nil h4) h3) (by decide) (by decide) h3 h5) pa_nil h1) (by decide) (by decide) h1 h2, ok_LR A.ok B.ok⟩
end
end Sep

/-! SepZ7: properties; defs with *args -/
namespace Sep
open PySem L2
/-! ### a property -/
def noX {α : Type} : Out α → Out α
  | .ok a ρ => .ok a ρ
  | _ => .stuck
/-- o.m, a property of the class c (its getter raises nothing) -/
def eProp (c : Str) (F : FnD) (fo : Ev) : Ev := fun ρ => (fo ρ).bind fun r ρ1 => match look r ρ1 with
  | some (.obj c' _ _) => if c' = c then ((consAll [r] ρ1).bind fun ds ρ3 => if ds.length = 1 then retC ρ3 (noX (F (shs ds))) else .stuck) else .stuck
  | _ => .stuck
section
variable {X : Cx} {G : Gm} {W : WX} {o : Expr} {ta : TE} {fo : Ev} {F : FnD}
theorem PostC.noX {σ : L2.St} {ρ : Sl} {T : Hd} {Q : VK} {E : XK} {x : Out Slot} (p : Post G W σ T (Rt G σ T Q) (retC ρ (noX x))) : PostC G σ ρ T Q E x := by
  cases x with
  | ok s fs => exact fun v H' h => p v H' h trivial
  | exc c ns es fs => exact p.elim
  | stuck => exact p
theorem ok_prop {c : Str} (A : EvOk G W ta fo) : EvOk G W (tProp (G.cls c) (spF G 1 F) [] (fun _ _ _ => False) ta) (eProp c F fo) := by
  intro σ H ρ T Q sr p
  refine A σ H ρ T _ sr ((Post.bind p).imp fun r ρ1 p1 x H1 sr1 a1 => ?_)
  cases e1 : look r ρ1 with
  | none => simp only [e1] at p1; exact p1.elim
  | some d =>
    simp only [e1] at p1
    cases d <;> first | (exact p1.elim) | skip
    rename_i c' ns ds0
    simp only at p1
    split at p1
    · rename_i hq
      obtain ⟨O, h⟩ := sr1.h
      obtain ⟨a, dx, xs, ex, ha, hl, hrd⟩ := sr1.lookP h a1 (fun s e => by subst e; exact List.mem_cons_self) e1
      rw [hq] at ha
      refine ⟨a, dx, _, ex, ha, ?_⟩
      rcases consAll_or [r] ρ1 with ⟨ds, ρ3, e⟩ | e
      · simp only [e, Out.bind] at p1
        have ats : Ats σ [r] [x] := ⟨x, [], rfl, a1, rfl⟩
        obtain ⟨sr3, hl3⟩ := SR.takes (vs := [x]) (T := T) sr1 ats e
        split at p1
        · rename_i hn
          rw [← ex]
          exact core (es := ds) sr3 hl3 (fun O r => r) hn (PostC.noX p1)
        · exact p1.elim
      · simp only [e, Out.bind] at p1; exact p1.elim
    · exact p1.elim
theorem de_prop {k j : Nat} {p f : Addr} {fd : FuncData} {ps : List Str} {c m : Str} {pos : Pos} (C : Cok k X G W) (hc : Cls X.K (G.cls c)) (hp : PropOf X.K (G.cls c) m p f) (Fo : FnOk X.prog X.w X.K X.mg X.base (L2.CX X.prog X.w) j f fd ps (spF G 1 F)) (hj : j + 1 ≤ k) (hb : Binds X.K fd ps [])
    (O : DE X G W o ta fo) (hab : attributeBase o m X.env (eval o X.env) = eval o X.env := by rfl) :
    DE X G W (.Attribute o m pos) (tProp (G.cls c) (spF G 1 F) [] (fun _ _ _ => False) ta) (eProp c F fo) :=
  ⟨pe_prop O.pe hc hp Fo (C.rm.mono hj) hb .nil (fun pins σ H s er s' I z => by
    obtain ⟨_, _, _, _, _, _, _, _, _, _, _, _, z⟩ := z
    exact z) hab, ok_prop O.ok⟩
end
end Sep

/-! SepZ8: defs with *args -/
namespace Sep
open PySem L2 PyProof.Rows
abbrev Sp2 := List V → List V → Hp → VK → XK → Prop
/-- its promise: what comes behind the first is a new tuple, put last -/
def spS (G : Gm) (np : Nat) (mV : List V) (tm : List (Nat × Nat)) (F : FnD) : Sp2 := fun vs zs H Q E => ∃ v0 rest, vs = v0 :: rest ∧ rest.length ≤ sizeLine ∧ ∀ p, H p = none → spF G np F (v0 :: (pk tm [[], [], mV, zs] ++ [.ref p])) (upd H p (.tup rest)) Q E
structure FnS (P : Program) (w : World) (K : PySem.W.Frag) (mg : Str → Option Value) (base : Heap) (k : Nat) (f : Addr) (ks : List Str) (sp : Sp2) : Prop where
  run : ∀ (A : Around) (outer : List Env) (s : Shared) (H : Hp) (us ws : List Value) (vs zs : List V) (Q : VK) (E : XK), Room k A → Env0 P w K mg base A outer s H → Vals vs us → Vals zs ws → zs.length = ks.length → sp vs zs H Q E →
    codeAny (model P w) A (.call (.ref f) ⟨us, ks.zip ws⟩) (CR (L2.CX P w) outer P w H s Q E) s
def KwStar (dd : Addr) (pv : Str) (rest : List Value) : List (Str × Value) → Sem (List (Str × Value)) → List (Str × Value) → Prop
  | [], t, r => t = (newTuple rest >>= fun z => pure (r ++ [(pv, z)]))
  | q :: l, t, r => ∃ (β γ : Type) (k1 : Option Value → Sem β) (k2 : β → Sem γ) (k3 : γ → Sem (List (Str × Value))) (a : β), t = ((nsGet dd q.1 >>= k1) >>= k2) >>= k3 ∧ k1 (some q.2) = pure a ∧ KwStar dd pv rest l (k2 a >>= k3) r
theorem KwStar.run {K : PySem.W.Frag} {M : Model} {A : Around} {dd : Addr} {pv : Str} {rest : List Value} {Q : List (Str × Value) → Shared → Prop} {Ex : Value → Shared → Prop} {sh : Shared} (X : K.In sh.heap) : ∀ {l : List (Str × Value)} {t : Sem (List (Str × Value))} {r : List (Str × Value)}, (∀ q ∈ l, PySem.W.nsIn K dd q.1 = some (some q.2)) → KwStar dd pv rest l t r → wpAny M A (newTuple rest >>= fun z => pure (r ++ [(pv, z)])) Q Ex sh → wpAny M A t Q Ex sh
  | [], t, r, _, e, h => by
    rw [show t = _ from e]; exact h
  | q :: l, t, r, hl, e, h => by
    obtain ⟨β, γ, k1, k2, k3, a, e1, e2, e3⟩ := e
    have l1 : PySem.W.Looks M sh.heap (nsGet dd q.1 >>= k1) a := (PySem.W.looks_nsIn X (hl q (List.mem_cons_self ..))).andThen (PySem.W.Looks.of_pure e2)
    rw [e1, bind_assoc]
    exact wpAny_bind (l1.here (KwStar.run X (fun p hp => hl p (List.mem_cons_of_mem _ hp)) e3 h))
structure SBm (K : PySem.W.Frag) (fd : FuncData) (ps : List Str) (pv : Str) (ks : List Str) (tm : List (Nat × Nat)) (mV : List V) : Prop where
  to : ∃ mU : List Value, Vals mV mU ∧ ∀ (sh : Shared) (u0 : Value) (rest ws : List Value) (M : Model) (A : Around) (Ex : Value → Shared → Prop) (Q : List (Str × Value) → Shared → Prop), K.In sh.heap → ws.length = ks.length →
    wpAny M A (newTuple rest >>= fun z => pure (ps.zip (u0 :: pk tm [[], [], mU, ws]) ++ [(pv, z)])) Q Ex sh → wpAny M A (bindArgs fd ⟨u0 :: rest, ks.zip ws⟩) Q Ex sh
section
variable {P : Program} {w : World} {K : PySem.W.Frag} {mg : Str → Option Value} {base : Heap} {x qual : Str} {params : Arguments} {body : List Stmt} {scope : Scope} {dvs : List V} {kws : List (Str × V)} {f : Addr} {fd : FuncData} {ps ks N : List Str} {pv : Str} {tm : List (Nat × Nat)} {mV : List V}
/-- its binding: nothing but looked-up keyword defaults ms -/
theorem sb_k {ms : List (Str × V)} (F : FunD K x qual params body scope [] kws f fd) (hk : kws ≠ []) (hms : ∀ q ∈ ms, q ∈ kws)
    (h : ∀ (dd : Addr) (e2 e3 : Value) (e4 : Option Addr) (e5 e6 : Value) (u0 : Value) (mv ws : List Value), mv.length = ms.length → ws.length = ks.length →
      KwStar dd pv [] ((ms.map (·.1)).zip mv) (bindArgs (PySem.W.fnOf x qual params body scope .none (.ref dd) e2 e3 e4 e5 e6) ⟨[u0], ks.zip ws⟩) (ps.zip (u0 :: pk tm [[], [], mv, ws])) ∧
      ∀ r rest, KwStar dd pv (r :: rest) ((ms.map (·.1)).zip mv) (bindArgs (PySem.W.fnOf x qual params body scope .none (.ref dd) e2 e3 e4 e5 e6) ⟨u0 :: r :: rest, ks.zip ws⟩) (ps.zip (u0 :: pk tm [[], [], mv, ws]))) : SBm K fd ps pv ks tm (ms.map (·.2)) := by
  obtain ⟨u1, u2, u3, u4, u5, u6, u7, u8, u9, u10, ex, w1, w2, w3, w4⟩ := F.ex
  subst ex
  rcases w3 with ⟨_, z⟩ | ⟨z, _⟩
  · subst z
    rcases w4 with z | ⟨dd, z, hq⟩
    · exact absurd z hk
    · subst z
      obtain ⟨mv, hl, rk, hks⟩ := kwd_vals (ms := ms) fun q hm => hq q (hms q hm)
      refine ⟨mv, rk, fun sh u0 rest ws M A Ex Q hK h3 hh => ?_⟩
      obtain ⟨B0, B1⟩ := h dd u5 u6 u7 u8 u9 u0 mv ws hl h3
      cases rest with
      | nil => exact KwStar.run hK hks B0 hh
      | cons r rest => exact KwStar.run hK hks (B1 r rest) hh
  · exact absurd rfl z
/-- without keyword defaults -/
theorem sb_0 (F : FunD K x qual params body scope [] [] f fd)
    (h : ∀ (e1 e2 e3 : Value) (e4 : Option Addr) (e5 e6 : Value) (u0 : Value) (ws : List Value), ws.length = ks.length →
      KwStar 0 pv [] [] (bindArgs (PySem.W.fnOf x qual params body scope .none e1 e2 e3 e4 e5 e6) ⟨[u0], ks.zip ws⟩) (ps.zip (u0 :: pk tm [[], [], [], ws])) ∧
      ∀ r rest, KwStar 0 pv (r :: rest) [] (bindArgs (PySem.W.fnOf x qual params body scope .none e1 e2 e3 e4 e5 e6) ⟨u0 :: r :: rest, ks.zip ws⟩) (ps.zip (u0 :: pk tm [[], [], [], ws]))) : SBm K fd ps pv ks tm [] := by
  obtain ⟨u1, u2, u3, u4, u5, u6, u7, u8, u9, u10, ex, w1, w2, w3, w4⟩ := F.ex
  subst ex
  rcases w3 with ⟨_, z⟩ | ⟨z, _⟩
  · subst z
    refine ⟨[], .nil, fun sh u0 rest ws M A Ex Q hK h3 hh => ?_⟩
    obtain ⟨B0, B1⟩ := h u4 u5 u6 u7 u8 u9 u0 ws h3
    cases rest with
    | nil => exact KwStar.run hK (fun _ z => by cases z) B0 hh
    | cons r rest => exact KwStar.run hK (fun _ z => by cases z) (B1 r rest) hh
  · exact absurd rfl z
/-- a def's body by its function on slots -/
theorem body_sp {G : Gm} {k n np : Nat} {fx : FX} {b : SEv} {cdv : Value} {A : Around} {outer : List Env} {s : Shared} {H : Hp} {vs : List V} {Q : VK} {E : XK} (hK : K = G.K) (S : FnScope N ps scope) (hnp : np ≤ n) (hr : Room k (A.deeper (envOfC qual scope s.heap.objs.size f cdv)))
    (hb : ∀ (cdv : Value) (A : Around) (outer : List PySem.Env) (s : Shared) (H : Hp) (E : XK) (fr : List Hd), Cok k (cxOf (L2.CX P w) P w K mg base N qual scope f cdv A outer s H E) (G.w fr) (fun cls d _ H => E cls d H) →
      ∃ t, DSs fx (cxOf (L2.CX P w) P w K mg base N qual scope f cdv A outer s H E) (G.w fr) (fun cls d _ H => E cls d H) body t b) (hn : N.length = n)
    (h : spF G np (fnOf n np fx b) vs H Q E) : ∃ t, PSs (cxOf (L2.CX P w) P w K mg base N qual scope f cdv A outer s H E) body t ∧ t { nx := fun _ H' => Q .non H', rt := Q } (L2.start N vs) H := by
  obtain ⟨hv, ss, T, fr, hh, hs, post⟩ := h
  obtain ⟨t, D⟩ := hb cdv A outer s H E fr (cok_def hK S.nd hr)
  refine ⟨t, D.pss, D.ok _ _ _ _ T (env_start hn hv hs hh hnp) ?_⟩
  have fin : ∀ {σ : L2.St} {ρ : Sl} {H' : Hp} {y : V × Slot}, Fix fx (L2.start N vs) σ → SR (G.w fr) σ ρ (y :: T) H' → Holds (G.w fr) H' (y :: (vs.zip (fins fx 0 np ρ) ++ T)) := fun {σ ρ H' y} fi sr => by
    refine (fins_holds (T := y :: T) hv (fun j v e q => ?_) sr.h).perm List.perm_middle
    rw [Nat.zero_add] at q
    rw [fi.2 j q]
    unfold L2.start
    have hj := (List.getElem?_eq_some_iff.mp e).1
    rw [List.getElem?_append_left (by rw [List.length_map]; exact hj), List.getElem?_map, e]; rfl
  unfold fnOf at post
  cases e : b (ss ++ List.replicate (n - np) .no) with
  | stuck => rw [e] at post; exact post.elim
  | exc c ns ds ρ =>
    rw [e] at post
    exact fun d σ H' fi sr => post d H' (fin fi sr)
  | ok fl ρ =>
    rw [e] at post
    cases fl with
    | nx => exact fun σ H' fi sr => post .non H' (fin fi (sr.scal (d := .non) fun _ => rfl))
    | ret s => exact fun v σ H' fi sr => post v H' (fin fi sr)
    | bk => exact post.elim
    | ct => exact post.elim
theorem fn_starD {G : Gm} {k n np : Nat} {fx : FX} {b : SEv} (hK : K = G.K) (Fu : FunD K x qual params body scope dvs kws f fd) (S : FnScope N (ps ++ [pv]) scope) (hn : N.length = n) (hp : ps.length + 1 = np) (hnp : np ≤ n) (B : SBm K fd ps pv ks tm mV)
    (hb : ∀ (cdv : Value) (A : Around) (outer : List PySem.Env) (s : Shared) (H : Hp) (E : XK) (fr : List Hd), Cok k (cxOf (L2.CX P w) P w K mg base N qual scope f cdv A outer s H E) (G.w fr) (fun cls d _ H => E cls d H) →
      ∃ t, DSs fx (cxOf (L2.CX P w) P w K mg base N qual scope f cdv A outer s H E) (G.w fr) (fun cls d _ H => E cls d H) body t b) :
    FnS P w K mg base (k + 1) f ks (spS G np mV tm (fnOf n np fx b)) := by
  refine ⟨fun A outer s H us ws vs zs Q E hr e0 r rz hz h => ?_⟩
  obtain ⟨v0, rest, ev, hl, hq⟩ := h
  subst ev
  obtain ⟨oc, od, dV, kV, doc, pm, an, cdv, ct, osl, rfl, lk, hcd, _, _⟩ := Fu.ex
  cases r with
  | cons r0 r =>
    rename_i u0 ur
    have hn0 : H s.heap.objs.size = none := e0.hok.fresh (Nat.le_refl _)
    have hlu : ur.length ≤ sizeLine := by rw [← r.length]; exact hl
    have hlen : (pk tm [[], [], mV, zs]).length + 2 = np := by
      have := (hq _ hn0).1
      rw [List.length_cons, List.length_append] at this
      exact this
    obtain ⟨mU, rm, to⟩ := B.to
    have rv : Vals (pk tm [[], [], mV, zs]) (pk tm [[], [], mU, ws]) := mix_vals .nil rm .nil rz
    refine StX.run_bnd (CX := L2.CX P w) lk hcd S hr e0 (G := fun xs H2 => ∃ p, H p = none ∧ xs = v0 :: (pk tm [[], [], mV, zs] ++ [.ref p]) ∧ H2 = upd H p (.tup rest)) (fun A' Ex Q' hh => ?_) fun s2 H2 xs ⟨p, hp0, ex, eH⟩ hr' => ?_
    · refine to s u0 ur ws _ A' Ex Q' (e0.mod.kin.keeps fun b o e => (e0.bs b o e).1) (by rw [← rz.length, hz]) (wpAny_bind (wpAny_newTuple (wpAny_pure ?_) hlu))
      have new : ObjOk P w (upd H s.heap.objs.size (.tup rest)) (s.heap.push ({ cls := .type "tuple", data := .seq ur.toArray } : Obj)) s.heap.objs.size (.tup rest) := ⟨hl, ur, r, ⟨_, Heap.get?_push_size _ rfl, rfl, _, rfl⟩⟩
      have un := StX.un_laid (fs := L2.frs outer) (s := s) (o := ({ cls := .type "tuple", data := .seq ur.toArray } : Obj)) (u := .tup rest) hn0
      have z := hh _ _ (v0 :: (pk tm [[], [], mV, zs] ++ [V.ref s.heap.objs.size])) (u0 :: (pk tm [[], [], mU, ws] ++ [Value.ref s.heap.objs.size])) (StX.env0_laid e0 new) un rfl (fun e s' => StX.cxUp outer s H _ _ E e s' un (fun b o q => Heap.get?_push_of_some _ q) rfl) (.cons r0 (rv.append (.cons rfl .nil)))
        (by rw [List.length_cons, List.length_append, List.length_append]; simp only [List.length_cons, List.length_nil]; omega) ⟨_, hn0, rfl, rfl⟩
      have e1 : (ps ++ [pv]).zip (u0 :: (pk tm [[], [], mU, ws] ++ [Value.ref s.heap.objs.size])) = ps.zip (u0 :: pk tm [[], [], mU, ws]) ++ [(pv, Value.ref s.heap.objs.size)] := by
        rw [← List.cons_append, List.zip_append (by rw [List.length_cons, ← rv.length]; omega)]; rfl
      rw [e1] at z
      exact z
    · subst ex eH
      exact body_sp hK S hnp hr' hb hn (hq p hp0)
end
end Sep

/-! SepZ9: making an instance whose __init__ takes *args -/
namespace Sep
open PySem L2 PyProof.Rows
section
variable {X : Cx} {CX : CXT} {k n : Nat} {f C : Addr} {ks : List Str} {sp : Sp2} {E : L2.St → XK} {x m : Str} {p pos apos : Pos} {e o : Expr} {es : List Expr} {ta : TE} {t tk : TA} {kws : List Keyword}
theorem run_mkS {pins : List (Addr × Obj)} {σ : L2.St} {H : Hp} {s : Shared} {Q : VK} {us ws : List Value} {vs zs : List V} (M : Mk X.K C f) (F : FnS X.prog X.w X.K X.mg X.base k f ks sp) (hr : Room (k + 1) X.A)
    (hx : PassesAt (L2.CX X.prog X.w) X σ (E σ)) (I : Inv X pins σ H s) (r : Vals vs us) (rz : Vals zs ws) (hz : zs.length = ks.length)
    (h : ∀ a dx, H a = none → H dx = none → dx ≠ a → sp (.ref a :: vs) zs (upd (upd H dx (.own a)) a (.ins C dx [])) (fun v H2 => v = .non ∧ Q (.ref a) H2) (E σ)) :
    wpAny (model X.prog X.w) X.A (call (.ref C) us (ks.zip ws)) (EP X pins σ Q) X.xe s := by
  let N := s.heap.objs.size
  have q := h (N + 1) N (I.hok.fresh (Nat.le_succ N)) (I.hok.fresh (Nat.le_refl N)) (Nat.ne_of_lt (Nat.lt_succ_self N))
  have J := Inv.made (C := C) I
  have B := F.run _ X.stack _ _ (.ref (N + 1) :: us) ws (.ref (N + 1) :: vs) zs _ (E σ) (hr.make C us (ks.zip ws)) (J.env0.make C us (ks.zip ws)) (.cons rfl r) rz hz q
  refine wpAny_call (make_map (f := f) I.kIn M.makes M.init (beq_iff_eq.mp M.fn) (codeAny_mono B fun z s' hz => ?_))
  rcases z with er | fl
  · exact hx pins _ _ er s' J hz
  · cases fl with
    | ret u =>
      obtain ⟨v, H', J', rv, ev, q'⟩ := J.after hz
      subst ev
      exact ⟨rv, ⟨V.ref (N + 1), H', J', rfl, q'⟩⟩
    | _ => exact hz.elim
def tMkS (C : Addr) (sp : Sp2) (E : L2.St → XK) (m : Nat) (t tk : TA) : TE := fun σ H Q => t σ H fun vs H1 => tk σ H1 fun zs H2 => zs.length = m ∧ ∀ x dx, H2 x = none → H2 dx = none → dx ≠ x → sp (.ref x :: vs) zs (upd (upd H2 dx (.own x)) x (.ins C dx [])) (fun v H3 => v = .non ∧ Q (.ref x) H3) (E σ)
theorem pe_mkS (M : Mk X.K C f) (F : FnS X.prog X.w X.K X.mg X.base k f ks sp) (hr : Room (k + 1) X.A) (hg : Gl X x) (hm : X.mg x = some (.ref C)) (hx : ∀ σ, PassesAt (L2.CX X.prog X.w) X σ (E σ)) (ha : PA X (e :: es) t) (hkw : PK X kws tk)
    (hall : (backToKw pos (keywordEach kws X.env)).all (·.1.isSome) = true := by rfl) (hks : (backToKw pos (keywordEach kws X.env)).filterMap (·.1) = ks := by rfl) (hdb : (x == ("__debug__" : Str)) = false := by decide)
    (he : starEach (e :: es) X.env = (false, eval e X.env) :: starEach es X.env := by rfl) (hpl : ((backTo pos (starEach (e :: es) X.env)).any (·.1) || (backToKw pos (keywordEach kws X.env)).any (·.1.isNone)) = false := by rfl) :
    PE X (.Call (.Name x p) (e :: es) kws pos) (tMkS C sp E ks.length t tk) := by
  refine ⟨fun pins s σ H Q I h => wpAny_Call_Name_kw (ld_glob I hg hm (PySem.W.callWith_KW (h₀ := X.base) I.ok.mod.kin M.kp hall ?_ hpl he) hdb)⟩
  refine thn (ha.run pos pins s σ H _ I h) fun us s1 z1 => ?_
  obtain ⟨vs, H1, I1, r, q⟩ := z1
  refine thn (hkw.run pos pins s1 σ H1 _ I1 q) fun ws s2 z2 => ?_
  obtain ⟨zs, H2, I2, rz, l2, q2⟩ := z2
  refine ⟨I2.kIn, ?_⟩
  rw [hks]
  exact run_mkS M F hr (hx σ) I2 r rz l2 q2
theorem pe_mkS0 (M : Mk X.K C f) (F : FnS X.prog X.w X.K X.mg X.base k f ks sp) (hr : Room (k + 1) X.A) (hg : Gl X x) (hm : X.mg x = some (.ref C)) (hx : ∀ σ, PassesAt (L2.CX X.prog X.w) X σ (E σ)) (hkw : PK X kws tk)
    (hall : (backToKw pos (keywordEach kws X.env)).all (·.1.isSome) = true := by rfl) (hks : (backToKw pos (keywordEach kws X.env)).filterMap (·.1) = ks := by rfl) (hdb : (x == ("__debug__" : Str)) = false := by decide)
    (hpl : ((backTo pos (starEach [] X.env)).any (·.1) || (backToKw pos (keywordEach kws X.env)).any (·.1.isNone)) = false := by rfl) :
    PE X (.Call (.Name x p) [] kws pos) (tMkS C sp E ks.length tNil tk) := by
  refine ⟨fun pins s σ H Q I h => wpAny_Call_Name_kw (ld_glob I hg hm (PySem.W.callWith_KW0 (h₀ := X.base) I.ok.mod.kin M.kp hall ?_ hpl) hdb)⟩
  refine thn (hkw.run pos pins s σ H _ I h) fun ws s2 z2 => ?_
  obtain ⟨zs, H2, I2, rz, l2, q2⟩ := z2
  refine ⟨I2.kIn, ?_⟩
  rw [hks]
  exact run_mkS M F hr (hx σ) I2 .nil rz l2 q2
end
section
variable {G : Gm} {H : Hp} {O : List Addr} {L T : Hd} {σ : L2.St} {ρ ρ1 ρ2 : Sl} {W : WX} {Q : VK}
theorem zipcat {α β : Type} {a : α} {b : β} : ∀ {us : List α} {es : List β}, us.length = es.length → (us ++ [a]).zip (es ++ [b]) = us.zip es ++ [(a, b)] := fun h => by
  rw [List.zip_append h]; rfl
/-- as coreM, and a tuple put last -/
theorem coreMS {F : FnD} {N : Nat} {d1 d2 es : List D} {v1 v2 us : List V} {Q : VK} {E : XK} {c : Str} {p dx : Addr} (sr : SR G σ ρ2 ((v1 ++ v2).zip (shs (d1 ++ d2)) ++ T) H) (hl1 : v1.length = d1.length) (hl2 : v2.length = d2.length) (hr : ∀ O, RepDs G H O d2 v2 → RepDs G H O es us) (hN : es.length + 2 = N) (hp : H p = none) (hd : H dx = none) (ne : dx ≠ p)
    (po : PostM G σ ρ2 T Q E (F (.obj c [] [] :: (shs es ++ [.sh (.tup d1)])))) {q : Addr} (hq : upd (upd H dx (.own p)) p (.ins (G.cls c) dx []) q = none) : spF G N F (.ref p :: (us ++ [V.ref q])) (upd (upd (upd H dx (.own p)) p (.ins (G.cls c) dx [])) q (.tup v1)) (fun v H3 => v = .non ∧ Q (.ref p) H3) E := by
  obtain ⟨O, h⟩ := sr.h.perm (L' := (v1 ++ v2).zip (shs (d1 ++ d2)) ++ (envL σ ρ2 ++ T)) (by
    rw [← List.append_assoc, ← List.append_assoc]
    exact List.perm_append_comm.append_right T)
  have es1 : (v1 ++ v2).zip (shs (d1 ++ d2)) = v1.zip (shs d1) ++ v2.zip (shs d2) := by
    unfold shs
    rw [List.map_append, List.zip_append (by rw [List.length_map, hl1])]
  rw [es1, List.append_assoc] at h
  obtain ⟨rd1, h0⟩ := h.datas hl1
  obtain ⟨rd2, h0⟩ := h0.datas hl2
  have re := hr O rd2
  have lu := re.length
  obtain ⟨O1, h1⟩ := (Hold.newO (c := c) ((h0.adds re).adds rd1) hp hd ne).perm (L' := v1.zip (shs d1) ++ ((V.ref p, .obj c [] []) :: (us.zip (shs es) ++ (envL σ ρ2 ++ T)))) List.perm_middle.symm
  obtain ⟨rq, h2⟩ := h1.datas hl1
  have h3 := h2.newT hq rq
  have hz : Holds G (upd (upd (upd H dx (.own p)) p (.ins (G.cls c) dx [])) q (.tup v1)) ((V.ref p :: (us ++ [V.ref q])).zip (.obj c [] [] :: (shs es ++ [.sh (.tup d1)])) ++ (envL σ ρ2 ++ T)) := by
    refine h3.perm ?_
    rw [List.zip_cons_cons, zipcat (by unfold shs; rw [List.length_map, lu]), List.cons_append, List.append_assoc]
    refine (List.Perm.swap _ _ _).trans (.cons _ ?_)
    exact List.perm_middle.symm
  refine ⟨by rw [List.length_cons, List.length_append, lu]; simp only [List.length_cons, List.length_nil]; omega, .obj c [] [] :: (shs es ++ [.sh (.tup d1)]), envL σ ρ2 ++ T, G.fr, hz, by rw [List.length_cons, List.length_append]; unfold shs; rw [List.length_map]; simp only [List.length_cons, List.length_nil]; omega, ?_⟩
  have back : ∀ {H' : Hp} {y : V × Slot} {fs : Sl}, Holds G H' (y :: ((us ++ [V.ref q]).zip fs ++ (envL σ ρ2 ++ T))) → SR G σ ρ2 (y :: T) H' := fun {H' y fs} h => by
    have h2 : Holds G H' ((us ++ [V.ref q]).zip fs ++ (y :: (envL σ ρ2 ++ T))) := h.perm List.perm_middle.symm
    exact ⟨h2.dropL.perm List.perm_middle.symm, sr.len, sr.as⟩
  cases ef : F (.obj c [] [] :: (shs es ++ [.sh (.tup d1)])) with
  | stuck => rw [ef] at po; exact po.elim
  | exc c ns es fs =>
    rw [ef] at po
    refine fun d H' h => po d H' (back (fs := fs.tail) ?_)
    cases fs with
    | nil =>
      have z1 : (V.ref p :: (us ++ [V.ref q])).zip ([] : Sl) = [] := by simp
      have z2 : (us ++ [V.ref q]).zip ([] : Sl) = [] := by simp
      rw [z1] at h
      show Holds G H' (_ :: ((us ++ [V.ref q]).zip ([] : Sl) ++ _))
      rw [z2]; exact h
    | cons s fs => exact (Holds.perm h (.swap _ _ _)).tail
  | ok s fs =>
    rw [ef] at po
    cases s <;> first | (exact po.elim) | skip
    rename_i d
    cases d <;> first | (exact po.elim) | skip
    cases fs with
    | nil => exact po.elim
    | cons s0 fs =>
      intro v H' h
      have ev : v = .non := by
        obtain ⟨O, ⟨o1, o2, eo, h1, _⟩, _⟩ := h
        exact h1.2
      exact ⟨ev, po _ H' (back (fs := fs) h.tail)⟩
end
/-- C(e, .., k = v, ..), __init__(self, *es, ks): N parameters -/
def eMakeS (c : Str) (N : Nat) (tm : List (Nat × Nat)) (mD : List D) (F : FnD) (fs fz : Sl → Out (List R)) : Ev := fun ρ => (fs ρ).bind fun rs ρ1 => (fz ρ1).bind fun zs ρ2 => (consAll (rs ++ zs) ρ2).bind fun ds ρ3 =>
  if rs.length ≤ LIM ∧ (pk tm [[], [], mD, ds.drop rs.length]).length + 2 = N then retM ρ3 (F (.obj c [] [] :: (shs (pk tm [[], [], mD, ds.drop rs.length]) ++ [.sh (.tup (ds.take rs.length))]))) else .stuck
section
variable {X : Cx} {G : Gm} {W : WX} {a b o : Expr} {es : List Expr} {kws : List Keyword} {ta tb : TE} {t tk : TA} {fo : Ev} {fs fz : Sl → Out (List R)} {F : FnD} {N n : Nat} {tm : List (Nat × Nat)} {mD : List D} {mV : List V} {p pos : Pos}
theorem ok_makeS {c : Str} (hm : Dfl G mD mV) (A : ArOk G W t fs) (B : ArOk G W tk fz) (m : Nat) (hm2 : ∀ ρ rs ρ', fz ρ = .ok rs ρ' → rs.length = m) :
    EvOk G W (tMkS (G.cls c) (spS G N mV tm F) (WE W) m t tk) (eMakeS c N tm mD F fs fz) := by
  intro σ H ρ T Q sr p
  refine A σ H ρ T _ sr ((Post.bind p).imp fun rs ρ1 p1 vs H1 sr1 a1 => ?_)
  refine B σ H1 ρ1 (zipR vs rs ++ T) _ sr1 ?_
  have p1' : Post G W σ T _ (fz ρ1) := Post.bind p1
  cases ez : fz ρ1 with
  | stuck => rw [ez] at p1'; exact p1'.elim
  | exc c ns es ρ2 =>
    rw [ez] at p1'
    exact fun d H' h => p1' d H' (by
      have h2 : SR G σ ρ2 (zipR vs rs ++ ((.ref d, .sh (.xd ns es)) :: T)) H' := h.permT List.perm_middle.symm
      exact ⟨by
        obtain ⟨hh, _, _⟩ := h2
        exact (Holds.dropL (L := zipR vs rs) (hh.perm (by
          rw [← List.append_assoc, ← List.append_assoc]
          exact List.perm_append_comm.append_right _))), h2.len, h2.as⟩)
  | ok rz ρ2 =>
    rw [ez] at p1'
    intro zs H2 sr2 a2
    rcases consAll_or (rs ++ rz) ρ2 with ⟨ds, ρ3, e⟩ | e
    · have p2 : Post G W σ T (Rt G σ T Q) ((consAll (rs ++ rz) ρ2).bind _) := p1'
      simp only [e, Out.bind] at p2
      obtain ⟨sr3, hl⟩ := args2 sr2 a1 a2 e
      split at p2
      · rename_i hn
        have lv : vs.length = rs.length := a1.len
        refine ⟨by rw [a2.len]; exact hm2 _ _ _ ez, fun x dx hx hdx ne => ⟨.ref x, vs, rfl, by rw [lv, sizeLine_eq]; exact hn.1, fun q hq => ?_⟩⟩
        rw [List.length_append] at hl
        have e1 : vs.length = (ds.take rs.length).length := by rw [List.length_take, lv]; omega
        have e2 : zs.length = (ds.drop rs.length).length := by rw [List.length_drop]; omega
        rw [← List.take_append_drop rs.length ds] at sr3
        refine coreMS sr3 e1 e2 (fun O r => ?_) hn.2 hx hdx ne (PostM.of p2) hq
        exact pk_rep rfl (fun i a b e1 e2 => by
          match i, e1, e2 with
          | 0, e1, e2 => cases e1; cases e2; rfl
          | 1, e1, e2 => cases e1; cases e2; rfl
          | 2, e1, e2 => cases e1; cases e2; exact hm.rep H2 O
          | 3, e1, e2 => cases e1; cases e2; exact r) tm
      · exact p2.elim
    · have p2 : Post G W σ T (Rt G σ T Q) ((consAll (rs ++ rz) ρ2).bind _) := p1'
      simp only [e, Out.bind] at p2; exact p2.elim
theorem de_makeS {k j : Nat} {f : Addr} {ks : List Str} {x c : Str} (C : Cok k X G W) (M : Mk X.K (G.cls c) f) (Fo : FnS X.prog X.w X.K X.mg X.base j f ks (spS G N mV tm F)) (hj : j + 1 ≤ k) (hg : Gl X x) (hm : X.mg x = some (.ref (G.cls c))) (hd : Dfl G mD mV)
    (A : DA X G W (a :: es) t fs) (B : DK X G W kws tk fz) (hkl : kws.length = ks.length := by rfl)
    (hall : (backToKw pos (keywordEach kws X.env)).all (·.1.isSome) = true := by rfl) (hks : (backToKw pos (keywordEach kws X.env)).filterMap (·.1) = ks := by rfl) (hdb : (x == ("__debug__" : Str)) = false := by decide)
    (he : starEach (a :: es) X.env = (false, eval a X.env) :: starEach es X.env := by rfl) (hpl : ((backTo pos (starEach (a :: es) X.env)).any (·.1) || (backToKw pos (keywordEach kws X.env)).any (·.1.isNone)) = false := by rfl) :
    DE X G W (.Call (.Name x p) (a :: es) kws pos) (tMkS (G.cls c) (spS G N mV tm F) (WE W) ks.length t tk) (eMakeS c N tm mD F fs fz) :=
  ⟨pe_mkS M Fo (C.rm.mono hj) hg hm (fun σ => passAt C.tk σ) A.pa B.pk hall hks hdb he hpl, ok_makeS hd A.ok B.ok ks.length fun ρ rs ρ' e => by rw [B.len _ _ _ e, hkl]⟩
theorem de_makeS0 {k j : Nat} {f : Addr} {ks : List Str} {x c : Str} (C : Cok k X G W) (M : Mk X.K (G.cls c) f) (Fo : FnS X.prog X.w X.K X.mg X.base j f ks (spS G N mV tm F)) (hj : j + 1 ≤ k) (hg : Gl X x) (hm : X.mg x = some (.ref (G.cls c))) (hd : Dfl G mD mV)
    (B : DK X G W kws tk fz) (hkl : kws.length = ks.length := by rfl)
    (hall : (backToKw pos (keywordEach kws X.env)).all (·.1.isSome) = true := by rfl) (hks : (backToKw pos (keywordEach kws X.env)).filterMap (·.1) = ks := by rfl) (hdb : (x == ("__debug__" : Str)) = false := by decide)
    (hpl : ((backTo pos (starEach [] X.env)).any (·.1) || (backToKw pos (keywordEach kws X.env)).any (·.1.isNone)) = false := by rfl) :
    DE X G W (.Call (.Name x p) [] kws pos) (tMkS (G.cls c) (spS G N mV tm F) (WE W) ks.length tNil tk) (eMakeS c N tm mD F aNil fz) :=
  ⟨pe_mkS0 M Fo (C.rm.mono hj) hg hm (fun σ => passAt C.tk σ) B.pk hall hks hdb hpl, ok_makeS hd ok_nil B.ok ks.length fun ρ rs ρ' e => by rw [B.len _ _ _ e, hkl]⟩
end
end Sep

/-! SepZ10: constants that stand as tuples in the program; what is looked at of properties -/
namespace Sep
open PySem L2
mutual
/-- u is the constant d -/
def isD (K : PySem.W.Frag) : D → Value → Bool
  | .non, .none => true
  | .bl b, .bool c => decide (b = c)
  | .int i, .int j _ => decide (i = j)
  | .str x, .str y _ => decide (x = y)
  | .tup ds, .ref a => (match K.lookup a with
    | some ⟨.type c, _, .seq its _, _⟩ => decide (c = "tuple") && (decide (its.size ≤ sizeLine) && areD K ds its.toList)
    | _ => false)
  | _, _ => false
def areD (K : PySem.W.Frag) : List D → List Value → Bool
  | [], [] => true
  | d :: ds, u :: us => isD K d u && areD K ds us
  | _, _ => false
end
mutual
theorem isD_ok {G : Gm} : ∀ {d : D} {u : Value}, isD G.K d u = true → ∃ v, RelV v u ∧ (∀ a, u = .ref a → v = .ref a) ∧ ∀ H O, RepD G H O d v
  | .non, u, h => by
    unfold isD at h
    cases u <;> first | (cases h; done) | skip
    exact ⟨.non, rfl, fun a z => (by cases z), fun H O => rfl⟩
  | .bl b, u, h => by
    unfold isD at h
    cases u <;> first | (cases h; done) | skip
    cases of_decide_eq_true h
    exact ⟨.bl b, rfl, fun a z => (by cases z), fun H O => rfl⟩
  | .int i, u, h => by
    unfold isD at h
    cases u <;> first | (cases h; done) | skip
    cases of_decide_eq_true h
    exact ⟨.int i, ⟨_, rfl⟩, fun a z => (by cases z), fun H O => rfl⟩
  | .str x, u, h => by
    unfold isD at h
    cases u <;> first | (cases h; done) | skip
    cases of_decide_eq_true h
    exact ⟨.str x, ⟨_, rfl⟩, fun a z => (by cases z), fun H O => rfl⟩
  | .tup ds, u, h => by
    unfold isD at h
    cases u <;> first | (cases h; done) | skip
    rename_i a
    simp only at h
    split at h
    · rename_i c od its n sl e
      rw [Bool.and_eq_true, Bool.and_eq_true] at h
      obtain ⟨vs, rv, rep⟩ := areD_ok (G := G) h.2.2
      have hc := of_decide_eq_true h.1
      subst hc
      exact ⟨.ref a, rfl, fun b z => (by cases z; rfl), fun H O => ⟨a, vs, rfl, .inr ⟨_, its, n, e, rfl, rfl, of_decide_eq_true h.2.1, rv⟩, rep H O⟩⟩
    · cases h
  | .lst _, u, h => by unfold isD at h; cases h
  | .rol _, u, h => by unfold isD at h; cases h
  | .obj _ _ _, u, h => by unfold isD at h; cases h
  | .dct _ _, u, h => by unfold isD at h; cases h
  | .xd _ _, u, h => by unfold isD at h; cases h
  | .raw _ _, u, h => by unfold isD at h; cases h
  | .kls _, u, h => by unfold isD at h; cases h
theorem areD_ok {G : Gm} : ∀ {ds : List D} {us : List Value}, areD G.K ds us = true → ∃ vs, Vals vs us ∧ ∀ H O, RepDs G H O ds vs
  | [], [], _ => ⟨[], .nil, fun _ _ => rfl⟩
  | [], u :: us, h => by unfold areD at h; cases h
  | d :: ds, [], h => by unfold areD at h; cases h
  | d :: ds, u :: us, h => by
    unfold areD at h
    rw [Bool.and_eq_true] at h
    obtain ⟨v, r1, _, p1⟩ := isD_ok (G := G) h.1
    obtain ⟨vs, r2, p2⟩ := areD_ok (G := G) h.2
    exact ⟨v :: vs, .cons r1 r2, fun H O => ⟨v, vs, rfl, p1 H O, p2 H O⟩⟩
end
/-- the constant at a -/
def AtD (K : PySem.W.Frag) (a : Addr) (d : D) : Prop := isD K d (.ref a) = true
theorem AtD.rep {G : Gm} {a : Addr} {d : D} (h : AtD G.K a d) (H : Hp) (O : List Addr) : RepD G H O d (.ref a) := by
  obtain ⟨v, _, e, r⟩ := isD_ok (G := G) h
  rw [e a rfl] at r
  exact r H O
/-- a keyword default that is an object -/
def kwdAt (f : PySem.W.Frag → Addr) (x : Str) (K : PySem.W.Frag) : Addr := match K.lookup (f K) with
  | some ⟨_, _, .func fd, _⟩ => (match fd.kwdefaults with
    | .ref dd => (match PySem.W.nsIn K dd x with
      | some (some (.ref a)) => a
      | _ => 0)
    | _ => 0)
  | _ => 0
/-- a global name that stands for such a constant -/
theorem de_gtup {X : Cx} {G : Gm} {W : WX} {x : Str} {a : Addr} {d : D} {pos : Pos} (hK : X.K = G.K) (hg : Gl X x) (hm : X.mg x = some (.ref a)) (h : AtD X.K a d) (hd : (x == ("__debug__" : Str)) = false := by decide) : DE X G W (.Name x pos) (tC (.ref a)) (eC d) :=
  ⟨pe_glob hg hm rfl hd, ok_c fun H O => AtD.rep (G := G) (by rw [hK] at h; exact h) H O⟩
/-- the getter's place -/
def getAt (K : PySem.W.Frag) (C : Addr) (m : Str) : Addr := match PySem.W.recIn K (He.ma K C m) "property" with
  | some (.ref f :: _) => f
  | _ => 0
def propB (K : PySem.W.Frag) (C : Addr) (m : Str) : Bool := decide (PySem.W.findIn K (.ref C) m = some (some (.ref (He.ma K C m)))) && (He.eqO (PySem.W.specialIn K (.ref (He.ma K C m)) "__get__") (some (some (.builtin "property.__get__"))) && (decide (PySem.W.takesIn K (.ref (He.ma K C m)) = some true) && (match PySem.W.recIn K (He.ma K C m) "property" with
  | some (.ref _ :: _) => true
  | _ => false)))
theorem propB_ok {K : PySem.W.Frag} {C : Addr} {m : Str} (h : propB K C m = true) : PropOf K C m (He.ma K C m) (getAt K C m) := by
  unfold propB at h
  rw [Bool.and_eq_true, Bool.and_eq_true, Bool.and_eq_true] at h
  refine ⟨of_decide_eq_true h.1, He.eqO_ok h.2.1, of_decide_eq_true h.2.2.1, ?_⟩
  have h2 := h.2.2.2
  unfold getAt
  split at h2
  · rename_i f rest e
    rw [e]
    exact ⟨rest, rfl⟩
  · cases h2
end Sep

/-! SepZ11: min, max of a list; min with default -/
namespace Sep
open PySem L2
/-- the least, the first of the list given apart -/
def minL (x : Int) (xs : List Int) : Int := xs.foldl (fun a y => if y < a then y else a) x
def maxL (x : Int) (xs : List Int) : Int := xs.foldl (fun a y => if a < y then y else a) x
theorem minL_spec : ∀ (xs : List Int) (x : Int), minL x xs ∈ x :: xs ∧ ∀ y ∈ x :: xs, minL x xs ≤ y
  | [], x => ⟨List.mem_cons_self, fun y h => by rw [List.mem_singleton.mp h]; exact Int.le_refl _⟩
  | z :: zs, x => by
    have ih := minL_spec zs (if z < x then z else x)
    have e : minL x (z :: zs) = minL (if z < x then z else x) zs := rfl
    rw [e]
    refine ⟨?_, fun y hy => ?_⟩
    · rcases List.mem_cons.mp ih.1 with h | h
      · rw [h]; split <;> simp
      · simp [h]
    · have h0 := ih.2 _ List.mem_cons_self
      rcases List.mem_cons.mp hy with h | h
      · rw [h]; revert h0; generalize minL _ zs = m; split <;> intro h0 <;> omega
      · rcases List.mem_cons.mp h with h | h
        · rw [h]; revert h0; generalize minL _ zs = m; split <;> intro h0 <;> omega
        · exact ih.2 _ (List.mem_cons_of_mem _ h)
theorem maxL_spec : ∀ (xs : List Int) (x : Int), maxL x xs ∈ x :: xs ∧ ∀ y ∈ x :: xs, y ≤ maxL x xs
  | [], x => ⟨List.mem_cons_self, fun y h => by rw [List.mem_singleton.mp h]; exact Int.le_refl _⟩
  | z :: zs, x => by
    have ih := maxL_spec zs (if x < z then z else x)
    have e : maxL x (z :: zs) = maxL (if x < z then z else x) zs := rfl
    rw [e]
    refine ⟨?_, fun y hy => ?_⟩
    · rcases List.mem_cons.mp ih.1 with h | h
      · rw [h]; split <;> simp
      · simp [h]
    · have h0 := ih.2 _ List.mem_cons_self
      rcases List.mem_cons.mp hy with h | h
      · rw [h]; revert h0; generalize maxL _ zs = m; split <;> intro h0 <;> omega
      · rcases List.mem_cons.mp h with h | h
        · rw [h]; revert h0; generalize maxL _ zs = m; split <;> intro h0 <;> omega
        · exact ih.2 _ (List.mem_cons_of_mem _ h)
def gMin1 : D → Option Slot := fun d => match d with
  | .lst xs => (match intsOf xs with
    | some (n :: ns) => some (.sh (.int (minL n ns)))
    | _ => none)
  | _ => none
def gMax1 : D → Option Slot := fun d => match d with
  | .lst xs => (match intsOf xs with
    | some (n :: ns) => some (.sh (.int (maxL n ns)))
    | _ => none)
  | _ => none
def gMinD : D → D → Option Slot := fun d c => match d, c with
  | .lst xs, .int c => (match intsOf xs with
    | some (n :: ns) => some (.sh (.int (minL n ns)))
    | some [] => some (.sh (.int c))
    | none => none)
  | _, _ => none
section
variable {X : Cx} {G : Gm} {W : WX} {a b : Expr} {ta tb : TE} {fa fb : Ev} {pos p : Pos} {es : List Expr}
theorem cd_min1 : CallD G (rMin G.K) (g1 gMin1) := by
  refine CallD.one fun H O L v d s Q h hx e q => ?_
  cases d with
  | lst xs =>
    obtain ⟨a, ys, ea, h1, h2⟩ := hx
    unfold gMin1 at e
    simp only at e
    split at e
    · rename_i n ns e1
      cases e
      subst ea
      have sp := minL_spec ns n
      refine ⟨a, n :: ns, rfl, .of (by rw [← intsOf_rep h2 e1]; exact h1), by simp, fun m hm hl => ?_⟩
      have : m = minL n ns := Int.le_antisymm (hl _ sp.1) (sp.2 _ hm)
      subst this
      exact q _ _ (h.sc rfl)
    · cases e
  | _ => cases e
theorem cd_max1 : CallD G (rMax G.K) (g1 gMax1) := by
  refine CallD.one fun H O L v d s Q h hx e q => ?_
  cases d with
  | lst xs =>
    obtain ⟨a, ys, ea, h1, h2⟩ := hx
    unfold gMax1 at e
    simp only at e
    split at e
    · rename_i n ns e1
      cases e
      subst ea
      have sp := maxL_spec ns n
      refine ⟨a, n :: ns, rfl, .of (by rw [← intsOf_rep h2 e1]; exact h1), by simp, fun m hm hl => ?_⟩
      have : m = maxL n ns := Int.le_antisymm (sp.2 _ hm) (hl _ sp.1)
      subst this
      exact q _ _ (h.sc rfl)
    · cases e
  | _ => cases e
theorem de_min1 (hK : X.K = G.K) (hc : X.calm = true) (hg : Gl X "min") (hm : X.mg "min" = none) (A : DE X G W a ta fa) (he : starEach [a] X.env = (false, eval a X.env) :: starEach [] X.env := by rfl) (hpl : (backTo pos (starEach [] X.env)).any (·.1) = false := by rfl) : DE X G W (.Call (.Name "min" p) [a] [] pos) (tCB (rMin G.K) (tCons ta tNil)) (eCB (g1 gMin1) (aCons fa aNil)) :=
  de_cb (by rw [← hK]; exact cr_min hc) cd_min1 hg hm boot_min (da_cons A da_nil he) (by decide) (by decide) he hpl
theorem de_max1 (hK : X.K = G.K) (hc : X.calm = true) (hg : Gl X "max") (hm : X.mg "max" = none) (A : DE X G W a ta fa) (he : starEach [a] X.env = (false, eval a X.env) :: starEach [] X.env := by rfl) (hpl : (backTo pos (starEach [] X.env)).any (·.1) = false := by rfl) : DE X G W (.Call (.Name "max" p) [a] [] pos) (tCB (rMax G.K) (tCons ta tNil)) (eCB (g1 gMax1) (aCons fa aNil)) :=
  de_cb (by rw [← hK]; exact cr_max hc) cd_max1 hg hm boot_max (da_cons A da_nil he) (by decide) (by decide) he hpl
/-! min(xs, default = c) -/
theorem holdAll_ints {h : Heap} : ∀ {ns : List Int} {us : List Value}, Vals (ns.map V.int) us → PySem.W.HoldAll h us ns
  | [], _, r => by cases r; exact ⟨[], .nil⟩
  | n :: ns, _, r => by
    cases r with
    | cons r0 r1 =>
      obtain ⟨t, rfl⟩ := r0
      obtain ⟨as, ra⟩ := holdAll_ints (h := h) r1
      exact ⟨_, .cons (.int n t) ra⟩
def rMinD (K : PySem.W.Frag) : List V → Hp → VK → Prop := fun vs H Q => ∃ (a : Addr) (ns : List Int) (c : Int), vs = [.ref a, .int c] ∧ SqL K H a (ns.map V.int) ∧ Q (.int (match ns with | [] => c | n :: ns => minL n ns)) H
def rMinP (K : PySem.W.Frag) : List V → List V → Hp → VK → Prop := fun vs zs H Q => match vs, zs with
  | [x], [y] => rMinD K [x, y] H Q
  | _, _ => False
theorem cr_minD {k : Nat} (hc : X.calm = true) (hr : Room k X.A) : CallRK X (.builtin "min") ["default"] (rMinP X.K) := by
  intro pins s σ H xs zs us ws Q I r rz h
  unfold rMinP at h
  split at h
  · rename_i x y
    obtain ⟨a, ns, c, e, hs, q⟩ := h
    injection e with e1 e2
    injection e2 with e2 _
    subst e1 e2
    cases r with
    | cons r0 r1 =>
      cases r1
      obtain rfl := r0
      cases rz with
      | cons z0 z1 =>
        cases z1
        obtain ⟨t, rfl⟩ := z0
        obtain ⟨its, rv, hl, _⟩ := I.list hs
        refine PySem.W.min_list_datum_default (α := Int) (xs := ns) (I.ok.hd hc) hl.isList (holdAll_ints (by simpa using rv)) (by have := units_of hr; show X.A.units + 1 + 0 < cLine; omega) (fun e h' tk hk => ?_) fun y ys i v h' tk e hi hv hk => ?_
        · subst e
          exact ⟨.int c, H, I.kept hk, ⟨_, rfl⟩, q⟩
        · subst e
          obtain ⟨as, rd⟩ := hv
          cases rd
          have em : PySem.W.minOf y ys = minL y ys := by
            unfold PySem.W.minOf minL
            congr 1
            funext a b
            show (if decide (b < a) = true then b else a) = _
            simp
          refine ⟨.int _, H, I.kept hk, ⟨_, rfl⟩, ?_⟩
          rw [em]; exact q
  · exact h.elim
theorem cd_minD : CallD G (rMinD G.K) (g2 gMinD) := by
  intro H O L vs ds s Q h hx e q
  unfold g2 at e
  split at e
  · rename_i d c
    obtain ⟨v, r, ev, r1, w, r', ew, r2, r3⟩ := hx
    subst ev ew
    cases (show r' = [] from r3)
    cases d with
    | lst xs =>
      cases c with
      | int c =>
        obtain ⟨a, ys, ea, h1, h2⟩ := r1
        have ec : w = .int c := r2
        subst ea ec
        unfold gMinD at e
        simp only at e
        split at e
        · rename_i n ns e1
          cases e
          exact ⟨a, n :: ns, c, rfl, .of (by rw [← intsOf_rep h2 e1]; exact h1), q _ _ (h.sc rfl)⟩
        · rename_i e1
          cases e
          exact ⟨a, [], c, rfl, .of (by rw [← intsOf_rep h2 e1]; exact h1), q _ _ (h.sc rfl)⟩
        · cases e
      | _ => cases e
    | _ => cases e
  · cases e
theorem de_minD {k : Nat} {kpos : Pos} (hK : X.K = G.K) (hc : X.calm = true) (hr : Room k X.A) (hg : Gl X "min") (hm : X.mg "min" = none) (A : DE X G W a ta fa) (B : DE X G W b tb fb) (he : starEach [a] X.env = (false, eval a X.env) :: starEach [] X.env := by rfl)
    (he2 : backTo pos (starEach [a] X.env) = (false, eval a X.env) :: backTo pos (starEach [] X.env) := by rfl) (hpl : (backTo pos (starEach [a] X.env)).any (·.1) = false := by rfl)
    (hall : (backToKw pos (keywordEach [⟨some "default", b, kpos⟩] X.env)).all (·.1.isSome) = true := by rfl) (hnone : (backToKw pos (keywordEach [⟨some "default", b, kpos⟩] X.env)).any (·.1.isNone) = false := by rfl) (hks : (backToKw pos (keywordEach [⟨some "default", b, kpos⟩] X.env)).filterMap (·.1) = [("default" : Str)] := by rfl) :
    DE X G W (.Call (.Name "min" p) [a] [⟨some "default", b, kpos⟩] pos) (tCKw (rMinP G.K) (tCons ta tNil) (tCons tb tNil)) (eCB (g2 gMinD) (aCons fa (aCons fb aNil))) := by
  refine ⟨by rw [← hK]; exact pe_callBK (cr_minD hc hr) hg hm boot_min (pa_cons A.pe pa_nil he) (pk_cons B.pe pk_nil) (by decide) (by decide) he2 hpl hall hnone hks, ?_⟩
  intro σ H ρ T Q sr pp
  have := ok_cb (cd_minD (G := G)) (ok_cons A.ok (ok_cons B.ok (ok_nil (G := G) (W := W)))) σ H ρ T Q sr pp
  exact this
end
end Sep

/-! SepZ12: for .. in zip(a, b) -/
namespace Sep
open PySem L2 RZ
def zipD (xs ys : List D) : List D := (xs.zip ys).map fun p => .tup [p.1, p.2]
def iZip (fs : Sl → Out (List R)) : Sl → Out (List D) := fun ρ => (fs ρ).bind fun rs ρ1 => (consAll rs ρ1).bind fun ds ρ2 => match ds with
  | [.lst xs, .lst ys] => .ok (zipD xs ys) ρ2
  | [.tup xs, .tup ys] => .ok (zipD xs ys) ρ2
  | _ => .stuck
section
variable {X : Cx} {G : Gm} {W : WX} {a b : Expr} {ta tb : TE} {fa fb : Ev} {t : TA} {fs : Sl → Out (List R)} {p pos tpos : Pos} {elts : List Expr} {kk : Nat}
theorem zipD_len (xs ys : List D) : (zipD xs ys).length = min xs.length ys.length := by unfold zipD; rw [List.length_map, List.length_zip]
theorem zipD_get {xs ys : List D} {i : Nat} {d : D} (e : (zipD xs ys)[i]? = some d) : ∃ x y, xs[i]? = some x ∧ ys[i]? = some y ∧ d = .tup [x, y] := by
  unfold zipD at e
  rw [List.getElem?_map] at e
  cases hz : (xs.zip ys)[i]? with
  | none => rw [hz] at e; cases e
  | some q =>
    rw [hz] at e
    have := List.getElem?_zip_eq_some.mp hz
    exact ⟨q.1, q.2, this.1, this.2, by cases e; rfl⟩
theorem walks_zip {pa pb : Addr} {d1 d2 : D} {xs ys : List D} (h1 : ∀ H O, RepD G H O d1 (.ref pa) → ∃ vs, SqL G.K H pa vs ∧ RepDs G H O xs vs) (h2 : ∀ H O, RepD G H O d2 (.ref pb) → ∃ vs, SqL G.K H pb vs ∧ RepDs G H O ys vs) :
    WalksD G (Itz G.K pa pb) [(.ref pa, .sh d1), (.ref pb, .sh d2)] (zipD xs ys) := by
  intro σ ρ T H i sr hi
  obtain ⟨O, ho⟩ := sr.h.perm (L' := [V.ref pa, .ref pb].zip (shs [d1, d2]) ++ (envL σ ρ ++ T)) (by
    show (envL σ ρ ++ ([_, _] ++ T)).Perm ([_, _] ++ (envL σ ρ ++ T))
    rw [← List.append_assoc, ← List.append_assoc]
    exact List.perm_append_comm.append_right T)
  obtain ⟨rd, h0⟩ := ho.datas rfl
  obtain ⟨v1, _, e1, q1, v2, _, e2, q2, e3⟩ := id rd
  cases e1
  cases e2
  obtain ⟨us, l1, r1⟩ := h1 H O q1
  obtain ⟨ws, l2, r2⟩ := h2 H O q2
  refine ⟨fun e => ⟨us, ws, l1, l2, ?_⟩, fun d e => ?_⟩
  · rw [r1.length, r2.length, e, zipD_len]; omega
  · obtain ⟨x, y, ex, ey, ed⟩ := zipD_get e
    obtain ⟨vx, ex1, rx⟩ := r1.get ex
    obtain ⟨vy, ey1, ry⟩ := r2.get ey
    refine ⟨⟨us, ws, vx, vy, l1, l2, ex1, ey1⟩, fun z H' yy => ?_⟩
    obtain ⟨q, x', y', rfl, hq, rfl, hx, hy⟩ := yy
    have k1 := hx us l1
    have k2 := hy ws l2
    rw [ex1] at k1
    rw [ey1] at k2
    cases k1
    cases k2
    subst ed
    have hh := (h0.adds rd).newT hq (ds := [x, y]) (xs := [vx, vy]) ⟨vx, [vy], rfl, rx, vy, [], rfl, ry, rfl⟩
    refine ⟨hh.perm ?_, sr.len, sr.as⟩
    refine (List.Perm.cons _ ?_).trans List.perm_middle.symm
    show ([_, _] ++ (envL σ ρ ++ T)).Perm (envL σ ρ ++ ([_, _] ++ T))
    rw [← List.append_assoc, ← List.append_assoc]
    exact List.perm_append_comm.append_right T
theorem walks_zipT {pa pb : Addr} {d1 d2 : D} {xs ys : List D} (h1 : ∀ H O, RepD G H O d1 (.ref pa) → ∃ vs, SqT G.K H pa vs ∧ RepDs G H O xs vs) (h2 : ∀ H O, RepD G H O d2 (.ref pb) → ∃ vs, SqT G.K H pb vs ∧ RepDs G H O ys vs) :
    WalksD G (ItzT G.K pa pb) [(.ref pa, .sh d1), (.ref pb, .sh d2)] (zipD xs ys) := by
  intro σ ρ T H i sr hi
  obtain ⟨O, ho⟩ := sr.h.perm (L' := [V.ref pa, .ref pb].zip (shs [d1, d2]) ++ (envL σ ρ ++ T)) (by
    show (envL σ ρ ++ ([_, _] ++ T)).Perm ([_, _] ++ (envL σ ρ ++ T))
    rw [← List.append_assoc, ← List.append_assoc]
    exact List.perm_append_comm.append_right T)
  obtain ⟨rd, h0⟩ := ho.datas rfl
  obtain ⟨v1, _, e1, q1, v2, _, e2, q2, e3⟩ := id rd
  cases e1
  cases e2
  obtain ⟨us, l1, r1⟩ := h1 H O q1
  obtain ⟨ws, l2, r2⟩ := h2 H O q2
  refine ⟨fun e => ⟨us, ws, l1, l2, ?_⟩, fun d e => ?_⟩
  · rw [r1.length, r2.length, e, zipD_len]; omega
  · obtain ⟨x, y, ex, ey, ed⟩ := zipD_get e
    obtain ⟨vx, ex1, rx⟩ := r1.get ex
    obtain ⟨vy, ey1, ry⟩ := r2.get ey
    refine ⟨⟨us, ws, vx, vy, l1, l2, ex1, ey1⟩, fun z H' yy => ?_⟩
    obtain ⟨q, x', y', rfl, hq, rfl, hx, hy⟩ := yy
    have k1 := hx us l1
    have k2 := hy ws l2
    rw [ex1] at k1
    rw [ey1] at k2
    cases k1
    cases k2
    subst ed
    have hh := (h0.adds rd).newT hq (ds := [x, y]) (xs := [vx, vy]) ⟨vx, [vy], rfl, rx, vy, [], rfl, ry, rfl⟩
    refine ⟨hh.perm ?_, sr.len, sr.as⟩
    refine (List.Perm.cons _ ?_).trans List.perm_middle.symm
    show ([_, _] ++ (envL σ ρ ++ T)).Perm (envL σ ρ ++ ([_, _] ++ T))
    rw [← List.append_assoc, ← List.append_assoc]
    exact List.perm_append_comm.append_right T
theorem ok_iZip (A : ArOk G W t fs) : ItOk G W (iZipA G.K t) (iZip fs) := by
  intro σ H ρ T R sr p
  refine A σ H ρ T _ sr ((Post.bind p).imp fun rs ρ1 p1 vs H1 sr1 a1 => ?_)
  rcases consAll_or rs ρ1 with ⟨ds, ρ2, e⟩ | e
  · simp only [e, Out.bind] at p1
    obtain ⟨sr2, hl⟩ := SR.takes sr1 a1 e
    split at p1
    · rename_i xs ys
      match vs, hl with
      | [v1, v2], _ =>
        obtain ⟨O, ho⟩ := sr2.h.perm (L' := [v1, v2].zip (shs [D.lst xs, D.lst ys]) ++ (envL σ ρ2 ++ T)) (by
          rw [← List.append_assoc, ← List.append_assoc]
          exact List.perm_append_comm.append_right T)
        obtain ⟨⟨w1, _, e1, q1, w2, _, e2, q2, e3⟩, _⟩ := ho.datas rfl
        cases e1
        cases e2
        obtain ⟨pa, us, rfl, l1, r1⟩ := id q1
        obtain ⟨pb, ws, rfl, l2, r2⟩ := id q2
        exact ⟨pa, pb, us, ws, rfl, .inl ⟨.of l1.1, .of l2.1, p1 _ [(.ref pa, .sh (.lst xs)), (.ref pb, .sh (.lst ys))] H1 sr2 (walks_zip (fun H O q => by
          obtain ⟨a', ys, e1, h1, h2⟩ := q
          cases e1
          exact ⟨ys, .of h1.1, h2⟩) fun H O q => by
          obtain ⟨a', ys, e1, h1, h2⟩ := q
          cases e1
          exact ⟨ys, .of h1.1, h2⟩)⟩⟩
    · rename_i xs ys
      match vs, hl with
      | [v1, v2], _ =>
        obtain ⟨O, ho⟩ := sr2.h.perm (L' := [v1, v2].zip (shs [D.tup xs, D.tup ys]) ++ (envL σ ρ2 ++ T)) (by
          rw [← List.append_assoc, ← List.append_assoc]
          exact List.perm_append_comm.append_right T)
        obtain ⟨⟨w1, _, e1, q1, w2, _, e2, q2, e3⟩, _⟩ := ho.datas rfl
        cases e1
        cases e2
        obtain ⟨pa, us, rfl, l1, r1⟩ := id q1
        obtain ⟨pb, ws, rfl, l2, r2⟩ := id q2
        exact ⟨pa, pb, us, ws, rfl, .inr ⟨sqT_of l1, sqT_of l2, p1 _ [(.ref pa, .sh (.tup xs)), (.ref pb, .sh (.tup ys))] H1 sr2 (walks_zipT (fun H O q => by
          obtain ⟨a', ys, e1, h1, h2⟩ := q
          cases e1
          exact ⟨ys, sqT_of h1, h2⟩) fun H O q => by
          obtain ⟨a', ys, e1, h1, h2⟩ := q
          cases e1
          exact ⟨ys, sqT_of h1, h2⟩)⟩⟩
    · exact p1.elim
  · simp only [e, Out.bind] at p1; exact p1.elim
theorem di_zip (hK : X.K = G.K) (hg : Gl X "zip") (hm : X.mg "zip" = none) (A : DE X G W a ta fa) (B : DE X G W b tb fb) (he2 : starEach [b] X.env = (false, eval b X.env) :: starEach [] X.env := by rfl)
    (hs : starEach [a, b] X.env = (false, eval a X.env) :: starEach [b] X.env := by rfl) (hpl : (backTo pos (starEach [b] X.env)).any (·.1) = false := by rfl) :
    DI X G W (.Tuple elts kk tpos) (.Call (.Name "zip" p) [a, b] [] pos) (iZipA G.K (tCons ta (tCons tb tNil))) (iZip (aCons fa (aCons fb aNil))) :=
  ⟨by rw [← hK]; exact pi_zipA hg hm (pa_cons A.pe (pa_cons B.pe pa_nil he2) hs) hs hpl, ok_iZip (ok_cons A.ok (ok_cons B.ok (ok_nil (G := G) (W := W))))⟩
end
end Sep

/-! SepZ13: dicts keyed by ints and strs -/
namespace Sep
open PySem L2
def dkey : D → Option Key
  | .int i => some (.inl i)
  | .str s => some (.inr s)
  | _ => none
section
variable {α : Type}
def lookP (ps : List (Key × α)) (k : Key) : Option α := (ps.find? fun kv => decide (kv.1 = k)).map (·.2)
def putP (ps : List (Key × α)) (k : Key) (v : α) : List (Key × α) :=
  if (ps.any fun kv => decide (kv.1 = k)) = true then ps.map (fun kv => if kv.1 = k then (kv.1, v) else kv) else ps ++ [(k, v)]
end
section
variable {G : Gm} {H H' : Hp} {T L : Hd} {O : List Addr}
def PR (G : Gm) (H : Hp) (O : List Addr) : List (Key × D) → List (Key × V) → Prop
  | [], xs => xs = []
  | p :: ps, xs => ∃ q r, xs = q :: r ∧ (p.1 = q.1 ∧ RepD G H O p.2 q.2) ∧ PR G H O ps r
theorem pr_zip : ∀ {ks : List Key} {ds : List D} {xs : List V}, RepDs G H O ds xs → PR G H O (ks.zip ds) (ks.zip xs)
  | [], ds, xs, _ => by simp [PR]
  | k :: ks, [], xs, h => by rw [show xs = [] from h]; simp [PR]
  | k :: ks, d :: ds, xs, ⟨v, r, e, h1, h2⟩ => by
    rw [e]
    exact ⟨(k, v), ks.zip r, rfl, ⟨rfl, h1⟩, pr_zip h2⟩
theorem pr_look {k : Key} : ∀ {ps : List (Key × D)} {xs : List (Key × V)}, PR G H O ps xs → match lookP ps k with | some d => ∃ v, valV xs k = some v ∧ RepD G H O d v | none => valV xs k = none
  | [], xs, h => by rw [show xs = [] from h]; rfl
  | p :: ps, xs, ⟨q, r, e, ⟨h1, h2⟩, h3⟩ => by
    subst e
    by_cases c : p.1 = k
    · have e1 : lookP (p :: ps) k = some p.2 := by simp [lookP, List.find?_cons, c]
      rw [e1]
      exact ⟨q.2, valV_pos (h1 ▸ c), h2⟩
    · have e1 : lookP (p :: ps) k = lookP ps k := by simp [lookP, List.find?_cons, c]
      rw [e1, valV_neg (fun z => c (h1.trans z))]
      exact pr_look h3
theorem pr_any {k : Key} : ∀ {ps : List (Key × D)} {xs : List (Key × V)}, PR G H O ps xs → (ps.any fun kv => decide (kv.1 = k)) = (xs.any fun kv => decide (kv.1 = k))
  | [], xs, h => by rw [show xs = [] from h]; rfl
  | p :: ps, xs, ⟨q, r, e, ⟨h1, h2⟩, h3⟩ => by
    subst e
    rw [List.any_cons, List.any_cons, pr_any h3, h1]
theorem pr_map {k : Key} {d : D} {w : V} (hw : RepD G H O d w) : ∀ {ps : List (Key × D)} {xs : List (Key × V)}, PR G H O ps xs → PR G H O (ps.map fun kv => if kv.1 = k then (kv.1, d) else kv) (xs.map fun kv => if kv.1 = k then (kv.1, w) else kv)
  | [], xs, h => by rw [show xs = [] from h]; exact rfl
  | p :: ps, xs, ⟨q, r, e, ⟨h1, h2⟩, h3⟩ => by
    subst e
    rw [List.map_cons, List.map_cons]
    refine ⟨_, _, rfl, ?_, pr_map hw h3⟩
    by_cases c : p.1 = k
    · rw [if_pos c, if_pos (h1 ▸ c)]; exact ⟨h1, hw⟩
    · rw [if_neg c, if_neg (fun z => c (h1.trans z))]; exact ⟨h1, h2⟩
theorem pr_app {p : Key × D} {q : Key × V} (h1 : p.1 = q.1) (h2 : RepD G H O p.2 q.2) : ∀ {ps : List (Key × D)} {xs : List (Key × V)}, PR G H O ps xs → PR G H O (ps ++ [p]) (xs ++ [q])
  | [], xs, h => by rw [show xs = [] from h]; exact ⟨q, [], rfl, ⟨h1, h2⟩, rfl⟩
  | _ :: ps, xs, ⟨q', r, e, z, h3⟩ => by subst e; exact ⟨q', r ++ [q], rfl, z, pr_app h1 h2 h3⟩
theorem pr_put {k : Key} {d : D} {w : V} {ps : List (Key × D)} {xs : List (Key × V)} (h : PR G H O ps xs) (hw : RepD G H O d w) : PR G H O (putP ps k d) (putK xs k w) := by
  unfold putP putK
  rw [pr_any h]
  split
  · exact pr_map hw h
  · exact pr_app rfl hw h
theorem pr_out : ∀ {ps : List (Key × D)} {xs : List (Key × V)}, PR G H O ps xs → ∃ ys, xs = (ps.map (·.1)).zip ys ∧ (ps.map (·.1)).length = ys.length ∧ RepDs G H O (ps.map (·.2)) ys
  | [], xs, h => ⟨[], by rw [show xs = [] from h]; rfl, rfl, rfl⟩
  | p :: ps, xs, ⟨q, r, e, ⟨h1, h2⟩, h3⟩ => by
    obtain ⟨ys, e1, e2, e3⟩ := pr_out h3
    exact ⟨q.2 :: ys, by rw [e, e1, List.map_cons, List.zip_cons_cons, h1], by rw [List.map_cons, List.length_cons, List.length_cons, e2], ⟨q.2, ys, rfl, h2, e3⟩⟩
theorem Holds.wrD {v : V} {ks : List Key} {ss : List Slot} (h : Hold G H O ((v, .dct ks ss) :: L)) : ∃ a xs os', v = .ref a ∧ H a = some (.dK (ks.zip xs)) ∧ ks.length = xs.length ∧ RepSs G H O ss xs os' ∧
    ∀ ks' xs' ss', ks'.length = xs'.length → RepSs G H O ss' xs' os' → Holds G (upd H a (.dK (ks'.zip xs'))) ((v, .dct ks' ss') :: L) := by
  obtain ⟨⟨o1, o2, eo, ⟨a, xs, os', ev, e1, h1, hkl, h2⟩, h3⟩, OF, hf, nd⟩ := h
  subst e1
  refine ⟨a, xs, os', ev, h1, hkl, h2, fun ks' xs' ss' hl' h4 => ?_⟩
  have nd0 := nd
  rw [eo] at nd
  have ndO := List.nodup_append.mp nd
  have nd1 := List.nodup_append.mp ndO.1
  have na : a ∉ os' := (List.nodup_cons.mp nd1.1).1
  have na2 : a ∉ o2 := fun z => nd1.2.2 a List.mem_cons_self a z rfl
  have na3 : a ∉ OF := fun z => ndO.2.2 a (List.mem_append_left _ List.mem_cons_self) a z rfl
  have k : Keep [a] H (upd H a (.dK (ks'.zip xs'))) := fun b o e n => by rw [upd_ne (fun (z : b = a) => n (by rw [z]; exact List.mem_cons_self))]; exact e
  have hW : ∀ b ∈ [a], b ∈ O := fun b z => by rw [List.mem_singleton.mp z, eo]; exact List.mem_append_left _ List.mem_cons_self
  refine ⟨O, ⟨a :: os', o2, eo, ⟨a, xs', os', ev, rfl, upd_same, hl', ?_⟩, ?_⟩, OF, ?_, nd0⟩
  · exact RepSs.step k hW (fun b z => .inl z) ss' xs' os' h4 fun b z q => na (List.mem_singleton.mp q ▸ z)
  · exact RepL.step k hW (fun b z => .inl z) h3 fun b z q => na2 (List.mem_singleton.mp q ▸ z)
  · exact hf.step k hW (fun b z => .inl z) fun b z q => na3 (List.mem_singleton.mp q ▸ z)
theorem Holds.putD {v w : V} {d : D} {ks : List Key} {ds : List D} {k : Key} (h : Holds G H ((w, .sh d) :: (v, .dct ks (shs ds)) :: L)) : ∃ a xs, v = .ref a ∧ H a = some (.dK (ks.zip xs)) ∧ ks.length = xs.length ∧
    Holds G (upd H a (.dK (putK (ks.zip xs) k w))) ((v, .dct ((putP (ks.zip ds) k d).map (·.1)) (shs ((putP (ks.zip ds) k d).map (·.2)))) :: L) := by
  obtain ⟨O, ⟨o1, o2, eo, h1, h2⟩, nd⟩ := h
  have e1 : o1 = [] := h1.1
  subst e1
  have eo' : O = o2 := eo
  subst eo'
  obtain ⟨a, xs, os', ev, ha, hkl, hr, kk⟩ := Holds.wrD (G := G) (H := H) (O := O) (v := v) (ks := ks) (ss := shs ds) (L := L) ⟨h2, nd⟩
  obtain ⟨e2, rd⟩ := hr.flat
  subst e2
  obtain ⟨ys, e3, e4, e5⟩ := pr_out (pr_put (k := k) (pr_zip (ks := ks) rd) h1.2)
  refine ⟨a, xs, ev, ha, hkl, ?_⟩
  rw [e3]
  exact kk _ _ _ e4 e5.sh
/-- a new dict -/
theorem Hold.newD (h : Hold G H O L) {p : Addr} (hp : H p = none) : Holds G (upd H p (.dK [])) ((.ref p, .dct [] []) :: L) := by
  have k : Keep [] H (upd H p (.dK [])) := fun a o q _ => Same.new hp a o q
  have hO : ∀ a ∈ p :: O, a ∈ O ∨ H a = none := fun a z => (List.mem_cons.mp z).elim (fun q => .inr (q ▸ hp)) .inl
  obtain ⟨h, OF, hf, nd⟩ := h
  refine ⟨p :: O, ⟨[p], O, rfl, ⟨p, [], [], rfl, rfl, upd_same, rfl, rfl, rfl⟩, ?_⟩, OF, hf.step k (fun a z => nomatch z) hO (fun a _ z => nomatch z), List.nodup_cons.mpr ⟨fun z => ?_, nd⟩⟩
  · exact RepL.step k (fun a z => nomatch z) hO h fun a _ z => nomatch z
  · exact (List.mem_append.mp z).elim (notO h hp) fun q => hf.there p q hp
end
/-! ### reading -/
def gDIx : D → D → Option Slot := fun a b => match a, dkey b with
  | .dct ks ds, some k => (lookP (ks.zip ds) k).map Slot.sh
  | _, _ => none
def gDIn (neg : Bool) : D → D → Option Slot := fun a b => match b, dkey a with
  | .dct ks ds, some k => some (.sh (.bl ((lookP (ks.zip ds) k).isSome != neg)))
  | _, _ => none
def rDGet : R2 := fun x y H Q => ∃ a v, x = .ref a ∧ DGet H a y (some v) ∧ Q v H
def rDIn : R2 := fun y x H Q => ∃ a o, x = .ref a ∧ DGet H a y o ∧ Q (.bl o.isSome) H
def rDNin : R2 := fun y x H Q => ∃ a o, x = .ref a ∧ DGet H a y o ∧ Q (.bl (!o.isSome)) H
theorem dkey_rep {G : Gm} {H : Hp} {O : List Addr} {d : D} {v : V} {k : Key} (r : RepP G H O d v) (e : dkey d = some k) : v = kV k := by
  cases d <;> first | (cases e; done) | skip
  · cases e; exact r
  · cases e; exact r
section
variable {X : Cx} {G : Gm} {W : WX} {fx : FX} {a b c : Expr} {ta tb tc : TE} {fa fb fc : Ev} {pos pos' : Pos}
theorem dct_get {H : Hp} {O : List Addr} {x y : V} {ks : List Key} {ds : List D} {dy : D} {k : Key} (hx : RepP G H O (.dct ks ds) x) (hy : RepP G H O dy y) (ek : dkey dy = some k) : ∃ a o, x = .ref a ∧ DGet H a y o ∧ match lookP (ks.zip ds) k with | some d => ∃ v, o = some v ∧ RepD G H O d v | none => o = none := by
  obtain ⟨p, xs, ea, h1, hl, h2⟩ := hx
  refine ⟨p, valV (ks.zip xs) k, ea, .inl ⟨_, k, h1, dkey_rep hy ek, rfl⟩, pr_look (pr_zip h2)⟩
theorem od_dix : OpD G rDGet gDIx := by
  intro H O L x y dx dy s Q h hx hy e q
  unfold gDIx at e
  split at e
  · rename_i ks ds k ek
    obtain ⟨p, o, ea, g, m⟩ := dct_get hx hy ek
    obtain ⟨d, e1, e2⟩ := Option.map_eq_some_iff.mp e
    subst e2
    rw [e1] at m
    obtain ⟨v, ev, r⟩ := m
    subst ev
    exact ⟨p, v, ea, g, q _ _ (h.sc r)⟩
  · cases e
theorem od_din : OpD G rDIn (gDIn false) := by
  intro H O L x y dx dy s Q h hx hy e q
  unfold gDIn at e
  split at e
  · rename_i ks ds k ek
    obtain ⟨p, o, ea, g, m⟩ := dct_get hy hx ek
    cases e
    refine ⟨p, o, ea, g, ?_⟩
    cases z : lookP (ks.zip ds) k with
    | none =>
      rw [z] at m q
      subst m
      exact q _ _ (h.sc rfl)
    | some d =>
      rw [z] at m q
      obtain ⟨v, ev, r⟩ := m
      subst ev
      exact q _ _ (h.sc rfl)
  · cases e
theorem od_dnin : OpD G rDNin (gDIn true) := by
  intro H O L x y dx dy s Q h hx hy e q
  unfold gDIn at e
  split at e
  · rename_i ks ds k ek
    obtain ⟨p, o, ea, g, m⟩ := dct_get hy hx ek
    cases e
    refine ⟨p, o, ea, g, ?_⟩
    cases z : lookP (ks.zip ds) k with
    | none =>
      rw [z] at m q
      subst m
      exact q _ _ (h.sc rfl)
    | some d =>
      rw [z] at m q
      obtain ⟨v, ev, r⟩ := m
      subst ev
      exact q _ _ (h.sc rfl)
  · cases e
theorem de_dix {k : Nat} (hr : Room k X.A) (A : DE X G W a ta fa) (B : DE X G W b tb fb) (hs : NoSl b := by intro _ _; rfl) : DE X G W (.Subscript a b pos) (tOp rDGet ta tb) (eOp gDIx fa fb) :=
  ⟨pe_dget (by have := units_of hr; omega) A.pe B.pe hs, ok_op od_dix A.ok B.ok⟩
theorem de_din {k : Nat} (hr : Room k X.A) (A : DE X G W a ta fa) (B : DE X G W b tb fb) (hm : behindInMarks .In b = false := by rfl) : DE X G W (.Compare a [.In] [b] pos) (tOp rDIn ta tb) (eOp (gDIn false) fa fb) :=
  ⟨pe_cmp (pc_din (by have := units_of hr; omega) A.pe B.pe) hm, ok_op od_din A.ok B.ok⟩
theorem de_dnin {k : Nat} (hr : Room k X.A) (A : DE X G W a ta fa) (B : DE X G W b tb fb) (hm : behindInMarks .NotIn b = false := by rfl) : DE X G W (.Compare a [.NotIn] [b] pos) (tOp rDNin ta tb) (eOp (gDIn true) fa fb) :=
  ⟨pe_cmp (pc_dnotin (by have := units_of hr; omega) A.pe B.pe) hm, ok_op od_dnin A.ok B.ok⟩
theorem op_din (hu : X.A.units + 1 < cLine) : OpR X (compareOp .In) rDIn := by
  intro pins s σ H x y v u Q I rx ry h
  obtain ⟨a, o, ey, g, q⟩ := h
  subst ey
  obtain rfl : u = Value.ref a := ry
  exact d_in hu I g rx fun s3 I3 => ⟨.bl o.isSome, H, I3, rfl, q⟩
theorem op_dnin (hu : X.A.units + 1 < cLine) : OpR X (compareOp .NotIn) rDNin := by
  intro pins s σ H x y v u Q I rx ry h
  obtain ⟨a, o, ey, g, q⟩ := h
  subst ey
  obtain rfl : u = Value.ref a := ry
  exact d_notIn hu I g rx fun s3 I3 => ⟨.bl (!o.isSome), H, I3, rfl, q⟩
theorem dt_din {k : Nat} (hr : Room k X.A) (A : DE X G W a ta fa) (B : DE X G W b tb fb) (hm : behindInMarks .In b = false := by rfl) : DT X G W (.Compare a [.In] [b] pos) (tTest (tOp rDIn ta tb)) (tOfE (eOp (gDIn false) fa fb)) :=
  dt_cmp (op_din (by have := units_of hr; omega)) od_din A B hm
theorem dt_dnin {k : Nat} (hr : Room k X.A) (A : DE X G W a ta fa) (B : DE X G W b tb fb) (hm : behindInMarks .NotIn b = false := by rfl) : DT X G W (.Compare a [.NotIn] [b] pos) (tTest (tOp rDNin ta tb)) (tOfE (eOp (gDIn true) fa fb)) :=
  dt_cmp (op_dnin (by have := units_of hr; omega)) od_dnin A B hm
/-! ### {} -/
def eD0 : Ev := fun ρ => .ok (.v (.dct [] [])) ρ
theorem de_d0 : DE X G W (.Dict [] [] pos) tDNewK eD0 := ⟨pe_dnewK, fun σ H ρ T Q sr p q hq => by
  obtain ⟨O, h⟩ := sr.h
  exact p _ _ (sr.push (h.newD hq)) trivial⟩
/-! ### d[k] = v -/
def sDSet (fo fk fv : Ev) : SEv := fun ρ => (fv ρ).bind fun r1 ρ1 => (cons r1 ρ1).bind fun d ρ2 => (fo ρ2).bind fun r0 ρ3 => match r0 with
  | .r i => (fk ρ3).bind fun r2 ρ4 => match look r2 ρ4, ρ4[i]? with
    | some kd, some (.dct ks ss) => (match dkey kd, flats ss with
      | some k, some ds => if ks.length < LIM then .ok .nx (ρ4.set i (.dct ((putP (ks.zip ds) k d).map (·.1)) (shs ((putP (ks.zip ds) k d).map (·.2))))) else .stuck
      | _, _ => .stuck)
    | _, _ => .stuck
  | _ => .stuck
theorem ok_dput (A : EvOk G W ta fa) (B : EvOk G W tb fb) (C : EvOk G W tc fc) : SsOk G W fx (sDPut ta tb tc) (sDSet fa fb fc) := by
  intro D σ H ρ T sr p
  refine C σ H ρ T _ sr ((PostS.of p).imp fun r1 ρ1 p1 y H1 sr1 a1 => ?_)
  rcases cons_or r1 ρ1 with ⟨d, ρ2, e⟩ | e
  · simp only [e, Out.bind] at p1
    have sr2 := sr1.take1 a1 e
    refine A σ H1 ρ2 ((y, .sh d) :: T) _ sr2 ((PostS.of p1).more.imp fun r0 ρ3 p2 x H2 sr3 a3 => ?_)
    cases r0 with
    | v s => exact p2.elim
    | r i =>
      simp only at p2
      refine B σ H2 ρ3 ((x, .no) :: (y, .sh d) :: T) _ sr3 ((PostS.of p2).more.more.imp fun r2 ρ4 p3 z H3 sr4 a4 => ?_)
      cases e3 : look r2 ρ4 with
      | none => simp only [e3] at p3; exact p3.elim
      | some kd =>
        cases e4 : ρ4[i]? with
        | none => simp only [e3, e4] at p3; exact p3.elim
        | some s4 =>
          simp only [e3, e4] at p3
          cases s4 <;> first | (exact p3.elim) | skip
          rename_i ks ss
          simp only at p3
          cases e5 : dkey kd with
          | none => simp only [e5] at p3; exact p3.elim
          | some k =>
            cases e6 : flats ss with
            | none => simp only [e5, e6] at p3; exact p3.elim
            | some ds =>
              simp only [e5, e6] at p3
              split at p3
              · rename_i hz
                obtain ⟨O, ho⟩ := sr4.h
                have rz := sr4.lookP ho a4 (fun s e => by subst e; exact List.mem_cons_self) e3
                have ez : z = kV k := dkey_rep rz e5
                have sr5 : SR G σ ρ4 ((y, .sh d) :: T) H3 := sr4.pop.pop
                obtain ⟨L0, h1, back⟩ := sr5.out a3 e4
                rw [flats_eq e6] at h1
                obtain ⟨a', xs', ea', ha', hl, h2⟩ := Holds.putD (k := k) (L := L0 ++ T) (h1.perm ((List.Perm.cons _ List.perm_middle).trans (.swap _ _ _)))
                refine ⟨a', _, ea', .inl ⟨_, k, ha', ez, ?_, rfl⟩, p3 σ _ .refl (back T _ _ h2)⟩
                rw [List.length_zip, ← hl, Nat.min_self, sizeLine_eq]
                exact hz
              · exact p3.elim
  · simp only [e, Out.bind] at p1; exact p1.elim
theorem ds_dput {k : Nat} (hr : Room k X.A) (A : DE X G W a ta fa) (B : DE X G W b tb fb) (C : DE X G W c tc fc) (hs : swapsWith c (some (.Subscript a b pos')) pos.line X.env = pure false := by rfl) :
    DS fx X G W (.Assign [.Subscript a b pos'] c pos) (sDPut ta tb tc) (sDSet fa fb fc) := ⟨ps_dput (by have := units_of hr; omega) A.pe B.pe C.pe hs, ok_dput A.ok B.ok C.ok⟩
/-! ### d.get(k, c), c an int -/
def isDct : Option D → Bool
  | some (.dct _ _) => true
  | _ => false
def eDGet2 (fo fk fv : Ev) : Ev := fun ρ => (fo ρ).bind fun r0 ρ1 => if isDct (look r0 ρ1) = true then (fk ρ1).bind fun r1 ρ2 => (fv ρ2).bind fun r2 ρ3 => (match look r0 ρ3, look r1 ρ3, look r2 ρ3 with
  | some (.dct ks ds), some kd, some (.int dv) => (match dkey kd with
    | some k => .ok (.v (.sh ((lookP (ks.zip ds) k).getD (.int dv)))) ρ3
    | none => .stuck)
  | _, _, _ => .stuck) else .stuck
theorem ok_dget2 (A : EvOk G W ta fa) (B : EvOk G W tb fb) (C : EvOk G W tc fc) : EvOk G W (tDGet2 ta tb tc) (eDGet2 fa fb fc) := by
  intro σ H ρ T Q sr p
  refine A σ H ρ T _ sr ((Post.bind p).imp fun r0 ρ1 p1 x H1 sr1 a1 => ?_)
  split at p1
  · rename_i hd
    cases e0 : look r0 ρ1 with
    | none => rw [e0] at hd; cases hd
    | some d0 =>
      rw [e0] at hd
      cases d0 <;> first | (cases hd; done) | skip
      rename_i ks0 ds0
      obtain ⟨O, h⟩ := sr1.h
      obtain ⟨pa, xs, ea, q1, _, _⟩ := sr1.lookP h a1 (fun s e => by subst e; exact List.mem_cons_self) e0
      subst ea
      refine ⟨pa, rfl, .inl ⟨_, q1⟩, ?_⟩
      refine B σ H1 ρ1 ((.ref pa, r0.slot) :: T) _ sr1 ((Post.bind p1).more.imp fun r1 ρ2 p2 y H2 sr2 a2 => ?_)
      refine C σ H2 ρ2 ((y, r1.slot) :: (.ref pa, r0.slot) :: T) _ sr2 ((Post.bind p2).more.more.imp fun r2 ρ3 p3 z H3 sr3 a3 => ?_)
      cases e1 : look r0 ρ3 with
      | none => simp only [e1] at p3; exact p3.elim
      | some d1 =>
        cases e2 : look r1 ρ3 with
        | none => simp only [e1, e2] at p3; cases d1 <;> exact p3.elim
        | some d2 =>
          cases e3 : look r2 ρ3 with
          | none => simp only [e1, e2, e3] at p3; cases d1 <;> exact p3.elim
          | some d3 =>
            simp only [e1, e2, e3] at p3
            cases d1 <;> cases d3 <;> first | (exact p3.elim) | skip
            rename_i ks ds dv
            simp only at p3
            cases ek : dkey d2 with
            | none => simp only [ek] at p3; exact p3.elim
            | some k =>
              simp only [ek] at p3
              obtain ⟨O3, h3⟩ := sr3.h
              have r0' := sr3.lookP h3 a1 (fun s e => by subst e; exact List.mem_cons_of_mem _ (List.mem_cons_of_mem _ List.mem_cons_self)) e1
              have r1' := sr3.lookP h3 a2 (fun s e => by subst e; exact List.mem_cons_of_mem _ List.mem_cons_self) e2
              have ez : z = .int dv := sr3.lookP h3 a3 (fun s e => by subst e; exact List.mem_cons_self) e3
              obtain ⟨pa', o, ea, g, m⟩ := dct_get r0' r1' ek
              cases ea
              refine ⟨o, g, ?_⟩
              have sr4 := sr3.pop.pop.pop
              cases zl : lookP (ks.zip ds) k with
              | none =>
                rw [zl] at m p3
                subst m
                exact p3 _ _ (sr4.scal fun _ => ez) trivial
              | some d =>
                rw [zl] at m p3
                obtain ⟨v, ev, r⟩ := m
                subst ev
                have sr5 : SR G σ ρ3 ((v, .sh d) :: (z, r2.slot) :: (y, r1.slot) :: (.ref pa, r0.slot) :: T) H3 := ⟨(h3.sc r).perm List.perm_middle.symm, sr3.len, sr3.as⟩
                exact p3 _ _ sr5.pop2.pop2.pop2 trivial
  · exact p1.elim
theorem de_dget2 {k : Nat} {apos cpos : Pos} (hr : Room k X.A) (A : DE X G W a ta fa) (B : DE X G W b tb fb) (C : DE X G W c tc fc) (m : M2 X a "get" apos b c cpos) : DE X G W (.Call (.Attribute a "get" apos) [b, c] [] cpos) (tDGet2 ta tb tc) (eDGet2 fa fb fc) :=
  ⟨pe_dget2 (by have := units_of hr; omega) A.pe B.pe C.pe m, ok_dget2 A.ok B.ok C.ok⟩
end
end Sep

/-! SepZ14: for k in d, d a dict of one's own: from there on it is data -/
namespace Sep
open PySem L2
def keyD : Key → D
  | .inl i => .int i
  | .inr s => .str s
def iKeysF (td : TE) : TI := fun σ H R => td σ H fun x H1 => ∃ (d : Addr) (kvs : List (Key × V)), x = .ref d ∧ H1 d = some (.dK kvs) ∧ ∀ od, R (Itk d od kvs) (upd H1 d (.frz od (.dK kvs)))
theorem pi_keysF {X : Cx} {tg e : Expr} {td : TE} (he : PE X e td) : PI X tg e (iKeysF td) := by
  refine ⟨fun pins s σ H R I h => ?_⟩
  refine thn (he.run pins s σ H _ I h) fun u s1 ⟨x, H1, I1, rx, d, kvs, ex, hd0, q⟩ => ?_
  subst ex
  obtain rfl : u = Value.ref d := rx
  obtain ⟨od, I2⟩ := I1.lock hd0 (by exact True.intro)
  obtain ⟨hs, hgd, hx, es, ep, vs, hdt, hsz, kv, hm⟩ := I2.frzK (upd_same (H := H1))
  refine iter_keys hs hgd hx hdt (pi_one (tk := s1.toks) I2 _ (turn_keys _ hdt) ⟨_, Heap.get?_push_size _ rfl, rfl, ?_⟩ (q od))
  rw [hsz] <;> rfl
section
variable {G : Gm} {H : Hp} {O : List Addr} {L T : Hd} {W : WX}
theorem Hold.frzD {v : V} {ks : List Key} {ds : List D} (h : Hold G H O ((v, .dct ks (shs ds)) :: L)) : ∃ a xs, v = .ref a ∧ H a = some (.dK (ks.zip xs)) ∧ ks.length = xs.length ∧
    ∀ od, Holds G (upd H a (.frz od (.dK (ks.zip xs)))) ((v, .sh (.raw a (some (od, ks.zip xs)))) :: (v, .sh (.dct ks ds)) :: L) := by
  obtain ⟨⟨o1, o2, eo, ⟨a, xs, os', ev, e1, h1, hkl, h2⟩, h3⟩, OF, hf, nd⟩ := h
  subst e1
  obtain ⟨e2, rd⟩ := h2.flat
  subst e2
  refine ⟨a, xs, ev, h1, hkl, fun od => ?_⟩
  rw [eo] at nd
  have ndO := List.nodup_append.mp nd
  have nd1 := List.nodup_append.mp ndO.1
  have na2 : a ∉ o2 := fun z => nd1.2.2 a List.mem_cons_self a z rfl
  have na3 : a ∉ OF := fun z => ndO.2.2 a (List.mem_append_left _ List.mem_cons_self) a z rfl
  have k : Keep [a] H (upd H a (.frz od (.dK (ks.zip xs)))) := fun b o e n => by rw [upd_ne (fun (z : b = a) => n (by rw [z]; exact List.mem_cons_self))]; exact e
  have hW : ∀ b ∈ [a], b ∈ O := fun b z => by rw [List.mem_singleton.mp z, eo]; exact List.mem_append_left _ List.mem_cons_self
  have hO : ∀ b ∈ o2, b ∈ O ∨ H b = none := fun b z => .inl (by rw [eo]; exact List.mem_append_right _ z)
  refine ⟨o2, ⟨[], o2, rfl, ⟨rfl, ev, fun p e => by cases e; exact ⟨upd_same, na2⟩⟩, [], o2, rfl, ⟨rfl, a, xs, ev, ⟨.inr ⟨od, upd_same⟩, na2⟩, hkl, RepDs.step k hW hO ds xs rd⟩, ?_⟩, OF, ?_, ?_⟩
  · exact RepL.step k hW hO h3 fun b z q => na2 (List.mem_singleton.mp q ▸ z)
  · exact hf.step k hW hO fun b z q => na3 (List.mem_singleton.mp q ▸ z)
  · have := nd.sublist (List.sublist_append_right [a] _)
    exact this
theorem walks_keys {a : Addr} {od : Obj} {ks : List Key} {xs : List V} (hl : ks.length = xs.length) : WalksD G (Itk a od (ks.zip xs)) [(.ref a, .sh (.raw a (some (od, ks.zip xs))))] (ks.map keyD) := by
  intro σ ρ T H i sr hi
  obtain ⟨O, ho, r⟩ := SR.top (T := T) sr
  have hz := (r.2 _ rfl).1
  have el : (ks.zip xs).length = ks.length := by rw [List.length_zip, hl, Nat.min_self]
  rw [List.length_map] at hi
  refine ⟨fun e => ⟨hz, by rw [el, e, List.length_map]; exact Nat.le_refl _⟩, fun d e => ?_⟩
  rw [List.getElem?_map] at e
  obtain ⟨k, e1, e2⟩ := Option.map_eq_some_iff.mp e
  have hlt := (List.getElem?_eq_some_iff.mp e1).1
  refine ⟨⟨hz, by rw [el]; exact hlt⟩, fun x H' y => ?_⟩
  obtain ⟨rfl, k', v', e3, rfl⟩ := y
  have := (List.getElem?_zip_eq_some.mp e3).1
  rw [e1] at this
  cases this
  subst e2
  cases k' with
  | inl i => exact sr.scal fun _ => rfl
  | inr s => exact sr.scal fun _ => rfl
end
/-- the keys of a dict of one's own -/
def iDct (fa : Ev) : Sl → Out (List D) := fun ρ => (fa ρ).bind fun r ρ1 => match r with
  | .r i => (match ρ1[i]? with
    | some (.dct ks ss) => (match flats ss with
      | some ds => .ok (ks.map keyD) (ρ1.set i (.sh (.dct ks ds)))
      | none => .stuck)
    | _ => .stuck)
  | _ => .stuck
section
variable {X : Cx} {G : Gm} {W : WX} {a : Expr} {ta : TE} {fa : Ev}
theorem ok_iDct (A : EvOk G W ta fa) : ItOk G W (iKeysF ta) (iDct fa) := by
  intro σ H ρ T R sr p
  refine A σ H ρ T _ sr ((Post.bind p).imp fun r ρ1 p1 v H1 sr1 a1 => ?_)
  cases r with
  | v s => exact p1.elim
  | r i =>
    simp only at p1
    cases e1 : ρ1[i]? with
    | none => simp only [e1] at p1; exact p1.elim
    | some s1 =>
      simp only [e1] at p1
      cases s1 <;> first | (exact p1.elim) | skip
      rename_i ks ss
      simp only at p1
      cases e2 : flats ss with
      | none => simp only [e2] at p1; exact p1.elim
      | some ds =>
        simp only [e2] at p1
        obtain ⟨L0, h1, back⟩ := sr1.pop.out a1 e1
        rw [flats_eq e2] at h1
        obtain ⟨O, h1⟩ := h1
        obtain ⟨a', xs, ev, hd, hl, fr⟩ := h1.frzD
        refine ⟨a', _, ev, hd, fun od => p1 _ [(v, .sh (.raw a' (some (od, ks.zip xs))))] _ (back _ _ _ ((fr od).perm ?_)) ?_⟩
        · refine (List.Perm.swap _ _ _).trans (.cons _ ?_)
          exact List.perm_middle.symm
        · subst ev
          exact walks_keys hl
theorem di_dct {tg : Expr} (A : DE X G W a ta fa) : DI X G W tg a (iKeysF ta) (iDct fa) := ⟨pi_keysF A.pe, ok_iDct A.ok⟩
end
/-! list(range(n)) -/
section
variable {X : Cx} {G : Gm} {W : WX} {a : Expr} {ta : TE} {fa : Ev} {pos p p2 pos2 : Pos}
theorem cr_range1 : CallR X (.type "range") (fun vs H Q => ∃ j, vs = [V.int j] ∧ ∀ p, H p = none → Q (.ref p) (upd H p (.rng 0 j))) := by
  intro pins s σ H vs us Q I r h
  obtain ⟨j, rfl, q⟩ := h
  cases r with
  | cons r0 r1 =>
    cases r1
    obtain ⟨t, rfl⟩ := r0
    refine PySem.call_range_1 ⟨.ref s.heap.objs.size, upd H s.heap.objs.size (.rng 0 j), I.laid (t' := s.toks + 1 + 1) (fun b o e => Heap.get?_push_of_some _ e) (Nat.le_refl _) ?_, rfl, q _ (I.hok.fresh (Nat.le_refl _))⟩
    exact ⟨_, t, _, Heap.get?_push_size _ rfl⟩
theorem ok_LR1 (A : EvOk G W ta fa) : EvOk G W (tCB rLR (tCons (tCB (fun vs H Q => ∃ j, vs = [V.int j] ∧ ∀ p, H p = none → Q (.ref p) (upd H p (.rng 0 j))) (tCons ta tNil)) tNil)) (eLR1 fa) := by
  intro σ H ρ T Q sr p
  refine A σ H ρ T _ sr ((Post.bind p).imp fun r1 ρ1 p1 x H1 sr1 a1 => ?_)
  obtain ⟨O, hO⟩ := sr1.h
  cases e1 : look r1 ρ1 with
  | none => simp only [e1] at p1; exact p1.elim
  | some d1 =>
    simp only [e1] at p1
    cases d1 with
    | int j =>
      have k1 : x = .int j := sr1.lookP hO a1 (fun s e => by subst e; exact List.mem_cons_self) e1
      subst k1
      dsimp only at p1
      split at p1
      · rename_i hc
        refine ⟨j, rfl, fun z hz => ⟨z, 0, j, rfl, upd_same, ⟨by decide, by decide, hc.1.1, hc.1.2⟩, by rw [Int.sub_zero]; exact hc.2, fun q hq => ?_⟩⟩
        rw [Int.sub_zero]
        exact lr_end (i := 0) (sr1.no (v := .non)) p1 z hz q hq
      · exact p1.elim
    | _ => exact p1.elim
theorem de_LR1 (C0 : X.calm = true) (hg : Gl X "list") (hm : X.mg "list" = none) (hg2 : Gl X "range") (hm2 : X.mg "range" = none) (A : DE X G W a ta fa)
    (h1 : starEach [Expr.Call (.Name "range" p2) [a] [] pos2] X.env = (false, eval (Expr.Call (.Name "range" p2) [a] [] pos2) X.env) :: starEach [] X.env := by rfl) (h2 : (backTo pos (starEach [] X.env)).any (·.1) = false := by rfl)
    (h3 : starEach [a] X.env = (false, eval a X.env) :: starEach [] X.env := by rfl) (h5 : (backTo pos2 (starEach [] X.env)).any (·.1) = false := by rfl) :
    DE X G W (.Call (.Name "list" p) [.Call (.Name "range" p2) [a] [] pos2] [] pos) (tCB rLR (tCons (tCB (fun vs H Q => ∃ j, vs = [V.int j] ∧ ∀ p, H p = none → Q (.ref p) (upd H p (.rng 0 j))) (tCons ta tNil)) tNil)) (eLR1 fa) :=
  ⟨pe_callTy (cr_LR C0) hg hm boot_list (pa_cons (pe_callTy cr_range1 hg2 hm2 (by decide +kernel) (pa_cons A.pe pa_nil h3) (by decide) (by decide) h3 h5) pa_nil h1) (by decide) (by decide) h1 h2, ok_LR1 A.ok⟩
end
end Sep

/-! SepZ15: statements of the law itself: a call that looks at lists of one's own and gives back an instance -/
namespace Sep
open PySem L2 PyProof.Rows
mutual
def D.noL : D → Bool
  | .non => true
  | .bl _ => true
  | .int _ => true
  | .str _ => true
  | .tup ds => noLs ds
  | .obj _ _ ds => noLs ds
  | .lst _ => false
  | .rol _ => false
  | .dct _ _ => false
  | .xd _ _ => false
  | .raw _ _ => false
  | .kls _ => false
def noLs : List D → Bool
  | [] => true
  | d :: ds => d.noL && noLs ds
end
mutual
def Slot.noO : Slot → Bool
  | .no => true
  | .sh _ => true
  | .lst ss => noOs ss
  | .dct _ ss => noOs ss
  | .obj _ _ _ => false
def noOs : List Slot → Bool
  | [] => true
  | s :: ss => s.noO && noOs ss
end
def Lk (H : Hp) (a : Addr) : Prop := (∃ xs, H a = some (.lst xs)) ∨ ∃ kvs, H a = some (.dK kvs)
section
variable {G : Gm} {H : Hp} {O O1 : List Addr}
mutual
theorem kindS : ∀ {s : Slot} {v : V} {os : List Addr}, RepS G H O s v os → s.noO = true → ∀ a ∈ os, Lk H a
  | .no, v, os, h, _, a, ha => by rw [show os = [] from h] at ha; cases ha
  | .sh d, v, os, h, _, a, ha => by rw [h.1] at ha; cases ha
  | .lst ss, v, os, h, n, a, ha => by
    obtain ⟨b, xs, os', _, eo, h1, h2⟩ := h
    subst eo
    rcases List.mem_cons.mp ha with e | ha
    · subst e; exact .inl ⟨xs, h1⟩
    · exact kindSs h2 (by unfold Slot.noO at n; exact n) a ha
  | .dct ks ss, v, os, h, n, a, ha => by
    obtain ⟨b, xs, os', _, eo, h1, _, h2⟩ := h
    subst eo
    rcases List.mem_cons.mp ha with e | ha
    · subst e; exact .inr ⟨_, h1⟩
    · exact kindSs h2 (by unfold Slot.noO at n; exact n) a ha
  | .obj _ _ _, v, os, h, n, a, ha => by unfold Slot.noO at n; cases n
theorem kindSs : ∀ {ss : List Slot} {xs : List V} {os : List Addr}, RepSs G H O ss xs os → noOs ss = true → ∀ a ∈ os, Lk H a
  | [], xs, os, h, _, a, ha => by rw [h.2] at ha; cases ha
  | s :: ss, xs, os, h, n, a, ha => by
    obtain ⟨v, r, o1, o2, _, eo, h1, h2⟩ := h
    subst eo
    unfold noOs at n
    rw [Bool.and_eq_true] at n
    rcases List.mem_append.mp ha with ha | ha
    · exact kindS h1 n.1 a ha
    · exact kindSs h2 n.2 a ha
end
theorem kindL : ∀ {L : Hd} {os : List Addr}, RepL G H O L os → (∀ p ∈ L, p.2.noO = true) → ∀ a ∈ os, Lk H a
  | [], os, h, _, a, ha => by rw [show os = [] from h] at ha; cases ha
  | p :: L, os, h, n, a, ha => by
    obtain ⟨o1, o2, eo, h1, h2⟩ := h
    subst eo
    rcases List.mem_append.mp ha with ha | ha
    · exact kindS h1 (n p List.mem_cons_self) a ha
    · exact kindL h2 (fun q hq => n q (List.mem_cons_of_mem _ hq)) a ha
theorem lk_tup {a : Addr} {xs : List V} (k : Lk H a) (h : Rd H a (.tup xs)) : False := by
  rcases k with ⟨_, e⟩ | ⟨_, e⟩ <;> rcases h with h | ⟨_, h⟩ <;> rw [e] at h <;> cases h
mutual
theorem noL_rep (hO : ∀ a ∈ O, Lk H a) : ∀ {d : D} {v : V}, d.noL = true → RepD G H O1 d v → RepD G H O d v
  | .non, v, _, h => h
  | .bl _, v, _, h => h
  | .int _, v, _, h => h
  | .str _, v, _, h => h
  | .tup ds, v, n, h => by
    obtain ⟨a, xs, e, h1, h2⟩ := h
    refine ⟨a, xs, e, ?_, noLs_rep hO (by unfold D.noL at n; exact n) h2⟩
    rcases h1 with h1 | h1
    · exact .inl ⟨h1.1, fun z => lk_tup (hO a z) h1.1⟩
    · exact .inr h1
  | .obj c ns ds, v, n, h => by
    obtain ⟨a, dx, xs, e, h1, hl, h2⟩ := h
    refine ⟨a, dx, xs, e, ⟨h1.1, fun z => ?_⟩, hl, noLs_rep hO (by unfold D.noL at n; exact n) h2⟩
    rcases hO a z with ⟨_, q⟩ | ⟨_, q⟩ <;> rw [h1.1] at q <;> cases q
  | .lst _, v, n, _ => by unfold D.noL at n; cases n
  | .rol _, v, n, _ => by unfold D.noL at n; cases n
  | .dct _ _, v, n, _ => by unfold D.noL at n; cases n
  | .xd _ _, v, n, _ => by unfold D.noL at n; cases n
  | .raw _ _, v, n, _ => by unfold D.noL at n; cases n
  | .kls _, v, n, _ => by unfold D.noL at n; cases n
theorem noLs_rep (hO : ∀ a ∈ O, Lk H a) : ∀ {ds : List D} {xs : List V}, noLs ds = true → RepDs G H O1 ds xs → RepDs G H O ds xs
  | [], xs, _, h => h
  | d :: ds, xs, n, h => by
    obtain ⟨v, r, e, h1, h2⟩ := h
    unfold noLs at n
    rw [Bool.and_eq_true] at n
    exact ⟨v, r, e, noL_rep hO n.1 h1, noLs_rep hO n.2 h2⟩
end
end
/-! ### rules that hold where nothing else is held: in the law's own body -/
def EvT (G : Gm) (W : WX) (t : TE) (f : Ev) : Prop := ∀ σ H ρ Q, G.fr = [] → SR G σ ρ [] H → Post G W σ [] (Rt G σ [] Q) (f ρ) → t σ H Q
def SsT (G : Gm) (W : WX) (fx : FX) (t : TS) (f : SEv) : Prop := ∀ D σ H ρ, G.fr = [] → SR G σ ρ [] H → PostS G W fx σ [] D (f ρ) → t D σ H
structure DET (X : Cx) (G : Gm) (W : WX) (e : Expr) (t : TE) (f : Ev) : Prop where
  pe : PE X e t
  ok : EvT G W t f
structure DST (fx : FX) (X : Cx) (G : Gm) (W : WX) (st : Stmt) (t : TS) (f : SEv) : Prop where
  ps : PS X st t
  ok : SsT G W fx t f
structure DSsT (fx : FX) (X : Cx) (G : Gm) (W : WX) (st : List Stmt) (t : TS) (f : SEv) : Prop where
  pss : PSs X st t
  ok : SsT G W fx t f
/-- f(e, ..), the arguments are only looked at; what comes back holds no list; what stood in the slots ws is no longer told -/
def eCallW (ws : List Nat) (n : Nat) (F : FnD) (fs : Sl → Out (List R)) : Ev := fun ρ => (fs (wipeR ρ ws)).bind fun rs ρ1 => if rs.length = n then (match views rs ρ1 with
  | some ds => (match F (shs ds) with
    | .ok (.sh d) _ => if (d.noL && (ρ1.all Slot.noO && rs.all fun r => r.slot.noO)) = true then .ok (.v (.sh d)) ρ1 else .stuck
    | _ => .stuck)
  | none => .stuck) else .stuck
section
variable {X : Cx} {G : Gm} {W : WX} {fx : FX} {a b c : Expr} {es : List Expr} {ta tb tc te : TE} {t : TA} {fa fb fc fe : Ev} {fs : Sl → Out (List R)} {pos : Pos} {σ : L2.St} {H : Hp} {st : Stmt} {rest : List Stmt} {ts us : TS} {f g : SEv}
theorem ok_callW {F : FnD} {ws : List Nat} {n : Nat} (A : ArOk G W t fs) : EvT G W (tCallSD (spF G n F) [] (WE W) t) (eCallW ws n F fs) := by
  intro σ H ρ Q hfr sr p
  have sr := (sr.wipe ws).unwipe
  refine A σ H (wipeR ρ ws) [] _ sr ((Post.bind p).imp fun rs ρ1 p1 vs H1 sr1 a1 => ?_)
  rw [List.append_nil]
  have p2 : Post G W σ [] (Rt G σ [] Q) (if rs.length = n then (match views rs ρ1 with
    | some ds => (match F (shs ds) with
      | .ok (.sh d) _ => if (d.noL && (ρ1.all Slot.noO && rs.all fun r => r.slot.noO)) = true then .ok (.v (.sh d)) ρ1 else .stuck
      | _ => .stuck)
    | none => .stuck) else .stuck) := p1
  split at p2
  · rename_i hl
    cases e : views rs ρ1 with
    | none => simp only [e] at p2; exact p2.elim
    | some ds =>
      simp only [e] at p2
      obtain ⟨O, h⟩ := sr1.h
      have rd := views_rep h a1 (fun x hx => List.mem_append_left _ hx) e
      refine ⟨by rw [a1.length, hl], shs ds, [], _, by rw [List.append_nil]; exact sr1.h.under rd, by rw [List.length_map, ← rd.length, a1.length, hl], ?_⟩
      cases ef : F (shs ds) with
      | stuck => simp only [ef] at p2; exact p2.elim
      | exc => simp only [ef] at p2; exact p2.elim
      | ok s fs' =>
        simp only [ef] at p2
        cases s <;> first | (exact p2.elim) | skip
        rename_i d
        simp only at p2
        split at p2
        · rename_i hs
          rw [Bool.and_eq_true, Bool.and_eq_true] at hs
          intro v H' hh
          obtain ⟨O', h', OF, ⟨o1, o2, eo, g1, g2⟩, nd⟩ := id hh
          obtain ⟨q1, q2, _, r1, _⟩ := h'
          have r2 := r1.2
          rw [RepD_w] at r2
          rw [RepL_w] at g1
          have hk : ∀ p ∈ envL σ ρ1 ++ (zipR vs rs ++ []), p.2.noO = true := fun p hp => by
            rcases List.mem_append.mp hp with hp | hp
            · exact List.all_eq_true.mp hs.2.1 _ (List.of_mem_zip hp).2
            · rw [List.append_nil] at hp
              have := (List.of_mem_zip hp).2
              obtain ⟨r, hr, e⟩ := List.mem_map.mp this
              rw [← e]
              exact List.all_eq_true.mp hs.2.2 r hr
          have lk := kindL g1 hk
          have h2 : Holds G H' (envL σ ρ1 ++ (zipR vs rs ++ [])) := hh.out
          have g1' : RepL G H' o1 (envL σ ρ1 ++ (zipR vs rs ++ [])) o1 := g1.reO fun a z => List.mem_append_right _ z
          have nd2 := (List.nodup_append.mp nd).2.1
          rw [eo] at nd2
          have h3 : Hold G H' o1 (envL σ ρ1 ++ (zipR vs rs ++ [])) := ⟨g1', o2, by
            have g3 := g2
            rw [RepF_w] at g3
            exact g3.reO fun a z => List.mem_append_right _ z, nd2⟩
          have rv : RepD G H' o1 d v := noL_rep lk hs.1 r2
          have sr2 : SR G σ ρ1 ((v, .sh d) :: (zipR vs rs ++ [])) H' := ⟨(h3.sc rv).perm List.perm_middle.symm, sr1.len, sr1.as⟩
          exact p2 v H' (drops sr2) trivial
        · exact p2.elim
  · exact p2.elim
theorem de_callW {k j n : Nat} {ws : List Nat} {f : Addr} {fd : FuncData} {ps : List Str} {F : FnD} {x : Str} {p : Pos} (C : Cok k X G W) (Fo : FnOk X.prog X.w X.K X.mg X.base (L2.CX X.prog X.w) j f fd ps (spF G n F)) (hj : j ≤ k) (hg : Gl X x) (hm : X.mg x = some (.ref f)) (hk : PySem.W.keepIn X.K (.ref f) = true) (hb : Binds X.K fd ps [])
    (A : DA X G W (a :: es) t fs) (hdb : (x == ("__debug__" : Str)) = false := by decide) (he : starEach (a :: es) X.env = (false, eval a X.env) :: starEach es X.env := by rfl) (hpl : (backTo pos (starEach es X.env)).any (·.1) = false := by rfl) :
    DET X G W (.Call (.Name x p) (a :: es) [] pos) (tCallSD (spF G n F) [] (WE W) t) (eCallW ws n F fs) :=
  ⟨pe_callSD Fo (C.rm.mono hj) hg hm hk hb .nil (fun σ => passAt C.tk σ) A.pa hdb he hpl, ok_callW A.ok⟩
theorem dst_setF {k : Nat} (C : Cok k X G W) {i : Nat} {x : Str} {pos' : Pos} (hf : fx i = false) (A : DET X G W a ta fa) (hi : X.N[i]? = some x := by rfl) (hx : Loc X.env.scope x := by first | exact Or.inl rfl | exact Or.inr rfl) (hs : swapsWith a (some (.Name x pos')) pos.line X.env = pure false := by rfl)
    (hfn : X.fn x = true ∨ X.env.scope.names.lookup x = some .local := by first | exact .inl rfl | exact .inr rfl | assumption) : DST fx X G W (.Assign [.Name x pos'] a pos) (tAsg ta (gName i)) (sSetF i fa) := by
  refine ⟨ps_set C.nd hi hx A.pe hs hfn, fun D σ H ρ hfr sr p => ?_⟩
  refine A.ok σ H ρ _ hfr sr ((PostS.of p).imp fun r ρ1 p1 v H1 sr1 a1 => ?_)
  rcases cons_or r ρ1 with ⟨d, ρ2, e⟩ | e
  · simp only [e, Out.bind] at p1
    exact p1 _ H1 (.set hf) (sr1.take1 a1 e).store
  · simp only [e, Out.bind] at p1; exact p1.elim
theorem dst_of (A : DS fx X G W st ts f) : DST fx X G W st ts f := ⟨A.ps, fun D σ H ρ _ sr p => A.ok D σ H ρ [] sr p⟩
theorem dsst_of {sts : List Stmt} (A : DSs fx X G W sts ts f) : DSsT fx X G W sts ts f := ⟨A.pss, fun D σ H ρ _ sr p => A.ok D σ H ρ [] sr p⟩
theorem dsst_cons (A : DST fx X G W st ts f) (B : DSsT fx X G W rest us g) : DSsT fx X G W (st :: rest) (tSeq ts us) (sSeq f g) := by
  refine ⟨pss_cons A.ps B.pss, fun D σ H ρ hfr sr p => ?_⟩
  refine A.ok { D with nx := us D } σ H ρ hfr sr ?_
  unfold sSeq at p
  cases e : f ρ with
  | ok fl ρ1 =>
    rw [e] at p
    cases fl with
    | nx => exact fun σ1 H1 fi sr1 => B.ok D σ1 H1 ρ1 hfr sr1 (p.fix fi)
    | bk => exact p
    | ct => exact p
    | ret s => exact p
  | exc c ns ds ρ1 => rw [e] at p; exact p
  | stuck => rw [e] at p; exact p
end
end Sep
namespace Sep
open PySem L2 PyProof.Rows
/-- the promise of the law's def: nothing else is held -/
def spL (G : Gm) (np : Nat) (F : FnD) : Sp := fun vs H Q E => vs.length = np ∧ ∃ ss, Holds (G.w []) H (vs.zip ss) ∧ ss.length = np ∧ PostN (G.w []) vs [] Q E (F ss)
theorem fn_okL {P : Program} {w : World} {K : PySem.W.Frag} {mg : Str → Option Value} {base : Heap} {G : Gm} {N ps : List Str} {x qual : Str} {params : Arguments} {body : List Stmt} {scope : Scope} {dvs : List V} {kws : List (Str × V)} {f : Addr} {fd : FuncData} {k n np : Nat} {fx : FX} {b : SEv} (hK : K = G.K) (Fu : FunD K x qual params body scope dvs kws f fd) (S : FnScope N ps scope) (hn : N.length = n) (hp : ps.length = np) (hnp : np ≤ n)
    (hb : ∀ (cdv : Value) (A : Around) (outer : List PySem.Env) (s : Shared) (H : Hp) (E : XK) (fr : List Hd), Cok k (cxOf (L2.CX P w) P w K mg base N qual scope f cdv A outer s H E) (G.w fr) (fun cls d _ H => E cls d H) →
      ∃ t, DSsT fx (cxOf (L2.CX P w) P w K mg base N qual scope f cdv A outer s H E) (G.w fr) (fun cls d _ H => E cls d H) body t b) :
    FnOk P w K mg base (L2.CX P w) (k + 1) f fd ps (spL G np (fnOf n np fx b)) := by
  refine Fu.ok S (fun vs H Q E h => by rw [h.1, hp]) fun cdv A outer s H vs Q E hr h => ?_
  obtain ⟨hv, ss, hh, hs, post⟩ := h
  obtain ⟨t, D⟩ := hb cdv A outer s H E [] (cok_def hK S.nd hr)
  have hh' : Holds (G.w []) H (vs.zip ss ++ []) := by rw [List.append_nil]; exact hh
  refine ⟨t, D.pss, D.ok _ _ _ _ rfl (env_start hn hv hs hh' hnp) ?_⟩
  have fin : ∀ {σ : L2.St} {ρ : Sl} {H' : Hp} {y : V × Slot}, Fix fx (L2.start N vs) σ → SR (G.w []) σ ρ [y] H' → Holds (G.w []) H' (y :: (vs.zip (fins fx 0 np ρ) ++ [])) := fun {σ ρ H' y} fi sr => by
    refine (fins_holds (T := [y]) hv (fun j v e q => ?_) sr.h).perm List.perm_middle
    rw [Nat.zero_add] at q
    rw [fi.2 j q]
    unfold L2.start
    have hj := (List.getElem?_eq_some_iff.mp e).1
    rw [List.getElem?_append_left (by rw [List.length_map]; exact hj), List.getElem?_map, e]; rfl
  unfold fnOf at post
  cases e : b (ss ++ List.replicate (n - np) .no) with
  | stuck => rw [e] at post; exact post.elim
  | exc c ns ds ρ =>
    rw [e] at post
    exact fun d σ H' fi sr => post d H' (fin fi sr)
  | ok fl ρ =>
    rw [e] at post
    cases fl with
    | nx => exact fun σ H' fi sr => post .non H' (fin fi (sr.scal (d := .non) fun _ => rfl))
    | ret s => exact fun v σ H' fi sr => post v H' (fin fi sr)
    | bk => exact post.elim
    | ct => exact post.elim
theorem law_spL {G : Gm} {F : FnD} {H : Hp} {a : Addr} {ns : List Int} (hO : Only H) (hS : SqL G.K H a (ns.map V.int)) (hF : ∃ fs, F [.sh (.rol (ns.map D.int))] = .ok (.sh (.bl true)) fs) : spL G 1 F [.ref a] H (fun v _ => v = .bl true) fun _ _ _ => False := by
  obtain ⟨fs, hF⟩ := hF
  refine ⟨rfl, [.sh (.rol (ns.map D.int))], ⟨[], ?_, [], rfl, List.nodup_nil⟩, rfl, ?_⟩
  · refine ⟨[], [], rfl, ⟨rfl, ?_⟩, rfl⟩
    refine ⟨a, ns.map V.int, rfl, ?_, ?_⟩
    · rcases hS with h | h
      · exact .inl ⟨h, by simp⟩
      · exact .inr h
    · exact reps_ints ns
  · rw [hF]
    intro v H' h
    obtain ⟨O, ⟨o1, o2, _, r1, _⟩, _⟩ := h
    exact r1.2
end Sep

/-! TyA: what a text computes, told of typed values. -/
namespace Sep
open PySem L2
abbrev XP := Str → List Str → List D → Sl → Prop
@[irreducible] def Go {α : Type} (K : α → Sl → Prop) (X : XP) : Out α → Prop
  | .ok a ρ => K a ρ
  | .exc c ns ds ρ => X c ns ds ρ
  | .stuck => False
/-- what is wished of the ends of a statement: behind it, at return, of exceptions, at break, at continue -/
@[irreducible] def Gs (nx : Sl → Prop) (rt : Slot → Sl → Prop) (ex : XP) (bk ct : Sl → Prop) : Out Fl → Prop
  | .ok .nx ρ => nx ρ
  | .ok (.ret s) ρ => rt s ρ
  | .ok .bk ρ => bk ρ
  | .ok .ct ρ => ct ρ
  | .exc c ns ds ρ => ex c ns ds ρ
  | .stuck => False
section
variable {α β : Type} {K K' : α → Sl → Prop} {X X' : XP} {o : Out α} {nx : Sl → Prop} {rt : Slot → Sl → Prop} {ex : XP} {bk ct : Sl → Prop} {ρ ρ1 : Sl} {f g fa fb fc fe fo : Ev} {q q1 q2 : Sl → Out Bool} {b b1 b2 : SEv} {i : Nat} {s : Slot} {d : D} {r : R} {gg : D → D → Option Slot} {rs : List R}
theorem Go.ok_e {a : α} (h : Go K X (.ok a ρ)) : K a ρ := by with_unfolding_all exact h
theorem Go.ok_i {a : α} (h : K a ρ) : Go K X (.ok a ρ) := by with_unfolding_all exact h
theorem Go.exc_e {c : Str} {ns : List Str} {ds : List D} (h : Go K X (.exc c ns ds ρ)) : X c ns ds ρ := by with_unfolding_all exact h
theorem Go.exc_i {c : Str} {ns : List Str} {ds : List D} (h : X c ns ds ρ) : Go K X (.exc c ns ds ρ) := by with_unfolding_all exact h
theorem Go.stuck_e (h : Go K X .stuck) : False := by with_unfolding_all exact h
theorem Gs.nx_e (h : Gs nx rt ex bk ct (.ok .nx ρ)) : nx ρ := by with_unfolding_all exact h
theorem Gs.ret_e (h : Gs nx rt ex bk ct (.ok (.ret s) ρ)) : rt s ρ := by with_unfolding_all exact h
theorem Gs.bk_e (h : Gs nx rt ex bk ct (.ok .bk ρ)) : bk ρ := by with_unfolding_all exact h
theorem Gs.ct_e (h : Gs nx rt ex bk ct (.ok .ct ρ)) : ct ρ := by with_unfolding_all exact h
theorem Gs.nx_i (h : nx ρ) : Gs nx rt ex bk ct (.ok .nx ρ) := by with_unfolding_all exact h
theorem Gs.ret_i (h : rt s ρ) : Gs nx rt ex bk ct (.ok (.ret s) ρ) := by with_unfolding_all exact h
theorem Gs.bk_i (h : bk ρ) : Gs nx rt ex bk ct (.ok .bk ρ) := by with_unfolding_all exact h
theorem Gs.ct_i (h : ct ρ) : Gs nx rt ex bk ct (.ok .ct ρ) := by with_unfolding_all exact h
theorem Gs.exc_e {c : Str} {ns : List Str} {ds : List D} (h : Gs nx rt ex bk ct (.exc c ns ds ρ)) : ex c ns ds ρ := by with_unfolding_all exact h
theorem Gs.exc_i {c : Str} {ns : List Str} {ds : List D} (h : ex c ns ds ρ) : Gs nx rt ex bk ct (.exc c ns ds ρ) := by with_unfolding_all exact h
theorem Gs.stuck_e (h : Gs nx rt ex bk ct .stuck) : False := by with_unfolding_all exact h
theorem Go.mono (h : Go K X o) (i : ∀ a ρ, K a ρ → K' a ρ) (j : ∀ c ns ds ρ, X c ns ds ρ → X' c ns ds ρ) : Go K' X' o := by with_unfolding_all
  cases o with
  | ok a ρ => exact i a ρ h
  | exc c ns ds ρ => exact j c ns ds ρ h
  | stuck => exact h
theorem Go.imp (h : Go K X o) (i : ∀ a ρ, K a ρ → K' a ρ) : Go K' X o := h.mono i fun _ _ _ _ z => z
theorem go_bind {K : β → Sl → Prop} {k : α → Sl → Out β} (h : Go (fun a ρ => Go K X (k a ρ)) X o) : Go K X (o.bind k) := by with_unfolding_all
  cases o <;> exact h
theorem gs_bind {k : α → Sl → Out Fl} (h : Go (fun a ρ => Gs nx rt ex bk ct (k a ρ)) ex o) : Gs nx rt ex bk ct (o.bind k) := by with_unfolding_all
  cases o <;> exact h
/-- a value that nothing is written for -/
theorem go_pu {o : Out α} {a : α} (e : o = .ok a ρ) (h : K a ρ) : Go K X o := by with_unfolding_all rw [e]; exact h
/-! ### values without a write, as equations -/
theorem pu_var (h : ρ[i]? = some (.sh d)) : eVar i ρ = .ok (.v (.sh d)) ρ := by unfold eVar; rw [h]
theorem pu_own {ss : List Slot} (h : ρ[i]? = some (.lst ss)) : eVar i ρ = .ok (.r i) ρ := by unfold eVar; rw [h]
theorem pu_obj {c : Str} {ns : List Str} {ss : List Slot} (h : ρ[i]? = some (.obj c ns ss)) : eVar i ρ = .ok (.r i) ρ := by unfold eVar; rw [h]
theorem pu_c : eC d ρ = .ok (.v (.sh d)) ρ := rfl
theorem lk_own {ds : List D} (h : ρ[i]? = some (.lst (shs ds))) : look (.r i) ρ = some (.lst ds) := by
  show (ρ[i]?).bind Slot.flat = _
  rw [h]; show (flats (shs ds)).map D.lst = _
  rw [flats_sh]; rfl
theorem lk_new {ds : List D} : look (.v (.lst (shs ds))) ρ = some (.lst ds) := by
  show (flats (shs ds)).map D.lst = _
  rw [flats_sh]; rfl
theorem lk_obj {c : Str} {ns : List Str} {ds : List D} (h : ρ[i]? = some (.obj c ns (shs ds))) : look (.r i) ρ = some (.obj c ns ds) := by
  show (ρ[i]?).bind Slot.flat = _
  rw [h]; show (flats (shs ds)).map (D.obj c ns) = _
  rw [flats_sh]; rfl
theorem fr_new {ds : List D} : Slot.fr (.lst (shs ds)) = some (.lst ds) := by unfold Slot.fr; rw [frs_sh]; rfl
theorem fr_obj {c : Str} {ns : List Str} {ds : List D} : Slot.fr (.obj c ns (shs ds)) = some (.obj c ns ds) := by unfold Slot.fr; rw [frs_sh]; rfl
theorem pu_cast {d' : D} (A : f ρ = .ok (.v (.sh d)) ρ) (e : d = d') : f ρ = .ok (.v (.sh d')) ρ := by rw [A, e]
theorem pu_op {r1 r2 : R} {a b : D} (A : fa ρ = .ok r1 ρ) (B : fb ρ = .ok r2 ρ) (la : look r1 ρ = some a) (lb : look r2 ρ = some b) (h : gg a b = some s) : eOp gg fa fb ρ = .ok (.v s) ρ := by
  unfold eOp; rw [A]; show (fb ρ).bind _ = _; rw [B]; simp only [Out.bind, la, lb, h]
theorem pu_un {g : D → Option Slot} {a : D} (A : fa ρ = .ok r ρ) (la : look r ρ = some a) (h : g a = some s) : eUn g fa ρ = .ok (.v s) ρ := by
  unfold eUn; rw [A]; simp only [Out.bind, la, h]
theorem pu_cb1 {g : D → Option Slot} {a : D} (A : fa ρ = .ok r ρ) (la : look r ρ = some a) (h : g a = some s) : eCB (g1 g) (aCons fa aNil) ρ = .ok (.v s) ρ := by
  unfold eCB aCons; rw [A]; simp only [Out.bind, aNil, looks, la, g1, h]
theorem pu_cb2 {g : D → D → Option Slot} {r1 r2 : R} {a b : D} (A : fa ρ = .ok r1 ρ) (B : fb ρ = .ok r2 ρ) (la : look r1 ρ = some a) (lb : look r2 ρ = some b) (h : g a b = some s) : eCB (g2 g) (aCons fa (aCons fb aNil)) ρ = .ok (.v s) ρ := by
  unfold eCB aCons; rw [A]; simp only [Out.bind]; rw [B]; simp only [Out.bind, aNil, looks, la, lb, g2, h]
/-- arguments -/
theorem pa_0 : aNil ρ = .ok [] ρ := rfl
theorem pa_1 {fs : Sl → Out (List R)} (A : fa ρ = .ok r ρ) (B : fs ρ = .ok rs ρ) : aCons fa fs ρ = .ok (r :: rs) ρ := by
  unfold aCons; rw [A]; simp only [Out.bind]; rw [B]
theorem ca_0 : consAll [] ρ = .ok [] ρ := rfl
theorem ca_1 {ds : List D} {ρ' : Sl} (h : s.fr = some d) (B : consAll rs ρ = .ok ds ρ') : consAll (.v s :: rs) ρ = .ok (d :: ds) ρ' := by
  unfold consAll cons; simp only [h, Out.bind]; rw [B]
theorem ca_r {ds : List D} {ρ' : Sl} (hi : ρ[i]? = some s) (h : s.fr = some d) (B : consAll rs (ρ.set i (.sh d)) = .ok ds ρ') : consAll (.r i :: rs) ρ = .ok (d :: ds) ρ' := by
  unfold consAll cons; simp only [hi, h, Out.bind]; rw [B]
theorem pu_tup {fs : Sl → Out (List R)} {ds : List D} (A : fs ρ = .ok rs ρ) (C : consAll rs ρ = .ok ds ρ) (h : ds.length ≤ LIM) : eTup fs ρ = .ok (.v (.sh (.tup ds))) ρ := by
  unfold eTup; rw [A]; simp only [Out.bind]; rw [C]; simp only [h, if_true]
theorem pu_lst {fs : Sl → Out (List R)} {ds : List D} (A : fs ρ = .ok rs ρ) (C : consAll rs ρ = .ok ds ρ) (h : ds.length ≤ LIM) : eLst fs ρ = .ok (.v (.lst (shs ds))) ρ := by
  unfold eLst; rw [A]; simp only [Out.bind]; rw [C]; simp only [h, if_true]
theorem pu_fz {d : D} (A : fa ρ = .ok (.v s) ρ) (h : s.fr = some d) : eFz fa ρ = .ok (.v (.sh d)) ρ := by
  unfold eFz; rw [A]; simp only [Out.bind, cons, h]
/-! tests -/
theorem pt_e {k : Bool} (A : fa ρ = .ok (.v (.sh (.bl k))) ρ) : tOfE fa ρ = .ok k ρ := by unfold tOfE; rw [A]; rfl
theorem pt_tru {k : Bool} {a : D} (A : fa ρ = .ok r ρ) (la : look r ρ = some a) (h : gTru a = some k) : eTru fa ρ = .ok k ρ := by
  unfold eTru; rw [A]; simp only [Out.bind, la, h]
theorem pt_not {k : Bool} (A : q ρ = .ok k ρ) : eNot q ρ = .ok (!k) ρ := by unfold eNot; rw [A]; rfl
theorem pt_and {k k' : Bool} (A : q1 ρ = .ok k ρ) (B : q2 ρ = .ok k' ρ) : eAnd q1 q2 ρ = .ok (k && k') ρ := by
  unfold eAnd; rw [A]; cases k
  · rfl
  · exact B
theorem pt_or {k k' : Bool} (A : q1 ρ = .ok k ρ) (B : q2 ρ = .ok k' ρ) : eOr q1 q2 ρ = .ok (k || k') ρ := by
  unfold eOr; rw [A]; cases k
  · exact B
  · rfl
theorem pu_notV {k : Bool} (A : fa ρ = .ok (.v (.sh (.bl k))) ρ) : eNotV fa ρ = .ok (.v (.sh (.bl (!k)))) ρ := by unfold eNotV; rw [A]; rfl
theorem pu_andV {k k' : Bool} (A : fa ρ = .ok (.v (.sh (.bl k))) ρ) (B : fb ρ = .ok (.v (.sh (.bl k'))) ρ) : eAndV fa fb ρ = .ok (.v (.sh (.bl (k && k')))) ρ := by
  unfold eAndV; rw [A]; cases k
  · rfl
  · exact B
theorem pu_orV {k k' : Bool} (A : fa ρ = .ok (.v (.sh (.bl k))) ρ) (B : fb ρ = .ok (.v (.sh (.bl k'))) ρ) : eOrV fa fb ρ = .ok (.v (.sh (.bl (k || k')))) ρ := by
  unfold eOrV; rw [A]; cases k
  · exact B
  · rfl
/-- a if c else b, both of one kind of value -/
theorem pu_if {τ : Type} {enc : τ → D} {k : Bool} {x y : τ} (C : q ρ = .ok k ρ) (A : fa ρ = .ok (.v (.sh (enc x))) ρ) (B : fb ρ = .ok (.v (.sh (enc y))) ρ) : eIf q fa fb ρ = .ok (.v (.sh (enc (if k = true then x else y)))) ρ := by
  unfold eIf; rw [C]; cases k
  · exact B
  · exact A
theorem pu_ifL {τ : Type} {enc : τ → D} {k : Bool} {x y : List τ} (C : q ρ = .ok k ρ) (A : fa ρ = .ok (.v (.lst (shs (x.map enc)))) ρ) (B : fb ρ = .ok (.v (.lst (shs (y.map enc)))) ρ) : eIf q fa fb ρ = .ok (.v (.lst (shs ((if k = true then x else y).map enc)))) ρ := by
  unfold eIf; rw [C]; cases k
  · exact B
  · exact A
theorem pu_chain {g g' : D → D → Option Slot} {r1 r2 r3 : R} {a b c : D} {k k' : Bool} (A : fa ρ = .ok r1 ρ) (B : fb ρ = .ok r2 ρ) (C : fc ρ = .ok r3 ρ) (la : look r1 ρ = some a) (lb : look r2 ρ = some b) (lc : look r3 ρ = some c) (h : g a b = some (.sh (.bl k))) (h' : g' b c = some (.sh (.bl k'))) :
    eChain g g' fa fb fc ρ = .ok (.v (.sh (.bl (k && k')))) ρ := by
  unfold eChain; rw [A]; simp only [Out.bind]; rw [B]; simp only [Out.bind, la, lb, h]
  cases k
  · rfl
  · simp only [if_true]; rw [C]; simp only [Out.bind, lb, lc, h', Bool.true_and]
/-! slices -/
theorem po_none : oNone ρ = .ok none ρ := rfl
theorem po_some {j : Int} (A : fa ρ = .ok r ρ) (la : look r ρ = some (.int j)) : oSome fa ρ = .ok (some j) ρ := by unfold oSome; rw [A]; simp only [Out.bind, la]
theorem pu_sl {fl fh : Sl → Out (Option Int)} {lo hi : Option Int} {a : D} (A : fa ρ = .ok r ρ) (B : fl ρ = .ok lo ρ) (C : fh ρ = .ok hi ρ) (la : look r ρ = some a) (h : gSl a lo hi = some s) : eSl fa fl fh ρ = .ok (.v s) ρ := by
  unfold eSl; rw [A]; simp only [Out.bind]; rw [B]; simp only [Out.bind]; rw [C]; simp only [Out.bind, la, h]
theorem cutD_map {α : Type} (e : α → D) (xs : List α) (lo hi : Option Int) : cutD (xs.map e) lo hi = (cutD xs lo hi).map e := by
  unfold cutD; rw [List.length_map, List.map_take, List.map_drop]
theorem o_slL {α : Type} {e : α → D} {xs : List α} {lo hi : Option Int} : gSl (.lst (xs.map e)) lo hi = some (.lst (shs ((cutD xs lo hi).map e))) := by rw [← cutD_map]; rfl
theorem o_slT {α : Type} {e : α → D} {xs : List α} {lo hi : Option Int} : gSl (.tup (xs.map e)) lo hi = some (.sh (.tup ((cutD xs lo hi).map e))) := by rw [← cutD_map]; rfl
end
/-! ### operators -/
theorem o_add (i j : Int) : gAdd (.int i) (.int j) = some (.sh (.int (i + j))) := rfl
theorem o_addL {α : Type} {e : α → D} {xs ys : List α} (h : xs.length + ys.length ≤ LIM) : gAdd (.lst (xs.map e)) (.lst (ys.map e)) = some (.lst (shs ((xs ++ ys).map e))) := by
  show (if (xs.map e).length + (ys.map e).length ≤ LIM then some (Slot.lst (shs (xs.map e ++ ys.map e))) else none) = _
  rw [List.length_map, List.length_map, if_pos h, List.map_append]
theorem o_addT {α : Type} {e : α → D} {xs ys : List α} (h : xs.length + ys.length ≤ LIM) : gAdd (.tup (xs.map e)) (.tup (ys.map e)) = some (.sh (.tup ((xs ++ ys).map e))) := by
  show (if (xs.map e).length + (ys.map e).length ≤ LIM then some (Slot.sh (.tup (xs.map e ++ ys.map e))) else none) = _
  rw [List.length_map, List.length_map, if_pos h, List.map_append]
theorem o_sub (i j : Int) : gSubt (.int i) (.int j) = some (.sh (.int (i - j))) := rfl
theorem o_mul {i j : Int} (h : cMul i j = true) : gMul (.int i) (.int j) = some (.sh (.int (i * j))) := by
  show (if cMul i j = true then _ else _) = _; rw [if_pos h]
theorem o_div {i j : Int} (h : cDiv i j = true) : gDiv (.int i) (.int j) = some (.sh (.int (i / j))) := by
  show (if cDiv i j = true then _ else _) = _; rw [if_pos h]
theorem o_mod {i j : Int} (h : 0 < j) : gMod (.int i) (.int j) = some (.sh (.int (i % j))) := by
  show (if cMod i j = true then _ else _) = _; rw [if_pos (decide_eq_true h)]
theorem o_lt (i j : Int) : gLt (.int i) (.int j) = some (.sh (.bl (decide (i < j)))) := rfl
theorem o_le (i j : Int) : gLe (.int i) (.int j) = some (.sh (.bl (decide (i ≤ j)))) := rfl
theorem o_gt (i j : Int) : gGt (.int i) (.int j) = some (.sh (.bl (decide (j < i)))) := rfl
theorem o_ge (i j : Int) : gGe (.int i) (.int j) = some (.sh (.bl (decide (j ≤ i)))) := rfl
theorem o_eq (i j : Int) : gEq (.int i) (.int j) = some (.sh (.bl (i == j))) := rfl
theorem o_ne (i j : Int) : gNe (.int i) (.int j) = some (.sh (.bl (!(i == j)))) := rfl
theorem o_eqB (i j : Bool) : gEq (.bl i) (.bl j) = some (.sh (.bl (i == j))) := rfl
theorem o_neB (i j : Bool) : gNe (.bl i) (.bl j) = some (.sh (.bl (!(i == j)))) := rfl
theorem o_neg (i : Int) : gNeg (.int i) = some (.sh (.int (-i))) := rfl
theorem o_abs (i : Int) : gAbs (.int i) = some (.sh (.int (if i < 0 then -i else i))) := rfl
theorem o_int (i : Int) : gToInt (.int i) = some (.sh (.int i)) := rfl
theorem o_intB (b : Bool) : gToInt (.bl b) = some (.sh (.int (if b then 1 else 0))) := rfl
theorem o_max (i j : Int) : gM2 mx (.int i) (.int j) = some (.sh (.int (mx i j))) := rfl
theorem o_min (i j : Int) : gM2 mn (.int i) (.int j) = some (.sh (.int (mn i j))) := rfl
theorem o_dm {i j : Int} (h : 0 < j ∧ j < 1073741824) : gDm (.int i) (.int j) = some (.sh (.tup [.int (i / j), .int (i % j)])) := by
  show (if 0 < j ∧ j < 1073741824 then _ else _) = _; rw [if_pos h]
theorem atI_map {α : Type} (e : α → D) {xs : List α} {i : Int} {x : α} (h : atI xs i = some x) : atI (xs.map e) i = some (e x) := by
  unfold atI at *; rw [List.length_map]
  cases q : ixN xs.length i with
  | none => rw [q] at h; cases h
  | some j =>
    rw [q] at h
    have h : xs[j]? = some x := h
    show (xs.map e)[j]? = _
    rw [List.getElem?_map, h]; rfl
theorem o_ixL {α : Type} {e : α → D} {xs : List α} {i : Int} {x : α} (h : atI xs i = some x) : gIx (.lst (xs.map e)) (.int i) = some (.sh (e x)) := by
  show (atI (xs.map e) i).map Slot.sh = _; rw [atI_map e h]; rfl
theorem o_ixT {α : Type} {e : α → D} {xs : List α} {i : Int} {x : α} (h : atI xs i = some x) : gIx (.tup (xs.map e)) (.int i) = some (.sh (e x)) := by
  show (atI (xs.map e) i).map Slot.sh = _; rw [atI_map e h]; rfl
theorem o_ixC {ds : List D} {i : Int} {x : D} (h : atI ds i = some x) : gIx (.tup ds) (.int i) = some (.sh x) := by
  show (atI ds i).map Slot.sh = _; rw [h]; rfl
theorem o_lenL {α : Type} {e : α → D} {xs : List α} : gLen (.lst (xs.map e)) = some (.sh (.int (xs.length : Nat))) := by
  show some (Slot.sh (.int ((xs.map e).length : Nat))) = _; rw [List.length_map]
theorem o_lenT {α : Type} {e : α → D} {xs : List α} : gLen (.tup (xs.map e)) = some (.sh (.int (xs.length : Nat))) := by
  show some (Slot.sh (.int ((xs.map e).length : Nat))) = _; rw [List.length_map]
theorem o_toL {α : Type} {e : α → D} {xs : List α} : gToL (.lst (xs.map e)) = some (.lst (shs (xs.map e))) := rfl
theorem o_toLT {α : Type} {e : α → D} {xs : List α} : gToL (.tup (xs.map e)) = some (.lst (shs (xs.map e))) := rfl
theorem o_toT {α : Type} {e : α → D} {xs : List α} : gToT (.lst (xs.map e)) = some (.sh (.tup (xs.map e))) := rfl
theorem o_toTT {α : Type} {e : α → D} {xs : List α} : gToT (.tup (xs.map e)) = some (.sh (.tup (xs.map e))) := rfl
theorem o_truL {α : Type} {e : α → D} {xs : List α} : gTru (.lst (xs.map e)) = some (!xs.isEmpty) := by cases xs <;> rfl
theorem o_truT {α : Type} {e : α → D} {xs : List α} : gTru (.tup (xs.map e)) = some (!xs.isEmpty) := by cases xs <;> rfl
theorem o_truI (i : Int) : gTru (.int i) = some (i != 0) := rfl
theorem ints_map (xs : List Int) : intsOf (xs.map D.int) = some xs := by
  induction xs with
  | nil => rfl
  | cons x xs ih => rw [List.map_cons, intsOf, ih]; rfl
theorem bls_map (xs : List Bool) : blsOf (xs.map D.bl) = some xs := by
  induction xs with
  | nil => rfl
  | cons x xs ih => rw [List.map_cons, blsOf, ih]; rfl
theorem o_sum {xs : List Int} : gSum (.lst (xs.map D.int)) = some (.sh (.int xs.sum)) := by
  show (intsOf (xs.map D.int)).map _ = _; rw [ints_map]; rfl
theorem o_sorted {xs : List Int} : gSorted (.lst (xs.map D.int)) = some (.lst (shs ((isort xs).map D.int))) := by
  show (intsOf (xs.map D.int)).map _ = _; rw [ints_map]; rfl
theorem o_any {xs : List Bool} : gAny (.lst (xs.map D.bl)) = some (.sh (.bl (xs.any id))) := by
  show (blsOf (xs.map D.bl)).map _ = _; rw [bls_map]; rfl
theorem o_all {xs : List Bool} : gAll (.lst (xs.map D.bl)) = some (.sh (.bl (xs.all id))) := by
  show (blsOf (xs.map D.bl)).map _ = _; rw [bls_map]; rfl
/-- nothing or a value -/
def eO {α : Type} (e : α → D) : Option α → D
  | none => .non
  | some x => e x
theorem eO_some {α : Type} {e : α → D} {o : Option α} {x : α} (h : o = some x) : eO e o = e x := by rw [h]; rfl
theorem o_isN {α : Type} {e : α → D} {o : Option α} (he : ∀ x, gIsN false (e x) .non = some (.sh (.bl false))) : gIsN false (eO e o) .non = some (.sh (.bl o.isNone)) := by
  cases o with
  | none => rfl
  | some x => exact he x
theorem o_notN {α : Type} {e : α → D} {o : Option α} (he : ∀ x, gIsN true (e x) .non = some (.sh (.bl true))) : gIsN true (eO e o) .non = some (.sh (.bl o.isSome)) := by
  cases o with
  | none => rfl
  | some x => exact he x
abbrev eL {α : Type} (e : α → D) (xs : List α) : D := .lst (xs.map e)
abbrev eT {α : Type} (e : α → D) (xs : List α) : D := .tup (xs.map e)
abbrev eP2 {α β : Type} (a : α → D) (b : β → D) (p : α × β) : D := .tup [a p.1, b p.2]
abbrev eP3 {α β γ : Type} (a : α → D) (b : β → D) (c : γ → D) (p : α × β × γ) : D := .tup [a p.1, b p.2.1, c p.2.2]
abbrev eP4 {α β γ δ : Type} (a : α → D) (b : β → D) (c : γ → D) (d : δ → D) (p : α × β × γ × δ) : D := .tup [a p.1, b p.2.1, c p.2.2.1, d p.2.2.2]
abbrev eP5 {α β γ δ ε : Type} (a : α → D) (b : β → D) (c : γ → D) (d : δ → D) (e : ε → D) (p : α × β × γ × δ × ε) : D := .tup [a p.1, b p.2.1, c p.2.2.1, d p.2.2.2.1, e p.2.2.2.2]
abbrev eU : Unit → D := fun _ => .non
end Sep

/-! TyB: wishes about typed values, statements, loops, calls. -/
namespace Sep
open PySem L2
/-! ### words of a wish -/
/-- a draw: any number below n -/
def wDraw (n : Int) (K : Int → Prop) : Prop := (0 < n ∧ n.natAbs.log2 < 9000) ∧ ∀ z, 0 ≤ z → z < n → K z
def wIx {α : Type} (xs : List α) (i : Int) (K : α → Prop) : Prop := ∃ x, atI xs i = some x ∧ K x
def wGet {α : Type} (o : Option α) (K : α → Prop) : Prop := ∃ x, o = some x ∧ K x
/-- several ways join -/
def wJ {σ : Type} (F : (σ → Prop) → Prop) (K : σ → Prop) : Prop := F K
/-- an operation upon data -/
def wB (o : Option Slot) (K : Bool → Prop) : Prop := ∃ b, o = some (.sh (.bl b)) ∧ K b
def wI (o : Option Slot) (K : Int → Prop) : Prop := ∃ b, o = some (.sh (.int b)) ∧ K b
def wD (o : Option Slot) (K : D → Prop) : Prop := ∃ b, o = some (.sh b) ∧ K b
def wFor {α σ : Type} (body : α → σ → (σ → Prop) → (σ → Prop) → Prop) : List α → σ → (σ → Prop) → Prop
  | [], s, K => K s
  | x :: xs, s, K => body x s (fun s' => wFor body xs s' K) K
def wWhile {σ : Type} (C : σ → (Bool → Prop) → Prop) (body : σ → (σ → Prop) → (σ → Prop) → Prop) : Nat → σ → (σ → Prop) → Prop
  | 0, _, _ => False
  | n + 1, s, K => C s fun b => if b = true then body s (fun s' => wWhile C body n s' K) K else K s
def wComp {α β : Type} (body : α → (Option β → Prop) → Prop) : List α → (List β → Prop) → Prop
  | [], K => K []
  | x :: xs, K => body x fun o => wComp body xs fun ys => K (o.toList ++ ys)
section
variable {α β σ : Type} {K K' : α → Sl → Prop} {X X' : XP} {o : Out α} {nx : Sl → Prop} {rt : Slot → Sl → Prop} {ex : XP} {bk ct : Sl → Prop} {ρ ρ1 : Sl} {f g fa fb fc fe fo : Ev} {q q1 q2 : Sl → Out Bool} {b b1 b2 : SEv} {i n : Nat} {s : Slot} {d : D} {r : R} {gg : D → D → Option Slot} {rs : List R} {KR : R → Sl → Prop} {KB : Bool → Sl → Prop}
/-! ### expressions, step by step -/
theorem ge_op (h : Go (fun r1 ρ1 => Go (fun r2 ρ2 => ∃ a b s, look r1 ρ2 = some a ∧ look r2 ρ2 = some b ∧ gg a b = some s ∧ KR (.v s) ρ2) X (fb ρ1)) X (fa ρ)) : Go KR X (eOp gg fa fb ρ) := by with_unfolding_all
  refine go_bind (h.imp fun r1 ρ1 h => go_bind (h.imp fun r2 ρ2 h => ?_))
  obtain ⟨a, b, s, e1, e2, e3, k⟩ := h
  simp only [e1, e2, e3]; exact k
theorem ge_un {g : D → Option Slot} (h : Go (fun r1 ρ1 => ∃ a s, look r1 ρ1 = some a ∧ g a = some s ∧ KR (.v s) ρ1) X (fa ρ)) : Go KR X (eUn g fa ρ) := by with_unfolding_all
  refine go_bind (h.imp fun r1 ρ1 h => ?_)
  obtain ⟨a, s, e1, e2, k⟩ := h
  simp only [e1, e2]; exact k
theorem ga_nil {K : List R → Sl → Prop} (h : K [] ρ) : Go K X (aNil ρ) := by with_unfolding_all exact (h)
theorem ga_cons {K : List R → Sl → Prop} {fs : Sl → Out (List R)} (h : Go (fun r ρ1 => Go (fun rs ρ2 => K (r :: rs) ρ2) X (fs ρ1)) X (fa ρ)) : Go K X (aCons fa fs ρ) := by with_unfolding_all exact (go_bind (h.imp fun r ρ1 h => go_bind (h.imp fun rs ρ2 h => h)))
theorem ge_cb1 {g : D → Option Slot} (h : Go (fun r1 ρ1 => ∃ a s, look r1 ρ1 = some a ∧ g a = some s ∧ KR (.v s) ρ1) X (fa ρ)) : Go KR X (eCB (g1 g) (aCons fa aNil) ρ) := by with_unfolding_all
  refine go_bind (ga_cons (h.imp fun r1 ρ1 h => ?_))
  obtain ⟨a, s, e1, e2, k⟩ := h
  show Go KR X (match looks [r1] ρ1 with | some ds => _ | none => _)
  simp only [looks, e1, g1, e2]; exact k
theorem ge_cb2 {g : D → D → Option Slot} (h : Go (fun r1 ρ1 => Go (fun r2 ρ2 => ∃ a b s, look r1 ρ2 = some a ∧ look r2 ρ2 = some b ∧ g a b = some s ∧ KR (.v s) ρ2) X (fb ρ1)) X (fa ρ)) : Go KR X (eCB (g2 g) (aCons fa (aCons fb aNil)) ρ) := by with_unfolding_all
  refine go_bind (ga_cons (h.imp fun r1 ρ1 h => ga_cons (h.imp fun r2 ρ2 h => ?_)))
  obtain ⟨a, b, s, e1, e2, e3, k⟩ := h
  show Go KR X (match looks [r1, r2] ρ2 with | some ds => _ | none => _)
  simp only [looks, e1, e2, g2, e3]; exact k
theorem ge_tup {fs : Sl → Out (List R)} (h : Go (fun rs ρ1 => ∃ ds ρ2, consAll rs ρ1 = .ok ds ρ2 ∧ ds.length ≤ LIM ∧ KR (.v (.sh (.tup ds))) ρ2) X (fs ρ)) : Go KR X (eTup fs ρ) := by with_unfolding_all
  refine go_bind (h.imp fun rs ρ1 h => ?_)
  obtain ⟨ds, ρ2, e, l, k⟩ := h
  rw [e]; show Go KR X (if ds.length ≤ LIM then _ else _); rw [if_pos l]; exact k
theorem ge_lst {fs : Sl → Out (List R)} (h : Go (fun rs ρ1 => ∃ ds ρ2, consAll rs ρ1 = .ok ds ρ2 ∧ ds.length ≤ LIM ∧ KR (.v (.lst (shs ds))) ρ2) X (fs ρ)) : Go KR X (eLst fs ρ) := by with_unfolding_all
  refine go_bind (h.imp fun rs ρ1 h => ?_)
  obtain ⟨ds, ρ2, e, l, k⟩ := h
  rw [e]; show Go KR X (if ds.length ≤ LIM then _ else _); rw [if_pos l]; exact k
theorem ge_fz (h : Go (fun r ρ1 => ∃ d ρ2, consAll [r] ρ1 = .ok [d] ρ2 ∧ KR (.v (.sh d)) ρ2) X (fa ρ)) : Go KR X (eFz fa ρ) := by with_unfolding_all
  refine go_bind (h.imp fun r ρ1 h => ?_)
  obtain ⟨d, ρ2, e, k⟩ := h
  unfold consAll at e
  cases q : cons r ρ1 with
  | ok d1 ρ3 => rw [q] at e; cases e; exact k
  | exc => rw [q] at e; cases e
  | stuck => rw [q] at e; cases e
theorem gt_e (h : Go (fun r ρ1 => ∃ k, r = .v (.sh (.bl k)) ∧ KB k ρ1) X (fa ρ)) : Go KB X (tOfE fa ρ) := by with_unfolding_all exact (go_bind (h.imp fun r ρ1 h => by obtain ⟨k, e, h⟩ := h; subst e; exact h))
theorem gt_tru (h : Go (fun r ρ1 => ∃ a k, look r ρ1 = some a ∧ gTru a = some k ∧ KB k ρ1) X (fa ρ)) : Go KB X (eTru fa ρ) := by with_unfolding_all exact (go_bind (h.imp fun r ρ1 h => by obtain ⟨a, k, e1, e2, h⟩ := h; simp only [e1, e2]; exact h))
theorem gt_not (h : Go (fun k ρ1 => KB (!k) ρ1) X (q ρ)) : Go KB X (eNot q ρ) := by with_unfolding_all exact (go_bind (h.imp fun _ _ h => h))
theorem gt_and (h : Go (fun k ρ1 => if k = true then Go KB X (q2 ρ1) else KB false ρ1) X (q1 ρ)) : Go KB X (eAnd q1 q2 ρ) := by with_unfolding_all exact (go_bind (h.imp fun k ρ1 h => by cases k <;> exact h))
theorem gt_or (h : Go (fun k ρ1 => if k = true then KB true ρ1 else Go KB X (q2 ρ1)) X (q1 ρ)) : Go KB X (eOr q1 q2 ρ) := by with_unfolding_all exact (go_bind (h.imp fun k ρ1 h => by cases k <;> exact h))
theorem ge_andV (h : Go (fun r ρ1 => ∃ k, r = .v (.sh (.bl k)) ∧ if k = true then Go KR X (fb ρ1) else KR (.v (.sh (.bl false))) ρ1) X (fa ρ)) : Go KR X (eAndV fa fb ρ) := by with_unfolding_all exact (go_bind (h.imp fun r ρ1 h => by obtain ⟨k, e, h⟩ := h; subst e; cases k <;> exact h))
theorem ge_orV (h : Go (fun r ρ1 => ∃ k, r = .v (.sh (.bl k)) ∧ if k = true then KR (.v (.sh (.bl true))) ρ1 else Go KR X (fb ρ1)) X (fa ρ)) : Go KR X (eOrV fa fb ρ) := by with_unfolding_all exact (go_bind (h.imp fun r ρ1 h => by obtain ⟨k, e, h⟩ := h; subst e; cases k <;> exact h))
theorem ge_notV (h : Go (fun r ρ1 => ∃ k, r = .v (.sh (.bl k)) ∧ KR (.v (.sh (.bl (!k)))) ρ1) X (fa ρ)) : Go KR X (eNotV fa ρ) := by with_unfolding_all exact (go_bind (h.imp fun r ρ1 h => by obtain ⟨k, e, h⟩ := h; subst e; exact h))
theorem ge_if (h : Go (fun k ρ1 => if k = true then Go KR X (fa ρ1) else Go KR X (fb ρ1)) X (q ρ)) : Go KR X (eIf q fa fb ρ) := go_bind (h.imp fun k ρ1 h => by cases k <;> exact h)
theorem ge_sl {fl fh : Sl → Out (Option Int)} (h : Go (fun r ρ1 => Go (fun lo ρ2 => Go (fun hi ρ3 => ∃ a s, look r ρ3 = some a ∧ gSl a lo hi = some s ∧ KR (.v s) ρ3) X (fh ρ2)) X (fl ρ1)) X (fa ρ)) : Go KR X (eSl fa fl fh ρ) := by with_unfolding_all
  refine go_bind (h.imp fun r ρ1 h => go_bind (h.imp fun lo ρ2 h => go_bind (h.imp fun hi ρ3 h => ?_)))
  obtain ⟨a, s, e1, e2, k⟩ := h
  simp only [e1, e2]; exact k
theorem gp_some {K : Option Int → Sl → Prop} (h : Go (fun r ρ1 => ∃ j, look r ρ1 = some (.int j) ∧ K (some j) ρ1) X (fa ρ)) : Go K X (oSome fa ρ) := by with_unfolding_all exact (go_bind (h.imp fun r ρ1 h => by obtain ⟨j, e, h⟩ := h; simp only [e]; exact h))
/-- ways that join -/
theorem go_join {K : β → Sl → Prop} {o : Out β} {F : (σ → Prop) → Prop} {C : σ → Prop} (P : σ → β → Sl → Prop) (h : wJ F C) (hA : ∀ k, F k → Go (fun a ρ => ∃ s, k s ∧ P s a ρ) X o) (hB : ∀ s a ρ, C s → P s a ρ → K a ρ) : Go K X o :=
  (hA C h).imp fun a ρ ⟨s, c, q⟩ => hB s a ρ c q
/-! ### calls -/
theorem gc_data {F : FnD} {fs : Sl → Out (List R)} (h : Go (fun rs ρ1 => ∃ ds ρ2, consAll rs ρ1 = .ok ds ρ2 ∧ ds.length = n ∧ Go (fun s _ => KR (.v s) ρ2) (fun c ns es _ => X c ns es ρ2) (F (shs ds))) X (fs ρ)) : Go KR X (eCallF n F fs ρ) := by with_unfolding_all
  refine go_bind (h.imp fun rs ρ1 h => ?_)
  obtain ⟨ds, ρ2, e, l, k⟩ := h
  rw [e]; show Go KR X (if ds.length = n then _ else _); rw [if_pos l]
  cases z : F (shs ds) <;> rw [z] at k <;> exact k
theorem gc_view {F : FnD} {fs : Sl → Out (List R)} (h : Go (fun rs ρ1 => rs.length = n ∧ ∃ ds, views rs ρ1 = some ds ∧ Go (fun s _ => ∃ d, s = .sh d ∧ d.scal = true ∧ KR (.v (.sh d)) ρ1) (fun _ _ _ _ => False) (F (shs ds))) X (fs ρ)) : Go KR X (eCallV n F fs ρ) := by
  refine go_bind (h.imp fun rs ρ1 h => ?_)
  obtain ⟨l, ds, e, k⟩ := h
  rw [if_pos l, e]
  cases z : F (shs ds) with
  | ok s fs =>
    rw [z] at k
    replace k := k.ok_e; obtain ⟨d, es, hs, k⟩ := k
    subst es
    simp only [z, hs, if_true]; with_unfolding_all exact k
  | exc => rw [z] at k; exact k.exc_e.elim
  | stuck => rw [z] at k; exact k.stuck_e.elim
theorem gc_lend {F : FnD} {fs : Sl → Out (List R)} (h : Go (fun rs ρ1 => rs.length = n ∧ Go (fun s gs => KR (.v s) (giveB rs gs (lend rs ρ1).2)) (fun c ns es gs => X c ns es (giveB rs gs (lend rs ρ1).2)) (F (lend rs ρ1).1)) X (fs ρ)) : Go KR X (eCallN n F fs ρ) := by with_unfolding_all
  refine go_bind (h.imp fun rs ρ1 h => ?_)
  obtain ⟨l, k⟩ := h
  rw [if_pos l]; unfold callOn
  cases z : F (lend rs ρ1).1 <;> rw [z] at k <;> exact k
theorem gc_key {N : Nat} {tm : List (Nat × Nat)} {dD mD : List D} {F : FnD} {fs fz : Sl → Out (List R)} (h : Go (fun rs ρ1 => Go (fun zs ρ2 => ∃ ds ρ3, consAll (rs ++ zs) ρ2 = .ok ds ρ3 ∧ (rs.length = n ∧ (mix tm n dD mD ds).length = N) ∧ Go (fun s _ => KR (.v s) ρ3) (fun c ns es _ => X c ns es ρ3) (F (shs (mix tm n dD mD ds)))) X (fz ρ1)) X (fs ρ)) : Go KR X (eCallK N n tm dD mD F fs fz ρ) := by with_unfolding_all
  refine go_bind (h.imp fun rs ρ1 h => go_bind (h.imp fun zs ρ2 h => ?_))
  obtain ⟨ds, ρ3, e, l, k⟩ := h
  rw [e]; show Go KR X (if _ then _ else _); rw [if_pos l]
  cases z : F (shs (mix tm n dD mD ds)) <;> rw [z] at k <;> exact k
theorem gc_make {c : Str} {N : Nat} {tm : List (Nat × Nat)} {dD mD : List D} {F : FnD} {fs fz : Sl → Out (List R)} (h : Go (fun rs ρ1 => Go (fun zs ρ2 => ∃ ds ρ3, consAll (rs ++ zs) ρ2 = .ok ds ρ3 ∧ (rs.length = n ∧ (mix tm n dD mD ds).length + 1 = N) ∧ Go (fun s gs => ∃ s0 gr, s = .sh .non ∧ gs = s0 :: gr ∧ KR (.v s0) ρ3) (fun c ns es _ => X c ns es ρ3) (F (.obj c [] [] :: shs (mix tm n dD mD ds)))) X (fz ρ1)) X (fs ρ)) : Go KR X (eMakeK c N n tm dD mD F fs fz ρ) := by with_unfolding_all
  refine go_bind (h.imp fun rs ρ1 h => go_bind (h.imp fun zs ρ2 h => ?_))
  obtain ⟨ds, ρ3, e, l, k⟩ := h
  rw [e]; show Go KR X (if _ then _ else _); rw [if_pos l]
  cases z : F (.obj c [] [] :: shs (mix tm n dD mD ds)) with
  | ok s gs => rw [z] at k; replace k := k.ok_e; obtain ⟨s0, gr, e1, e2, k⟩ := k; subst e1 e2; exact k
  | exc => rw [z] at k; exact k
  | stuck => rw [z] at k; exact k
theorem gc_meth {cs m : Str} {N : Nat} {tm : List (Nat × Nat)} {dD mD : List D} {F : FnD} {fs : Sl → Out (List R)} (h : Go (fun r ρ1 => ∃ ns es, look r ρ1 = some (.obj cs ns es) ∧ ns.contains m = false ∧ Go (fun rs ρ2 => ∃ d ds ρ3, consAll (r :: rs) ρ2 = .ok (d :: ds) ρ3 ∧ (rs.length = n ∧ (mix tm n dD mD ds).length + 1 = N) ∧ Go (fun s _ => KR (.v s) ρ3) (fun c ns es _ => X c ns es ρ3) (F (shs (d :: mix tm n dD mD ds)))) X (fs ρ1)) X (fo ρ)) : Go KR X (eMethK cs m N n tm dD mD F fo fs ρ) := by with_unfolding_all
  refine go_bind (h.imp fun r ρ1 h => ?_)
  obtain ⟨ns, es, e1, e2, h⟩ := h
  simp only [e1, e2, and_self, if_true]
  refine go_bind (h.imp fun rs ρ2 h => ?_)
  obtain ⟨d, ds, ρ3, e, l, k⟩ := h
  rw [e]
  show Go KR X (if rs.length = n ∧ (mix tm n dD mD ds).length + 1 = N then retC ρ3 (F (shs (d :: mix tm n dD mD ds))) else .stuck)
  rw [if_pos l]
  cases z : F (shs (d :: mix tm n dD mD ds)) <;> rw [z] at k <;> exact k
theorem gc_obj {c : Str} {N : Nat} {F : FnD} {fs : Sl → Out (List R)} (h : Go (fun r ρ1 => ∃ ns es, look r ρ1 = some (.obj c ns es) ∧ Go (fun rs ρ2 => ∃ ns es dr ρ3, consAll (r :: rs) ρ2 = .ok (.obj c ns es :: dr) ρ3 ∧ (rs.length = n ∧ dr.length + 1 = N) ∧ Go (fun s _ => KR (.v s) ρ3) (fun c ns es _ => X c ns es ρ3) (F (shs (.obj c ns es :: dr)))) X (fs ρ1)) X (fo ρ)) : Go KR X (eObj c N n F fo fs ρ) := by with_unfolding_all
  refine go_bind (h.imp fun r ρ1 h => ?_)
  obtain ⟨ns, es, e1, h⟩ := h
  simp only [e1]
  refine go_bind (h.imp fun rs ρ2 h => ?_)
  obtain ⟨ns, es, dr, ρ3, e, l, k⟩ := h
  rw [e]; show Go KR X (if _ then _ else _); rw [if_pos ⟨rfl, l⟩]
  cases z : F (shs (.obj c ns es :: dr)) <;> rw [z] at k <;> exact k
theorem gc_own2 {c : Str} {cs : List Str} {F : FnD} (h : Go (fun r1 ρ1 => Go (fun r2 ρ2 => ∃ ns es d2 ρ3, consAll [r1, r2] ρ2 = .ok [.obj c ns es, d2] ρ3 ∧ gTy cs d2 = true ∧ Go (fun s _ => ∃ k, s = .sh (.bl k) ∧ KR (.v (.sh (.bl k))) ρ3) (fun _ _ _ _ => False) (F [.sh (.obj c ns es), .sh d2])) X (fb ρ1)) X (fa ρ)) : Go KR X (eOwn2 c cs F fa fb ρ) := by with_unfolding_all
  refine go_bind (h.imp fun r1 ρ1 h => go_bind (h.imp fun r2 ρ2 h => ?_))
  obtain ⟨ns, es, d2, ρ3, e, l, k⟩ := h
  rw [e]; show Go KR X (if _ then _ else _); rw [if_pos ⟨rfl, l⟩]
  cases z : F [.sh (.obj c ns es), .sh d2] with
  | ok s gs => rw [z] at k; replace k := k.ok_e; obtain ⟨k1, e1, k⟩ := k; subst e1; exact k
  | exc => rw [z] at k; exact k.elim
  | stuck => rw [z] at k; exact k.elim
end
end Sep

/-! TyC: statements, loops, comprehensions, defs. -/
namespace Sep
open PySem L2
section
variable {α β σ : Type} {K : α → Sl → Prop} {X X' : XP} {nx : Sl → Prop} {rt : Slot → Sl → Prop} {ex : XP} {bk ct : Sl → Prop} {ρ ρ1 : Sl} {f g fa fb fc fe fo : Ev} {q q1 q2 : Sl → Out Bool} {b b1 b2 : SEv} {i n : Nat} {s : Slot} {d : D} {r : R} {rs : List R} {KR : R → Sl → Prop} {KB : Bool → Sl → Prop}
theorem Gs.mono {nx' : Sl → Prop} {rt' : Slot → Sl → Prop} {ex' : XP} {bk' ct' : Sl → Prop} {o : Out Fl} (h : Gs nx rt ex bk ct o) (a : ∀ ρ, nx ρ → nx' ρ) (c : ∀ s ρ, rt s ρ → rt' s ρ) (d : ∀ ρ, bk ρ → bk' ρ) (e : ∀ ρ, ct ρ → ct' ρ) (f : ∀ c ns ds ρ, ex c ns ds ρ → ex' c ns ds ρ) : Gs nx' rt' ex' bk' ct' o := by with_unfolding_all
  cases o with
  | ok fl ρ => cases fl with
    | nx => exact a _ h
    | ret s => exact c _ _ h
    | bk => exact d _ h
    | ct => exact e _ h
  | exc c ns ds ρ => exact f _ _ _ _ h
  | stuck => exact h
theorem gs_seq (h : Gs (fun ρ1 => Gs nx rt ex bk ct (b2 ρ1)) rt ex bk ct (b1 ρ)) : Gs nx rt ex bk ct (sSeq b1 b2 ρ) := by with_unfolding_all
  unfold sSeq
  cases z : b1 ρ with
  | ok fl ρ1 => rw [z] at h; cases fl <;> exact h
  | exc => rw [z] at h; exact h
  | stuck => rw [z] at h; exact h
theorem gs_nil (h : nx ρ) : Gs nx rt ex bk ct (sNil ρ) := by with_unfolding_all exact (h)
theorem gs_pass (h : nx ρ) : Gs nx rt ex bk ct (sPass ρ) := by with_unfolding_all exact (h)
theorem gs_bk (h : bk ρ) : Gs nx rt ex bk ct (sBk ρ) := by with_unfolding_all exact (h)
theorem gs_ct (h : ct ρ) : Gs nx rt ex bk ct (sCt ρ) := by with_unfolding_all exact (h)
theorem gs_expr (h : Go (fun _ ρ1 => nx ρ1) ex (fa ρ)) : Gs nx rt ex bk ct (sExpr fa ρ) := by with_unfolding_all exact (gs_bind (h.imp fun _ _ h => h))
theorem gs_set (h : Go (fun r ρ1 => ∃ s ρ3, r = .v s ∧ ρ1.set i s = ρ3 ∧ nx ρ3) ex (fa ρ)) : Gs nx rt ex bk ct (sSet i fa ρ) := by with_unfolding_all exact (gs_bind (h.imp fun r ρ1 h => by obtain ⟨s, ρ3, e, e3, h⟩ := h; subst e e3; exact h))
theorem gs_setF (h : Go (fun r ρ1 => ∃ d ρ2 ρ3, consAll [r] ρ1 = .ok [d] ρ2 ∧ ρ2.set i (.sh d) = ρ3 ∧ nx ρ3) ex (fa ρ)) : Gs nx rt ex bk ct (sSetF i fa ρ) := by with_unfolding_all exact (gs_bind (h.imp fun r ρ1 h => by
  obtain ⟨d, ρ2, ρ3, e, e3, h⟩ := h
  subst e3
  unfold consAll at e
  cases q : cons r ρ1 with
  | ok d1 ρ3 => rw [q] at e; cases e; exact h
  | exc => rw [q] at e; cases e
  | stuck => rw [q] at e; cases e))
theorem gs_retF (h : Go (fun r ρ1 => ∃ d ρ2, consAll [r] ρ1 = .ok [d] ρ2 ∧ rt (.sh d) ρ2) ex (fa ρ)) : Gs nx rt ex bk ct (sRetF fa ρ) := by with_unfolding_all exact (gs_bind (h.imp fun r ρ1 h => by
  obtain ⟨d, ρ2, e, h⟩ := h
  unfold consAll at e
  cases q : cons r ρ1 with
  | ok d1 ρ3 => rw [q] at e; cases e; exact h
  | exc => rw [q] at e; cases e
  | stuck => rw [q] at e; cases e))
theorem gs_retMv (h : Go (fun r ρ1 => ∃ s, r = .v s ∧ rt s ρ1) ex (fa ρ)) : Gs nx rt ex bk ct (sRetM fa ρ) := by with_unfolding_all exact (gs_bind (h.imp fun r ρ1 h => by obtain ⟨s, e, h⟩ := h; subst e; exact h))
theorem gs_retMr (h : Go (fun r ρ1 => ∃ j s, r = .r j ∧ ρ1[j]? = some s ∧ rt s (ρ1.set j .no)) ex (fa ρ)) : Gs nx rt ex bk ct (sRetM fa ρ) := by with_unfolding_all exact (gs_bind (h.imp fun r ρ1 h => by obtain ⟨j, s, e, e2, h⟩ := h; subst e; simp only [e2]; exact h))
theorem gs_retN (h : rt (.sh .non) ρ) : Gs nx rt ex bk ct (sRetN ρ) := by with_unfolding_all exact (h)
theorem gs_if (h : Go (fun k ρ1 => if k = true then Gs nx rt ex bk ct (b1 ρ1) else Gs nx rt ex bk ct (b2 ρ1)) ex (q ρ)) : Gs nx rt ex bk ct (sIf q b1 b2 ρ) := gs_bind (h.imp fun k ρ1 h => by cases k <;> exact h)
theorem gs_asg {gg : D → Sl → Option Sl} (h : Go (fun r ρ1 => ∃ d ρ2 ρ3, consAll [r] ρ1 = .ok [d] ρ2 ∧ gg d ρ2 = some ρ3 ∧ nx ρ3) ex (fa ρ)) : Gs nx rt ex bk ct (sAsg gg fa ρ) := by with_unfolding_all exact (gs_bind (h.imp fun r ρ1 h => by
  obtain ⟨d, ρ2, ρ3, e, e2, h⟩ := h
  unfold consAll at e
  cases q : cons r ρ1 with
  | ok d1 ρ4 => rw [q] at e; cases e; simp only [Out.bind, e2]; exact h
  | exc => rw [q] at e; cases e
  | stuck => rw [q] at e; cases e))
/-- two ways of an if that join -/
theorem gs_join {F : (σ → Prop) → Prop} {C : σ → Prop} {o : Out Fl} (P : σ → Sl → Prop) (h : wJ F C) (hA : ∀ k, F k → Gs (fun ρ => ∃ s, k s ∧ P s ρ) rt ex bk ct o) (hB : ∀ s ρ, C s → P s ρ → nx ρ) : Gs nx rt ex bk ct o :=
  (hA C h).mono (fun ρ ⟨s, c, q⟩ => hB s ρ c q) (fun _ _ z => z) (fun _ z => z) (fun _ z => z) fun _ _ _ _ z => z
/-! x.append(e) -/
theorem gs_app {ss : List Slot} (hi : ρ[i]? = some (.lst ss)) (h : Go (fun r2 ρ2 => ∃ d ρ3 ds, consAll [r2] ρ2 = .ok [d] ρ3 ∧ ρ3[i]? = some (.lst (shs ds)) ∧ ds.length < LIM ∧ nx (ρ3.set i (.lst (shs (ds ++ [d]))))) ex (fb ρ)) : Gs nx rt ex bk ct (sExpr (eApp (eVar i) fb) ρ) := by with_unfolding_all
  refine gs_bind (go_bind (go_pu (pu_own hi) ?_))
  simp only [hi]
  refine go_bind (h.imp fun r2 ρ2 h => ?_)
  obtain ⟨d, ρ3, ds, e, e2, l, h⟩ := h
  unfold consAll at e
  cases q : cons r2 ρ2 with
  | ok d1 ρ4 =>
    rw [q] at e; cases e
    simp only [Out.bind, e2, shs, List.length_map, l, if_true]
    show nx _
    rw [show ∀ x, shs (ds ++ [x]) = shs ds ++ [.sh x] from fun _ => List.map_append] at h
    exact h
  | exc => rw [q] at e; cases e
  | stuck => rw [q] at e; cases e
/-! ### what a for walks -/
theorem gi_seqL {K : List D → Sl → Prop} (h : Go (fun r ρ1 => ∃ d ds ρ2, consAll [r] ρ1 = .ok [d] ρ2 ∧ (d = .lst ds ∨ d = .tup ds ∨ d = .rol ds) ∧ K ds ρ2) X (fa ρ)) : Go K X (iSeq fa ρ) := by with_unfolding_all exact (go_bind (h.imp fun r ρ1 h => by
  obtain ⟨d, ds, ρ2, e, e2, h⟩ := h
  unfold consAll at e
  cases q : cons r ρ1 with
  | ok d1 ρ4 => rw [q] at e; cases e; rcases e2 with rfl | rfl | rfl <;> exact h
  | exc => rw [q] at e; cases e
  | stuck => rw [q] at e; cases e))
/-- the numbers of a range -/
def rngZ (lo hi : Int) : List Int := (List.range (hi - lo).toNat).map fun (i : Nat) => lo + i
theorem rngZ_map (lo hi : Int) : rngD lo (hi - lo).toNat = (rngZ lo hi).map D.int := by unfold rngZ rngD; rw [List.map_map]; rfl
theorem len_rngZ (lo hi : Int) : (rngZ lo hi).length = (hi - lo).toNat := by unfold rngZ; rw [List.length_map, List.length_range]
theorem mem_rngZ {lo hi x : Int} : x ∈ rngZ lo hi ↔ lo ≤ x ∧ x < hi := by
  unfold rngZ
  rw [List.mem_map]
  constructor
  · rintro ⟨a, h, rfl⟩; rw [List.mem_range] at h; omega
  · intro h; exact ⟨(x - lo).toNat, by rw [List.mem_range]; omega, by omega⟩
abbrev rOk (i : Int) : Prop := i < 2 ^ 62 ∧ -(2 ^ 62) ≤ i
theorem gi_rng1 {K : List D → Sl → Prop} (h : Go (fun r ρ1 => ∃ j, look r ρ1 = some (.int j) ∧ rOk j ∧ K ((rngZ 0 j).map D.int) ρ1) X (fa ρ)) : Go K X (iRange1 fa ρ) := by with_unfolding_all exact (go_bind (h.imp fun r ρ1 h => by
  obtain ⟨j, e, l, h⟩ := h
  simp only [e]
  rw [if_pos ⟨l.1, l.2⟩]
  rw [← rngZ_map, Int.sub_zero] at h
  exact h))
theorem gi_rng2 {K : List D → Sl → Prop} (h : Go (fun r1 ρ1 => Go (fun r2 ρ2 => ∃ i j, look r1 ρ2 = some (.int i) ∧ look r2 ρ2 = some (.int j) ∧ rOk i ∧ rOk j ∧ K ((rngZ i j).map D.int) ρ2) X (fb ρ1)) X (fa ρ)) : Go K X (iRange2 fa fb ρ) := by with_unfolding_all exact (go_bind (h.imp fun r1 ρ1 h => go_bind (h.imp fun r2 ρ2 h => by
  obtain ⟨i, j, e1, e2, l1, l2, h⟩ := h
  simp only [e1, e2]
  rw [if_pos ⟨l1.1, l2.1, l1.2, l2.2⟩]
  rw [← rngZ_map] at h
  exact h)))
/-! ### loops -/
theorem gs_forL {enc : α → D} {tg : D → Sl → Option Sl} {W : α → σ → (σ → Prop) → (σ → Prop) → Prop} (I : σ → Sl → Prop) {C : σ → Prop} (hb : ∀ x s ρ k, I s ρ → W x s k C → ∃ ρ1, tg (enc x) ρ = some ρ1 ∧ Gs (fun ρ => ∃ s, k s ∧ I s ρ) rt ex (fun ρ => ∃ s, C s ∧ I s ρ) (fun ρ => ∃ s, k s ∧ I s ρ) (b ρ1)) (hk : ∀ s ρ, C s → I s ρ → nx ρ) :
    ∀ (xs : List α) (s : σ) (ρ : Sl), I s ρ → wFor W xs s C → Gs nx rt ex bk ct (forL tg b (xs.map enc) ρ)
  | [], s, ρ, hi, h => by with_unfolding_all exact (hk s ρ h hi)
  | x :: xs, s, ρ, hi, h => by
    obtain ⟨ρ1, e, g⟩ := hb x s ρ _ hi h
    rw [List.map_cons]; unfold forL; rw [e]
    show Gs nx rt ex bk ct (match b ρ1 with | .ok .nx ρ2 => _ | .ok .ct ρ2 => _ | .ok .bk ρ2 => _ | .ok (.ret s) ρ2 => _ | .exc c ns es ρ2 => _ | .stuck => _)
    cases z : b ρ1 with
    | stuck => rw [z] at g; with_unfolding_all exact g
    | exc => rw [z] at g; with_unfolding_all exact g
    | ok fl ρ2 =>
      rw [z] at g
      cases fl with
      | nx => obtain ⟨s', c, hi'⟩ := g.nx_e; exact gs_forL I hb hk xs s' ρ2 hi' c
      | ct => obtain ⟨s', c, hi'⟩ := g.ct_e; exact gs_forL I hb hk xs s' ρ2 hi' c
      | bk => obtain ⟨s', c, hi'⟩ := g.bk_e; with_unfolding_all exact (hk s' ρ2 c hi')
      | ret s => with_unfolding_all exact g
theorem gs_for {it : Sl → Out (List D)} {tg : D → Sl → Option Sl} (h : Go (fun ds ρ1 => Gs nx rt ex bk ct (forL tg b ds ρ1)) ex (it ρ)) : Gs nx rt ex bk ct (sFor it tg b ρ) := gs_bind h
theorem gs_while {W : σ → (σ → Prop) → (σ → Prop) → Prop} {Wc : σ → (Bool → Prop) → Prop} (I : σ → Sl → Prop) {C : σ → Prop} (hq : ∀ s ρ k, I s ρ → Wc s k → Go (fun c ρ1 => k c ∧ I s ρ1) ex (q ρ)) (hb : ∀ s ρ k, I s ρ → W s k C → Gs (fun ρ => ∃ s, k s ∧ I s ρ) rt ex (fun ρ => ∃ s, C s ∧ I s ρ) (fun ρ => ∃ s, k s ∧ I s ρ) (b ρ)) (hk : ∀ s ρ, C s → I s ρ → nx ρ) :
    ∀ (n : Nat) (s : σ) (ρ : Sl), I s ρ → wWhile Wc W n s C → Gs nx rt ex bk ct (sWhile n q b ρ)
  | 0, s, ρ, hi, h => h.elim
  | n + 1, s, ρ, hi, h => by
    have g := hq s ρ _ hi h
    show Gs nx rt ex bk ct ((q ρ).bind fun k ρ1 => if k then _ else _)
    cases z : q ρ with
    | stuck => rw [z] at g; with_unfolding_all exact g
    | exc => rw [z] at g; with_unfolding_all exact g
    | ok c ρ1 =>
      rw [z] at g
      replace g := g.ok_e; obtain ⟨k, hi1⟩ := g
      cases c with
      | false => with_unfolding_all exact (hk s ρ1 k hi1)
      | true =>
        have g := hb s ρ1 _ hi1 k
        show Gs nx rt ex bk ct (match b ρ1 with | .ok .nx ρ2 => _ | .ok .ct ρ2 => _ | .ok .bk ρ2 => _ | .ok (.ret s) ρ2 => _ | .exc c ns es ρ2 => _ | .stuck => _)
        cases z : b ρ1 with
        | stuck => rw [z] at g; with_unfolding_all exact g
        | exc => rw [z] at g; with_unfolding_all exact g
        | ok fl ρ2 =>
          rw [z] at g
          cases fl with
          | nx => obtain ⟨s', c, hi'⟩ := g.nx_e; exact gs_while I hq hb hk n s' ρ2 hi' c
          | ct => obtain ⟨s', c, hi'⟩ := g.ct_e; exact gs_while I hq hb hk n s' ρ2 hi' c
          | bk => obtain ⟨s', c, hi'⟩ := g.bk_e; with_unfolding_all exact (hk s' ρ2 c hi')
          | ret s => with_unfolding_all exact g
/-! ### comprehensions -/
theorem gc_loop {enc : α → D} {enc2 : β → D} {vs : List Nat} {tg : D → Sl → Option Sl} {pt : Sl → Out Bool} {W : α → (Option β → Prop) → Prop} (I : Sl → Prop) {C : List β → Prop} {KL : List D → Sl → Prop} (hb : ∀ x ρ k, I ρ → W x k → ∃ ρ1, tg (enc x) ρ = some ρ1 ∧
      Go (fun c ρ2 => if c = true then Go (fun r ρ3 => ∃ y ρ4, consAll [r] ρ3 = .ok [enc2 y] ρ4 ∧ k (some y) ∧ I (wipeR ρ4 vs)) (fun _ _ _ _ => False) (fe ρ2) else k none ∧ I (wipeR ρ2 vs)) (fun _ _ _ _ => False) (pt ρ1)) :
    ∀ (xs : List α) (acc : List β) (ρ : Sl), I ρ → acc.length + xs.length ≤ LIM → (∀ ys ρ', C ys → I ρ' → KL ((acc ++ ys).map enc2) ρ') → wComp W xs C → Go KL X (compL vs tg pt fe (xs.map enc) (acc.map enc2) ρ)
  | [], acc, ρ, hi, hl, hk, h => by
    have := hk [] ρ h hi
    rw [List.append_nil] at this
    with_unfolding_all exact this
  | x :: xs, acc, ρ, hi, hl, hk, h => by
    obtain ⟨ρ1, e, g⟩ := hb x ρ _ hi h
    rw [List.map_cons]; unfold compL; rw [e]
    show Go KL X (match pt ρ1 with | .ok true ρ2 => _ | .ok false ρ2 => _ | _ => _)
    rw [List.length_cons] at hl
    cases z : pt ρ1 with
    | stuck => rw [z] at g; exact g.stuck_e.elim
    | exc => rw [z] at g; exact g.exc_e.elim
    | ok c ρ2 =>
      rw [z] at g
      cases c with
      | false =>
        obtain ⟨k, hi'⟩ := (show _ ∧ _ from g.ok_e)
        exact gc_loop I hb xs acc _ hi' (by omega) hk k
      | true =>
        have g : Go _ _ (fe ρ2) := g.ok_e
        show Go KL X (match fe ρ2 with | .ok r ρ3 => _ | _ => _)
        cases z2 : fe ρ2 with
        | stuck => rw [z2] at g; exact g.stuck_e.elim
        | exc => rw [z2] at g; exact g.exc_e.elim
        | ok r ρ3 =>
          rw [z2] at g
          replace g := g.ok_e; obtain ⟨y, ρ4, e4, k, hi'⟩ := g
          unfold consAll at e4
          cases q : cons r ρ3 with
          | exc => rw [q] at e4; cases e4
          | stuck => rw [q] at e4; cases e4
          | ok d1 ρ5 =>
            rw [q] at e4; cases e4
            show Go KL X ((cons r ρ3).bind fun y ρ4 => if (acc.map enc2).length < LIM then compL vs tg pt fe (xs.map enc) (acc.map enc2 ++ [y]) (wipeR ρ4 vs) else .stuck)
            rw [q]
            show Go KL X (if (acc.map enc2).length < LIM then compL vs tg pt fe (xs.map enc) (acc.map enc2 ++ [enc2 y]) (wipeR ρ4 vs) else .stuck)
            rw [List.length_map, if_pos (by omega), show acc.map enc2 ++ [enc2 y] = (acc ++ [y]).map enc2 by rw [List.map_append]; rfl]
            refine gc_loop I hb xs (acc ++ [y]) _ hi' (by rw [List.length_append]; simp only [List.length_cons, List.length_nil]; omega) (fun ys ρ' c i' => ?_) k
            rw [List.append_assoc]
            exact hk _ _ c i'
theorem ge_comp {vs : List Nat} {it : Sl → Out (List D)} {tg : D → Sl → Option Sl} {pt : Sl → Out Bool} (h : Go (fun ds ρ1 => Go (fun ys ρ2 => KR (.v (.lst (shs ys))) ρ2) X (compL vs tg pt fe ds [] (wipeR ρ1 vs))) X (it ρ)) : Go KR X (eComp vs it tg pt fe ρ) := by with_unfolding_all exact (
  go_bind (h.imp fun ds ρ1 h => go_bind (h.imp fun ys ρ2 h => h)))
/-- with nothing to be written for -/
theorem gc_pure {enc : α → D} {enc2 : β → D} {vs : List Nat} {tg : D → Sl → Option Sl} {pt : Sl → Out Bool} {c : α → Bool} {fn : α → β} {KL : List D → Sl → Prop} {xs : List α} (hl : xs.length ≤ LIM)
    (hb : ∀ x, x ∈ xs → ∃ ρ1, tg (enc x) ρ = some ρ1 ∧ pt ρ1 = .ok (c x) ρ1 ∧ wipeR ρ1 vs = ρ ∧ (c x = true → ∃ s, fe ρ1 = .ok (.v s) ρ1 ∧ s.fr = some (enc2 (fn x)))) (h : KL (((xs.filter c).map fn).map enc2) ρ) : Go KL X (compL vs tg pt fe (xs.map enc) [] ρ) := by with_unfolding_all
  have key : ∀ (xs : List α) (acc : List D), acc.length + xs.length ≤ LIM → (∀ x, x ∈ xs → ∃ ρ1, tg (enc x) ρ = some ρ1 ∧ pt ρ1 = .ok (c x) ρ1 ∧ wipeR ρ1 vs = ρ ∧ (c x = true → ∃ s, fe ρ1 = .ok (.v s) ρ1 ∧ s.fr = some (enc2 (fn x)))) →
      compL vs tg pt fe (xs.map enc) acc ρ = .ok (acc ++ ((xs.filter c).map fn).map enc2) ρ := by
    intro xs
    induction xs with
    | nil => intro acc _ _; simp [compL]
    | cons x xs ih =>
      intro acc hl hb
      obtain ⟨ρ1, e1, e2, e3, e4⟩ := hb x List.mem_cons_self
      rw [List.length_cons] at hl
      have hr : ∀ y, y ∈ xs → _ := fun y hy => hb y (List.mem_cons_of_mem _ hy)
      rw [List.map_cons, compL, e1]
      simp only [e2]
      cases q : c x with
      | false =>
        simp only [e3]
        rw [ih acc (by omega) hr, List.filter_cons, q]; rfl
      | true =>
        obtain ⟨s, e5, e6⟩ := e4 q
        simp only [e5, cons, e6, Out.bind, e3]
        rw [if_pos (by omega), ih _ (by rw [List.length_append]; simp only [List.length_cons, List.length_nil]; omega) hr, List.filter_cons, q]
        simp
  rw [key xs [] (by simpa using hl) hb, List.nil_append]; exact h
end
end Sep

/-! TyD: exceptions, draws, defs, instances. -/
namespace Sep
open PySem L2
inductive Cl where
  | TellError
  | NameFault
  | BadName
  | DuplicateName
  | UnknownName
  | BadSpan
  | BadCount
  | BadLimit
  | BadLevel
  | BadChoice
  | BadRow
  | BadPlace
  | BadText
  | BadProgram
  | BadChange
  | OtherSchema
  | OrderFault
  | BadOrder
  | NotSilent
  | PinRing
  | NoPin
  | NotHidden
  | Refused
  | NotSteady
  | Spent
  | BadPrice
  | BadLot
  | TooWide
  deriving DecidableEq
def Cl.s : Cl → Str
  | .TellError => "TellError"
  | .NameFault => "NameFault"
  | .BadName => "BadName"
  | .DuplicateName => "DuplicateName"
  | .UnknownName => "UnknownName"
  | .BadSpan => "BadSpan"
  | .BadCount => "BadCount"
  | .BadLimit => "BadLimit"
  | .BadLevel => "BadLevel"
  | .BadChoice => "BadChoice"
  | .BadRow => "BadRow"
  | .BadPlace => "BadPlace"
  | .BadText => "BadText"
  | .BadProgram => "BadProgram"
  | .BadChange => "BadChange"
  | .OtherSchema => "OtherSchema"
  | .OrderFault => "OrderFault"
  | .BadOrder => "BadOrder"
  | .NotSilent => "NotSilent"
  | .PinRing => "PinRing"
  | .NoPin => "NoPin"
  | .NotHidden => "NotHidden"
  | .Refused => "Refused"
  | .NotSteady => "NotSteady"
  | .Spent => "Spent"
  | .BadPrice => "BadPrice"
  | .BadLot => "BadLot"
  | .TooWide => "TooWide"
/-- the fields, the last put first -/
def Cl.f : Cl → List Str
  | .TellError => []
  | .NameFault => ["name"]
  | .BadName => ["name"]
  | .DuplicateName => ["name"]
  | .UnknownName => ["name"]
  | .BadSpan => ["high", "low"]
  | .BadCount => ["number"]
  | .BadLimit => ["number"]
  | .BadLevel => ["level"]
  | .BadChoice => ["word"]
  | .BadRow => ["at"]
  | .BadPlace => ["at"]
  | .BadText => ["at"]
  | .BadProgram => ["at"]
  | .BadChange => ["name", "at"]
  | .OtherSchema => []
  | .OrderFault => []
  | .BadOrder => ["order"]
  | .NotSilent => ["order"]
  | .PinRing => ["name"]
  | .NoPin => ["second", "first"]
  | .NotHidden => ["row"]
  | .Refused => ["name"]
  | .NotSteady => []
  | .Spent => ["name"]
  | .BadPrice => ["number", "name"]
  | .BadLot => ["number"]
  | .TooWide => ["number"]
abbrev EP := Cl → List D → Prop
def exI (I : Sl → Prop) (E : EP) : XP := fun c ns ds ρ => ∃ k, c = Cl.s k ∧ ns = Cl.f k ∧ E k ds ∧ I ρ
abbrev exP (E : EP) : XP := exI (fun _ => True) E
section
variable {α β σ τ : Type} {K : Slot → Sl → Prop} {X X' : XP} {nx : Sl → Prop} {rt : Slot → Sl → Prop} {ex : XP} {bk ct : Sl → Prop} {ρ ρ1 : Sl} {f g fa fb fc fe fo : Ev} {q q1 q2 : Sl → Out Bool} {b b1 b2 : SEv} {i n np : Nat} {s : Slot} {d : D} {r : R} {rs : List R} {KR : R → Sl → Prop} {KB : Bool → Sl → Prop} {I : Sl → Prop} {E : EP} {fx : FX}
theorem gs_fn {args ρ0 : Sl} (h0 : args ++ List.replicate (n - np) .no = ρ0) (h : Gs (fun ρ => K (.sh .non) (fins fx 0 np ρ)) (fun s ρ => K s (fins fx 0 np ρ)) (exP E) (fun _ => False) (fun _ => False) (b ρ0)) : Go K (exP E) (fnOf n np fx b args) := by with_unfolding_all
  subst h0
  unfold fnOf
  cases z : b (args ++ List.replicate (n - np) .no) with
  | stuck => rw [z] at h; exact h
  | exc => rw [z] at h; exact h
  | ok fl ρ1 => rw [z] at h; cases fl <;> exact h
/-- a call whose def's promise is known -/
theorem gl_data {F : FnD} {ss : Sl} {enc : τ → Slot} {C : τ → Prop} {KS : Slot → Prop} {XS : Str → List Str → List D → Prop} (G : Go (fun s _ => ∃ v, s = enc v ∧ C v) (exP E) (F ss)) (hx : ∀ c ns ds ρ', exP E c ns ds ρ' → XS c ns ds) (k : ∀ v, C v → KS (enc v)) : Go (fun s _ => KS s) (fun c ns es _ => XS c ns es) (F ss) :=
  G.mono (fun s _ ⟨v, e, c⟩ => by subst e; exact k v c) fun c ns ds ρ' h => hx c ns ds ρ' h
theorem gl_view {F : FnD} {ss : Sl} {enc : τ → D} {C : τ → Prop} {KS : D → Prop} (hs : ∀ v, (enc v).scal = true) (G : Go (fun s _ => ∃ v, s = .sh (enc v) ∧ C v) (exP fun _ _ => False) (F ss)) (k : ∀ v, C v → KS (enc v)) : Go (fun s _ => ∃ d, s = .sh d ∧ d.scal = true ∧ KS d) (fun _ _ _ _ => False) (F ss) :=
  G.mono (fun s _ ⟨v, e, c⟩ => ⟨_, e, hs v, k v c⟩) fun c ns ds ρ' ⟨_, _, _, z, _⟩ => z
theorem gl_bool {F : FnD} {ss : Sl} {C : Bool → Prop} {KS : Bool → Prop} (G : Go (fun s _ => ∃ v, s = .sh (.bl v) ∧ C v) (exP fun _ _ => False) (F ss)) (k : ∀ v, C v → KS v) : Go (fun s _ => ∃ k, s = .sh (.bl k) ∧ KS k) (fun _ _ _ _ => False) (F ss) :=
  G.mono (fun s _ ⟨v, e, c⟩ => ⟨_, e, k v c⟩) fun c ns ds ρ' ⟨_, _, _, z, _⟩ => z
theorem gl_make {F : FnD} {ss : Sl} {enc : τ → Slot} {C : τ → Prop} {KS : Slot → Prop} {XS : Str → List Str → List D → Prop} (G : Go (fun s gs => s = .sh .non ∧ ∃ v r, gs = enc v :: r ∧ C v) (exP E) (F ss)) (hx : ∀ c ns ds ρ', exP E c ns ds ρ' → XS c ns ds) (k : ∀ v, C v → KS (enc v)) : Go (fun s gs => ∃ s0 gr, s = .sh .non ∧ gs = s0 :: gr ∧ KS s0) (fun c ns es _ => XS c ns es) (F ss) :=
  G.mono (fun s gs ⟨e, v, r, e2, c⟩ => ⟨_, _, e, e2, k v c⟩) fun c ns ds ρ' h => hx c ns ds ρ' h
theorem giveB_v : ∀ (ss r : Sl) (ρ : Sl), giveB (ss.map R.v) r ρ = ρ
  | [], r, ρ => by cases r <;> rfl
  | s :: ss, [], ρ => rfl
  | s :: ss, x :: r, ρ => giveB_v ss r ρ
theorem lend_v : ∀ (ss : Sl) (ρ : Sl), lend (ss.map R.v) ρ = (ss, ρ)
  | [], ρ => rfl
  | s :: ss, ρ => by rw [List.map_cons, lend, lend_v ss ρ]
theorem pu_box {ns : List Int} {bx : Slot} (hb : Lw.BOK ns bx) (hi : ρ[i]? = some bx) : eVar i ρ = .ok (.r i) ρ := by
  obtain ⟨p, v, n, w, e, _⟩ := hb.ex
  rw [e] at hi
  exact pu_own hi
/-- a call that is lent the box -/
theorem gc_box {F : FnD} {fs : Sl → Out (List R)} (hb : eVar i ρ = .ok (.r i) ρ) (h : Go (fun rs ρ1 => ∃ ss bx, rs = ss.map R.v ∧ ρ1[i]? = some bx ∧ ss.length + 1 = n ∧ ∃ g : Slot → Sl, (∀ b', ρ1.set i b' = g b') ∧ Go (fun s gs => ∃ b' r, gs = b' :: r ∧ KR (.v s) (g b')) (fun _ _ _ _ => False) (F (bx :: ss))) X (fs ρ)) : Go KR X (eCallN n F (aCons (eVar i) fs) ρ) := by
  refine gc_lend (ga_cons (go_pu hb (h.imp fun rs ρ1 h => ?_)))
  obtain ⟨ss, bx, rfl, hi, hl, gg, hg, g⟩ := h
  refine ⟨by rw [List.length_cons, List.length_map]; exact hl, ?_⟩
  have e : lend (R.r i :: ss.map R.v) ρ1 = (bx :: ss, ρ1.set i .no) := by
    rw [lend, lend_v, hi]; rfl
  rw [e]
  refine g.mono (fun s gs ⟨b', r, e2, k⟩ => ?_) fun c ns ds ρ' h => h.elim
  subst e2
  rw [show giveB (R.r i :: ss.map R.v) (b' :: r) (ρ1.set i .no) = giveB (ss.map R.v) r ((ρ1.set i .no).set i b') from rfl, giveB_v, List.set_set, hg]
  exact k
theorem gl_box {F : FnD} {ns : List Int} {ss : Sl} {enc : τ → Slot} {C : τ → Prop} {KS : Slot → Slot → Prop} (G : Go (fun s gs => ∃ v b' r, s = enc v ∧ gs = b' :: r ∧ Lw.BOK ns b' ∧ C v) (exP fun _ _ => False) (F ss)) (k : ∀ v b', Lw.BOK ns b' → C v → KS (enc v) b') : Go (fun s gs => ∃ b' r, gs = b' :: r ∧ KS s b') (fun _ _ _ _ => False) (F ss) :=
  G.mono (fun s gs ⟨v, b', r, e1, e2, hb, c⟩ => ⟨b', r, e2, by subst e1; exact k v b' hb c⟩) fun c ns ds ρ' ⟨_, _, _, z, _⟩ => z
theorem ge_draw {ns : List Int} {bx : Slot} {size : Int} {C : Int → Prop} (hb : Lw.BOK ns bx) (hi : ρ[i]? = some bx) (A : f ρ = .ok (.v (.sh (.int size))) ρ) (g : Slot → Sl) (hg : ∀ b', ρ.set i b' = g b') (h : wDraw size C) (k : ∀ z b', Lw.BOK ns b' → C z → KR (.v (.sh (.int z))) (g b')) : Go KR X (eCallN 2 Lw.F__law_draw (aCons (eVar i) (aCons f aNil)) ρ) := by with_unfolding_all
  refine gc_box (pu_box hb hi) (ga_cons (go_pu A (ga_nil ⟨[.sh (.int size)], bx, rfl, hi, rfl, _, fun _ => rfl, ?_⟩)))
  obtain ⟨z, s', e, h0, h1, hb'⟩ := hb.draw size h.1.1 h.1.2
  rw [e]
  refine ⟨s', _, rfl, ?_⟩
  rw [hg]
  exact k z s' hb' (h.2 z h0 h1)
theorem gl_draw {ns : List Int} {bx : Slot} {size : Int} {C : Int → Prop} {KS : Slot → Slot → Prop} (hb : Lw.BOK ns bx) (h : wDraw size C) (k : ∀ z b', Lw.BOK ns b' → C z → KS (.sh (.int z)) b') : Go (fun s gs => ∃ b' r, gs = b' :: r ∧ KS s b') (fun _ _ _ _ => False) (Lw.F__law_draw [bx, .sh (.int size)]) := by with_unfolding_all
  obtain ⟨z, s', e, h0, h1, hb'⟩ := hb.draw size h.1.1 h.1.2
  rw [e]
  exact ⟨s', _, rfl, k z s' hb' (h.2 z h0 h1)⟩
/-! raise, try -/
theorem gs_raise {c : Str} {is : List Nat} {fs : List (Str × Nat)} {fz : Sl → Out (List R)} (h : Go (fun rs ρ1 => ∃ ds ρ2, consAll rs ρ1 = .ok ds ρ2 ∧ (ds.length = n ∧ strsD ds is = true) ∧ ex c (fs.reverse.map (·.1)) (pickX ds fs) ρ2) ex (fz ρ)) : Gs nx rt ex bk ct (sRaise c n is fs fz ρ) := by with_unfolding_all exact (
  gs_bind (h.imp fun rs ρ1 h => by
    obtain ⟨ds, ρ2, e, l, h⟩ := h
    rw [e]; show Gs nx rt ex bk ct (if _ then _ else _); rw [if_pos l]; exact h))
theorem gs_try {E1 : EP} {hs : List Hnd} (h : Gs nx rt (exI I E1) bk ct (b ρ)) (hx : ∀ k ds ρ, I ρ → E1 k ds → Gs nx rt ex bk ct (sHands hs (Cl.s k) (Cl.f k) ds ρ)) : Gs nx rt ex bk ct (sTry b hs ρ) := by
  unfold sTry
  cases z : b ρ with
  | stuck => rw [z] at h; with_unfolding_all exact h
  | exc c ns ds ρ1 =>
    rw [z] at h
    replace h := h.exc_e; obtain ⟨k, e1, e2, h, i⟩ := h
    subst e1 e2
    with_unfolding_all exact (hx k ds ρ1 i h)
  | ok fl ρ1 => rw [z] at h; cases fl <;> with_unfolding_all exact h
theorem gs_hand {tab : Str → Option Bool} {j : Option Nat} {h : List Str → List D → SEv} {hs : List Hnd} {c : Str} {ns : List Str} {ds : List D} (e : tab c = some true) (l : inO ρ j = true)
    (g : Gs (fun ρ => nx (noO ρ j)) (fun s ρ => rt s (noO ρ j)) (fun _ _ _ _ => False) (fun ρ => bk (noO ρ j)) (fun ρ => ct (noO ρ j)) (h ns ds (noO ρ j))) : Gs nx rt ex bk ct (sHands (⟨tab, j, h⟩ :: hs) c ns ds ρ) := by with_unfolding_all
  unfold sHands
  simp only [e]
  rw [if_pos l]
  cases z : h ns ds (noO ρ j) with
  | stuck => rw [z] at g; exact g
  | exc => rw [z] at g; exact g.elim
  | ok fl ρ1 => rw [z] at g; cases fl <;> exact g
theorem gs_skip {tab : Str → Option Bool} {j : Option Nat} {h : List Str → List D → SEv} {hs : List Hnd} {c : Str} {ns : List Str} {ds : List D} (e : tab c = some false) (g : Gs nx rt ex bk ct (sHands hs c ns ds ρ)) : Gs nx rt ex bk ct (sHands (⟨tab, j, h⟩ :: hs) c ns ds ρ) := by
  unfold sHands
  simp only [e]; exact g
theorem pu_xf {x : Str} {ns : List Str} {ds : List D} (h : (ns.zip ds).lookup x = some d) : eXf x ns ds ρ = .ok (.v (.sh d)) ρ := by unfold eXf; rw [h]
/-! fields -/
theorem gs_fldS {cs : List Str} {x : Str} (h : Go (fun r ρ1 => ∃ d ρ2 c ns ds ns' ds', consAll [r] ρ1 = .ok [d] ρ2 ∧ ρ2[i]? = some (.obj c ns (shs ds)) ∧ (cs.contains c = true ∧ ns.length < 1000 ∧ ns.length = ds.length) ∧ putN x ns = ns' ∧ putA x d ns ds = ds' ∧ nx (ρ2.set i (.obj c ns' (shs ds')))) ex (fa ρ)) : Gs nx rt ex bk ct (sFldS cs i x fa ρ) := by with_unfolding_all exact (
  gs_bind (h.imp fun r ρ1 h => by
    obtain ⟨d, ρ2, c, ns, ds, ns', ds', e, e2, l, e3, e4, h⟩ := h
    subst e3 e4
    unfold consAll at e
    cases q : cons r ρ1 with
    | exc => rw [q] at e; cases e
    | stuck => rw [q] at e; cases e
    | ok d1 ρ4 =>
      rw [q] at e; cases e
      simp only [Out.bind, e2, flats_sh]
      rw [if_pos l]; exact h))
end
end Sep

/-! TyE: more steps for the printed proofs. -/
namespace Sep
open PySem L2
theorem ite_t {c : Prop} [Decidable c] {a b : Prop} (hc : c) (h : if c then a else b) : a := by rwa [if_pos hc] at h
theorem ite_f {c : Prop} [Decidable c] {a b : Prop} (hc : ¬c) (h : if c then a else b) : b := by rwa [if_neg hc] at h
theorem to_t {c : Prop} [Decidable c] {a b : Prop} (hc : c) (h : a) : if c then a else b := by rwa [if_pos hc]
theorem to_f {c : Prop} [Decidable c] {a b : Prop} (hc : ¬c) (h : b) : if c then a else b := by rwa [if_neg hc]
theorem o_is {g : D → Option Slot} {d : D} (b : Bool) (h : g d = some (.sh (.bl b))) : g d = some (.sh (.bl b)) := h
theorem o_lit {g : D → D → Option Slot} {d e : D} (n : Int) (h : g d e = some (.sh (.int n))) : g d e = some (.sh (.int n)) := h
theorem exI_of {E : EP} {I : Sl → Prop} {c : Str} {ns : List Str} {ds : List D} {ρ ρ' : Sl} (h : exP E c ns ds ρ') (i : I ρ) : exI I E c ns ds ρ := by
  obtain ⟨k, e1, e2, e3, _⟩ := h
  exact ⟨k, e1, e2, e3, i⟩
theorem exF {c : Str} {ns : List Str} {ds : List D} {ρ : Sl} (h : exP (fun _ _ => False) c ns ds ρ) : False := by
  obtain ⟨k, e1, e2, e3, _⟩ := h
  exact e3
section
variable {α β σ τ : Type} {X : XP} {nx : Sl → Prop} {rt : Slot → Sl → Prop} {ex : XP} {bk ct : Sl → Prop} {ρ : Sl} {fa fb : Ev} {i : Nat} {KR : R → Sl → Prop}
theorem gs_appT {xs : List α} {enc : α → D} (hi : ρ[i]? = some (.lst (shs (xs.map enc)))) (h : Go (fun r2 ρ2 => ∃ x ρ3 ys ρ4, consAll [r2] ρ2 = .ok [enc x] ρ3 ∧ ρ3[i]? = some (.lst (shs (ys.map enc))) ∧ ys.length < LIM ∧ ρ3.set i (.lst (shs ((ys ++ [x]).map enc))) = ρ4 ∧ nx ρ4) ex (fb ρ)) : Gs nx rt ex bk ct (sExpr (eApp (eVar i) fb) ρ) := by
  refine gs_app hi (h.imp fun r2 ρ2 h => ?_)
  obtain ⟨x, ρ3, ys, ρ4, e, e2, l, e4, h⟩ := h
  subst e4
  refine ⟨_, ρ3, _, e, e2, by rw [List.length_map]; exact l, ?_⟩
  rw [List.map_append] at h
  exact h
theorem ge_LR (h : Go (fun r1 ρ1 => Go (fun r2 ρ2 => ∃ i j, look r1 ρ2 = some (.int i) ∧ look r2 ρ2 = some (.int j) ∧ (rOk i ∧ rOk j ∧ (j - i).toNat ≤ LIM) ∧ KR (.v (.lst (shs ((rngZ i j).map D.int)))) ρ2) X (fb ρ1)) X (fa ρ)) : Go KR X (eLR fa fb ρ) := by with_unfolding_all
  refine go_bind (h.imp fun r1 ρ1 h => go_bind (h.imp fun r2 ρ2 h => ?_))
  obtain ⟨i, j, e1, e2, l, k⟩ := h
  simp only [e1, e2]
  rw [if_pos ⟨⟨l.1.2, l.1.1, l.2.1.2, l.2.1.1⟩, l.2.2⟩]
  rw [← rngZ_map] at k
  exact k
theorem ge_chain {g g' : D → D → Option Slot} {fc : Ev} (h : Go (fun r1 ρ1 => Go (fun r2 ρ2 => ∃ a b k, look r1 ρ2 = some a ∧ look r2 ρ2 = some b ∧ g a b = some (.sh (.bl k)) ∧ if k = true then Go (fun r3 ρ3 => ∃ b' c k', look r2 ρ3 = some b' ∧ look r3 ρ3 = some c ∧ g' b' c = some (.sh (.bl k')) ∧ KR (.v (.sh (.bl k'))) ρ3) X (fc ρ2) else KR (.v (.sh (.bl false))) ρ2) X (fb ρ1)) X (fa ρ)) : Go KR X (eChain g g' fa fb fc ρ) := by with_unfolding_all
  refine go_bind (h.imp fun r1 ρ1 h => go_bind (h.imp fun r2 ρ2 h => ?_))
  obtain ⟨a, b, k, e1, e2, e3, h⟩ := h
  simp only [e1, e2, e3]
  cases k with
  | false => exact h
  | true =>
    have h : Go _ X (fc ρ2) := h
    refine go_bind (h.imp fun r3 ρ3 h => ?_)
    obtain ⟨b', c, k', e4, e5, e6, h⟩ := h
    simp only [e4, e5, e6]; exact h
/-- two that are to be the same -/
def wSame (a b : D) (K : Bool → Prop) : Prop := a = b ∧ LwB.plainM 5 a = true ∧ K true
def wSameA (a b : D) (K : Bool → Prop) : Prop := a = b ∧ plainN 5 a = true ∧ K true
theorem gc_pure1 {enc : α → D} {enc2 : β → D} {vs : List Nat} {tg : D → Sl → Option Sl} {fe : Ev} {fn : α → β} {KL : List D → Sl → Prop} {xs : List α} (hl : xs.length ≤ LIM)
    (hb : ∀ x, x ∈ xs → ∃ ρ1, tg (enc x) ρ = some ρ1 ∧ pYes ρ1 = .ok true ρ1 ∧ wipeR ρ1 vs = ρ ∧ ∃ s, fe ρ1 = .ok (.v s) ρ1 ∧ s.fr = some (enc2 (fn x))) (h : KL ((xs.map fn).map enc2) ρ) : Go KL X (compL vs tg pYes fe (xs.map enc) [] ρ) := by
  refine gc_pure (c := fun _ => true) (fn := fn) (enc2 := enc2) hl (fun x hx => ?_) ?_
  · obtain ⟨ρ1, e1, e2, e3, s, e4, e5⟩ := hb x hx
    exact ⟨ρ1, e1, e2, e3, fun _ => ⟨s, e4, e5⟩⟩
  · rw [List.filter_eq_self.mpr (fun _ _ => rfl)]; exact h
theorem vw_0 : views [] ρ = some [] := rfl
theorem vw_1 {s : Slot} {d : D} {rs : List R} {ds : List D} (h : s.fr = some d) (r : views rs ρ = some ds) : views (.v s :: rs) ρ = some (d :: ds) := by
  unfold views view; simp only [h, r]
theorem vw_r {s : Slot} {d : D} {rs : List R} {ds : List D} (hi : ρ[i]? = some s) (h : s.fr = some d) (r : views rs ρ = some ds) : views (.r i :: rs) ρ = some (d :: ds) := by
  unfold views view; simp only [hi, Option.bind, h, r]
theorem lk_nobj {c : Str} {ns : List Str} {ds : List D} : look (.v (.obj c ns (shs ds))) ρ = some (.obj c ns ds) := by
  show (flats (shs ds)).map (D.obj c ns) = _
  rw [flats_sh]; rfl
abbrev eD (d : D) : D := d
theorem gl_same {a b : D} {C : Bool → Prop} {n : Nat} {KS : Slot → Prop} {XS : Str → List Str → List D → Prop} (h : wSame a b C) (k : ∀ r, C r → KS (.sh (.bl r))) : Go (fun s _ => KS s) (fun c ns es _ => XS c ns es) (LwB.F__law_same 6 (shs [a, b])) := by with_unfolding_all
  obtain ⟨e, pl, c⟩ := h
  subst e
  have := LwB.same_ok 5 a pl
  show Go _ _ (LwB.F__law_same 6 [.sh a, .sh a])
  rw [this]
  exact k _ c
theorem gl_sameV {a b : D} {C : Bool → Prop} {KS : D → Prop} (h : wSame a b C) (k : ∀ r, C r → KS (.bl r)) : Go (fun s _ => ∃ d, s = .sh d ∧ d.scal = true ∧ KS d) (fun _ _ _ _ => False) (LwB.F__law_same 6 (shs [a, b])) := by with_unfolding_all
  obtain ⟨e, pl, c⟩ := h
  subst e
  have := LwB.same_ok 5 a pl
  show Go _ _ (LwB.F__law_same 6 [.sh a, .sh a])
  rw [this]
  exact ⟨_, rfl, rfl, k _ c⟩
/-- whose value is data -/
theorem o_gen {g : D → D → Option Slot} {a b : D} {s : Slot} (h : g a b = some s) : g a b = some s := h
/-- a truth of data -/
def wT (d : D) (K : Bool → Prop) : Prop := ∃ k, gTru d = some k ∧ K k
/-- an exception's data -/
def wX1 (ds : List D) (K : D → Prop) : Prop := ∃ a, ds = [a] ∧ K a
def wX2 (ds : List D) (K : D → D → Prop) : Prop := ∃ a b, ds = [a, b] ∧ K a b
end
/-! ### of wishes -/
theorem wComp_pure {α β : Type} (c : α → Bool) (f : α → β) (K : List β → Prop) : ∀ xs : List α, wComp (fun x k => if c x = true then k (some (f x)) else k none) xs K ↔ K ((xs.filter c).map f) := by
  intro xs
  induction xs generalizing K with
  | nil => exact Iff.rfl
  | cons x xs ih =>
    unfold wComp
    rw [List.filter_cons]
    by_cases q : c x = true
    · rw [if_pos q, if_pos q]; exact ih _
    · rw [if_neg q, if_neg q]; exact ih _
end Sep

/-! TyH: typed: a list or a tuple, properties, *args, zip, min, dicts -/
namespace Sep
open PySem L2
/-- a list or a tuple -/
structure LoT (α : Type) where
  tup : Bool
  xs : List α
def eQ {α : Type} (e : α → D) : LoT α → D
  | ⟨true, xs⟩ => .tup (xs.map e)
  | ⟨false, xs⟩ => .lst (xs.map e)
section
variable {α β : Type} {e : α → D} {q : LoT α}
theorem o_lenQ : gLen (eQ e q) = some (.sh (.int (q.xs.length : Nat))) := by
  obtain ⟨b, xs⟩ := q; cases b
  · exact o_lenL
  · exact o_lenT
theorem o_toTQ : gToT (eQ e q) = some (.sh (.tup (q.xs.map e))) := by obtain ⟨b, xs⟩ := q; cases b <;> rfl
theorem o_toLQ : gToL (eQ e q) = some (.lst (shs (q.xs.map e))) := by obtain ⟨b, xs⟩ := q; cases b <;> rfl
theorem o_truQ : gTru (eQ e q) = some (!q.xs.isEmpty) := by
  obtain ⟨b, xs⟩ := q; cases b
  · exact o_truL
  · exact o_truT
theorem o_ixQ {i : Int} {x : α} (h : atI q.xs i = some x) : gIx (eQ e q) (.int i) = some (.sh (e x)) := by
  obtain ⟨b, xs⟩ := q; cases b
  · exact o_ixL h
  · exact o_ixT h
theorem eQ_alt : eQ e q = .lst (q.xs.map e) ∨ eQ e q = .tup (q.xs.map e) ∨ eQ e q = .rol (q.xs.map e) := by
  obtain ⟨b, xs⟩ := q; cases b
  · exact .inl rfl
  · exact .inr (.inl rfl)
end
/-- the least of a list (0 for none) -/
def minI : List Int → Int
  | [] => 0
  | n :: ns => minL n ns
def maxI : List Int → Int
  | [] => 0
  | n :: ns => maxL n ns
def minDf (c : Int) : List Int → Int
  | [] => c
  | n :: ns => minL n ns
theorem o_min1 {xs : List Int} (h : xs ≠ []) : gMin1 (.lst (xs.map D.int)) = some (.sh (.int (minI xs))) := by
  show (match intsOf (xs.map D.int) with | some (n :: ns) => some (Slot.sh (.int (minL n ns))) | _ => none) = _
  rw [ints_map]
  cases xs with
  | nil => exact absurd rfl h
  | cons n ns => rfl
theorem o_max1 {xs : List Int} (h : xs ≠ []) : gMax1 (.lst (xs.map D.int)) = some (.sh (.int (maxI xs))) := by
  show (match intsOf (xs.map D.int) with | some (n :: ns) => some (Slot.sh (.int (maxL n ns))) | _ => none) = _
  rw [ints_map]
  cases xs with
  | nil => exact absurd rfl h
  | cons n ns => rfl
theorem o_minD {xs : List Int} {c : Int} : gMinD (.lst (xs.map D.int)) (.int c) = some (.sh (.int (minDf c xs))) := by
  show (match intsOf (xs.map D.int) with | some (n :: ns) => some (Slot.sh (.int (minL n ns))) | some [] => some (.sh (.int c)) | none => none) = _
  rw [ints_map]
  cases xs <;> rfl
/-! dicts keyed by ints -/
abbrev mK {α : Type} (m : List (Int × α)) : List Key := m.map fun p => .inl p.1
abbrev mV {α : Type} (e : α → D) (m : List (Int × α)) : List D := m.map fun p => e p.2
def eM {α : Type} (e : α → D) (m : List (Int × α)) : D := .dct (mK m) (mV e m)
def mGet {α : Type} (m : List (Int × α)) (k : Int) : Option α := (m.find? fun p => decide (p.1 = k)).map (·.2)
def mPut {α : Type} (m : List (Int × α)) (k : Int) (v : α) : List (Int × α) := if (m.any fun p => decide (p.1 = k)) = true then m.map (fun p => if p.1 = k then (p.1, v) else p) else m ++ [(k, v)]
section
variable {α : Type} {e : α → D} {m : List (Int × α)} {k : Int} {v : α}
theorem mKV : (mK m).zip (mV e m) = m.map fun p => ((.inl p.1 : Key), e p.2) := by
  induction m with
  | nil => rfl
  | cons p m ih =>
    show (_ :: _ : List Key).zip (_ :: _) = _
    rw [List.zip_cons_cons, ih]; rfl
theorem keyeq {a b : Int} : (Sum.inl a : Key) = .inl b ↔ a = b := ⟨fun h => by cases h; rfl, fun h => by rw [h]⟩
theorem m_look : lookP ((mK m).zip (mV e m)) (.inl k) = (mGet m k).map e := by
  rw [mKV]
  unfold mGet lookP
  induction m with
  | nil => rfl
  | cons p m ih =>
    rw [List.map_cons, List.find?_cons, List.find?_cons]
    by_cases c : p.1 = k
    · simp [c]
    · simp only [keyeq, c, decide_false]; exact ih
theorem m_put : putP ((mK m).zip (mV e m)) (.inl k) (e v) = (mPut m k v).map fun p => ((.inl p.1 : Key), e p.2) := by
  rw [mKV]
  unfold putP mPut
  have : (List.map (fun p : Int × α => ((.inl p.1 : Key), e p.2)) m).any (fun kv => decide (kv.1 = .inl k)) = m.any fun p => decide (p.1 = k) := by
    rw [List.any_map]
    congr 1
    funext p
    show decide ((Sum.inl p.1 : Key) = .inl k) = _
    simp only [keyeq]
  rw [this]
  split
  · rw [List.map_map, List.map_map]
    congr 1
    funext p
    show (if (Sum.inl p.1 : Key) = .inl k then _ else _) = _
    by_cases c : p.1 = k
    · simp [c]
    · simp [c, keyeq]
  · rw [List.map_append]; rfl
theorem m_put1 : (putP ((mK m).zip (mV e m)) (.inl k) (e v)).map (·.1) = mK (mPut m k v) := by rw [m_put, List.map_map]; rfl
theorem m_put2 : (putP ((mK m).zip (mV e m)) (.inl k) (e v)).map (·.2) = mV e (mPut m k v) := by rw [m_put, List.map_map]; rfl
theorem o_dixM (h : mGet m k = some v) : gDIx (eM e m) (.int k) = some (.sh (e v)) := by
  show (lookP ((mK m).zip (mV e m)) (.inl k)).map Slot.sh = _
  rw [m_look, h]; rfl
theorem o_dinM : gDIn false (.int k) (eM e m) = some (.sh (.bl (mGet m k).isSome)) := by
  show some (Slot.sh (.bl ((lookP ((mK m).zip (mV e m)) (.inl k)).isSome != false))) = _
  rw [m_look]; cases mGet m k <;> rfl
theorem o_dninM : gDIn true (.int k) (eM e m) = some (.sh (.bl (mGet m k).isNone)) := by
  show some (Slot.sh (.bl ((lookP ((mK m).zip (mV e m)) (.inl k)).isSome != true))) = _
  rw [m_look]; cases mGet m k <;> rfl
end
section
variable {α β σ τ : Type} {X : XP} {nx : Sl → Prop} {rt : Slot → Sl → Prop} {ex : XP} {bk ct : Sl → Prop} {ρ : Sl} {fa fb fc fo : Ev} {i : Nat} {KR : R → Sl → Prop} {e : α → D} {m : List (Int × α)}
theorem pu_ownD {ks : List Key} {ss : List Slot} (h : ρ[i]? = some (.dct ks ss)) : eVar i ρ = .ok (.r i) ρ := by unfold eVar; rw [h]
theorem lk_ownD {ks : List Key} {ds : List D} (h : ρ[i]? = some (.dct ks (shs ds))) : look (.r i) ρ = some (.dct ks ds) := by
  show (ρ[i]?).bind Slot.flat = _
  rw [h]; show (flats (shs ds)).map (D.dct ks) = _
  rw [flats_sh]; rfl
theorem fr_newD {ks : List Key} {ds : List D} : Slot.fr (.dct ks (shs ds)) = some (.dct ks ds) := by unfold Slot.fr; rw [frs_sh]; rfl
theorem pu_d0 : eD0 ρ = .ok (.v (.dct [] [])) ρ := rfl
theorem gc_prop {c : Str} {F : FnD} (h : Go (fun r ρ1 => ∃ ns es d ρ3, look r ρ1 = some (.obj c ns es) ∧ consAll [r] ρ1 = .ok [d] ρ3 ∧ Go (fun s _ => KR (.v s) ρ3) (fun _ _ _ _ => False) (F [.sh d])) X (fo ρ)) : Go KR X (eProp c F fo ρ) := by with_unfolding_all
  refine go_bind (h.imp fun r ρ1 h => ?_)
  obtain ⟨ns, es, d, ρ3, e1, e2, h⟩ := h
  simp only [e1, if_true, e2, Out.bind, List.length_cons, List.length_nil]
  show Go KR X (retC ρ3 (noX (F [.sh d])))
  cases z : F [.sh d] with
  | ok s gs => rw [z] at h; exact h
  | exc => rw [z] at h; exact h.elim
  | stuck => rw [z] at h; exact h.elim
theorem gc_makeS {c : Str} {N : Nat} {tm : List (Nat × Nat)} {mD : List D} {F : FnD} {fs fz : Sl → Out (List R)} (h : Go (fun rs ρ1 => Go (fun zs ρ2 => ∃ d1 d2 ρ3, consAll (rs ++ zs) ρ2 = .ok (d1 ++ d2) ρ3 ∧ (rs.length = d1.length ∧ d1.length ≤ LIM ∧ (pk tm [[], [], mD, d2]).length + 2 = N) ∧ Go (fun s gs => ∃ s0 gr, s = .sh .non ∧ gs = s0 :: gr ∧ KR (.v s0) ρ3) (fun c ns es _ => X c ns es ρ3) (F (.obj c [] [] :: (shs (pk tm [[], [], mD, d2]) ++ [.sh (.tup d1)])))) X (fz ρ1)) X (fs ρ)) : Go KR X (eMakeS c N tm mD F fs fz ρ) := by
  refine go_bind (h.imp fun rs ρ1 h => go_bind (h.imp fun zs ρ2 h => ?_))
  obtain ⟨d1, d2, ρ3, e, ⟨l1, l2, l3⟩, k⟩ := h
  rw [e]
  show Go KR X (if rs.length ≤ LIM ∧ (pk tm [[], [], mD, (d1 ++ d2).drop rs.length]).length + 2 = N then retM ρ3 (F (.obj c [] [] :: (shs (pk tm [[], [], mD, (d1 ++ d2).drop rs.length]) ++ [.sh (.tup ((d1 ++ d2).take rs.length))]))) else .stuck)
  have z1 : (d1 ++ d2).drop rs.length = d2 := by rw [l1]; simp
  have z2 : (d1 ++ d2).take rs.length = d1 := by rw [l1]; simp
  rw [z1, z2, if_pos ⟨by rw [l1]; exact l2, l3⟩]
  cases z : F (.obj c [] [] :: (shs (pk tm [[], [], mD, d2]) ++ [.sh (.tup d1)])) with
  | ok s gs => rw [z] at k; replace k := k.ok_e; obtain ⟨s0, gr, e1, e2, k⟩ := k; subst e1 e2; with_unfolding_all exact k
  | exc => rw [z] at k; with_unfolding_all exact k
  | stuck => rw [z] at k; exact (Go.stuck_e k).elim
theorem zipD_map {e1 : α → D} {e2 : β → D} (xs : List α) (ys : List β) : zipD (xs.map e1) (ys.map e2) = (xs.zip ys).map (eP2 e1 e2) := by
  unfold zipD
  rw [List.zip_map, List.map_map]; rfl
theorem gi_zip {K : List D → Sl → Prop} {fs : Sl → Out (List R)} (h : Go (fun rs ρ1 => ∃ xs ys ρ2, (consAll rs ρ1 = .ok [.lst xs, .lst ys] ρ2 ∨ consAll rs ρ1 = .ok [.tup xs, .tup ys] ρ2) ∧ K (zipD xs ys) ρ2) X (fs ρ)) : Go K X (iZip fs ρ) := by with_unfolding_all
  refine go_bind (h.imp fun rs ρ1 h => ?_)
  obtain ⟨xs, ys, ρ2, h1 | h1, h⟩ := h <;> rw [h1] <;> exact h
/-- what is walked of a dict of one's own -/
theorem gi_dct {K : List D → Sl → Prop} {ρ2 : Sl} (hi : ρ[i]? = some (.dct (mK m) (shs (mV e m)))) (h2 : ρ.set i (.sh (eM e m)) = ρ2) (h : K ((m.map (·.1)).map D.int) ρ2) : Go K X (iDct (eVar i) ρ) := by with_unfolding_all
  refine go_bind (go_pu (pu_ownD hi) ?_)
  simp only [hi]
  rw [flats_sh]
  show K ((mK m).map keyD) (ρ.set i (.sh (.dct (mK m) (mV e m))))
  have e1 : (mK m).map keyD = (m.map (·.1)).map D.int := by rw [List.map_map, List.map_map]; rfl
  rw [e1]
  show K _ (ρ.set i (.sh (eM e m)))
  rw [h2]; exact h
theorem ge_dget2 (h : Go (fun r0 ρ1 => isDct (look r0 ρ1) = true ∧ Go (fun r1 ρ2 => Go (fun r2 ρ3 => ∃ (mm : List (Int × Int)) (k dv : Int), look r0 ρ3 = some (eM D.int mm) ∧ look r1 ρ3 = some (.int k) ∧ look r2 ρ3 = some (.int dv) ∧ KR (.v (.sh (.int ((mGet mm k).getD dv)))) ρ3) X (fc ρ2)) X (fb ρ1)) X (fa ρ)) : Go KR X (eDGet2 fa fb fc ρ) := by with_unfolding_all
  refine go_bind (h.imp fun r0 ρ1 h => ?_)
  rw [if_pos h.1]
  refine go_bind (h.2.imp fun r1 ρ2 h => go_bind (h.imp fun r2 ρ3 h => ?_))
  obtain ⟨mm, k, dv, e1, e2, e3, h⟩ := h
  rw [e1, e2, e3]
  show KR (.v (.sh ((lookP ((mK mm).zip (mV D.int mm)) (.inl k)).getD (.int dv)))) ρ3
  rw [m_look]
  cases z : mGet mm k with
  | none => rw [z] at h; exact h
  | some v => rw [z] at h; exact h
theorem gs_dset (h : Go (fun r1 ρ1 => ∃ v ρ2 ks ss, consAll [r1] ρ1 = .ok [e v] ρ2 ∧ ρ2[i]? = some (.dct ks ss) ∧ Go (fun r2 ρ4 => ∃ (mm : List (Int × α)) (k : Int) (ρ5 : Sl), look r2 ρ4 = some (.int k) ∧ ρ4[i]? = some (.dct (mK mm) (shs (mV e mm))) ∧ mm.length < LIM ∧ ρ4.set i (.dct (mK (mPut mm k v)) (shs (mV e (mPut mm k v)))) = ρ5 ∧ nx ρ5) ex (fb ρ2)) ex (fa ρ)) : Gs nx rt ex bk ct (sDSet (eVar i) fb fa ρ) := by with_unfolding_all
  refine gs_bind (h.imp fun r1 ρ1 h => ?_)
  obtain ⟨v, ρ2, ks, ss, c1, hi, h⟩ := h
  unfold consAll at c1
  cases q : cons r1 ρ1 with
  | stuck => rw [q] at c1; cases c1
  | exc => rw [q] at c1; cases c1
  | ok d1 ρ3 =>
    rw [q] at c1
    cases c1
    show Gs nx rt ex bk ct ((eVar i ρ2).bind _)
    rw [pu_ownD hi]
    show Gs nx rt ex bk ct ((fb ρ2).bind _)
    refine gs_bind (h.imp fun r2 ρ4 h => ?_)
    obtain ⟨mm, k, ρ5, e1, e2, l, e3, h⟩ := h
    simp only [e1, e2]
    show Gs nx rt ex bk ct (match dkey (.int k), flats (shs (mV e mm)) with | some k, some ds => _ | _, _ => _)
    rw [flats_sh]
    show Gs nx rt ex bk ct (if (mK mm).length < LIM then .ok .nx (ρ4.set i (.dct ((putP ((mK mm).zip (mV e mm)) (.inl k) (e v)).map (·.1)) (shs ((putP ((mK mm).zip (mV e mm)) (.inl k) (e v)).map (·.2))))) else .stuck)
    rw [if_pos (by rw [List.length_map]; exact l), m_put1, m_put2, e3]
    exact h
theorem ge_LR1 (h : Go (fun r1 ρ1 => ∃ j, look r1 ρ1 = some (.int j) ∧ (rOk j ∧ j.toNat ≤ LIM) ∧ KR (.v (.lst (shs ((rngZ 0 j).map D.int)))) ρ1) X (fa ρ)) : Go KR X (eLR1 fa ρ) := by with_unfolding_all
  refine go_bind (h.imp fun r1 ρ1 h => ?_)
  obtain ⟨j, e1, ⟨c1, c2⟩, h⟩ := h
  simp only [e1]
  rw [← rngZ_map, Int.sub_zero] at h
  show Go KR X (if _ then _ else _)
  rw [if_pos ⟨⟨c1.2, c1.1⟩, c2⟩]
  exact h
end
/-! calls of the law's own body -/
theorem noOs_sh : ∀ ds : List D, noOs (shs ds) = true
  | [] => rfl
  | d :: ds => by
    show noOs (.sh d :: shs ds) = true
    unfold noOs
    rw [noOs_sh ds]; rfl
theorem noO_lst (ds : List D) : Slot.noO (.lst (shs ds)) = true := by unfold Slot.noO; exact noOs_sh ds
theorem noO_dct (ks : List Key) (ds : List D) : Slot.noO (.dct ks (shs ds)) = true := by unfold Slot.noO; exact noOs_sh ds
theorem noO_0 : ([] : Sl).all Slot.noO = true := rfl
theorem noO_1 {s : Slot} {ρ : Sl} (h : s.noO = true) (r : ρ.all Slot.noO = true) : (s :: ρ).all Slot.noO = true := by rw [List.all_cons, h, r]; rfl
theorem noR_0 : ([] : List R).all (fun r => r.slot.noO) = true := rfl
theorem noR_1 {r : R} {rs : List R} (h : r.slot.noO = true) (k : rs.all (fun r => r.slot.noO) = true) : (r :: rs).all (fun r => r.slot.noO) = true := by rw [List.all_cons, h, k]; rfl
theorem noO_shd (d : D) : Slot.noO (.sh d) = true := by unfold Slot.noO; rfl
theorem noO_no : Slot.noO .no = true := by unfold Slot.noO; rfl
section
variable {τ : Type} {X : XP} {ρ : Sl} {n : Nat} {KR : R → Sl → Prop}
theorem gc_viewW {ws : List Nat} {F : FnD} {fs : Sl → Out (List R)} {ρ0 : Sl} (h0 : wipeR ρ ws = ρ0) (h : Go (fun rs ρ1 => rs.length = n ∧ ∃ ds, views rs ρ1 = some ds ∧ (ρ1.all Slot.noO = true ∧ rs.all (fun r => r.slot.noO) = true) ∧ Go (fun s _ => ∃ d, s = .sh d ∧ d.noL = true ∧ KR (.v (.sh d)) ρ1) (fun _ _ _ _ => False) (F (shs ds))) X (fs ρ0)) : Go KR X (eCallW ws n F fs ρ) := by
  subst h0
  refine go_bind (h.imp fun rs ρ1 h => ?_)
  obtain ⟨l, ds, e, ⟨n1, n2⟩, k⟩ := h
  rw [if_pos l, e]
  cases z : F (shs ds) with
  | ok s fs =>
    rw [z] at k
    replace k := k.ok_e; obtain ⟨d, es, hs, k⟩ := k
    subst es
    simp only [z, hs, n1, n2, Bool.and_self, if_true]; with_unfolding_all exact k
  | exc => rw [z] at k; exact k.exc_e.elim
  | stuck => rw [z] at k; exact k.stuck_e.elim
theorem gl_viewW {F : FnD} {ss : Sl} {enc : τ → D} {C : τ → Prop} {KS : D → Prop} (G : Go (fun s _ => ∃ v, s = .sh (enc v) ∧ C v) (exP fun _ _ => False) (F ss)) (k : ∀ v, C v → (enc v).noL = true ∧ KS (enc v)) : Go (fun s _ => ∃ d, s = .sh d ∧ d.noL = true ∧ KS d) (fun _ _ _ _ => False) (F ss) :=
  G.mono (fun s _ ⟨v, e, c⟩ => ⟨_, e, (k v c).1, (k v c).2⟩) fun c ns ds ρ' ⟨_, _, _, z, _⟩ => z
theorem BOK_noO {ns : List Int} {bx : Slot} (h : Lw.BOK ns bx) : bx.noO = true := by
  obtain ⟨p, v, n, w, e, _⟩ := h.ex
  subst e
  rfl
end
end Sep


namespace Lw
open PySem L2 Sep LwB
def fx__check_limits : FX := fun i => match i with | 0 => true | _ => false
def B__check_limits_1 : SEv := (sIf (tOfE (eOp gLt (eVar 1) (eC (.int 0))))
  (sRaise "BadCount" 1 [] [("number", 1)] (aCons (eVar 1) aNil))
  sNil)
def B__check_limits_2 : SEv := (sIf (tOfE (eOp gGe (eVar 2) (eVar 3)))
  (sRaise "BadSpan" 2 [] [("low", 1), ("high", 2)] (aCons (eVar 2) (aCons (eVar 3) aNil)))
  sNil)
def F__check_limits : FnD := fnOf 4 1 fx__check_limits (sSeq (sIf (tOfE (eOp gGt (eCB (g1 gLen) (aCons (eVar 0) aNil)) (eC (.int 8))))
  (sRaise "BadCount" 1 [] [("number", 1)] (aCons (eCB (g1 gLen) (aCons (eVar 0) aNil)) aNil))
  sNil)
  (sSeq (sFor (iSeq (eVar 0)) (kName 1)
  B__check_limits_1)
  (sFor (iZip (aCons (eVar 0) (aCons (eSl (eVar 0) (oSome (eC (.int 1))) oNone) aNil))) (kTup 2 (kCons (kName 2) (kCons (kName 3) kNil)))
  B__check_limits_2)))
def fx__check_delays : FX := fun i => match i with | 0 => true | _ => false
def B__check_delays_1 : SEv := (sSeq (sIf (tOfE (eOp gLt (eVar 1) (eC (.int 0))))
  (sRaise "BadCount" 1 [] [("number", 1)] (aCons (eVar 1) aNil))
  sNil)
  (sIf (tOfE (eOp gLt (eVar 2) (eC (.int 1))))
  (sRaise "BadCount" 1 [] [("number", 1)] (aCons (eVar 2) aNil))
  sNil))
def F__check_delays : FnD := fnOf 3 1 fx__check_delays (sSeq (sIf (eNot (tOfE (eChain gLe gLe (eC (.int 1)) (eCB (g1 gLen) (aCons (eVar 0) aNil)) (eC (.int 6)))))
  (sRaise "BadCount" 1 [] [("number", 1)] (aCons (eCB (g1 gLen) (aCons (eVar 0) aNil)) aNil))
  sNil)
  (sFor (iSeq (eVar 0)) (kTup 2 (kCons (kName 1) (kCons (kName 2) kNil)))
  B__check_delays_1))
def fx_Veil___init__ : FX := fun i => match i with | 0 => true | 1 => true | 2 => true | _ => false
def F_Veil___init__ : FnD := fnOf 5 3 fx_Veil___init__ (sSeq (sExpr (eCallF 1 F__check_limits (aCons (eVar 2) aNil)))
  (sSeq (sExpr (eCallF 1 F__check_delays (aCons (eVar 1) aNil)))
  (sSeq (sFldS ["Veil"] 0 "limits" (eCB (g1 gToT) (aCons (eVar 2) aNil)))
  (sFldS ["Veil"] 0 "delays" (eCB (g1 gToT) (aCons (eComp [3, 4] (iSeq (eVar 1)) (kTup 2 (kCons (kName 3) (kCons (kName 4) kNil))) pYes (eTup (aCons (eVar 3) (aCons (eVar 4) aNil)))) aNil))))))
def fx__law_veil : FX := fun i => match i with | 0 => true | 1 => true | _ => false
def F__law_veil : FnD := fnOf 3 2 fx__law_veil (sSeq (sIf (tOfE (eOp gEq (eCB (g1 gLen) (aCons (eVar 0) aNil)) (eC (.int 0))))
  (sRetF (eMakeS "Veil" 3 [(3, 0)] [] F_Veil___init__ aNil (aCons (eVar 1) aNil)))
  sNil)
  (sSeq (sIf (tOfE (eOp gEq (eCB (g1 gLen) (aCons (eVar 0) aNil)) (eC (.int 1))))
  (sRetF (eMakeS "Veil" 3 [(3, 0)] [] F_Veil___init__ (aCons (eOp gIx (eVar 0) (eC (.int 0))) aNil) (aCons (eVar 1) aNil)))
  sNil)
  (sSeq (sIf (tOfE (eOp gEq (eCB (g1 gLen) (aCons (eVar 0) aNil)) (eC (.int 2))))
  (sRetF (eMakeS "Veil" 3 [(3, 0)] [] F_Veil___init__ (aCons (eOp gIx (eVar 0) (eC (.int 0))) (aCons (eOp gIx (eVar 0) (eC (.int 1))) aNil)) (aCons (eVar 1) aNil)))
  sNil)
  (sSeq (sIf (tOfE (eOp gEq (eCB (g1 gLen) (aCons (eVar 0) aNil)) (eC (.int 3))))
  (sRetF (eMakeS "Veil" 3 [(3, 0)] [] F_Veil___init__ (aCons (eOp gIx (eVar 0) (eC (.int 0))) (aCons (eOp gIx (eVar 0) (eC (.int 1))) (aCons (eOp gIx (eVar 0) (eC (.int 2))) aNil))) (aCons (eVar 1) aNil)))
  sNil)
  (sSeq (sIf (tOfE (eOp gEq (eCB (g1 gLen) (aCons (eVar 0) aNil)) (eC (.int 4))))
  (sRetF (eMakeS "Veil" 3 [(3, 0)] [] F_Veil___init__ (aCons (eOp gIx (eVar 0) (eC (.int 0))) (aCons (eOp gIx (eVar 0) (eC (.int 1))) (aCons (eOp gIx (eVar 0) (eC (.int 2))) (aCons (eOp gIx (eVar 0) (eC (.int 3))) aNil)))) (aCons (eVar 1) aNil)))
  sNil)
  (sSeq (sIf (tOfE (eOp gEq (eCB (g1 gLen) (aCons (eVar 0) aNil)) (eC (.int 8))))
  (sRetF (eMakeS "Veil" 3 [(3, 0)] [] F_Veil___init__ (aCons (eOp gIx (eVar 0) (eC (.int 0))) (aCons (eOp gIx (eVar 0) (eC (.int 1))) (aCons (eOp gIx (eVar 0) (eC (.int 2))) (aCons (eOp gIx (eVar 0) (eC (.int 3))) (aCons (eOp gIx (eVar 0) (eC (.int 4))) (aCons (eOp gIx (eVar 0) (eC (.int 5))) (aCons (eOp gIx (eVar 0) (eC (.int 6))) (aCons (eOp gIx (eVar 0) (eC (.int 7))) aNil)))))))) (aCons (eVar 1) aNil)))
  sNil)
  (sSeq (sSetF 2 (eSl (eVar 0) oNone (oSome (eC (.int 4)))))
  (sRetF (eMakeS "Veil" 3 [(3, 0)] [] F_Veil___init__ (aCons (eOp gIx (eVar 2) (eC (.int 0))) (aCons (eOp gIx (eVar 2) (eC (.int 1))) (aCons (eOp gIx (eVar 2) (eC (.int 2))) (aCons (eOp gIx (eVar 2) (eC (.int 3))) (aCons (eOp gIx (eVar 0) (eC (.int 4))) aNil))))) (aCons (eVar 1) aNil))))))))))
def fx_Veil_rounded : FX := fun i => match i with | 0 => true | 1 => true | _ => false
def F_Veil_rounded : FnD := fnOf 3 2 fx_Veil_rounded (sSeq (sIf (tOfE (eOp gEq (eUn (gFld ["Veil"] "limits") (eVar 0)) (eTup aNil)))
  (sRetF (eVar 1))
  sNil)
  (sRetF (eCB (g2 gMinD) (aCons (eComp [2] (iSeq (eUn (gFld ["Veil"] "limits") (eVar 0))) (kName 2) (tOfE (eOp gGe (eVar 2) (eVar 1))) (eCB (g1 gToInt) (aCons (eVar 2) aNil))) (aCons (eUn gNeg (eC (.int 1))) aNil)))))
def fx_Veil_lots : FX := fun i => match i with | 0 => true | _ => false
def F_Veil_lots : FnD := fnOf 3 1 fx_Veil_lots (sRetF (eCB (g1 gSum) (aCons (eComp [1, 2] (iSeq (eUn (gFld ["Veil"] "delays") (eVar 0))) (kTup 2 (kCons (kName 1) (kCons (kName 2) kNil))) pYes (eVar 2)) aNil)))
def fx_Veil_delay : FX := fun i => match i with | 0 => true | _ => false
def B_Veil_delay_1 : SEv := (sSeq (sIf (tOfE (eOp gLt (eVar 1) (eVar 3)))
  (sRetF (eVar 2))
  sNil)
  (sSetF 1 (eOp gSubt (eVar 1) (eVar 3))))
def F_Veil_delay : FnD := fnOf 4 2 fx_Veil_delay (sSeq (sIf (eNot (tOfE (eChain gLe gLt (eC (.int 0)) (eVar 1) (eProp "Veil" F_Veil_lots (eVar 0)))))
  (sRaise "BadLot" 1 [] [("number", 1)] (aCons (eVar 1) aNil))
  sNil)
  (sSeq (sFor (iSeq (eUn (gFld ["Veil"] "delays") (eVar 0))) (kTup 2 (kCons (kName 2) (kCons (kName 3) kNil)))
  B_Veil_delay_1)
  (sRetF (eC (.int 0)))))
def fx_Veil_shown : FX := fun i => match i with | 0 => true | 1 => true | 2 => true | _ => false
def F_Veil_shown : FnD := fnOf 3 3 fx_Veil_shown (sSeq (sIf (tOfE (eOp gLt (eVar 1) (eC (.int 0))))
  (sRaise "BadCount" 1 [] [("number", 1)] (aCons (eVar 1) aNil))
  sNil)
  (sRetF (eMethK "Veil" "rounded" 2 1 [(0, 0)] [] [] F_Veil_rounded (eVar 0) (aCons (eOp gAdd (eVar 1) (eMethK "Veil" "delay" 2 1 [(0, 0)] [] [] F_Veil_delay (eVar 0) (aCons (eVar 2) aNil))) aNil))))
def fx_Veil_view : FX := fun i => match i with | 0 => true | 1 => true | _ => false
def F_Veil_view : FnD := fnOf 4 2 fx_Veil_view (sSeq (sIf (tOfE (eOp gLt (eVar 1) (eC (.int 0))))
  (sRaise "BadCount" 1 [] [("number", 1)] (aCons (eVar 1) aNil))
  sNil)
  (sRetF (eCB (g1 gToT) (aCons (eComp [2, 3] (iSeq (eUn (gFld ["Veil"] "delays") (eVar 0))) (kTup 2 (kCons (kName 2) (kCons (kName 3) kNil))) pYes (eMethK "Veil" "rounded" 2 1 [(0, 0)] [] [] F_Veil_rounded (eVar 0) (aCons (eOp gAdd (eVar 1) (eVar 2)) aNil))) aNil))))
def fx_Veil_odds : FX := fun i => match i with | 0 => true | 1 => true | _ => false
def B_Veil_odds_1 : SEv := (sDSet (eVar 2) (eVar 3) (eOp gAdd (eDGet2 (eVar 2) (eVar 3) (eC (.int 0))) (eVar 5)))
def F_Veil_odds : FnD := fnOf 7 2 fx_Veil_odds (sSeq (sSet 2 eD0)
  (sSeq (sFor (iZip (aCons (eMethK "Veil" "view" 2 1 [(0, 0)] [] [] F_Veil_view (eVar 0) (aCons (eVar 1) aNil)) (aCons (eUn (gFld ["Veil"] "delays") (eVar 0)) aNil))) (kTup 2 (kCons (kName 3) (kCons (kTup 2 (kCons (kName 4) (kCons (kName 5) kNil))) kNil)))
  B_Veil_odds_1)
  (sRetF (eComp [3] (iSeq (eCB (g1 gSorted) (aCons (eComp [6] (iDct (eVar 2)) (kName 6) pYes (eCB (g1 gToInt) (aCons (eVar 6) aNil))) aNil))) (kName 3) pYes (eTup (aCons (eVar 3) (aCons (eOp gDIx (eVar 2) (eVar 3)) aNil)))))))
def fx__law_asked : FX := fun i => match i with | 0 => true | 1 => true | 2 => true | 3 => true | _ => false
def F__law_asked : FnD := fnOf 5 4 fx__law_asked (sTry (sSeq (sIf (tOfE (eOp gEq (eVar 1) (eC (.int 0))))
  (sRetF (eMethK "Veil" "shown" 3 2 [(0, 0), (0, 1)] [] [] F_Veil_shown (eVar 0) (aCons (eVar 2) (aCons (eVar 3) aNil))))
  sNil)
  (sSeq (sIf (tOfE (eOp gEq (eVar 1) (eC (.int 1))))
  (sRetF (eMethK "Veil" "delay" 2 1 [(0, 0)] [] [] F_Veil_delay (eVar 0) (aCons (eVar 3) aNil)))
  sNil)
  (sRetF (eIf (tOfE (eOp gEq (eVar 1) (eC (.int 2)))) (eMethK "Veil" "view" 2 1 [(0, 0)] [] [] F_Veil_view (eVar 0) (aCons (eVar 2) aNil)) (eMethK "Veil" "odds" 2 1 [(0, 0)] [] [] F_Veil_odds (eVar 0) (aCons (eVar 2) aNil))))))
  [⟨tabL [("BadCount", true), ("BadSpan", false), ("BadLot", false)], some 4, (fun ns ds => sRetF (eTup (aCons (eC (.str "count")) (aCons (eXf "number" ns ds) aNil))))⟩, ⟨tabL [("BadCount", false), ("BadSpan", false), ("BadLot", true)], some 4, (fun ns ds => sRetF (eTup (aCons (eC (.str "lot")) (aCons (eXf "number" ns ds) aNil))))⟩])
def fx__law_rounded : FX := fun i => match i with | 0 => true | 1 => true | _ => false
def F__law_rounded : FnD := fnOf 4 2 fx__law_rounded (sSeq (sSetF 2 (eComp [3] (iSeq (eVar 0)) (kName 3) (tOfE (eOp gGe (eVar 3) (eVar 1))) (eVar 3)))
  (sRetF (eIf (tOfE (eOp gEq (eVar 0) (eLst aNil))) (eVar 1) (eIf (tOfE (eOp gNe (eVar 2) (eLst aNil))) (eOp gIx (eVar 2) (eC (.int 0))) (eOp gSubt (eC (.int 0)) (eC (.int 1)))))))
def fx__law_veil_right : FX := fun i => match i with | 0 => true | 1 => true | 2 => true | 3 => true | _ => false
def B__law_veil_right_1 : SEv := (sIf (eOr (tOfE (eOp gEq (eVar 8) (eLst aNil))) (tOfE (eOp gNe (eOp gIx (eOp gIx (eVar 8) (eOp gSubt (eCB (g1 gLen) (aCons (eVar 8) aNil)) (eC (.int 1)))) (eC (.int 0))) (eVar 9))))
  (sExpr (eApp (eVar 8) (eTup (aCons (eVar 9) (aCons (eCB (g1 gSum) (aCons (eComp [11] (iRange1 (eCB (g1 gLen) (aCons (eVar 2) aNil))) (kName 11) (tOfE (eOp gEq (eOp gIx (eVar 7) (eVar 11)) (eVar 9))) (eOp gIx (eOp gIx (eVar 2) (eVar 11)) (eC (.int 1)))) aNil)) aNil)))))
  sNil)
def B__law_veil_right_2 : SEv := (sIf (eOr (eNot (eTru (eCallF 2 (F__law_same 6) (aCons (eMethK "Veil" "delay" 2 1 [(0, 0)] [] [] F_Veil_delay (eVar 0) (aCons (eVar 12) aNil)) (aCons (eOp gIx (eOp gIx (eVar 2) (eVar 11)) (eC (.int 0))) aNil))))) (eNot (eTru (eCallF 2 (F__law_same 6) (aCons (eMethK "Veil" "shown" 3 2 [(0, 0), (0, 1)] [] [] F_Veil_shown (eVar 0) (aCons (eVar 5) (aCons (eVar 12) aNil))) (aCons (eOp gIx (eVar 7) (eVar 11)) aNil))))))
  (sRetF (eC (.bl false)))
  sNil)
def B__law_veil_right_3 : SEv := (sSeq (sFor (iSeq (eLst (aCons (eVar 10) (aCons (eOp gSubt (eOp gAdd (eVar 10) (eOp gIx (eOp gIx (eVar 2) (eVar 11)) (eC (.int 1)))) (eC (.int 1))) aNil)))) (kName 12)
  B__law_veil_right_2)
  (sSetF 10 (eOp gAdd (eVar 10) (eOp gIx (eOp gIx (eVar 2) (eVar 11)) (eC (.int 1))))))
def B__law_veil_right_4 : SEv := (sSeq (sIf (eNot (eTru (eCallF 2 (F__law_same 6) (aCons (eMethK "Veil" "rounded" 2 1 [(0, 0)] [] [] F_Veil_rounded (eVar 0) (aCons (eVar 5) aNil)) (aCons (eCallF 2 F__law_rounded (aCons (eVar 1) (aCons (eVar 5) aNil))) aNil)))))
  (sRetF (eC (.bl false)))
  sNil)
  (sSeq (sSetF 7 (eComp [13] (iSeq (eVar 2)) (kName 13) pYes (eCallF 2 F__law_rounded (aCons (eVar 1) (aCons (eOp gAdd (eVar 5) (eOp gIx (eVar 13) (eC (.int 0)))) aNil)))))
  (sSeq (sIf (eNot (eTru (eCallF 2 (F__law_same 6) (aCons (eMethK "Veil" "view" 2 1 [(0, 0)] [] [] F_Veil_view (eVar 0) (aCons (eVar 5) aNil)) (aCons (eCB (g1 gToT) (aCons (eVar 7) aNil)) aNil)))))
  (sRetF (eC (.bl false)))
  sNil)
  (sSeq (sSet 8 (eLst aNil))
  (sSeq (sFor (iSeq (eCB (g1 gSorted) (aCons (eComp [13] (iSeq (eVar 7)) (kName 13) pYes (eCB (g1 gToInt) (aCons (eVar 13) aNil))) aNil))) (kName 9)
  B__law_veil_right_1)
  (sSeq (sIf (eNot (eTru (eCallV 2 (F__law_same 6) (aCons (eMethK "Veil" "odds" 2 1 [(0, 0)] [] [] F_Veil_odds (eVar 0) (aCons (eVar 5) aNil)) (aCons (eVar 8) aNil)))))
  (sRetF (eC (.bl false)))
  sNil)
  (sSeq (sSetF 10 (eC (.int 0)))
  (sFor (iRange1 (eCB (g1 gLen) (aCons (eVar 2) aNil))) (kName 11)
  B__law_veil_right_3))))))))
def F__law_veil_right : FnD := fnOf 14 4 fx__law_veil_right (sSeq (sSetF 4 (eCB (g1 gSum) (aCons (eComp [13] (iSeq (eVar 2)) (kName 13) pYes (eOp gIx (eVar 13) (eC (.int 1)))) aNil)))
  (sSeq (sIf (eOr (eNot (eTru (eCallF 2 (F__law_same 6) (aCons (eProp "Veil" F_Veil_lots (eVar 0)) (aCons (eVar 4) aNil))))) (eNot (eTru (eCallF 2 (F__law_same 6) (aCons (eTup (aCons (eUn (gFld ["Veil"] "limits") (eVar 0)) (aCons (eUn (gFld ["Veil"] "delays") (eVar 0)) aNil))) (aCons (eTup (aCons (eCB (g1 gToT) (aCons (eVar 1) aNil)) (aCons (eCB (g1 gToT) (aCons (eVar 2) aNil)) aNil))) aNil))))))
  (sRetF (eC (.bl false)))
  sNil)
  (sSeq (sFor (iSeq (eVar 3)) (kName 5)
  B__law_veil_right_4)
  (sSeq (sSetF 6 (eLst (aCons (eCallF 4 F__law_asked (aCons (eVar 0) (aCons (eC (.int 0)) (aCons (eOp gSubt (eC (.int 0)) (eC (.int 1))) (aCons (eVar 4) aNil))))) (aCons (eCallF 4 F__law_asked (aCons (eVar 0) (aCons (eC (.int 0)) (aCons (eC (.int 0)) (aCons (eVar 4) aNil))))) (aCons (eCallF 4 F__law_asked (aCons (eVar 0) (aCons (eC (.int 1)) (aCons (eC (.int 0)) (aCons (eOp gSubt (eC (.int 0)) (eC (.int 1))) aNil))))) aNil)))))
  (sSeq (sSetF 6 (eOp gAdd (eVar 6) (eLst (aCons (eCallF 4 F__law_asked (aCons (eVar 0) (aCons (eC (.int 1)) (aCons (eC (.int 0)) (aCons (eVar 4) aNil))))) (aCons (eCallF 4 F__law_asked (aCons (eVar 0) (aCons (eC (.int 2)) (aCons (eOp gSubt (eC (.int 0)) (eC (.int 4))) (aCons (eC (.int 0)) aNil))))) (aCons (eCallF 4 F__law_asked (aCons (eVar 0) (aCons (eC (.int 3)) (aCons (eOp gSubt (eC (.int 0)) (eC (.int 5))) (aCons (eC (.int 0)) aNil))))) aNil))))))
  (sRetF (eOp gEq (eVar 6) (eLst (aCons (eTup (aCons (eC (.str "count")) (aCons (eOp gSubt (eC (.int 0)) (eC (.int 1))) aNil))) (aCons (eTup (aCons (eC (.str "lot")) (aCons (eVar 4) aNil))) (aCons (eTup (aCons (eC (.str "lot")) (aCons (eOp gSubt (eC (.int 0)) (eC (.int 1))) aNil))) (aCons (eTup (aCons (eC (.str "lot")) (aCons (eVar 4) aNil))) (aCons (eTup (aCons (eC (.str "count")) (aCons (eOp gSubt (eC (.int 0)) (eC (.int 4))) aNil))) (aCons (eTup (aCons (eC (.str "count")) (aCons (eOp gSubt (eC (.int 0)) (eC (.int 5))) aNil))) aNil))))))))))))))
def fx_Veil___eq__ : FX := fun i => match i with | 0 => true | 1 => true | _ => false
def F_Veil___eq__ : FnD := fnOf 2 2 fx_Veil___eq__ (sRetF (eAndV (eUn (gIsc (tabL [("Veil", true)])) (eVar 1)) (eAndV (eOp gEq (eUn (gFld ["Veil"] "limits") (eVar 0)) (eUn (gFld ["Veil"] "limits") (eVar 1))) (eOp gEq (eUn (gFld ["Veil"] "delays") (eVar 0)) (eUn (gFld ["Veil"] "delays") (eVar 1))))))
def fx__law_tried : FX := fun i => match i with | 0 => true | 1 => true | _ => false
def F__law_tried : FnD := fnOf 3 2 fx__law_tried (sSeq (sTry (sIf (tOfE (eOp gEq (eCB (g1 gLen) (aCons (eVar 0) aNil)) (eC (.int 9))))
  (sExpr (eMakeS "Veil" 3 [(3, 0)] [] F_Veil___init__ (aCons (eOp gIx (eVar 0) (eC (.int 0))) (aCons (eOp gIx (eVar 0) (eC (.int 1))) (aCons (eOp gIx (eVar 0) (eC (.int 2))) (aCons (eOp gIx (eVar 0) (eC (.int 3))) (aCons (eOp gIx (eVar 0) (eC (.int 4))) (aCons (eOp gIx (eVar 0) (eC (.int 5))) (aCons (eOp gIx (eVar 0) (eC (.int 6))) (aCons (eOp gIx (eVar 0) (eC (.int 7))) (aCons (eOp gIx (eVar 0) (eC (.int 8))) aNil))))))))) (aCons (eVar 1) aNil)))
  (sExpr (eCallF 2 F__law_veil (aCons (eVar 0) (aCons (eVar 1) aNil)))))
  [⟨tabL [("BadCount", true), ("BadSpan", false), ("BadLot", false)], some 2, (fun ns ds => sRetF (eTup (aCons (eC (.str "count")) (aCons (eXf "number" ns ds) aNil))))⟩, ⟨tabL [("BadCount", false), ("BadSpan", true), ("BadLot", false)], some 2, (fun ns ds => sRetF (eTup (aCons (eC (.str "span")) (aCons (eXf "low" ns ds) (aCons (eXf "high" ns ds) aNil)))))⟩])
  (sRetF (eTup (aCons (eC (.str "none")) aNil))))
def fx__law_due : FX := fun i => match i with | 0 => true | 1 => true | _ => false
def B__law_due_1 : SEv := (sIf (tOfE (eOp gGe (eOp gIx (eVar 0) (eVar 3)) (eOp gIx (eVar 0) (eOp gAdd (eVar 3) (eC (.int 1))))))
  (sRetF (eTup (aCons (eC (.str "span")) (aCons (eOp gIx (eVar 0) (eVar 3)) (aCons (eOp gIx (eVar 0) (eOp gAdd (eVar 3) (eC (.int 1)))) aNil)))))
  sNil)
def B__law_due_2 : SEv := (sSeq (sIf (tOfE (eOp gLt (eVar 4) (eC (.int 0))))
  (sRetF (eTup (aCons (eC (.str "count")) (aCons (eVar 4) aNil))))
  sNil)
  (sIf (tOfE (eOp gLt (eVar 5) (eC (.int 1))))
  (sRetF (eTup (aCons (eC (.str "count")) (aCons (eVar 5) aNil))))
  sNil))
def F__law_due : FnD := fnOf 7 2 fx__law_due (sSeq (sIf (tOfE (eOp gGt (eCB (g1 gLen) (aCons (eVar 0) aNil)) (eC (.int 8))))
  (sRetF (eTup (aCons (eC (.str "count")) (aCons (eCB (g1 gLen) (aCons (eVar 0) aNil)) aNil))))
  sNil)
  (sSeq (sSetF 2 (eComp [6] (iSeq (eVar 0)) (kName 6) (tOfE (eOp gLt (eVar 6) (eC (.int 0)))) (eVar 6)))
  (sSeq (sIf (tOfE (eOp gNe (eVar 2) (eLst aNil)))
  (sRetF (eTup (aCons (eC (.str "count")) (aCons (eOp gIx (eVar 2) (eC (.int 0))) aNil))))
  sNil)
  (sSeq (sFor (iRange1 (eOp gSubt (eCB (g1 gLen) (aCons (eVar 0) aNil)) (eC (.int 1)))) (kName 3)
  B__law_due_1)
  (sSeq (sIf (eNot (tOfE (eChain gLe gLe (eC (.int 1)) (eCB (g1 gLen) (aCons (eVar 1) aNil)) (eC (.int 6)))))
  (sRetF (eTup (aCons (eC (.str "count")) (aCons (eCB (g1 gLen) (aCons (eVar 1) aNil)) aNil))))
  sNil)
  (sSeq (sFor (iSeq (eVar 1)) (kTup 2 (kCons (kName 4) (kCons (kName 5) kNil)))
  B__law_due_2)
  (sRetF (eTup (aCons (eC (.str "none")) aNil)))))))))
def fx_law : FX := fun i => match i with | 0 => true | _ => false
def B_law_1 : SEv := (sSeq (sExpr (eApp (eVar 2) (eVar 3)))
  (sSetF 3 (eOp gAdd (eVar 3) (eOp gIx (eLst (aCons (eC (.int 1)) (aCons (eC (.int 2)) (aCons (eC (.int 3)) (aCons (eC (.int 5)) (aCons (eOp gPow (eC (.int 10)) (eC (.int 12))) aNil)))))) (eCallN 2 F__law_draw (aCons (eVar 1) (aCons (eC (.int 5)) aNil)))))))
def B_law_2 : SEv := (sExpr (eApp (eVar 5) (eTup (aCons (eOp gIx (eLst (aCons (eC (.int 0)) (aCons (eC (.int 1)) (aCons (eC (.int 2)) (aCons (eC (.int 3)) (aCons (eC (.int 9)) (aCons (eOp gPow (eC (.int 10)) (eC (.int 12))) aNil))))))) (eCallN 2 F__law_draw (aCons (eVar 1) (aCons (eC (.int 6)) aNil)))) (aCons (eOp gIx (eLst (aCons (eC (.int 1)) (aCons (eC (.int 2)) (aCons (eC (.int 3)) (aCons (eC (.int 5)) (aCons (eOp gAdd (eC (.int 1)) (eCallN 2 F__law_draw (aCons (eVar 1) (aCons (eOp gPow (eC (.int 10)) (eC (.int 20))) aNil)))) aNil)))))) (eCallN 2 F__law_draw (aCons (eVar 1) (aCons (eC (.int 5)) aNil)))) aNil)))))
def B_law_3 : SEv := (sIf (tOfE (eOp gNe (eCallF 2 F__law_tried (aCons (eOp gIx (eVar 11) (eVar 4)) (aCons (eOp gIx (eVar 12) (eVar 13)) aNil))) (eCallF 2 F__law_due (aCons (eOp gIx (eVar 11) (eVar 4)) (aCons (eOp gIx (eVar 12) (eVar 13)) aNil)))))
  (sRetF (eC (.bl false)))
  sNil)
def B_law_4 : SEv := (sFor (iSeq (eLst (aCons (eC (.int 0)) (aCons (eVar 10) (aCons (eOp gAdd (eC (.int 3)) (eVar 10)) aNil))))) (kName 13)
  B_law_3)
def F_law : FnD := fnOf 15 1 fx_law (sSeq (sSet 1 (eCallF 1 F__law_box (aCons (eVar 0) aNil)))
  (sSeq (sSet 2 (eLst aNil))
  (sSeq (sSetF 3 (eCallN 2 F__law_draw (aCons (eVar 1) (aCons (eC (.int 4)) aNil))))
  (sSeq (sFor (iRange1 (eOp gIx (eLst (aCons (eC (.int 0)) (aCons (eC (.int 1)) (aCons (eC (.int 2)) (aCons (eC (.int 3)) (aCons (eC (.int 4)) (aCons (eC (.int 5)) (aCons (eC (.int 8)) aNil)))))))) (eCallN 2 F__law_draw (aCons (eVar 1) (aCons (eC (.int 7)) aNil))))) (kName 4)
  B_law_1)
  (sSeq (sSet 5 (eLst aNil))
  (sSeq (sFor (iRange1 (eOp gAdd (eC (.int 1)) (eCallN 2 F__law_draw (aCons (eVar 1) (aCons (eC (.int 6)) aNil))))) (kName 4)
  B_law_2)
  (sSeq (sSetF 6 (eOp gAdd (eOp gAdd (eLst (aCons (eC (.int 0)) (aCons (eC (.int 1)) (aCons (eC (.int 7)) (aCons (eOp gPow (eC (.int 10)) (eC (.int 13))) aNil))))) (eVar 2)) (eComp [14] (iSeq (eVar 2)) (kName 14) pYes (eOp gAdd (eVar 14) (eC (.int 1))))))
  (sSeq (sSet 7 (eCB (g1 gToL) (aCons (eVar 5) aNil)))
  (sSeq (sSetF 8 (eCallW [0, 3, 4, 8, 9, 10, 11, 12, 13, 14] 2 F__law_veil (aCons (eVar 2) (aCons (eVar 7) aNil))))
  (sSeq (sExpr (eApp (eVar 7) (eTup (aCons (eC (.int 1)) (aCons (eC (.int 1)) aNil)))))
  (sSeq (sIf (eNot (eTru (eCallV 4 F__law_veil_right (aCons (eVar 8) (aCons (eVar 2) (aCons (eVar 5) (aCons (eVar 6) aNil)))))))
  (sRetF (eC (.bl false)))
  sNil)
  (sSeq (sSetF 9 (eMakeS "Veil" 3 [(2, 0)] [(.tup [.tup [.int 0, .int 1]])] F_Veil___init__ aNil aNil))
  (sSeq (sIf (eOr (eNot (eTru (eCallF 4 F__law_veil_right (aCons (eVar 9) (aCons (eLst aNil) (aCons (eLst (aCons (eTup (aCons (eC (.int 0)) (aCons (eC (.int 1)) aNil))) aNil)) (aCons (eVar 6) aNil))))))) (eNot (tOfE (eOwn2 "Veil" ["Veil"] F_Veil___eq__ (eVar 8) (eCallF 2 F__law_veil (aCons (eVar 2) (aCons (eCB (g1 gToT) (aCons (eVar 5) aNil)) aNil)))))))
  (sRetF (eC (.bl false)))
  sNil)
  (sSeq (sIf (eOr (tOfE (eOwn2 "Veil" ["Veil"] F_Veil___eq__ (eVar 8) (eCallF 2 F__law_veil (aCons (eVar 2) (aCons (eOp gAdd (eLst (aCons (eTup (aCons (eOp gAdd (eOp gIx (eOp gIx (eVar 5) (eC (.int 0))) (eC (.int 0))) (eC (.int 1))) (aCons (eOp gIx (eOp gIx (eVar 5) (eC (.int 0))) (eC (.int 1))) aNil))) aNil)) (eSl (eVar 5) (oSome (eC (.int 1))) oNone)) aNil))))) (eOr (tOfE (eOwn2 "Veil" ["Veil"] F_Veil___eq__ (eVar 8) (eVar 2))) (tOfE (eOwn2 "Veil" ["Veil"] F_Veil___eq__ (eVar 8) (eCallF 2 F__law_veil (aCons (eLst (aCons (eC (.int 3)) (aCons (eC (.int 9)) aNil))) (aCons (eLst (aCons (eTup (aCons (eC (.int 7)) (aCons (eC (.int 7)) aNil))) aNil)) aNil)))))))
  (sRetF (eC (.bl false)))
  sNil)
  (sSeq (sSetF 10 (eCallN 2 F__law_draw (aCons (eVar 1) (aCons (eC (.int 3)) aNil))))
  (sSeq (sSetF 11 (eLst (aCons (eVar 2) (aCons (eOp gAdd (eLst (aCons (eOp gSubt (eC (.int 0)) (eC (.int 1))) aNil)) (eSl (eVar 2) oNone (oSome (eC (.int 3))))) (aCons (eOp gAdd (eSl (eVar 2) oNone (oSome (eC (.int 2)))) (eSl (eVar 2) oNone (oSome (eC (.int 2))))) (aCons (eLst (aCons (eC (.int 5)) (aCons (eC (.int 5)) aNil))) (aCons (eLst (aCons (eC (.int 7)) (aCons (eC (.int 3)) (aCons (eOp gSubt (eC (.int 0)) (eC (.int 2))) aNil)))) (aCons (eLR1 (eC (.int 9))) (aCons (eOp gAdd (eLst (aCons (eOp gSubt (eC (.int 0)) (eC (.int 3))) aNil)) (eLR1 (eC (.int 8)))) aNil)))))))))
  (sSeq (sSetF 12 (eLst (aCons (eVar 5) (aCons (eLst aNil) (aCons (eOp gAdd (eVar 5) (eLst (aCons (eTup (aCons (eC (.int 1)) (aCons (eC (.int 1)) aNil))) (aCons (eTup (aCons (eC (.int 2)) (aCons (eC (.int 1)) aNil))) (aCons (eTup (aCons (eC (.int 3)) (aCons (eC (.int 1)) aNil))) (aCons (eTup (aCons (eC (.int 4)) (aCons (eC (.int 1)) aNil))) (aCons (eTup (aCons (eC (.int 5)) (aCons (eC (.int 1)) aNil))) (aCons (eTup (aCons (eC (.int 6)) (aCons (eC (.int 1)) aNil))) aNil)))))))) (aCons (eOp gAdd (eSl (eVar 5) oNone (oSome (eC (.int 5)))) (eLst (aCons (eTup (aCons (eOp gSubt (eC (.int 0)) (eC (.int 1))) (aCons (eC (.int 0)) aNil))) aNil))) (aCons (eOp gAdd (eSl (eVar 5) oNone (oSome (eC (.int 5)))) (eLst (aCons (eTup (aCons (eC (.int 2)) (aCons (eC (.int 0)) aNil))) aNil))) (aCons (eLst (aCons (eTup (aCons (eC (.int 0)) (aCons (eOp gSubt (eC (.int 0)) (eC (.int 5))) aNil))) aNil)) aNil))))))))
  (sSeq (sFor (iRange1 (eC (.int 7))) (kName 4)
  B_law_4)
  (sRetF (eCallV 4 F__law_veil_right (aCons (eVar 8) (aCons (eVar 2) (aCons (eVar 5) (aCons (eSl (eVar 6) oNone (oSome (eC (.int 2)))) aNil))))))))))))))))))))))))
end Lw

namespace Lw
open PySem L2 Sep LwB
structure V_Veil where
  f_limits : (List Int)
  f_delays : (List (Int × Int))
abbrev ns_Veil : List Str := ["limits", "delays"]
abbrev ds_Veil (o : V_Veil) : List D := [(eT D.int) o.f_limits, (eT (eP2 D.int D.int)) o.f_delays]
abbrev e_Veil (o : V_Veil) : D := .obj "Veil" ns_Veil (ds_Veil o)
theorem fld_Veil_limits (o : V_Veil) : gFld ["Veil"] "limits" (e_Veil o) = some (.sh ((eT D.int) o.f_limits)) := by kernel_rfl
theorem fld_Veil_delays (o : V_Veil) : gFld ["Veil"] "delays" (e_Veil o) = some (.sh ((eT (eP2 D.int D.int)) o.f_delays)) := by kernel_rfl
def W__check_limits (v_limits : (List Int)) (Q : Unit → Prop) (E : EP) : Prop :=
  if (decide (8 < (v_limits.length : Int))) = true then E .BadCount [(D.int (v_limits.length : Int))] else wFor (fun (x4 : Int) (s3 : Unit) k5 k7 => if (decide (x4 < 0)) = true then E .BadCount [(D.int x4)] else k5 ()) v_limits () (fun (s3 : Unit) => wFor (fun (x11 : (Int × Int)) (s10 : Unit) k12 k15 => if (decide (x11.2 ≤ x11.1)) = true then E .BadSpan [(D.int x11.2), (D.int x11.1)] else k12 ()) (v_limits.zip (cutD v_limits (some 1) none)) () (fun (s10 : Unit) => Q ()))
def W__check_delays (v_delays : (LoT (Int × Int))) (Q : Unit → Prop) (E : EP) : Prop :=
  if (!(decide (1 ≤ (v_delays.xs.length : Int)) && decide ((v_delays.xs.length : Int) ≤ 6))) = true then E .BadCount [(D.int (v_delays.xs.length : Int))] else wFor (fun (x4 : (Int × Int)) (s3 : Unit) k5 k8 => if (decide (x4.1 < 0)) = true then E .BadCount [(D.int x4.1)] else if (decide (x4.2 < 1)) = true then E .BadCount [(D.int x4.2)] else k5 ()) v_delays.xs () (fun (s3 : Unit) => Q ())
def W_Veil___init__ (v_delays : (LoT (Int × Int))) (v_limits : (List Int)) (Q : V_Veil → Prop) (E : EP) : Prop :=
  W__check_limits v_limits (fun (x1 : Unit) => W__check_delays v_delays (fun (x2 : Unit) => v_delays.xs.length ≤ LIM ∧ (Q ⟨v_limits, (v_delays.xs.map fun (x4 : (Int × Int)) => (x4.1, x4.2))⟩)) E) E
def W__law_veil (v_limits : (List Int)) (v_lags : (LoT (Int × Int))) (Q : V_Veil → Prop) (E : EP) : Prop :=
  if ((v_limits.length : Int) == 0) = true then W_Veil___init__ v_lags [] (fun (o2 : V_Veil) => Q o2) E else if ((v_limits.length : Int) == 1) = true then wIx v_limits 0 (fun (x4 : Int) => W_Veil___init__ v_lags [x4] (fun (o5 : V_Veil) => Q o5) E) else if ((v_limits.length : Int) == 2) = true then wIx v_limits 0 (fun (x7 : Int) => wIx v_limits 1 (fun (x8 : Int) => W_Veil___init__ v_lags [x7, x8] (fun (o9 : V_Veil) => Q o9) E)) else if ((v_limits.length : Int) == 3) = true then wIx v_limits 0 (fun (x11 : Int) => wIx v_limits 1 (fun (x12 : Int) => wIx v_limits 2 (fun (x13 : Int) => W_Veil___init__ v_lags [x11, x12, x13] (fun (o14 : V_Veil) => Q o14) E))) else if ((v_limits.length : Int) == 4) = true then wIx v_limits 0 (fun (x16 : Int) => wIx v_limits 1 (fun (x17 : Int) => wIx v_limits 2 (fun (x18 : Int) => wIx v_limits 3 (fun (x19 : Int) => W_Veil___init__ v_lags [x16, x17, x18, x19] (fun (o20 : V_Veil) => Q o20) E)))) else if ((v_limits.length : Int) == 8) = true then wIx v_limits 0 (fun (x22 : Int) => wIx v_limits 1 (fun (x23 : Int) => wIx v_limits 2 (fun (x24 : Int) => wIx v_limits 3 (fun (x25 : Int) => wIx v_limits 4 (fun (x26 : Int) => wIx v_limits 5 (fun (x27 : Int) => wIx v_limits 6 (fun (x28 : Int) => wIx v_limits 7 (fun (x29 : Int) => W_Veil___init__ v_lags [x22, x23, x24, x25, x26, x27, x28, x29] (fun (o30 : V_Veil) => Q o30) E)))))))) else wIx (cutD v_limits none (some 4)) 0 (fun (x31 : Int) => wIx (cutD v_limits none (some 4)) 1 (fun (x32 : Int) => wIx (cutD v_limits none (some 4)) 2 (fun (x33 : Int) => wIx (cutD v_limits none (some 4)) 3 (fun (x34 : Int) => wIx v_limits 4 (fun (x35 : Int) => W_Veil___init__ v_lags [x31, x32, x33, x34, x35] (fun (o36 : V_Veil) => Q o36) E)))))
def W_Veil_rounded (v_self : V_Veil) (v_ticks : Int) (Q : Int → Prop) (E : EP) : Prop :=
  wB (gEq ((eT D.int) v_self.f_limits) ((eT eU) [])) (fun b1 => if b1 = true then Q v_ticks else v_self.f_limits.length ≤ LIM ∧ (Q (minDf (-1) ((v_self.f_limits.filter fun (x4 : Int) => (decide (v_ticks ≤ x4))).map fun (x4 : Int) => x4))))
def W_Veil_lots (v_self : V_Veil) (Q : Int → Prop) (E : EP) : Prop :=
  v_self.f_delays.length ≤ LIM ∧ (Q (((v_self.f_delays.map fun (x2 : (Int × Int)) => x2.2)).sum))
def W_Veil_delay (v_self : V_Veil) (v_lot : Int) (Q : Int → Prop) (E : EP) : Prop :=
  wJ (fun k2 => if (decide (0 ≤ v_lot)) = true then W_Veil_lots v_self (fun (x4 : Int) => k2 (decide (v_lot < x4))) (fun _ _ => False) else k2 false) (fun (j1 : Bool) => if (!j1) = true then E .BadLot [(D.int v_lot)] else wFor (fun (x8 : (Int × Int)) (s7 : Int) k9 k12 => if (decide (s7 < x8.2)) = true then Q x8.1 else k9 (s7 - x8.2)) v_self.f_delays v_lot (fun (s7 : Int) => Q 0))
def W_Veil_shown (v_self : V_Veil) (v_ticks : Int) (v_lot : Int) (Q : Int → Prop) (E : EP) : Prop :=
  if (decide (v_ticks < 0)) = true then E .BadCount [(D.int v_ticks)] else W_Veil_delay v_self v_lot (fun (x3 : Int) => W_Veil_rounded v_self (v_ticks + x3) (fun (x4 : Int) => Q x4) (fun _ _ => False)) E
def W_Veil_view (v_self : V_Veil) (v_ticks : Int) (Q : (List Int) → Prop) (E : EP) : Prop :=
  if (decide (v_ticks < 0)) = true then E .BadCount [(D.int v_ticks)] else v_self.f_delays.length ≤ LIM ∧ (wComp (fun (x4 : (Int × Int)) k5 => W_Veil_rounded v_self (v_ticks + x4.1) (fun (x7 : Int) => k5 (some x7)) (fun _ _ => False)) v_self.f_delays (fun (ys6 : List Int) => Q ys6))
def W_Veil_odds (v_self : V_Veil) (v_ticks : Int) (Q : (List (Int × Int)) → Prop) (E : EP) : Prop :=
  W_Veil_view v_self v_ticks (fun (x1 : (List Int)) => wFor (fun (x3 : (Int × (Int × Int))) (s2 : (List (Int × Int))) k4 k8 => s2.length < LIM ∧ (k4 (mPut s2 x3.1 (((mGet s2 x3.1).getD 0) + x3.2.2)))) (x1.zip v_self.f_delays) [] (fun (s2 : (List (Int × Int))) => (s2.map (·.1)).length ≤ LIM ∧ ((isort ((s2.map (·.1)).map fun (x11 : Int) => x11)).length ≤ LIM ∧ (wComp (fun (x13 : Int) k14 => wGet (mGet s2 x13) (fun (x16 : Int) => k14 (some (x13, x16)))) (isort ((s2.map (·.1)).map fun (x11 : Int) => x11)) (fun (ys15 : List (Int × Int)) => Q ys15))))) E
def W__law_asked (v_veil : V_Veil) (v_way : Int) (v_ticks : Int) (v_number : Int) (Q : D → Prop) (E : EP) : Prop :=
  if (v_way == 0) = true then W_Veil_shown v_veil v_ticks v_number (fun (x5 : Int) => Q (D.int x5)) (fun k ds => (k = .BadCount ∧ wX1 ds (fun d1 => Q ((eP2 D.str eD) (("count" : Str), d1)))) ∨ (k = .BadLot ∧ wX1 ds (fun d2 => Q ((eP2 D.str eD) (("lot" : Str), d2))))) else if (v_way == 1) = true then W_Veil_delay v_veil v_number (fun (x7 : Int) => Q (D.int x7)) (fun k ds => (k = .BadCount ∧ wX1 ds (fun d1 => Q ((eP2 D.str eD) (("count" : Str), d1)))) ∨ (k = .BadLot ∧ wX1 ds (fun d2 => Q ((eP2 D.str eD) (("lot" : Str), d2))))) else wJ (fun k9 => if (v_way == 2) = true then W_Veil_view v_veil v_ticks (fun (x11 : (List Int)) => k9 ((eT D.int) x11)) (fun k ds => (k = .BadCount ∧ wX1 ds (fun d1 => Q ((eP2 D.str eD) (("count" : Str), d1)))) ∨ (k = .BadLot ∧ wX1 ds (fun d2 => Q ((eP2 D.str eD) (("lot" : Str), d2))))) else W_Veil_odds v_veil v_ticks (fun (x12 : (List (Int × Int))) => k9 ((eL (eP2 D.int D.int)) x12)) (fun k ds => (k = .BadCount ∧ wX1 ds (fun d1 => Q ((eP2 D.str eD) (("count" : Str), d1)))) ∨ (k = .BadLot ∧ wX1 ds (fun d2 => Q ((eP2 D.str eD) (("lot" : Str), d2)))))) (fun (j8 : D) => Q j8)
def W__law_rounded (v_limits : (List Int)) (v_ticks : Int) (Q : Int → Prop) (E : EP) : Prop :=
  v_limits.length ≤ LIM ∧ (wJ (fun k4 => wB (gEq ((eL D.int) v_limits) ((eL eU) [])) (fun b5 => if b5 = true then k4 v_ticks else wJ (fun k8 => wB (gNe ((eL D.int) ((v_limits.filter fun (x2 : Int) => (decide (v_ticks ≤ x2))).map fun (x2 : Int) => x2)) ((eL eU) [])) (fun b9 => if b9 = true then wIx ((v_limits.filter fun (x2 : Int) => (decide (v_ticks ≤ x2))).map fun (x2 : Int) => x2) 0 (fun (x11 : Int) => k8 x11) else k8 (0 - 1))) (fun (j7 : Int) => k4 j7))) (fun (j3 : Int) => Q j3))
def W__law_veil_right (v_veil : V_Veil) (v_limits : (List Int)) (v_lags : (List (Int × Int))) (v_times : (List Int)) (Q : Bool → Prop) (E : EP) : Prop :=
  v_lags.length ≤ LIM ∧ (wJ (fun k4 => W_Veil_lots v_veil (fun (x5 : Int) => wSame (D.int x5) (D.int (((v_lags.map fun (x2 : (Int × Int)) => x2.2)).sum)) (fun r6 => if (!r6) = true then k4 true else wSame ((eP2 (eT D.int) (eT (eP2 D.int D.int))) (v_veil.f_limits, v_veil.f_delays)) ((eP2 (eT D.int) (eT (eP2 D.int D.int))) (v_limits, v_lags)) (fun r8 => k4 (!r8)))) (fun _ _ => False)) (fun (j3 : Bool) => if j3 = true then Q false else wFor (fun (x11 : Int) (s10 : Unit) k12 k21 => W_Veil_rounded v_veil x11 (fun (x22 : Int) => W__law_rounded v_limits x11 (fun (x23 : Int) => wSame (D.int x22) (D.int x23) (fun r24 => if (!r24) = true then Q false else v_lags.length ≤ LIM ∧ (wComp (fun (x27 : (Int × Int)) k28 => W__law_rounded v_limits (x11 + x27.1) (fun (x30 : Int) => k28 (some x30)) (fun _ _ => False)) v_lags (fun (ys29 : List Int) => W_Veil_view v_veil x11 (fun (x31 : (List Int)) => wSame ((eT D.int) x31) ((eT D.int) ys29) (fun r32 => if (!r32) = true then Q false else ys29.length ≤ LIM ∧ (wFor (fun (x37 : Int) (s36 : (List (Int × Int))) k38 k41 => wJ (fun k43 => wJ (fun k46 => wB (gEq ((eL (eP2 D.int D.int)) s36) ((eL eU) [])) (fun b47 => if b47 = true then k46 true else wIx s36 ((s36.length : Int) - 1) (fun (x49 : (Int × Int)) => k46 (!(x49.1 == x37))))) (fun (j45 : Bool) => if j45 = true then rOk (v_lags.length : Int) ∧ ((rngZ 0 (v_lags.length : Int)).length ≤ LIM ∧ (wComp (fun (x54 : Int) k55 => wIx ys29 x54 (fun (x57 : Int) => if (x57 == x37) = true then wIx v_lags x54 (fun (x59 : (Int × Int)) => k55 (some x59.2)) else k55 none)) (rngZ 0 (v_lags.length : Int)) (fun (ys56 : List Int) => s36.length < LIM ∧ (k43 (s36 ++ [(x37, (ys56).sum)]))))) else k43 s36)) (fun (s42 : (List (Int × Int))) => k38 s42)) (isort (ys29.map fun (x35 : Int) => x35)) [] (fun (s36 : (List (Int × Int))) => W_Veil_odds v_veil x11 (fun (x63 : (List (Int × Int))) => wSame ((eL (eP2 D.int D.int)) x63) ((eL (eP2 D.int D.int)) s36) (fun r64 => if (!r64) = true then Q false else rOk (v_lags.length : Int) ∧ (wFor (fun (x68 : Int) (s67 : Int) k69 k72 => wIx v_lags x68 (fun (x73 : (Int × Int)) => wFor (fun (x76 : Int) (s75 : Unit) k77 k79 => wJ (fun k81 => W_Veil_delay v_veil x76 (fun (x82 : Int) => wIx v_lags x68 (fun (x83 : (Int × Int)) => wSame (D.int x82) (D.int x83.1) (fun r85 => if (!r85) = true then k81 true else W_Veil_shown v_veil x11 x76 (fun (x87 : Int) => wIx ys29 x68 (fun (x88 : Int) => wSame (D.int x87) (D.int x88) (fun r89 => k81 (!r89)))) E))) E) (fun (j80 : Bool) => if j80 = true then Q false else k77 ())) [s67, ((s67 + x73.2) - 1)] () (fun (s75 : Unit) => wIx v_lags x68 (fun (x91 : (Int × Int)) => k69 (s67 + x91.2))))) (rngZ 0 (v_lags.length : Int)) 0 (fun (s67 : Int) => k12 ())))) E)))) E)))) (fun _ _ => False)) (fun _ _ => False)) v_times () (fun (s10 : Unit) => W__law_asked v_veil 0 (0 - 1) (((v_lags.map fun (x2 : (Int × Int)) => x2.2)).sum) (fun (x94 : D) => W__law_asked v_veil 0 0 (((v_lags.map fun (x2 : (Int × Int)) => x2.2)).sum) (fun (x95 : D) => W__law_asked v_veil 1 0 (0 - 1) (fun (x96 : D) => W__law_asked v_veil 1 0 (((v_lags.map fun (x2 : (Int × Int)) => x2.2)).sum) (fun (x97 : D) => W__law_asked v_veil 2 (0 - 4) 0 (fun (x98 : D) => W__law_asked v_veil 3 (0 - 5) 0 (fun (x99 : D) => [x94, x95, x96].length + [x97, x98, x99].length ≤ LIM ∧ (wB (gEq ((eL eD) ([x94, x95, x96] ++ [x97, x98, x99])) ((eL (eP2 D.str D.int)) [(("count" : Str), (0 - 1)), (("lot" : Str), ((v_lags.map fun (x2 : (Int × Int)) => x2.2)).sum), (("lot" : Str), (0 - 1)), (("lot" : Str), ((v_lags.map fun (x2 : (Int × Int)) => x2.2)).sum), (("count" : Str), (0 - 4)), (("count" : Str), (0 - 5))])) (fun b101 => Q b101))) (fun _ _ => False)) (fun _ _ => False)) (fun _ _ => False)) (fun _ _ => False)) (fun _ _ => False)) (fun _ _ => False))))
def W_Veil___eq__ (v_self : V_Veil) (v_other : D) (Q : Bool → Prop) (E : EP) : Prop :=
  wJ (fun k2 => wB (gIsc (tabL [("Veil", true)]) (eD v_other)) (fun b3 => if b3 = true then wJ (fun k6 => wD (gFld ["Veil"] "limits" (eD v_other)) (fun x7 => wB (gEq ((eT D.int) v_self.f_limits) (eD x7)) (fun b8 => if b8 = true then wD (gFld ["Veil"] "delays" (eD v_other)) (fun x10 => wB (gEq ((eT (eP2 D.int D.int)) v_self.f_delays) (eD x10)) (fun b11 => k6 b11)) else k6 false))) (fun (j5 : Bool) => k2 j5) else k2 false)) (fun (j1 : Bool) => Q j1)
def W__law_tried (v_limits : (List Int)) (v_lags : (List (Int × Int))) (Q : D → Prop) (E : EP) : Prop :=
  wJ (fun k6 => if ((v_limits.length : Int) == 9) = true then wIx v_limits 0 (fun (x8 : Int) => wIx v_limits 1 (fun (x9 : Int) => wIx v_limits 2 (fun (x10 : Int) => wIx v_limits 3 (fun (x11 : Int) => wIx v_limits 4 (fun (x12 : Int) => wIx v_limits 5 (fun (x13 : Int) => wIx v_limits 6 (fun (x14 : Int) => wIx v_limits 7 (fun (x15 : Int) => wIx v_limits 8 (fun (x16 : Int) => W_Veil___init__ (LoT.mk false v_lags) [x8, x9, x10, x11, x12, x13, x14, x15, x16] (fun (o17 : V_Veil) => k6 ()) (fun k ds => (k = .BadCount ∧ wX1 ds (fun d1 => Q ((eP2 D.str eD) (("count" : Str), d1)))) ∨ (k = .BadSpan ∧ wX2 ds (fun d2 d3 => Q ((eP3 D.str eD eD) (("span" : Str), d3, d2)))))))))))))) else W__law_veil v_limits (LoT.mk false v_lags) (fun (x18 : V_Veil) => k6 ()) (fun k ds => (k = .BadCount ∧ wX1 ds (fun d1 => Q ((eP2 D.str eD) (("count" : Str), d1)))) ∨ (k = .BadSpan ∧ wX2 ds (fun d2 d3 => Q ((eP3 D.str eD eD) (("span" : Str), d3, d2)))))) (fun (s5 : Unit) => Q ((eT D.str) [("none" : Str)]))
def W__law_due (v_limits : (List Int)) (v_lags : (List (Int × Int))) (Q : D → Prop) (E : EP) : Prop :=
  if (decide (8 < (v_limits.length : Int))) = true then Q ((eP2 D.str D.int) (("count" : Str), (v_limits.length : Int))) else v_limits.length ≤ LIM ∧ (wB (gNe ((eL D.int) ((v_limits.filter fun (x3 : Int) => (decide (x3 < 0))).map fun (x3 : Int) => x3)) ((eL eU) [])) (fun b4 => if b4 = true then wIx ((v_limits.filter fun (x3 : Int) => (decide (x3 < 0))).map fun (x3 : Int) => x3) 0 (fun (x6 : Int) => Q ((eP2 D.str D.int) (("count" : Str), x6))) else rOk ((v_limits.length : Int) - 1) ∧ (wFor (fun (x9 : Int) (s8 : Unit) k10 k12 => wIx v_limits x9 (fun (x13 : Int) => wIx v_limits (x9 + 1) (fun (x14 : Int) => if (decide (x14 ≤ x13)) = true then wIx v_limits x9 (fun (x16 : Int) => wIx v_limits (x9 + 1) (fun (x17 : Int) => Q ((eP3 D.str D.int D.int) (("span" : Str), x16, x17)))) else k10 ()))) (rngZ 0 ((v_limits.length : Int) - 1)) () (fun (s8 : Unit) => if (!(decide (1 ≤ (v_lags.length : Int)) && decide ((v_lags.length : Int) ≤ 6))) = true then Q ((eP2 D.str D.int) (("count" : Str), (v_lags.length : Int))) else wFor (fun (x20 : (Int × Int)) (s19 : Unit) k21 k24 => if (decide (x20.1 < 0)) = true then Q ((eP2 D.str D.int) (("count" : Str), x20.1)) else if (decide (x20.2 < 1)) = true then Q ((eP2 D.str D.int) (("count" : Str), x20.2)) else k21 ()) v_lags () (fun (s19 : Unit) => Q ((eT D.str) [("none" : Str)]))))))
def W_law : Prop :=
  wDraw 4 (fun z1 => wDraw 7 (fun z4 => wIx [0, 1, 2, 3, 4, 5, 8] z4 (fun (x7 : Int) => rOk x7 ∧ (wFor (fun (x10 : Int) (s9 : (Int × (List Int))) k11 k15 => s9.2.length < LIM ∧ (wDraw 5 (fun z17 => wIx [1, 2, 3, 5, 1000000000000] z17 (fun (x20 : Int) => k11 ((s9.1 + x20), (s9.2 ++ [s9.1])))))) (rngZ 0 x7) (z1, []) (fun (s9 : (Int × (List Int))) => wDraw 6 (fun z21 => rOk (1 + z21) ∧ (wFor (fun (x26 : Int) (s25 : (List (Int × Int))) k27 k31 => wDraw 6 (fun z32 => wIx [0, 1, 2, 3, 9, 1000000000000] z32 (fun (x35 : Int) => wDraw 100000000000000000000 (fun z36 => wDraw 5 (fun z39 => wIx [1, 2, 3, 5, (1 + z36)] z39 (fun (x42 : Int) => s25.length < LIM ∧ (k27 (s25 ++ [(x35, x42)])))))))) (rngZ 0 (1 + z21)) [] (fun (s25 : (List (Int × Int))) => [0, 1, 7, 10000000000000].length + s9.2.length ≤ LIM ∧ (s9.2.length ≤ LIM ∧ (([0, 1, 7, 10000000000000] ++ s9.2).length + (s9.2.map fun (x46 : Int) => (x46 + 1)).length ≤ LIM ∧ (W__law_veil s9.2 (LoT.mk false s25) (fun (x48 : V_Veil) => (e_Veil x48).noL = true ∧ (s25.length < LIM ∧ (W__law_veil_right x48 s9.2 s25 (([0, 1, 7, 10000000000000] ++ s9.2) ++ (s9.2.map fun (x46 : Int) => (x46 + 1))) (fun (x50 : Bool) => if (!x50) = true then false = true else W_Veil___init__ (LoT.mk true [(0, 1)]) [] (fun (o52 : V_Veil) => wJ (fun k54 => W__law_veil_right o52 [] [(0, 1)] (([0, 1, 7, 10000000000000] ++ s9.2) ++ (s9.2.map fun (x46 : Int) => (x46 + 1))) (fun (x55 : Bool) => if (!x55) = true then k54 true else W__law_veil s9.2 (LoT.mk true s25) (fun (x57 : V_Veil) => W_Veil___eq__ x48 (e_Veil x57) (fun r58 => k54 (!r58)) (fun _ _ => False)) (fun _ _ => False)) (fun _ _ => False)) (fun (j53 : Bool) => if j53 = true then false = true else wJ (fun k61 => wIx s25 0 (fun (x62 : (Int × Int)) => wIx s25 0 (fun (x64 : (Int × Int)) => [((x62.1 + 1), x64.2)].length + (cutD s25 (some 1) none).length ≤ LIM ∧ (W__law_veil s9.2 (LoT.mk false ([((x62.1 + 1), x64.2)] ++ (cutD s25 (some 1) none))) (fun (x67 : V_Veil) => W_Veil___eq__ x48 (e_Veil x67) (fun r68 => if r68 = true then k61 true else wJ (fun k71 => W_Veil___eq__ x48 ((eL D.int) s9.2) (fun r72 => if r72 = true then k71 true else W__law_veil [3, 9] (LoT.mk false [(7, 7)]) (fun (x74 : V_Veil) => W_Veil___eq__ x48 (e_Veil x74) (fun r75 => k71 r75) (fun _ _ => False)) (fun _ _ => False)) (fun _ _ => False)) (fun (j70 : Bool) => k61 j70)) (fun _ _ => False)) (fun _ _ => False))))) (fun (j60 : Bool) => if j60 = true then false = true else wDraw 3 (fun z77 => [(0 - 1)].length + (cutD s9.2 none (some 3)).length ≤ LIM ∧ ((cutD s9.2 none (some 2)).length + (cutD s9.2 none (some 2)).length ≤ LIM ∧ ((rOk 9 ∧ (9 : Int).toNat ≤ LIM) ∧ ((rOk 8 ∧ (8 : Int).toNat ≤ LIM) ∧ ([(0 - 3)].length + (rngZ 0 8).length ≤ LIM ∧ (s25.length + [(1, 1), (2, 1), (3, 1), (4, 1), (5, 1), (6, 1)].length ≤ LIM ∧ ((cutD s25 none (some 5)).length + [((0 - 1), 0)].length ≤ LIM ∧ ((cutD s25 none (some 5)).length + [(2, 0)].length ≤ LIM ∧ (rOk 7 ∧ (wFor (fun (x90 : Int) (s89 : Unit) k91 k94 => wFor (fun (x96 : Int) (s95 : Unit) k97 k99 => wIx [s9.2, ([(0 - 1)] ++ (cutD s9.2 none (some 3))), ((cutD s9.2 none (some 2)) ++ (cutD s9.2 none (some 2))), [5, 5], [7, 3, (0 - 2)], (rngZ 0 9), ([(0 - 3)] ++ (rngZ 0 8))] x90 (fun (x100 : (List Int)) => wIx [s25, [], (s25 ++ [(1, 1), (2, 1), (3, 1), (4, 1), (5, 1), (6, 1)]), ((cutD s25 none (some 5)) ++ [((0 - 1), 0)]), ((cutD s25 none (some 5)) ++ [(2, 0)]), [(0, (0 - 5))]] x96 (fun (x101 : (List (Int × Int))) => W__law_tried x100 x101 (fun (x102 : D) => wIx [s9.2, ([(0 - 1)] ++ (cutD s9.2 none (some 3))), ((cutD s9.2 none (some 2)) ++ (cutD s9.2 none (some 2))), [5, 5], [7, 3, (0 - 2)], (rngZ 0 9), ([(0 - 3)] ++ (rngZ 0 8))] x90 (fun (x103 : (List Int)) => wIx [s25, [], (s25 ++ [(1, 1), (2, 1), (3, 1), (4, 1), (5, 1), (6, 1)]), ((cutD s25 none (some 5)) ++ [((0 - 1), 0)]), ((cutD s25 none (some 5)) ++ [(2, 0)]), [(0, (0 - 5))]] x96 (fun (x104 : (List (Int × Int))) => W__law_due x103 x104 (fun (x105 : D) => wB (gNe (eD x102) (eD x105)) (fun b106 => if b106 = true then false = true else k97 ())) (fun _ _ => False)))) (fun _ _ => False)))) [0, z77, (3 + z77)] () (fun (s95 : Unit) => k91 ())) (rngZ 0 7) () (fun (s89 : Unit) => W__law_veil_right x48 s9.2 s25 (cutD (([0, 1, 7, 10000000000000] ++ s9.2) ++ (s9.2.map fun (x46 : Int) => (x46 + 1))) none (some 2)) (fun (x108 : Bool) => x108 = true) (fun _ _ => False))))))))))))))) (fun _ _ => False)) (fun _ _ => False)))) (fun _ _ => False))))))))))))
end Lw

namespace Lw
open PySem L2 Sep LwB
theorem tr__check_limits  (v_limits : (List Int)) {Q : Unit → Prop} {E : EP} (h : W__check_limits v_limits Q E) : Go (fun s _ => ∃ (v : Unit), s = (fun v : Unit => .sh (eU v)) v ∧ Q v) (exP E) (F__check_limits [.sh ((eT D.int) v_limits)]) := by
  unfold W__check_limits at h
  unfold F__check_limits
  refine gs_fn (ρ0 := [.sh ((eT D.int) v_limits), .no, .no, .no]) rfl ?_
  refine gs_seq ?_
  refine gs_if ?_
  refine go_pu (pt_e (pu_op (pu_cb1 (pu_var rfl) rfl o_lenT) pu_c rfl rfl (o_gt _ _))) ?_
  by_cases c1 : (decide (8 < (v_limits.length : Int))) = true
  · replace h := ite_t c1 h
    refine to_t c1 ?_
    refine gs_raise ?_
    refine ga_cons ?_
    refine go_pu (pu_cb1 (pu_var rfl) rfl o_lenT) ?_
    refine ga_nil ?_
    refine ⟨_, _, (ca_1 rfl ca_0), ⟨rfl, rfl⟩, ?_⟩
    exact ⟨.BadCount, rfl, rfl, h, trivial⟩
  · replace h := ite_f c1 h
    refine to_f c1 ?_
    refine gs_nil ?_
    change Gs _ _ _ _ _ _
    refine gs_seq ?_
    refine gs_for ?_
    refine gi_seqL ?_
    refine go_pu (pu_var rfl) ?_
    refine ⟨_, List.map D.int v_limits, _, (ca_1 rfl ca_0), .inr (.inl rfl), ?_⟩
    refine gs_forL (enc := D.int) (fun (s3 : Unit) ρ => ∃ u6, ρ = [.sh ((eT D.int) v_limits), u6, .no, .no]) ?_ ?_ v_limits () [.sh ((eT D.int) v_limits), .no, .no, .no] ⟨_, rfl⟩ h
    ·
      intro x4 s3 ρ k5 hr h
      obtain ⟨u6, rfl⟩ := hr
      refine ⟨[.sh ((eT D.int) v_limits), .sh (D.int x4), .no, .no], rfl, ?_⟩
      refine gs_if ?_
      refine go_pu (pt_e (pu_op (pu_var rfl) pu_c rfl rfl (o_lt _ _))) ?_
      by_cases c8 : (decide (x4 < 0)) = true
      · replace h := ite_t c8 h
        refine to_t c8 ?_
        refine gs_raise ?_
        refine ga_cons ?_
        refine go_pu (pu_var rfl) ?_
        refine ga_nil ?_
        refine ⟨_, _, (ca_1 rfl ca_0), ⟨rfl, rfl⟩, ?_⟩
        exact ⟨.BadCount, rfl, rfl, h, trivial⟩
      · replace h := ite_f c8 h
        refine to_f c8 ?_
        refine gs_nil ?_
        exact ⟨(), h, ⟨_, rfl⟩⟩
    intro s3 ρ h hr
    obtain ⟨u6, rfl⟩ := hr
    change Gs _ _ _ _ _ _
    refine gs_for ?_
    refine gi_zip ?_
    refine ga_cons ?_
    refine go_pu (pu_var rfl) ?_
    refine ga_cons ?_
    refine go_pu (pu_sl (pu_var rfl) (po_some pu_c rfl) po_none rfl o_slT) ?_
    refine ga_nil ?_
    refine ⟨_, _, _, .inr (ca_1 rfl (ca_1 rfl ca_0)), ?_⟩
    rw [zipD_map (e1 := D.int) (e2 := D.int)]
    refine gs_forL (enc := (eP2 D.int D.int)) (fun (s10 : Unit) ρ => ∃ u13, ∃ u14, ρ = [.sh ((eT D.int) v_limits), u6, u13, u14]) ?_ ?_ (v_limits.zip (cutD v_limits (some 1) none)) () [.sh ((eT D.int) v_limits), u6, .no, .no] ⟨_, _, rfl⟩ h
    ·
      intro x11 s10 ρ k12 hr h
      obtain ⟨u13, u14, rfl⟩ := hr
      refine ⟨[.sh ((eT D.int) v_limits), u6, .sh (D.int x11.1), .sh (D.int x11.2)], rfl, ?_⟩
      refine gs_if ?_
      refine go_pu (pt_e (pu_op (pu_var rfl) (pu_var rfl) rfl rfl (o_ge _ _))) ?_
      by_cases c16 : (decide (x11.2 ≤ x11.1)) = true
      · replace h := ite_t c16 h
        refine to_t c16 ?_
        refine gs_raise ?_
        refine ga_cons ?_
        refine go_pu (pu_var rfl) ?_
        refine ga_cons ?_
        refine go_pu (pu_var rfl) ?_
        refine ga_nil ?_
        refine ⟨_, _, (ca_1 rfl (ca_1 rfl ca_0)), ⟨rfl, rfl⟩, ?_⟩
        exact ⟨.BadSpan, rfl, rfl, h, trivial⟩
      · replace h := ite_f c16 h
        refine to_f c16 ?_
        refine gs_nil ?_
        exact ⟨(), h, ⟨_, _, rfl⟩⟩
    intro s10 ρ h hr
    obtain ⟨u13, u14, rfl⟩ := hr
    exact ⟨(), rfl, h⟩
theorem tr__check_delays  (v_delays : (LoT (Int × Int))) {Q : Unit → Prop} {E : EP} (h : W__check_delays v_delays Q E) : Go (fun s _ => ∃ (v : Unit), s = (fun v : Unit => .sh (eU v)) v ∧ Q v) (exP E) (F__check_delays [.sh ((eQ (eP2 D.int D.int)) v_delays)]) := by
  unfold W__check_delays at h
  unfold F__check_delays
  refine gs_fn (ρ0 := [.sh ((eQ (eP2 D.int D.int)) v_delays), .no, .no]) rfl ?_
  refine gs_seq ?_
  refine gs_if ?_
  refine go_pu (pt_not (pt_e (pu_chain pu_c (pu_cb1 (pu_var rfl) rfl o_lenQ) pu_c rfl rfl rfl (o_le _ _) (o_le _ _)))) ?_
  by_cases c1 : (!(decide (1 ≤ (v_delays.xs.length : Int)) && decide ((v_delays.xs.length : Int) ≤ 6))) = true
  · replace h := ite_t c1 h
    refine to_t c1 ?_
    refine gs_raise ?_
    refine ga_cons ?_
    refine go_pu (pu_cb1 (pu_var rfl) rfl o_lenQ) ?_
    refine ga_nil ?_
    refine ⟨_, _, (ca_1 rfl ca_0), ⟨rfl, rfl⟩, ?_⟩
    exact ⟨.BadCount, rfl, rfl, h, trivial⟩
  · replace h := ite_f c1 h
    refine to_f c1 ?_
    refine gs_nil ?_
    change Gs _ _ _ _ _ _
    refine gs_for ?_
    refine gi_seqL ?_
    refine go_pu (pu_var rfl) ?_
    refine ⟨_, List.map (eP2 D.int D.int) v_delays.xs, _, (ca_1 rfl ca_0), eQ_alt, ?_⟩
    refine gs_forL (enc := (eP2 D.int D.int)) (fun (s3 : Unit) ρ => ∃ u6, ∃ u7, ρ = [.sh ((eQ (eP2 D.int D.int)) v_delays), u7, u6]) ?_ ?_ v_delays.xs () [.sh ((eQ (eP2 D.int D.int)) v_delays), .no, .no] ⟨_, _, rfl⟩ h
    ·
      intro x4 s3 ρ k5 hr h
      obtain ⟨u6, u7, rfl⟩ := hr
      refine ⟨[.sh ((eQ (eP2 D.int D.int)) v_delays), .sh (D.int x4.1), .sh (D.int x4.2)], rfl, ?_⟩
      refine gs_seq ?_
      refine gs_if ?_
      refine go_pu (pt_e (pu_op (pu_var rfl) pu_c rfl rfl (o_lt _ _))) ?_
      by_cases c9 : (decide (x4.1 < 0)) = true
      · replace h := ite_t c9 h
        refine to_t c9 ?_
        refine gs_raise ?_
        refine ga_cons ?_
        refine go_pu (pu_var rfl) ?_
        refine ga_nil ?_
        refine ⟨_, _, (ca_1 rfl ca_0), ⟨rfl, rfl⟩, ?_⟩
        exact ⟨.BadCount, rfl, rfl, h, trivial⟩
      · replace h := ite_f c9 h
        refine to_f c9 ?_
        refine gs_nil ?_
        change Gs _ _ _ _ _ _
        refine gs_if ?_
        refine go_pu (pt_e (pu_op (pu_var rfl) pu_c rfl rfl (o_lt _ _))) ?_
        by_cases c11 : (decide (x4.2 < 1)) = true
        · replace h := ite_t c11 h
          refine to_t c11 ?_
          refine gs_raise ?_
          refine ga_cons ?_
          refine go_pu (pu_var rfl) ?_
          refine ga_nil ?_
          refine ⟨_, _, (ca_1 rfl ca_0), ⟨rfl, rfl⟩, ?_⟩
          exact ⟨.BadCount, rfl, rfl, h, trivial⟩
        · replace h := ite_f c11 h
          refine to_f c11 ?_
          refine gs_nil ?_
          exact ⟨(), h, ⟨_, _, rfl⟩⟩
    intro s3 ρ h hr
    obtain ⟨u6, u7, rfl⟩ := hr
    exact ⟨(), rfl, h⟩
theorem tr_Veil___init__  (v_delays : (LoT (Int × Int))) (v_limits : (List Int)) {Q : V_Veil → Prop} {E : EP} (h : W_Veil___init__ v_delays v_limits Q E) : Go (fun s gs => s = .sh .non ∧ ∃ (v : V_Veil), ∃ r, gs = .obj "Veil" ns_Veil (shs (ds_Veil v)) :: r ∧ Q v) (exP E) (F_Veil___init__ [.obj "Veil" [] [], .sh ((eQ (eP2 D.int D.int)) v_delays), .sh ((eT D.int) v_limits)]) := by
  unfold W_Veil___init__ at h
  unfold F_Veil___init__
  refine gs_fn (ρ0 := [.obj "Veil" [] (shs []), .sh ((eQ (eP2 D.int D.int)) v_delays), .sh ((eT D.int) v_limits), .no, .no]) rfl ?_
  refine gs_seq ?_
  refine gs_expr ?_
  refine gc_data ?_
  refine ga_cons ?_
  refine go_pu (pu_var rfl) ?_
  refine ga_nil ?_
  refine ⟨_, _, (ca_1 rfl ca_0), rfl, ?_⟩
  refine gl_data (enc := (fun v : Unit => .sh (eU v))) (tr__check_limits v_limits h) (fun _ _ _ _ z => z) (fun x1 h => ?_)
  change Gs _ _ _ _ _ _
  refine gs_seq ?_
  refine gs_expr ?_
  refine gc_data ?_
  refine ga_cons ?_
  refine go_pu (pu_var rfl) ?_
  refine ga_nil ?_
  refine ⟨_, _, (ca_1 rfl ca_0), rfl, ?_⟩
  refine gl_data (enc := (fun v : Unit => .sh (eU v))) (tr__check_delays v_delays h) (fun _ _ _ _ z => z) (fun x2 h => ?_)
  change Gs _ _ _ _ _ _
  refine gs_seq ?_
  refine gs_fldS ?_
  refine go_pu (pu_cb1 (pu_var rfl) rfl o_toTT) ?_
  refine ⟨_, _, _, _, _, ["limits"], [((eT D.int) v_limits)], (ca_1 rfl ca_0), rfl, ⟨(by decide +kernel), (Nat.le_of_ble_eq_true rfl), rfl⟩, (by decide +kernel), (by kernel_rfl), ?_⟩
  change Gs _ _ _ _ _ _
  refine gs_fldS ?_
  refine ge_cb1 ?_
  refine ge_comp ?_
  refine gi_seqL ?_
  refine go_pu (pu_var rfl) ?_
  refine ⟨_, List.map (eP2 D.int D.int) v_delays.xs, _, (ca_1 rfl ca_0), eQ_alt, ?_⟩
  obtain ⟨c3, h⟩ := h
  refine gc_pure1 (ρ := [.obj "Veil" ["limits"] (shs [((eT D.int) v_limits)]), .sh ((eQ (eP2 D.int D.int)) v_delays), .sh ((eT D.int) v_limits), .no, .no]) (enc := (eP2 D.int D.int)) (enc2 := (eP2 D.int D.int)) (fn := fun (x4 : (Int × Int)) => (x4.1, x4.2)) c3 (fun x4 _ => ⟨_, rfl, rfl, rfl, _, (pu_tup (pa_1 (pu_var rfl) (pa_1 (pu_var rfl) pa_0)) (ca_1 rfl (ca_1 rfl ca_0)) (Nat.le_of_ble_eq_true rfl)), rfl⟩) ?_
  refine ⟨_, _, lk_new, o_toT, ?_⟩
  refine ⟨_, _, _, _, _, ["limits", "delays"], [((eT D.int) v_limits), ((eT (eP2 D.int D.int)) (v_delays.xs.map fun (x4 : (Int × Int)) => (x4.1, x4.2)))], (ca_1 rfl ca_0), rfl, ⟨(by decide +kernel), (Nat.le_of_ble_eq_true rfl), rfl⟩, (by decide +kernel), (by kernel_rfl), ?_⟩
  exact ⟨rfl, ⟨v_limits, (v_delays.xs.map fun (x4 : (Int × Int)) => (x4.1, x4.2))⟩, _, rfl, h⟩
theorem tr__law_veil  (v_limits : (List Int)) (v_lags : (LoT (Int × Int))) {Q : V_Veil → Prop} {E : EP} (h : W__law_veil v_limits v_lags Q E) : Go (fun s _ => ∃ (v : V_Veil), s = (fun v : V_Veil => .sh (e_Veil v)) v ∧ Q v) (exP E) (F__law_veil [.sh ((eL D.int) v_limits), .sh ((eQ (eP2 D.int D.int)) v_lags)]) := by
  unfold W__law_veil at h
  unfold F__law_veil
  refine gs_fn (ρ0 := [.sh ((eL D.int) v_limits), .sh ((eQ (eP2 D.int D.int)) v_lags), .no]) rfl ?_
  refine gs_seq ?_
  refine gs_if ?_
  refine go_pu (pt_e (pu_op (pu_cb1 (pu_var rfl) rfl o_lenL) pu_c rfl rfl (o_eq _ _))) ?_
  by_cases c1 : ((v_limits.length : Int) == 0) = true
  · replace h := ite_t c1 h
    refine to_t c1 ?_
    refine gs_retF ?_
    refine gc_makeS ?_
    refine ga_nil ?_
    refine ga_cons ?_
    refine go_pu (pu_var rfl) ?_
    refine ga_nil ?_
    refine ⟨[], [((eQ (eP2 D.int D.int)) v_lags)], _, (ca_1 rfl ca_0), ⟨rfl, (Nat.le_of_ble_eq_true rfl), rfl⟩, ?_⟩
    refine gl_make (enc := fun o : V_Veil => .obj "Veil" ns_Veil (shs (ds_Veil o))) (tr_Veil___init__ v_lags [] h) (fun _ _ _ _ z => z) (fun o2 h => ?_)
    refine ⟨_, _, (ca_1 fr_obj ca_0), ?_⟩
    exact ⟨o2, rfl, h⟩
  · replace h := ite_f c1 h
    refine to_f c1 ?_
    refine gs_nil ?_
    change Gs _ _ _ _ _ _
    refine gs_seq ?_
    refine gs_if ?_
    refine go_pu (pt_e (pu_op (pu_cb1 (pu_var rfl) rfl o_lenL) pu_c rfl rfl (o_eq _ _))) ?_
    by_cases c3 : ((v_limits.length : Int) == 1) = true
    · replace h := ite_t c3 h
      refine to_t c3 ?_
      refine gs_retF ?_
      refine gc_makeS ?_
      refine ga_cons ?_
      refine ge_op ?_
      refine go_pu (pu_var rfl) ?_
      refine go_pu pu_c ?_
      obtain ⟨x4, hix4, h⟩ := h
      refine ⟨_, _, _, rfl, rfl, o_ixL (e := D.int) hix4, ?_⟩
      refine ga_nil ?_
      refine ga_cons ?_
      refine go_pu (pu_var rfl) ?_
      refine ga_nil ?_
      refine ⟨[(D.int x4)], [((eQ (eP2 D.int D.int)) v_lags)], _, (ca_1 rfl (ca_1 rfl ca_0)), ⟨rfl, (Nat.le_of_ble_eq_true rfl), rfl⟩, ?_⟩
      refine gl_make (enc := fun o : V_Veil => .obj "Veil" ns_Veil (shs (ds_Veil o))) (tr_Veil___init__ v_lags [x4] h) (fun _ _ _ _ z => z) (fun o5 h => ?_)
      refine ⟨_, _, (ca_1 fr_obj ca_0), ?_⟩
      exact ⟨o5, rfl, h⟩
    · replace h := ite_f c3 h
      refine to_f c3 ?_
      refine gs_nil ?_
      change Gs _ _ _ _ _ _
      refine gs_seq ?_
      refine gs_if ?_
      refine go_pu (pt_e (pu_op (pu_cb1 (pu_var rfl) rfl o_lenL) pu_c rfl rfl (o_eq _ _))) ?_
      by_cases c6 : ((v_limits.length : Int) == 2) = true
      · replace h := ite_t c6 h
        refine to_t c6 ?_
        refine gs_retF ?_
        refine gc_makeS ?_
        refine ga_cons ?_
        refine ge_op ?_
        refine go_pu (pu_var rfl) ?_
        refine go_pu pu_c ?_
        obtain ⟨x7, hix7, h⟩ := h
        refine ⟨_, _, _, rfl, rfl, o_ixL (e := D.int) hix7, ?_⟩
        refine ga_cons ?_
        refine ge_op ?_
        refine go_pu (pu_var rfl) ?_
        refine go_pu pu_c ?_
        obtain ⟨x8, hix8, h⟩ := h
        refine ⟨_, _, _, rfl, rfl, o_ixL (e := D.int) hix8, ?_⟩
        refine ga_nil ?_
        refine ga_cons ?_
        refine go_pu (pu_var rfl) ?_
        refine ga_nil ?_
        refine ⟨[(D.int x7), (D.int x8)], [((eQ (eP2 D.int D.int)) v_lags)], _, (ca_1 rfl (ca_1 rfl (ca_1 rfl ca_0))), ⟨rfl, (Nat.le_of_ble_eq_true rfl), rfl⟩, ?_⟩
        refine gl_make (enc := fun o : V_Veil => .obj "Veil" ns_Veil (shs (ds_Veil o))) (tr_Veil___init__ v_lags [x7, x8] h) (fun _ _ _ _ z => z) (fun o9 h => ?_)
        refine ⟨_, _, (ca_1 fr_obj ca_0), ?_⟩
        exact ⟨o9, rfl, h⟩
      · replace h := ite_f c6 h
        refine to_f c6 ?_
        refine gs_nil ?_
        change Gs _ _ _ _ _ _
        refine gs_seq ?_
        refine gs_if ?_
        refine go_pu (pt_e (pu_op (pu_cb1 (pu_var rfl) rfl o_lenL) pu_c rfl rfl (o_eq _ _))) ?_
        by_cases c10 : ((v_limits.length : Int) == 3) = true
        · replace h := ite_t c10 h
          refine to_t c10 ?_
          refine gs_retF ?_
          refine gc_makeS ?_
          refine ga_cons ?_
          refine ge_op ?_
          refine go_pu (pu_var rfl) ?_
          refine go_pu pu_c ?_
          obtain ⟨x11, hix11, h⟩ := h
          refine ⟨_, _, _, rfl, rfl, o_ixL (e := D.int) hix11, ?_⟩
          refine ga_cons ?_
          refine ge_op ?_
          refine go_pu (pu_var rfl) ?_
          refine go_pu pu_c ?_
          obtain ⟨x12, hix12, h⟩ := h
          refine ⟨_, _, _, rfl, rfl, o_ixL (e := D.int) hix12, ?_⟩
          refine ga_cons ?_
          refine ge_op ?_
          refine go_pu (pu_var rfl) ?_
          refine go_pu pu_c ?_
          obtain ⟨x13, hix13, h⟩ := h
          refine ⟨_, _, _, rfl, rfl, o_ixL (e := D.int) hix13, ?_⟩
          refine ga_nil ?_
          refine ga_cons ?_
          refine go_pu (pu_var rfl) ?_
          refine ga_nil ?_
          refine ⟨[(D.int x11), (D.int x12), (D.int x13)], [((eQ (eP2 D.int D.int)) v_lags)], _, (ca_1 rfl (ca_1 rfl (ca_1 rfl (ca_1 rfl ca_0)))), ⟨rfl, (Nat.le_of_ble_eq_true rfl), rfl⟩, ?_⟩
          refine gl_make (enc := fun o : V_Veil => .obj "Veil" ns_Veil (shs (ds_Veil o))) (tr_Veil___init__ v_lags [x11, x12, x13] h) (fun _ _ _ _ z => z) (fun o14 h => ?_)
          refine ⟨_, _, (ca_1 fr_obj ca_0), ?_⟩
          exact ⟨o14, rfl, h⟩
        · replace h := ite_f c10 h
          refine to_f c10 ?_
          refine gs_nil ?_
          change Gs _ _ _ _ _ _
          refine gs_seq ?_
          refine gs_if ?_
          refine go_pu (pt_e (pu_op (pu_cb1 (pu_var rfl) rfl o_lenL) pu_c rfl rfl (o_eq _ _))) ?_
          by_cases c15 : ((v_limits.length : Int) == 4) = true
          · replace h := ite_t c15 h
            refine to_t c15 ?_
            refine gs_retF ?_
            refine gc_makeS ?_
            refine ga_cons ?_
            refine ge_op ?_
            refine go_pu (pu_var rfl) ?_
            refine go_pu pu_c ?_
            obtain ⟨x16, hix16, h⟩ := h
            refine ⟨_, _, _, rfl, rfl, o_ixL (e := D.int) hix16, ?_⟩
            refine ga_cons ?_
            refine ge_op ?_
            refine go_pu (pu_var rfl) ?_
            refine go_pu pu_c ?_
            obtain ⟨x17, hix17, h⟩ := h
            refine ⟨_, _, _, rfl, rfl, o_ixL (e := D.int) hix17, ?_⟩
            refine ga_cons ?_
            refine ge_op ?_
            refine go_pu (pu_var rfl) ?_
            refine go_pu pu_c ?_
            obtain ⟨x18, hix18, h⟩ := h
            refine ⟨_, _, _, rfl, rfl, o_ixL (e := D.int) hix18, ?_⟩
            refine ga_cons ?_
            refine ge_op ?_
            refine go_pu (pu_var rfl) ?_
            refine go_pu pu_c ?_
            obtain ⟨x19, hix19, h⟩ := h
            refine ⟨_, _, _, rfl, rfl, o_ixL (e := D.int) hix19, ?_⟩
            refine ga_nil ?_
            refine ga_cons ?_
            refine go_pu (pu_var rfl) ?_
            refine ga_nil ?_
            refine ⟨[(D.int x16), (D.int x17), (D.int x18), (D.int x19)], [((eQ (eP2 D.int D.int)) v_lags)], _, (ca_1 rfl (ca_1 rfl (ca_1 rfl (ca_1 rfl (ca_1 rfl ca_0))))), ⟨rfl, (Nat.le_of_ble_eq_true rfl), rfl⟩, ?_⟩
            refine gl_make (enc := fun o : V_Veil => .obj "Veil" ns_Veil (shs (ds_Veil o))) (tr_Veil___init__ v_lags [x16, x17, x18, x19] h) (fun _ _ _ _ z => z) (fun o20 h => ?_)
            refine ⟨_, _, (ca_1 fr_obj ca_0), ?_⟩
            exact ⟨o20, rfl, h⟩
          · replace h := ite_f c15 h
            refine to_f c15 ?_
            refine gs_nil ?_
            change Gs _ _ _ _ _ _
            refine gs_seq ?_
            refine gs_if ?_
            refine go_pu (pt_e (pu_op (pu_cb1 (pu_var rfl) rfl o_lenL) pu_c rfl rfl (o_eq _ _))) ?_
            by_cases c21 : ((v_limits.length : Int) == 8) = true
            · replace h := ite_t c21 h
              refine to_t c21 ?_
              refine gs_retF ?_
              refine gc_makeS ?_
              refine ga_cons ?_
              refine ge_op ?_
              refine go_pu (pu_var rfl) ?_
              refine go_pu pu_c ?_
              obtain ⟨x22, hix22, h⟩ := h
              refine ⟨_, _, _, rfl, rfl, o_ixL (e := D.int) hix22, ?_⟩
              refine ga_cons ?_
              refine ge_op ?_
              refine go_pu (pu_var rfl) ?_
              refine go_pu pu_c ?_
              obtain ⟨x23, hix23, h⟩ := h
              refine ⟨_, _, _, rfl, rfl, o_ixL (e := D.int) hix23, ?_⟩
              refine ga_cons ?_
              refine ge_op ?_
              refine go_pu (pu_var rfl) ?_
              refine go_pu pu_c ?_
              obtain ⟨x24, hix24, h⟩ := h
              refine ⟨_, _, _, rfl, rfl, o_ixL (e := D.int) hix24, ?_⟩
              refine ga_cons ?_
              refine ge_op ?_
              refine go_pu (pu_var rfl) ?_
              refine go_pu pu_c ?_
              obtain ⟨x25, hix25, h⟩ := h
              refine ⟨_, _, _, rfl, rfl, o_ixL (e := D.int) hix25, ?_⟩
              refine ga_cons ?_
              refine ge_op ?_
              refine go_pu (pu_var rfl) ?_
              refine go_pu pu_c ?_
              obtain ⟨x26, hix26, h⟩ := h
              refine ⟨_, _, _, rfl, rfl, o_ixL (e := D.int) hix26, ?_⟩
              refine ga_cons ?_
              refine ge_op ?_
              refine go_pu (pu_var rfl) ?_
              refine go_pu pu_c ?_
              obtain ⟨x27, hix27, h⟩ := h
              refine ⟨_, _, _, rfl, rfl, o_ixL (e := D.int) hix27, ?_⟩
              refine ga_cons ?_
              refine ge_op ?_
              refine go_pu (pu_var rfl) ?_
              refine go_pu pu_c ?_
              obtain ⟨x28, hix28, h⟩ := h
              refine ⟨_, _, _, rfl, rfl, o_ixL (e := D.int) hix28, ?_⟩
              refine ga_cons ?_
              refine ge_op ?_
              refine go_pu (pu_var rfl) ?_
              refine go_pu pu_c ?_
              obtain ⟨x29, hix29, h⟩ := h
              refine ⟨_, _, _, rfl, rfl, o_ixL (e := D.int) hix29, ?_⟩
              refine ga_nil ?_
              refine ga_cons ?_
              refine go_pu (pu_var rfl) ?_
              refine ga_nil ?_
              refine ⟨[(D.int x22), (D.int x23), (D.int x24), (D.int x25), (D.int x26), (D.int x27), (D.int x28), (D.int x29)], [((eQ (eP2 D.int D.int)) v_lags)], _, (ca_1 rfl (ca_1 rfl (ca_1 rfl (ca_1 rfl (ca_1 rfl (ca_1 rfl (ca_1 rfl (ca_1 rfl (ca_1 rfl ca_0))))))))), ⟨rfl, (Nat.le_of_ble_eq_true rfl), rfl⟩, ?_⟩
              refine gl_make (enc := fun o : V_Veil => .obj "Veil" ns_Veil (shs (ds_Veil o))) (tr_Veil___init__ v_lags [x22, x23, x24, x25, x26, x27, x28, x29] h) (fun _ _ _ _ z => z) (fun o30 h => ?_)
              refine ⟨_, _, (ca_1 fr_obj ca_0), ?_⟩
              exact ⟨o30, rfl, h⟩
            · replace h := ite_f c21 h
              refine to_f c21 ?_
              refine gs_nil ?_
              change Gs _ _ _ _ _ _
              refine gs_seq ?_
              refine gs_setF ?_
              refine go_pu (pu_sl (pu_var rfl) po_none (po_some pu_c rfl) rfl o_slL) ?_
              refine ⟨_, _, [.sh ((eL D.int) v_limits), .sh ((eQ (eP2 D.int D.int)) v_lags), .sh ((eL D.int) (cutD v_limits none (some 4)))], (ca_1 fr_new ca_0), rfl, ?_⟩
              change Gs _ _ _ _ _ _
              refine gs_retF ?_
              refine gc_makeS ?_
              refine ga_cons ?_
              refine ge_op ?_
              refine go_pu (pu_var rfl) ?_
              refine go_pu pu_c ?_
              obtain ⟨x31, hix31, h⟩ := h
              refine ⟨_, _, _, rfl, rfl, o_ixL (e := D.int) hix31, ?_⟩
              refine ga_cons ?_
              refine ge_op ?_
              refine go_pu (pu_var rfl) ?_
              refine go_pu pu_c ?_
              obtain ⟨x32, hix32, h⟩ := h
              refine ⟨_, _, _, rfl, rfl, o_ixL (e := D.int) hix32, ?_⟩
              refine ga_cons ?_
              refine ge_op ?_
              refine go_pu (pu_var rfl) ?_
              refine go_pu pu_c ?_
              obtain ⟨x33, hix33, h⟩ := h
              refine ⟨_, _, _, rfl, rfl, o_ixL (e := D.int) hix33, ?_⟩
              refine ga_cons ?_
              refine ge_op ?_
              refine go_pu (pu_var rfl) ?_
              refine go_pu pu_c ?_
              obtain ⟨x34, hix34, h⟩ := h
              refine ⟨_, _, _, rfl, rfl, o_ixL (e := D.int) hix34, ?_⟩
              refine ga_cons ?_
              refine ge_op ?_
              refine go_pu (pu_var rfl) ?_
              refine go_pu pu_c ?_
              obtain ⟨x35, hix35, h⟩ := h
              refine ⟨_, _, _, rfl, rfl, o_ixL (e := D.int) hix35, ?_⟩
              refine ga_nil ?_
              refine ga_cons ?_
              refine go_pu (pu_var rfl) ?_
              refine ga_nil ?_
              refine ⟨[(D.int x31), (D.int x32), (D.int x33), (D.int x34), (D.int x35)], [((eQ (eP2 D.int D.int)) v_lags)], _, (ca_1 rfl (ca_1 rfl (ca_1 rfl (ca_1 rfl (ca_1 rfl (ca_1 rfl ca_0)))))), ⟨rfl, (Nat.le_of_ble_eq_true rfl), rfl⟩, ?_⟩
              refine gl_make (enc := fun o : V_Veil => .obj "Veil" ns_Veil (shs (ds_Veil o))) (tr_Veil___init__ v_lags [x31, x32, x33, x34, x35] h) (fun _ _ _ _ z => z) (fun o36 h => ?_)
              refine ⟨_, _, (ca_1 fr_obj ca_0), ?_⟩
              exact ⟨o36, rfl, h⟩
theorem tr_Veil_rounded  (v_self : V_Veil) (v_ticks : Int) {Q : Int → Prop} {E : EP} (h : W_Veil_rounded v_self v_ticks Q E) : Go (fun s _ => ∃ (v : Int), s = (fun v : Int => .sh (D.int v)) v ∧ Q v) (exP E) (F_Veil_rounded [.sh (e_Veil v_self), .sh (D.int v_ticks)]) := by
  unfold W_Veil_rounded at h
  unfold F_Veil_rounded
  refine gs_fn (ρ0 := [.sh (e_Veil v_self), .sh (D.int v_ticks), .no]) rfl ?_
  refine gs_seq ?_
  refine gs_if ?_
  refine gt_e ?_
  refine ge_op ?_
  refine go_pu (pu_un (pu_var rfl) rfl (fld_Veil_limits _)) ?_
  refine go_pu (pu_tup pa_0 ca_0 (Nat.le_of_ble_eq_true rfl)) ?_
  obtain ⟨b1, hib1, h⟩ := h
  refine ⟨_, _, _, rfl, rfl, hib1, ?_⟩
  refine ⟨_, rfl, ?_⟩
  by_cases c2 : b1 = true
  · replace h := ite_t c2 h
    refine to_t c2 ?_
    refine gs_retF ?_
    refine go_pu (pu_var rfl) ?_
    refine ⟨_, _, (ca_1 rfl ca_0), ?_⟩
    exact ⟨v_ticks, rfl, h⟩
  · replace h := ite_f c2 h
    refine to_f c2 ?_
    refine gs_nil ?_
    change Gs _ _ _ _ _ _
    refine gs_retF ?_
    refine ge_cb2 ?_
    refine ge_comp ?_
    refine gi_seqL ?_
    refine go_pu (pu_un (pu_var rfl) rfl (fld_Veil_limits _)) ?_
    refine ⟨_, List.map D.int v_self.f_limits, _, (ca_1 rfl ca_0), .inr (.inl rfl), ?_⟩
    obtain ⟨c3, h⟩ := h
    refine gc_pure (ρ := [.sh (e_Veil v_self), .sh (D.int v_ticks), .no]) (enc := D.int) (enc2 := D.int) (c := (fun (x4 : Int) => (decide (v_ticks ≤ x4)))) (fn := fun (x4 : Int) => x4) c3 (fun x4 _ => ⟨_, rfl, (pt_e (pu_op (pu_var rfl) (pu_var rfl) rfl rfl (o_ge _ _))), rfl, fun _ => ⟨_, (pu_cb1 (pu_var rfl) rfl (o_int _)), rfl⟩⟩) ?_
    refine go_pu (pu_un pu_c rfl (o_neg _)) ?_
    refine ⟨_, _, _, lk_new, rfl, o_minD, ?_⟩
    refine ⟨_, _, (ca_1 rfl ca_0), ?_⟩
    exact ⟨(minDf (-1) ((v_self.f_limits.filter fun (x4 : Int) => (decide (v_ticks ≤ x4))).map fun (x4 : Int) => x4)), rfl, h⟩
theorem tr_Veil_lots  (v_self : V_Veil) {Q : Int → Prop} {E : EP} (h : W_Veil_lots v_self Q E) : Go (fun s _ => ∃ (v : Int), s = (fun v : Int => .sh (D.int v)) v ∧ Q v) (exP E) (F_Veil_lots [.sh (e_Veil v_self)]) := by
  unfold W_Veil_lots at h
  unfold F_Veil_lots
  refine gs_fn (ρ0 := [.sh (e_Veil v_self), .no, .no]) rfl ?_
  refine gs_retF ?_
  refine ge_cb1 ?_
  refine ge_comp ?_
  refine gi_seqL ?_
  refine go_pu (pu_un (pu_var rfl) rfl (fld_Veil_delays _)) ?_
  refine ⟨_, List.map (eP2 D.int D.int) v_self.f_delays, _, (ca_1 rfl ca_0), .inr (.inl rfl), ?_⟩
  obtain ⟨c1, h⟩ := h
  refine gc_pure1 (ρ := [.sh (e_Veil v_self), .no, .no]) (enc := (eP2 D.int D.int)) (enc2 := D.int) (fn := fun (x2 : (Int × Int)) => x2.2) c1 (fun x2 _ => ⟨_, rfl, rfl, rfl, _, (pu_var rfl), rfl⟩) ?_
  refine ⟨_, _, lk_new, o_sum, ?_⟩
  refine ⟨_, _, (ca_1 rfl ca_0), ?_⟩
  exact ⟨((v_self.f_delays.map fun (x2 : (Int × Int)) => x2.2)).sum, rfl, h⟩
theorem tr_Veil_delay  (v_self : V_Veil) (v_lot : Int) {Q : Int → Prop} {E : EP} (h : W_Veil_delay v_self v_lot Q E) : Go (fun s _ => ∃ (v : Int), s = (fun v : Int => .sh (D.int v)) v ∧ Q v) (exP E) (F_Veil_delay [.sh (e_Veil v_self), .sh (D.int v_lot)]) := by
  unfold W_Veil_delay at h
  unfold F_Veil_delay
  refine gs_fn (ρ0 := [.sh (e_Veil v_self), .sh (D.int v_lot), .no, .no]) rfl ?_
  refine gs_seq ?_
  refine gs_if ?_
  refine gt_not ?_
  refine gt_e ?_
  refine go_join (fun (j1 : Bool) a ρ => .v (.sh (.bl j1)) = a ∧ ρ = [.sh (e_Veil v_self), .sh (D.int v_lot), .no, .no]) h (fun k2 h => ?_) (fun j1 a ρ h hr => ?_)
  ·
    refine ge_chain ?_
    refine go_pu pu_c ?_
    refine go_pu (pu_var rfl) ?_
    refine ⟨_, _, _, rfl, rfl, o_le _ _, ?_⟩
    by_cases c3 : (decide (0 ≤ v_lot)) = true
    · replace h := ite_t c3 h
      refine to_t c3 ?_
      refine gc_prop ?_
      refine go_pu (pu_var rfl) ?_
      refine ⟨_, _, _, _, rfl, (ca_1 rfl ca_0), ?_⟩
      refine gl_data (enc := (fun v : Int => .sh (D.int v))) (tr_Veil_lots v_self h) (fun _ _ _ _ z => (exF z).elim) (fun x4 h => ?_)
      refine ⟨_, _, _, rfl, rfl, o_lt _ _, ?_⟩
      exact ⟨decide (v_lot < x4), h, rfl, rfl⟩
    · replace h := ite_f c3 h
      refine to_f c3 ?_
      exact ⟨false, h, rfl, rfl⟩
  obtain ⟨rfl, rfl⟩ := hr
  refine ⟨_, rfl, ?_⟩
  by_cases c5 : (!j1) = true
  · replace h := ite_t c5 h
    refine to_t c5 ?_
    refine gs_raise ?_
    refine ga_cons ?_
    refine go_pu (pu_var rfl) ?_
    refine ga_nil ?_
    refine ⟨_, _, (ca_1 rfl ca_0), ⟨rfl, rfl⟩, ?_⟩
    exact ⟨.BadLot, rfl, rfl, h, trivial⟩
  · replace h := ite_f c5 h
    refine to_f c5 ?_
    refine gs_nil ?_
    change Gs _ _ _ _ _ _
    refine gs_seq ?_
    refine gs_for ?_
    refine gi_seqL ?_
    refine go_pu (pu_un (pu_var rfl) rfl (fld_Veil_delays _)) ?_
    refine ⟨_, List.map (eP2 D.int D.int) v_self.f_delays, _, (ca_1 rfl ca_0), .inr (.inl rfl), ?_⟩
    refine gs_forL (enc := (eP2 D.int D.int)) (fun (s7 : Int) ρ => ∃ u10, ∃ u11, ρ = [.sh (e_Veil v_self), .sh (D.int s7), u11, u10]) ?_ ?_ v_self.f_delays v_lot [.sh (e_Veil v_self), .sh (D.int v_lot), .no, .no] ⟨_, _, rfl⟩ h
    ·
      intro x8 s7 ρ k9 hr h
      obtain ⟨u10, u11, rfl⟩ := hr
      refine ⟨[.sh (e_Veil v_self), .sh (D.int s7), .sh (D.int x8.1), .sh (D.int x8.2)], rfl, ?_⟩
      refine gs_seq ?_
      refine gs_if ?_
      refine go_pu (pt_e (pu_op (pu_var rfl) (pu_var rfl) rfl rfl (o_lt _ _))) ?_
      by_cases c13 : (decide (s7 < x8.2)) = true
      · replace h := ite_t c13 h
        refine to_t c13 ?_
        refine gs_retF ?_
        refine go_pu (pu_var rfl) ?_
        refine ⟨_, _, (ca_1 rfl ca_0), ?_⟩
        exact ⟨x8.1, rfl, h⟩
      · replace h := ite_f c13 h
        refine to_f c13 ?_
        refine gs_nil ?_
        change Gs _ _ _ _ _ _
        refine gs_setF ?_
        refine go_pu (pu_op (pu_var rfl) (pu_var rfl) rfl rfl (o_sub _ _)) ?_
        refine ⟨_, _, [.sh (e_Veil v_self), .sh (D.int (s7 - x8.2)), .sh (D.int x8.1), .sh (D.int x8.2)], (ca_1 rfl ca_0), rfl, ?_⟩
        exact ⟨(s7 - x8.2), h, ⟨_, _, rfl⟩⟩
    intro s7 ρ h hr
    obtain ⟨u10, u11, rfl⟩ := hr
    change Gs _ _ _ _ _ _
    refine gs_retF ?_
    refine go_pu pu_c ?_
    refine ⟨_, _, (ca_1 rfl ca_0), ?_⟩
    exact ⟨0, rfl, h⟩
theorem tr_Veil_shown  (v_self : V_Veil) (v_ticks : Int) (v_lot : Int) {Q : Int → Prop} {E : EP} (h : W_Veil_shown v_self v_ticks v_lot Q E) : Go (fun s _ => ∃ (v : Int), s = (fun v : Int => .sh (D.int v)) v ∧ Q v) (exP E) (F_Veil_shown [.sh (e_Veil v_self), .sh (D.int v_ticks), .sh (D.int v_lot)]) := by
  unfold W_Veil_shown at h
  unfold F_Veil_shown
  refine gs_fn (ρ0 := [.sh (e_Veil v_self), .sh (D.int v_ticks), .sh (D.int v_lot)]) rfl ?_
  refine gs_seq ?_
  refine gs_if ?_
  refine go_pu (pt_e (pu_op (pu_var rfl) pu_c rfl rfl (o_lt _ _))) ?_
  by_cases c1 : (decide (v_ticks < 0)) = true
  · replace h := ite_t c1 h
    refine to_t c1 ?_
    refine gs_raise ?_
    refine ga_cons ?_
    refine go_pu (pu_var rfl) ?_
    refine ga_nil ?_
    refine ⟨_, _, (ca_1 rfl ca_0), ⟨rfl, rfl⟩, ?_⟩
    exact ⟨.BadCount, rfl, rfl, h, trivial⟩
  · replace h := ite_f c1 h
    refine to_f c1 ?_
    refine gs_nil ?_
    change Gs _ _ _ _ _ _
    refine gs_retF ?_
    refine gc_meth ?_
    refine go_pu (pu_var rfl) ?_
    refine ⟨_, _, rfl, (by decide +kernel), ?_⟩
    refine ga_cons ?_
    refine ge_op ?_
    refine go_pu (pu_var rfl) ?_
    refine gc_meth ?_
    refine go_pu (pu_var rfl) ?_
    refine ⟨_, _, rfl, (by decide +kernel), ?_⟩
    refine ga_cons ?_
    refine go_pu (pu_var rfl) ?_
    refine ga_nil ?_
    refine ⟨_, _, _, (ca_1 rfl (ca_1 rfl ca_0)), ⟨rfl, rfl⟩, ?_⟩
    refine gl_data (enc := (fun v : Int => .sh (D.int v))) (tr_Veil_delay v_self v_lot h) (fun _ _ _ _ z => z) (fun x3 h => ?_)
    refine ⟨_, _, _, rfl, rfl, (o_add _ _), ?_⟩
    refine ga_nil ?_
    refine ⟨_, _, _, (ca_1 rfl (ca_1 rfl ca_0)), ⟨rfl, rfl⟩, ?_⟩
    refine gl_data (enc := (fun v : Int => .sh (D.int v))) (tr_Veil_rounded v_self (v_ticks + x3) h) (fun _ _ _ _ z => (exF z).elim) (fun x4 h => ?_)
    refine ⟨_, _, (ca_1 rfl ca_0), ?_⟩
    exact ⟨x4, rfl, h⟩
theorem tr_Veil_view  (v_self : V_Veil) (v_ticks : Int) {Q : (List Int) → Prop} {E : EP} (h : W_Veil_view v_self v_ticks Q E) : Go (fun s _ => ∃ (v : (List Int)), s = (fun v : (List Int) => .sh ((eT D.int) v)) v ∧ Q v) (exP E) (F_Veil_view [.sh (e_Veil v_self), .sh (D.int v_ticks)]) := by
  unfold W_Veil_view at h
  unfold F_Veil_view
  refine gs_fn (ρ0 := [.sh (e_Veil v_self), .sh (D.int v_ticks), .no, .no]) rfl ?_
  refine gs_seq ?_
  refine gs_if ?_
  refine go_pu (pt_e (pu_op (pu_var rfl) pu_c rfl rfl (o_lt _ _))) ?_
  by_cases c1 : (decide (v_ticks < 0)) = true
  · replace h := ite_t c1 h
    refine to_t c1 ?_
    refine gs_raise ?_
    refine ga_cons ?_
    refine go_pu (pu_var rfl) ?_
    refine ga_nil ?_
    refine ⟨_, _, (ca_1 rfl ca_0), ⟨rfl, rfl⟩, ?_⟩
    exact ⟨.BadCount, rfl, rfl, h, trivial⟩
  · replace h := ite_f c1 h
    refine to_f c1 ?_
    refine gs_nil ?_
    change Gs _ _ _ _ _ _
    refine gs_retF ?_
    refine ge_cb1 ?_
    refine ge_comp ?_
    refine gi_seqL ?_
    refine go_pu (pu_un (pu_var rfl) rfl (fld_Veil_delays _)) ?_
    refine ⟨_, List.map (eP2 D.int D.int) v_self.f_delays, _, (ca_1 rfl ca_0), .inr (.inl rfl), ?_⟩
    obtain ⟨c3, h⟩ := h
    refine gc_loop (enc := (eP2 D.int D.int)) (enc2 := D.int) (fun ρ => ρ = [.sh (e_Veil v_self), .sh (D.int v_ticks), .no, .no]) ?_ _ [] [.sh (e_Veil v_self), .sh (D.int v_ticks), .no, .no] rfl (by simpa using c3) ?_ h
    ·
      intro x4 ρ k5 hr h
      obtain rfl := hr
      refine ⟨[.sh (e_Veil v_self), .sh (D.int v_ticks), .sh (D.int x4.1), .sh (D.int x4.2)], rfl, ?_⟩
      refine go_pu (a := true) rfl ?_
      refine to_t rfl ?_
      refine gc_meth ?_
      refine go_pu (pu_var rfl) ?_
      refine ⟨_, _, rfl, (by decide +kernel), ?_⟩
      refine ga_cons ?_
      refine go_pu (pu_op (pu_var rfl) (pu_var rfl) rfl rfl (o_add _ _)) ?_
      refine ga_nil ?_
      refine ⟨_, _, _, (ca_1 rfl (ca_1 rfl ca_0)), ⟨rfl, rfl⟩, ?_⟩
      refine gl_data (enc := (fun v : Int => .sh (D.int v))) (tr_Veil_rounded v_self (v_ticks + x4.1) h) (fun _ _ _ _ z => (exF z).elim) (fun x7 h => ?_)
      exact ⟨x7, _, (ca_1 rfl ca_0), h, rfl⟩
    intro ys6 ρ h hr
    obtain rfl := hr
    rw [List.nil_append]
    refine ⟨_, _, lk_new, o_toT, ?_⟩
    refine ⟨_, _, (ca_1 rfl ca_0), ?_⟩
    exact ⟨ys6, rfl, h⟩
theorem tr_Veil_odds  (v_self : V_Veil) (v_ticks : Int) {Q : (List (Int × Int)) → Prop} {E : EP} (h : W_Veil_odds v_self v_ticks Q E) : Go (fun s _ => ∃ (v : (List (Int × Int))), s = (fun v : (List (Int × Int)) => .sh ((eL (eP2 D.int D.int)) v)) v ∧ Q v) (exP E) (F_Veil_odds [.sh (e_Veil v_self), .sh (D.int v_ticks)]) := by
  unfold W_Veil_odds at h
  unfold F_Veil_odds
  refine gs_fn (ρ0 := [.sh (e_Veil v_self), .sh (D.int v_ticks), .no, .no, .no, .no, .no]) rfl ?_
  refine gs_seq ?_
  refine gs_set ?_
  refine go_pu pu_d0 ?_
  refine ⟨_, [.sh (e_Veil v_self), .sh (D.int v_ticks), .dct (mK ([] : (List (Int × Int)))) (shs (mV D.int ([] : (List (Int × Int))))), .no, .no, .no, .no], rfl, rfl, ?_⟩
  change Gs _ _ _ _ _ _
  refine gs_seq ?_
  refine gs_for ?_
  refine gi_zip ?_
  refine ga_cons ?_
  refine gc_meth ?_
  refine go_pu (pu_var rfl) ?_
  refine ⟨_, _, rfl, (by decide +kernel), ?_⟩
  refine ga_cons ?_
  refine go_pu (pu_var rfl) ?_
  refine ga_nil ?_
  refine ⟨_, _, _, (ca_1 rfl (ca_1 rfl ca_0)), ⟨rfl, rfl⟩, ?_⟩
  refine gl_data (enc := (fun v : (List Int) => .sh ((eT D.int) v))) (tr_Veil_view v_self v_ticks h) (fun _ _ _ _ z => z) (fun x1 h => ?_)
  refine ga_cons ?_
  refine go_pu (pu_un (pu_var rfl) rfl (fld_Veil_delays _)) ?_
  refine ga_nil ?_
  refine ⟨_, _, _, .inr (ca_1 rfl (ca_1 rfl ca_0)), ?_⟩
  rw [zipD_map (e1 := D.int) (e2 := (eP2 D.int D.int))]
  refine gs_forL (enc := (eP2 D.int (eP2 D.int D.int))) (fun (s2 : (List (Int × Int))) ρ => ∃ u5, ∃ u6, ∃ u7, ρ = [.sh (e_Veil v_self), .sh (D.int v_ticks), .dct (mK s2) (shs (mV D.int s2)), u7, u6, u5, .no]) ?_ ?_ (x1.zip v_self.f_delays) [] [.sh (e_Veil v_self), .sh (D.int v_ticks), .dct (mK ([] : (List (Int × Int)))) (shs (mV D.int ([] : (List (Int × Int))))), .no, .no, .no, .no] ⟨_, _, _, rfl⟩ h
  ·
    intro x3 s2 ρ k4 hr h
    obtain ⟨u5, u6, u7, rfl⟩ := hr
    refine ⟨[.sh (e_Veil v_self), .sh (D.int v_ticks), .dct (mK s2) (shs (mV D.int s2)), .sh (D.int x3.1), .sh (D.int x3.2.1), .sh (D.int x3.2.2), .no], rfl, ?_⟩
    refine gs_dset (e := D.int) ?_
    refine ge_op ?_
    refine ge_dget2 ?_
    refine go_pu (pu_ownD rfl) ?_
    refine ⟨congrArg isDct (lk_ownD rfl), ?_⟩
    refine go_pu (pu_var rfl) ?_
    refine go_pu pu_c ?_
    refine ⟨_, _, _, (lk_ownD rfl), rfl, rfl, ?_⟩
    refine go_pu (pu_var rfl) ?_
    refine ⟨_, _, _, rfl, rfl, (o_add _ _), ?_⟩
    refine ⟨(((mGet s2 x3.1).getD 0) + x3.2.2), _, _, _, (ca_1 rfl ca_0), rfl, ?_⟩
    refine go_pu (pu_var rfl) ?_
    obtain ⟨c9, h⟩ := h
    refine ⟨s2, x3.1, [.sh (e_Veil v_self), .sh (D.int v_ticks), .dct (mK (mPut s2 x3.1 (((mGet s2 x3.1).getD 0) + x3.2.2))) (shs (mV D.int (mPut s2 x3.1 (((mGet s2 x3.1).getD 0) + x3.2.2)))), .sh (D.int x3.1), .sh (D.int x3.2.1), .sh (D.int x3.2.2), .no], rfl, rfl, c9, rfl, ?_⟩
    exact ⟨(mPut s2 x3.1 (((mGet s2 x3.1).getD 0) + x3.2.2)), h, ⟨_, _, _, rfl⟩⟩
  intro s2 ρ h hr
  obtain ⟨u5, u6, u7, rfl⟩ := hr
  change Gs _ _ _ _ _ _
  refine gs_retF ?_
  refine ge_comp ?_
  refine gi_seqL ?_
  refine ge_cb1 ?_
  refine ge_comp ?_
  refine gi_dct (e := D.int) (m := s2) (ρ2 := [.sh (e_Veil v_self), .sh (D.int v_ticks), .sh ((eM D.int) s2), u7, u6, u5, .no]) rfl rfl ?_
  obtain ⟨c10, h⟩ := h
  refine gc_pure1 (ρ := [.sh (e_Veil v_self), .sh (D.int v_ticks), .sh ((eM D.int) s2), u7, u6, u5, .no]) (enc := D.int) (enc2 := D.int) (fn := fun (x11 : Int) => x11) c10 (fun x11 _ => ⟨_, rfl, rfl, rfl, _, (pu_cb1 (pu_var rfl) rfl (o_int _)), rfl⟩) ?_
  refine ⟨_, _, lk_new, o_sorted, ?_⟩
  refine ⟨_, List.map D.int (isort ((s2.map (·.1)).map fun (x11 : Int) => x11)), _, (ca_1 fr_new ca_0), .inl rfl, ?_⟩
  obtain ⟨c12, h⟩ := h
  refine gc_loop (enc := D.int) (enc2 := (eP2 D.int D.int)) (fun ρ => ρ = [.sh (e_Veil v_self), .sh (D.int v_ticks), .sh ((eM D.int) s2), .no, u6, u5, .no]) ?_ _ [] [.sh (e_Veil v_self), .sh (D.int v_ticks), .sh ((eM D.int) s2), .no, u6, u5, .no] rfl (by simpa using c12) ?_ h
  ·
    intro x13 ρ k14 hr h
    obtain rfl := hr
    refine ⟨[.sh (e_Veil v_self), .sh (D.int v_ticks), .sh ((eM D.int) s2), .sh (D.int x13), u6, u5, .no], rfl, ?_⟩
    refine go_pu (a := true) rfl ?_
    refine to_t rfl ?_
    refine ge_tup ?_
    refine ga_cons ?_
    refine go_pu (pu_var rfl) ?_
    refine ga_cons ?_
    refine ge_op ?_
    refine go_pu (pu_var rfl) ?_
    refine go_pu (pu_var rfl) ?_
    obtain ⟨x16, hix16, h⟩ := h
    refine ⟨_, _, _, rfl, rfl, o_dixM (e := D.int) hix16, ?_⟩
    refine ga_nil ?_
    refine ⟨_, _, (ca_1 rfl (ca_1 rfl ca_0)), (Nat.le_of_ble_eq_true rfl), ?_⟩
    exact ⟨(x13, x16), _, (ca_1 rfl ca_0), h, rfl⟩
  intro ys15 ρ h hr
  obtain rfl := hr
  rw [List.nil_append]
  refine ⟨_, _, (ca_1 fr_new ca_0), ?_⟩
  exact ⟨ys15, rfl, h⟩
theorem tr__law_asked  (v_veil : V_Veil) (v_way : Int) (v_ticks : Int) (v_number : Int) {Q : D → Prop} {E : EP} (h : W__law_asked v_veil v_way v_ticks v_number Q E) : Go (fun s _ => ∃ (v : D), s = (fun v : D => .sh (eD v)) v ∧ Q v) (exP E) (F__law_asked [.sh (e_Veil v_veil), .sh (D.int v_way), .sh (D.int v_ticks), .sh (D.int v_number)]) := by
  unfold W__law_asked at h
  unfold F__law_asked
  refine gs_fn (ρ0 := [.sh (e_Veil v_veil), .sh (D.int v_way), .sh (D.int v_ticks), .sh (D.int v_number), .no]) rfl ?_
  refine gs_try (I := fun ρ => ρ = [.sh (e_Veil v_veil), .sh (D.int v_way), .sh (D.int v_ticks), .sh (D.int v_number), .no]) (E1 := (fun k ds => (k = .BadCount ∧ wX1 ds (fun d1 => Q ((eP2 D.str eD) (("count" : Str), d1)))) ∨ (k = .BadLot ∧ wX1 ds (fun d2 => Q ((eP2 D.str eD) (("lot" : Str), d2)))))) ?_ ?_
  ·
    refine gs_seq ?_
    refine gs_if ?_
    refine go_pu (pt_e (pu_op (pu_var rfl) pu_c rfl rfl (o_eq _ _))) ?_
    by_cases c4 : (v_way == 0) = true
    · replace h := ite_t c4 h
      refine to_t c4 ?_
      refine gs_retF ?_
      refine gc_meth ?_
      refine go_pu (pu_var rfl) ?_
      refine ⟨_, _, rfl, (by decide +kernel), ?_⟩
      refine ga_cons ?_
      refine go_pu (pu_var rfl) ?_
      refine ga_cons ?_
      refine go_pu (pu_var rfl) ?_
      refine ga_nil ?_
      refine ⟨_, _, _, (ca_1 rfl (ca_1 rfl (ca_1 rfl ca_0))), ⟨rfl, rfl⟩, ?_⟩
      refine gl_data (enc := (fun v : Int => .sh (D.int v))) (tr_Veil_shown v_veil v_ticks v_number h) (fun _ _ _ _ z => exI_of (I := fun ρ => ρ = [.sh (e_Veil v_veil), .sh (D.int v_way), .sh (D.int v_ticks), .sh (D.int v_number), .no]) z (by exact rfl)) (fun x5 h => ?_)
      refine ⟨_, _, (ca_1 rfl ca_0), ?_⟩
      exact ⟨(D.int x5), rfl, h⟩
    · replace h := ite_f c4 h
      refine to_f c4 ?_
      refine gs_nil ?_
      change Gs _ _ _ _ _ _
      refine gs_seq ?_
      refine gs_if ?_
      refine go_pu (pt_e (pu_op (pu_var rfl) pu_c rfl rfl (o_eq _ _))) ?_
      by_cases c6 : (v_way == 1) = true
      · replace h := ite_t c6 h
        refine to_t c6 ?_
        refine gs_retF ?_
        refine gc_meth ?_
        refine go_pu (pu_var rfl) ?_
        refine ⟨_, _, rfl, (by decide +kernel), ?_⟩
        refine ga_cons ?_
        refine go_pu (pu_var rfl) ?_
        refine ga_nil ?_
        refine ⟨_, _, _, (ca_1 rfl (ca_1 rfl ca_0)), ⟨rfl, rfl⟩, ?_⟩
        refine gl_data (enc := (fun v : Int => .sh (D.int v))) (tr_Veil_delay v_veil v_number h) (fun _ _ _ _ z => exI_of (I := fun ρ => ρ = [.sh (e_Veil v_veil), .sh (D.int v_way), .sh (D.int v_ticks), .sh (D.int v_number), .no]) z (by exact rfl)) (fun x7 h => ?_)
        refine ⟨_, _, (ca_1 rfl ca_0), ?_⟩
        exact ⟨(D.int x7), rfl, h⟩
      · replace h := ite_f c6 h
        refine to_f c6 ?_
        refine gs_nil ?_
        change Gs _ _ _ _ _ _
        refine gs_retF ?_
        refine go_join (fun (j8 : D) a ρ => .v (.sh (eD j8)) = a ∧ ρ = [.sh (e_Veil v_veil), .sh (D.int v_way), .sh (D.int v_ticks), .sh (D.int v_number), .no]) h (fun k9 h => ?_) (fun j8 a ρ h hr => ?_)
        ·
          refine ge_if ?_
          refine go_pu (pt_e (pu_op (pu_var rfl) pu_c rfl rfl (o_eq _ _))) ?_
          by_cases c10 : (v_way == 2) = true
          · replace h := ite_t c10 h
            refine to_t c10 ?_
            refine gc_meth ?_
            refine go_pu (pu_var rfl) ?_
            refine ⟨_, _, rfl, (by decide +kernel), ?_⟩
            refine ga_cons ?_
            refine go_pu (pu_var rfl) ?_
            refine ga_nil ?_
            refine ⟨_, _, _, (ca_1 rfl (ca_1 rfl ca_0)), ⟨rfl, rfl⟩, ?_⟩
            refine gl_data (enc := (fun v : (List Int) => .sh ((eT D.int) v))) (tr_Veil_view v_veil v_ticks h) (fun _ _ _ _ z => exI_of (I := fun ρ => ρ = [.sh (e_Veil v_veil), .sh (D.int v_way), .sh (D.int v_ticks), .sh (D.int v_number), .no]) z (by exact rfl)) (fun x11 h => ?_)
            exact ⟨((eT D.int) x11), h, rfl, rfl⟩
          · replace h := ite_f c10 h
            refine to_f c10 ?_
            refine gc_meth ?_
            refine go_pu (pu_var rfl) ?_
            refine ⟨_, _, rfl, (by decide +kernel), ?_⟩
            refine ga_cons ?_
            refine go_pu (pu_var rfl) ?_
            refine ga_nil ?_
            refine ⟨_, _, _, (ca_1 rfl (ca_1 rfl ca_0)), ⟨rfl, rfl⟩, ?_⟩
            refine gl_data (enc := (fun v : (List (Int × Int)) => .sh ((eL (eP2 D.int D.int)) v))) (tr_Veil_odds v_veil v_ticks h) (fun _ _ _ _ z => exI_of (I := fun ρ => ρ = [.sh (e_Veil v_veil), .sh (D.int v_way), .sh (D.int v_ticks), .sh (D.int v_number), .no]) z (by exact rfl)) (fun x12 h => ?_)
            exact ⟨((eL (eP2 D.int D.int)) x12), h, rfl, rfl⟩
        obtain ⟨rfl, rfl⟩ := hr
        refine ⟨_, _, (ca_1 rfl ca_0), ?_⟩
        exact ⟨j8, rfl, h⟩
  ·
    intro k ds ρ hr h9
    obtain rfl := hr
    rcases h9 with ⟨rfl, h⟩ | ⟨rfl, h⟩
    ·
      obtain ⟨d1, rfl, h⟩ := h
      refine gs_hand (by decide +kernel) rfl ?_
      refine gs_retF ?_
      refine go_pu (pu_tup (pa_1 pu_c (pa_1 (pu_xf (d := d1) (by kernel_rfl)) pa_0)) (ca_1 rfl (ca_1 rfl ca_0)) (Nat.le_of_ble_eq_true rfl)) ?_
      refine ⟨_, _, (ca_1 rfl ca_0), ?_⟩
      exact ⟨((eP2 D.str eD) (("count" : Str), d1)), rfl, h⟩
    ·
      obtain ⟨d2, rfl, h⟩ := h
      refine gs_skip (by decide +kernel) ?_
      refine gs_hand (by decide +kernel) rfl ?_
      refine gs_retF ?_
      refine go_pu (pu_tup (pa_1 pu_c (pa_1 (pu_xf (d := d2) (by kernel_rfl)) pa_0)) (ca_1 rfl (ca_1 rfl ca_0)) (Nat.le_of_ble_eq_true rfl)) ?_
      refine ⟨_, _, (ca_1 rfl ca_0), ?_⟩
      exact ⟨((eP2 D.str eD) (("lot" : Str), d2)), rfl, h⟩
theorem tr__law_rounded  (v_limits : (List Int)) (v_ticks : Int) {Q : Int → Prop} {E : EP} (h : W__law_rounded v_limits v_ticks Q E) : Go (fun s _ => ∃ (v : Int), s = (fun v : Int => .sh (D.int v)) v ∧ Q v) (exP E) (F__law_rounded [.sh ((eL D.int) v_limits), .sh (D.int v_ticks)]) := by
  unfold W__law_rounded at h
  unfold F__law_rounded
  refine gs_fn (ρ0 := [.sh ((eL D.int) v_limits), .sh (D.int v_ticks), .no, .no]) rfl ?_
  refine gs_seq ?_
  refine gs_setF ?_
  refine ge_comp ?_
  refine gi_seqL ?_
  refine go_pu (pu_var rfl) ?_
  refine ⟨_, List.map D.int v_limits, _, (ca_1 rfl ca_0), .inl rfl, ?_⟩
  obtain ⟨c1, h⟩ := h
  refine gc_pure (ρ := [.sh ((eL D.int) v_limits), .sh (D.int v_ticks), .no, .no]) (enc := D.int) (enc2 := D.int) (c := (fun (x2 : Int) => (decide (v_ticks ≤ x2)))) (fn := fun (x2 : Int) => x2) c1 (fun x2 _ => ⟨_, rfl, (pt_e (pu_op (pu_var rfl) (pu_var rfl) rfl rfl (o_ge _ _))), rfl, fun _ => ⟨_, (pu_var rfl), rfl⟩⟩) ?_
  refine ⟨_, _, [.sh ((eL D.int) v_limits), .sh (D.int v_ticks), .sh ((eL D.int) ((v_limits.filter fun (x2 : Int) => (decide (v_ticks ≤ x2))).map fun (x2 : Int) => x2)), .no], (ca_1 fr_new ca_0), rfl, ?_⟩
  change Gs _ _ _ _ _ _
  refine gs_retF ?_
  refine go_join (fun (j3 : Int) a ρ => .v (.sh (D.int j3)) = a ∧ ρ = [.sh ((eL D.int) v_limits), .sh (D.int v_ticks), .sh ((eL D.int) ((v_limits.filter fun (x2 : Int) => (decide (v_ticks ≤ x2))).map fun (x2 : Int) => x2)), .no]) h (fun k4 h => ?_) (fun j3 a ρ h hr => ?_)
  ·
    refine ge_if ?_
    refine gt_e ?_
    refine ge_op ?_
    refine go_pu (pu_var rfl) ?_
    refine go_pu (pu_lst pa_0 ca_0 (Nat.le_of_ble_eq_true rfl)) ?_
    obtain ⟨b5, hib5, h⟩ := h
    refine ⟨_, _, _, rfl, lk_new, hib5, ?_⟩
    refine ⟨_, rfl, ?_⟩
    by_cases c6 : b5 = true
    · replace h := ite_t c6 h
      refine to_t c6 ?_
      refine go_pu (pu_var rfl) ?_
      exact ⟨v_ticks, h, rfl, rfl⟩
    · replace h := ite_f c6 h
      refine to_f c6 ?_
      refine go_join (fun (j7 : Int) a ρ => .v (.sh (D.int j7)) = a ∧ ρ = [.sh ((eL D.int) v_limits), .sh (D.int v_ticks), .sh ((eL D.int) ((v_limits.filter fun (x2 : Int) => (decide (v_ticks ≤ x2))).map fun (x2 : Int) => x2)), .no]) h (fun k8 h => ?_) (fun j7 a ρ h hr => ?_)
      ·
        refine ge_if ?_
        refine gt_e ?_
        refine ge_op ?_
        refine go_pu (pu_var rfl) ?_
        refine go_pu (pu_lst pa_0 ca_0 (Nat.le_of_ble_eq_true rfl)) ?_
        obtain ⟨b9, hib9, h⟩ := h
        refine ⟨_, _, _, rfl, lk_new, hib9, ?_⟩
        refine ⟨_, rfl, ?_⟩
        by_cases c10 : b9 = true
        · replace h := ite_t c10 h
          refine to_t c10 ?_
          refine ge_op ?_
          refine go_pu (pu_var rfl) ?_
          refine go_pu pu_c ?_
          obtain ⟨x11, hix11, h⟩ := h
          refine ⟨_, _, _, rfl, rfl, o_ixL (e := D.int) hix11, ?_⟩
          exact ⟨x11, h, rfl, rfl⟩
        · replace h := ite_f c10 h
          refine to_f c10 ?_
          refine go_pu (pu_op pu_c pu_c rfl rfl (o_sub _ _)) ?_
          exact ⟨(0 - 1), h, rfl, rfl⟩
      obtain ⟨rfl, rfl⟩ := hr
      exact ⟨j7, h, rfl, rfl⟩
  obtain ⟨rfl, rfl⟩ := hr
  refine ⟨_, _, (ca_1 rfl ca_0), ?_⟩
  exact ⟨j3, rfl, h⟩
theorem tr__law_veil_right  (v_veil : V_Veil) (v_limits : (List Int)) (v_lags : (List (Int × Int))) (v_times : (List Int)) {Q : Bool → Prop} {E : EP} (h : W__law_veil_right v_veil v_limits v_lags v_times Q E) : Go (fun s _ => ∃ (v : Bool), s = (fun v : Bool => .sh (D.bl v)) v ∧ Q v) (exP E) (F__law_veil_right [.sh (e_Veil v_veil), .sh ((eL D.int) v_limits), .sh ((eL (eP2 D.int D.int)) v_lags), .sh ((eL D.int) v_times)]) := by
  unfold W__law_veil_right at h
  unfold F__law_veil_right
  refine gs_fn (ρ0 := [.sh (e_Veil v_veil), .sh ((eL D.int) v_limits), .sh ((eL (eP2 D.int D.int)) v_lags), .sh ((eL D.int) v_times), .no, .no, .no, .no, .no, .no, .no, .no, .no, .no]) rfl ?_
  refine gs_seq ?_
  refine gs_setF ?_
  refine ge_cb1 ?_
  refine ge_comp ?_
  refine gi_seqL ?_
  refine go_pu (pu_var rfl) ?_
  refine ⟨_, List.map (eP2 D.int D.int) v_lags, _, (ca_1 rfl ca_0), .inl rfl, ?_⟩
  obtain ⟨c1, h⟩ := h
  refine gc_pure1 (ρ := [.sh (e_Veil v_veil), .sh ((eL D.int) v_limits), .sh ((eL (eP2 D.int D.int)) v_lags), .sh ((eL D.int) v_times), .no, .no, .no, .no, .no, .no, .no, .no, .no, .no]) (enc := (eP2 D.int D.int)) (enc2 := D.int) (fn := fun (x2 : (Int × Int)) => x2.2) c1 (fun x2 _ => ⟨_, rfl, rfl, rfl, _, (pu_op (pu_var rfl) pu_c rfl rfl (o_ixC rfl)), rfl⟩) ?_
  refine ⟨_, _, lk_new, o_sum, ?_⟩
  refine ⟨_, _, [.sh (e_Veil v_veil), .sh ((eL D.int) v_limits), .sh ((eL (eP2 D.int D.int)) v_lags), .sh ((eL D.int) v_times), .sh (D.int (((v_lags.map fun (x2 : (Int × Int)) => x2.2)).sum)), .no, .no, .no, .no, .no, .no, .no, .no, .no], (ca_1 rfl ca_0), rfl, ?_⟩
  change Gs _ _ _ _ _ _
  refine gs_seq ?_
  refine gs_if ?_
  refine go_join (fun (j3 : Bool) a ρ => j3 = a ∧ ρ = [.sh (e_Veil v_veil), .sh ((eL D.int) v_limits), .sh ((eL (eP2 D.int D.int)) v_lags), .sh ((eL D.int) v_times), .sh (D.int (((v_lags.map fun (x2 : (Int × Int)) => x2.2)).sum)), .no, .no, .no, .no, .no, .no, .no, .no, .no]) h (fun k4 h => ?_) (fun j3 a ρ h hr => ?_)
  ·
    refine gt_or ?_
    refine gt_not ?_
    refine gt_tru ?_
    refine gc_data ?_
    refine ga_cons ?_
    refine gc_prop ?_
    refine go_pu (pu_var rfl) ?_
    refine ⟨_, _, _, _, rfl, (ca_1 rfl ca_0), ?_⟩
    refine gl_data (enc := (fun v : Int => .sh (D.int v))) (tr_Veil_lots v_veil h) (fun _ _ _ _ z => (exF z).elim) (fun x5 h => ?_)
    refine ga_cons ?_
    refine go_pu (pu_var rfl) ?_
    refine ga_nil ?_
    refine ⟨_, _, (ca_1 rfl (ca_1 rfl ca_0)), rfl, ?_⟩
    refine gl_same (n := 6) h (fun r6 h => ?_)
    refine ⟨_, _, rfl, rfl, ?_⟩
    by_cases c7 : (!r6) = true
    · replace h := ite_t c7 h
      refine to_t c7 ?_
      exact ⟨true, h, rfl, rfl⟩
    · replace h := ite_f c7 h
      refine to_f c7 ?_
      refine gt_not ?_
      refine gt_tru ?_
      refine gc_data ?_
      refine ga_cons ?_
      refine go_pu (pu_tup (pa_1 (pu_un (pu_var rfl) rfl (fld_Veil_limits _)) (pa_1 (pu_un (pu_var rfl) rfl (fld_Veil_delays _)) pa_0)) (ca_1 rfl (ca_1 rfl ca_0)) (Nat.le_of_ble_eq_true rfl)) ?_
      refine ga_cons ?_
      refine go_pu (pu_tup (pa_1 (pu_cb1 (pu_var rfl) rfl o_toT) (pa_1 (pu_cb1 (pu_var rfl) rfl o_toT) pa_0)) (ca_1 rfl (ca_1 rfl ca_0)) (Nat.le_of_ble_eq_true rfl)) ?_
      refine ga_nil ?_
      refine ⟨_, _, (ca_1 rfl (ca_1 rfl ca_0)), rfl, ?_⟩
      refine gl_same (n := 6) h (fun r8 h => ?_)
      refine ⟨_, _, rfl, rfl, ?_⟩
      exact ⟨(!r8), h, rfl, rfl⟩
  obtain ⟨rfl, rfl⟩ := hr
  by_cases c9 : j3 = true
  · replace h := ite_t c9 h
    refine to_t c9 ?_
    refine gs_retF ?_
    refine go_pu pu_c ?_
    refine ⟨_, _, (ca_1 rfl ca_0), ?_⟩
    exact ⟨false, rfl, h⟩
  · replace h := ite_f c9 h
    refine to_f c9 ?_
    refine gs_nil ?_
    change Gs _ _ _ _ _ _
    refine gs_seq ?_
    refine gs_for ?_
    refine gi_seqL ?_
    refine go_pu (pu_var rfl) ?_
    refine ⟨_, List.map D.int v_times, _, (ca_1 rfl ca_0), .inl rfl, ?_⟩
    refine gs_forL (enc := D.int) (fun (s10 : Unit) ρ => ∃ u13, ∃ u14, ∃ u15, ∃ u16, ∃ u17, ∃ u18, ∃ u19, ∃ u20, ρ = [.sh (e_Veil v_veil), .sh ((eL D.int) v_limits), .sh ((eL (eP2 D.int D.int)) v_lags), .sh ((eL D.int) v_times), .sh (D.int (((v_lags.map fun (x2 : (Int × Int)) => x2.2)).sum)), u13, .no, u14, u15, u20, u16, u19, u17, u18]) ?_ ?_ v_times () [.sh (e_Veil v_veil), .sh ((eL D.int) v_limits), .sh ((eL (eP2 D.int D.int)) v_lags), .sh ((eL D.int) v_times), .sh (D.int (((v_lags.map fun (x2 : (Int × Int)) => x2.2)).sum)), .no, .no, .no, .no, .no, .no, .no, .no, .no] ⟨_, _, _, _, _, _, _, _, rfl⟩ h
    ·
      intro x11 s10 ρ k12 hr h
      obtain ⟨u13, u14, u15, u16, u17, u18, u19, u20, rfl⟩ := hr
      refine ⟨[.sh (e_Veil v_veil), .sh ((eL D.int) v_limits), .sh ((eL (eP2 D.int D.int)) v_lags), .sh ((eL D.int) v_times), .sh (D.int (((v_lags.map fun (x2 : (Int × Int)) => x2.2)).sum)), .sh (D.int x11), .no, u14, u15, u20, u16, u19, u17, u18], rfl, ?_⟩
      refine gs_seq ?_
      refine gs_if ?_
      refine gt_not ?_
      refine gt_tru ?_
      refine gc_data ?_
      refine ga_cons ?_
      refine gc_meth ?_
      refine go_pu (pu_var rfl) ?_
      refine ⟨_, _, rfl, (by decide +kernel), ?_⟩
      refine ga_cons ?_
      refine go_pu (pu_var rfl) ?_
      refine ga_nil ?_
      refine ⟨_, _, _, (ca_1 rfl (ca_1 rfl ca_0)), ⟨rfl, rfl⟩, ?_⟩
      refine gl_data (enc := (fun v : Int => .sh (D.int v))) (tr_Veil_rounded v_veil x11 h) (fun _ _ _ _ z => (exF z).elim) (fun x22 h => ?_)
      refine ga_cons ?_
      refine gc_data ?_
      refine ga_cons ?_
      refine go_pu (pu_var rfl) ?_
      refine ga_cons ?_
      refine go_pu (pu_var rfl) ?_
      refine ga_nil ?_
      refine ⟨_, _, (ca_1 rfl (ca_1 rfl ca_0)), rfl, ?_⟩
      refine gl_data (enc := (fun v : Int => .sh (D.int v))) (tr__law_rounded v_limits x11 h) (fun _ _ _ _ z => (exF z).elim) (fun x23 h => ?_)
      refine ga_nil ?_
      refine ⟨_, _, (ca_1 rfl (ca_1 rfl ca_0)), rfl, ?_⟩
      refine gl_same (n := 6) h (fun r24 h => ?_)
      refine ⟨_, _, rfl, rfl, ?_⟩
      by_cases c25 : (!r24) = true
      · replace h := ite_t c25 h
        refine to_t c25 ?_
        refine gs_retF ?_
        refine go_pu pu_c ?_
        refine ⟨_, _, (ca_1 rfl ca_0), ?_⟩
        exact ⟨false, rfl, h⟩
      · replace h := ite_f c25 h
        refine to_f c25 ?_
        refine gs_nil ?_
        change Gs _ _ _ _ _ _
        refine gs_seq ?_
        refine gs_setF ?_
        refine ge_comp ?_
        refine gi_seqL ?_
        refine go_pu (pu_var rfl) ?_
        refine ⟨_, List.map (eP2 D.int D.int) v_lags, _, (ca_1 rfl ca_0), .inl rfl, ?_⟩
        obtain ⟨c26, h⟩ := h
        refine gc_loop (enc := (eP2 D.int D.int)) (enc2 := D.int) (fun ρ => ρ = [.sh (e_Veil v_veil), .sh ((eL D.int) v_limits), .sh ((eL (eP2 D.int D.int)) v_lags), .sh ((eL D.int) v_times), .sh (D.int (((v_lags.map fun (x2 : (Int × Int)) => x2.2)).sum)), .sh (D.int x11), .no, u14, u15, u20, u16, u19, u17, .no]) ?_ _ [] [.sh (e_Veil v_veil), .sh ((eL D.int) v_limits), .sh ((eL (eP2 D.int D.int)) v_lags), .sh ((eL D.int) v_times), .sh (D.int (((v_lags.map fun (x2 : (Int × Int)) => x2.2)).sum)), .sh (D.int x11), .no, u14, u15, u20, u16, u19, u17, .no] rfl (by simpa using c26) ?_ h
        ·
          intro x27 ρ k28 hr h
          obtain rfl := hr
          refine ⟨[.sh (e_Veil v_veil), .sh ((eL D.int) v_limits), .sh ((eL (eP2 D.int D.int)) v_lags), .sh ((eL D.int) v_times), .sh (D.int (((v_lags.map fun (x2 : (Int × Int)) => x2.2)).sum)), .sh (D.int x11), .no, u14, u15, u20, u16, u19, u17, .sh ((eP2 D.int D.int) x27)], rfl, ?_⟩
          refine go_pu (a := true) rfl ?_
          refine to_t rfl ?_
          refine gc_data ?_
          refine ga_cons ?_
          refine go_pu (pu_var rfl) ?_
          refine ga_cons ?_
          refine go_pu (pu_op (pu_var rfl) (pu_op (pu_var rfl) pu_c rfl rfl (o_ixC rfl)) rfl rfl (o_add _ _)) ?_
          refine ga_nil ?_
          refine ⟨_, _, (ca_1 rfl (ca_1 rfl ca_0)), rfl, ?_⟩
          refine gl_data (enc := (fun v : Int => .sh (D.int v))) (tr__law_rounded v_limits (x11 + x27.1) h) (fun _ _ _ _ z => (exF z).elim) (fun x30 h => ?_)
          exact ⟨x30, _, (ca_1 rfl ca_0), h, rfl⟩
        intro ys29 ρ h hr
        obtain rfl := hr
        rw [List.nil_append]
        refine ⟨_, _, [.sh (e_Veil v_veil), .sh ((eL D.int) v_limits), .sh ((eL (eP2 D.int D.int)) v_lags), .sh ((eL D.int) v_times), .sh (D.int (((v_lags.map fun (x2 : (Int × Int)) => x2.2)).sum)), .sh (D.int x11), .no, .sh ((eL D.int) ys29), u15, u20, u16, u19, u17, .no], (ca_1 fr_new ca_0), rfl, ?_⟩
        change Gs _ _ _ _ _ _
        refine gs_seq ?_
        refine gs_if ?_
        refine gt_not ?_
        refine gt_tru ?_
        refine gc_data ?_
        refine ga_cons ?_
        refine gc_meth ?_
        refine go_pu (pu_var rfl) ?_
        refine ⟨_, _, rfl, (by decide +kernel), ?_⟩
        refine ga_cons ?_
        refine go_pu (pu_var rfl) ?_
        refine ga_nil ?_
        refine ⟨_, _, _, (ca_1 rfl (ca_1 rfl ca_0)), ⟨rfl, rfl⟩, ?_⟩
        refine gl_data (enc := (fun v : (List Int) => .sh ((eT D.int) v))) (tr_Veil_view v_veil x11 h) (fun _ _ _ _ z => z) (fun x31 h => ?_)
        refine ga_cons ?_
        refine go_pu (pu_cb1 (pu_var rfl) rfl o_toT) ?_
        refine ga_nil ?_
        refine ⟨_, _, (ca_1 rfl (ca_1 rfl ca_0)), rfl, ?_⟩
        refine gl_same (n := 6) h (fun r32 h => ?_)
        refine ⟨_, _, rfl, rfl, ?_⟩
        by_cases c33 : (!r32) = true
        · replace h := ite_t c33 h
          refine to_t c33 ?_
          refine gs_retF ?_
          refine go_pu pu_c ?_
          refine ⟨_, _, (ca_1 rfl ca_0), ?_⟩
          exact ⟨false, rfl, h⟩
        · replace h := ite_f c33 h
          refine to_f c33 ?_
          refine gs_nil ?_
          change Gs _ _ _ _ _ _
          refine gs_seq ?_
          refine gs_set ?_
          refine go_pu (pu_lst pa_0 ca_0 (Nat.le_of_ble_eq_true rfl)) ?_
          refine ⟨_, [.sh (e_Veil v_veil), .sh ((eL D.int) v_limits), .sh ((eL (eP2 D.int D.int)) v_lags), .sh ((eL D.int) v_times), .sh (D.int (((v_lags.map fun (x2 : (Int × Int)) => x2.2)).sum)), .sh (D.int x11), .no, .sh ((eL D.int) ys29), .lst (shs (List.map (eP2 D.int D.int) [])), u20, u16, u19, u17, .no], rfl, rfl, ?_⟩
          change Gs _ _ _ _ _ _
          refine gs_seq ?_
          refine gs_for ?_
          refine gi_seqL ?_
          refine ge_cb1 ?_
          refine ge_comp ?_
          refine gi_seqL ?_
          refine go_pu (pu_var rfl) ?_
          refine ⟨_, List.map D.int ys29, _, (ca_1 rfl ca_0), .inl rfl, ?_⟩
          obtain ⟨c34, h⟩ := h
          refine gc_pure1 (ρ := [.sh (e_Veil v_veil), .sh ((eL D.int) v_limits), .sh ((eL (eP2 D.int D.int)) v_lags), .sh ((eL D.int) v_times), .sh (D.int (((v_lags.map fun (x2 : (Int × Int)) => x2.2)).sum)), .sh (D.int x11), .no, .sh ((eL D.int) ys29), .lst (shs (List.map (eP2 D.int D.int) [])), u20, u16, u19, u17, .no]) (enc := D.int) (enc2 := D.int) (fn := fun (x35 : Int) => x35) c34 (fun x35 _ => ⟨_, rfl, rfl, rfl, _, (pu_cb1 (pu_var rfl) rfl (o_int _)), rfl⟩) ?_
          refine ⟨_, _, lk_new, o_sorted, ?_⟩
          refine ⟨_, List.map D.int (isort (ys29.map fun (x35 : Int) => x35)), _, (ca_1 fr_new ca_0), .inl rfl, ?_⟩
          refine gs_forL (enc := D.int) (fun (s36 : (List (Int × Int))) ρ => ∃ u39, ∃ u40, ρ = [.sh (e_Veil v_veil), .sh ((eL D.int) v_limits), .sh ((eL (eP2 D.int D.int)) v_lags), .sh ((eL D.int) v_times), .sh (D.int (((v_lags.map fun (x2 : (Int × Int)) => x2.2)).sum)), .sh (D.int x11), .no, .sh ((eL D.int) ys29), .lst (shs (List.map (eP2 D.int D.int) s36)), u39, u16, u40, u17, .no]) ?_ ?_ (isort (ys29.map fun (x35 : Int) => x35)) [] [.sh (e_Veil v_veil), .sh ((eL D.int) v_limits), .sh ((eL (eP2 D.int D.int)) v_lags), .sh ((eL D.int) v_times), .sh (D.int (((v_lags.map fun (x2 : (Int × Int)) => x2.2)).sum)), .sh (D.int x11), .no, .sh ((eL D.int) ys29), .lst (shs (List.map (eP2 D.int D.int) [])), u20, u16, u19, u17, .no] ⟨_, _, rfl⟩ h
          ·
            intro x37 s36 ρ k38 hr h
            obtain ⟨u39, u40, rfl⟩ := hr
            refine ⟨[.sh (e_Veil v_veil), .sh ((eL D.int) v_limits), .sh ((eL (eP2 D.int D.int)) v_lags), .sh ((eL D.int) v_times), .sh (D.int (((v_lags.map fun (x2 : (Int × Int)) => x2.2)).sum)), .sh (D.int x11), .no, .sh ((eL D.int) ys29), .lst (shs (List.map (eP2 D.int D.int) s36)), .sh (D.int x37), u16, u40, u17, .no], rfl, ?_⟩
            refine gs_join (fun (s42 : (List (Int × Int))) ρ => ∃ u44, ρ = [.sh (e_Veil v_veil), .sh ((eL D.int) v_limits), .sh ((eL (eP2 D.int D.int)) v_lags), .sh ((eL D.int) v_times), .sh (D.int (((v_lags.map fun (x2 : (Int × Int)) => x2.2)).sum)), .sh (D.int x11), .no, .sh ((eL D.int) ys29), .lst (shs (List.map (eP2 D.int D.int) s42)), .sh (D.int x37), u16, u44, u17, .no]) h (fun k43 h => ?_) (fun s42 ρ h hr => ?_)
            ·
              refine gs_if ?_
              refine go_join (fun (j45 : Bool) a ρ => j45 = a ∧ ρ = [.sh (e_Veil v_veil), .sh ((eL D.int) v_limits), .sh ((eL (eP2 D.int D.int)) v_lags), .sh ((eL D.int) v_times), .sh (D.int (((v_lags.map fun (x2 : (Int × Int)) => x2.2)).sum)), .sh (D.int x11), .no, .sh ((eL D.int) ys29), .lst (shs (List.map (eP2 D.int D.int) s36)), .sh (D.int x37), u16, u40, u17, .no]) h (fun k46 h => ?_) (fun j45 a ρ h hr => ?_)
              ·
                refine gt_or ?_
                refine gt_e ?_
                refine ge_op ?_
                refine go_pu (pu_own rfl) ?_
                refine go_pu (pu_lst pa_0 ca_0 (Nat.le_of_ble_eq_true rfl)) ?_
                obtain ⟨b47, hib47, h⟩ := h
                refine ⟨_, _, _, (lk_own rfl), lk_new, hib47, ?_⟩
                refine ⟨_, rfl, ?_⟩
                by_cases c48 : b47 = true
                · replace h := ite_t c48 h
                  refine to_t c48 ?_
                  exact ⟨true, h, rfl, rfl⟩
                · replace h := ite_f c48 h
                  refine to_f c48 ?_
                  refine gt_e ?_
                  refine ge_op ?_
                  refine ge_op ?_
                  refine ge_op ?_
                  refine go_pu (pu_own rfl) ?_
                  refine go_pu (pu_op (pu_cb1 (pu_own rfl) (lk_own rfl) o_lenL) pu_c rfl rfl (o_sub _ _)) ?_
                  obtain ⟨x49, hix49, h⟩ := h
                  refine ⟨_, _, _, (lk_own rfl), rfl, o_ixL (e := (eP2 D.int D.int)) hix49, ?_⟩
                  refine go_pu pu_c ?_
                  refine ⟨_, _, _, rfl, rfl, o_ixC rfl, ?_⟩
                  refine go_pu (pu_var rfl) ?_
                  refine ⟨_, _, _, rfl, rfl, (o_ne _ _), ?_⟩
                  refine ⟨_, rfl, ?_⟩
                  exact ⟨(!(x49.1 == x37)), h, rfl, rfl⟩
              obtain ⟨rfl, rfl⟩ := hr
              by_cases c51 : j45 = true
              · replace h := ite_t c51 h
                refine to_t c51 ?_
                refine gs_appT (xs := s36) (enc := (eP2 D.int D.int)) rfl ?_
                refine ge_tup ?_
                refine ga_cons ?_
                refine go_pu (pu_var rfl) ?_
                refine ga_cons ?_
                refine ge_cb1 ?_
                refine ge_comp ?_
                refine gi_rng1 ?_
                refine go_pu (pu_cb1 (pu_var rfl) rfl o_lenL) ?_
                obtain ⟨c52, h⟩ := h
                refine ⟨_, rfl, c52, ?_⟩
                obtain ⟨c53, h⟩ := h
                refine gc_loop (enc := D.int) (enc2 := D.int) (fun ρ => ρ = [.sh (e_Veil v_veil), .sh ((eL D.int) v_limits), .sh ((eL (eP2 D.int D.int)) v_lags), .sh ((eL D.int) v_times), .sh (D.int (((v_lags.map fun (x2 : (Int × Int)) => x2.2)).sum)), .sh (D.int x11), .no, .sh ((eL D.int) ys29), .lst (shs (List.map (eP2 D.int D.int) s36)), .sh (D.int x37), u16, .no, u17, .no]) ?_ _ [] [.sh (e_Veil v_veil), .sh ((eL D.int) v_limits), .sh ((eL (eP2 D.int D.int)) v_lags), .sh ((eL D.int) v_times), .sh (D.int (((v_lags.map fun (x2 : (Int × Int)) => x2.2)).sum)), .sh (D.int x11), .no, .sh ((eL D.int) ys29), .lst (shs (List.map (eP2 D.int D.int) s36)), .sh (D.int x37), u16, .no, u17, .no] rfl (by simpa using c53) ?_ h
                ·
                  intro x54 ρ k55 hr h
                  obtain rfl := hr
                  refine ⟨[.sh (e_Veil v_veil), .sh ((eL D.int) v_limits), .sh ((eL (eP2 D.int D.int)) v_lags), .sh ((eL D.int) v_times), .sh (D.int (((v_lags.map fun (x2 : (Int × Int)) => x2.2)).sum)), .sh (D.int x11), .no, .sh ((eL D.int) ys29), .lst (shs (List.map (eP2 D.int D.int) s36)), .sh (D.int x37), u16, .sh (D.int x54), u17, .no], rfl, ?_⟩
                  refine gt_e ?_
                  refine ge_op ?_
                  refine ge_op ?_
                  refine go_pu (pu_var rfl) ?_
                  refine go_pu (pu_var rfl) ?_
                  obtain ⟨x57, hix57, h⟩ := h
                  refine ⟨_, _, _, rfl, rfl, o_ixL (e := D.int) hix57, ?_⟩
                  refine go_pu (pu_var rfl) ?_
                  refine ⟨_, _, _, rfl, rfl, (o_eq _ _), ?_⟩
                  refine ⟨_, rfl, ?_⟩
                  by_cases c58 : (x57 == x37) = true
                  · replace h := ite_t c58 h
                    refine to_t c58 ?_
                    refine ge_op ?_
                    refine ge_op ?_
                    refine go_pu (pu_var rfl) ?_
                    refine go_pu (pu_var rfl) ?_
                    obtain ⟨x59, hix59, h⟩ := h
                    refine ⟨_, _, _, rfl, rfl, o_ixL (e := (eP2 D.int D.int)) hix59, ?_⟩
                    refine go_pu pu_c ?_
                    refine ⟨_, _, _, rfl, rfl, o_ixC rfl, ?_⟩
                    exact ⟨x59.2, _, (ca_1 rfl ca_0), h, rfl⟩
                  · replace h := ite_f c58 h
                    refine to_f c58 ?_
                    exact ⟨h, rfl⟩
                intro ys56 ρ h hr
                obtain rfl := hr
                rw [List.nil_append]
                refine ⟨_, _, lk_new, o_sum, ?_⟩
                refine ga_nil ?_
                refine ⟨_, _, (ca_1 rfl (ca_1 rfl ca_0)), (Nat.le_of_ble_eq_true rfl), ?_⟩
                obtain ⟨c61, h⟩ := h
                refine ⟨(x37, (ys56).sum), _, s36, [.sh (e_Veil v_veil), .sh ((eL D.int) v_limits), .sh ((eL (eP2 D.int D.int)) v_lags), .sh ((eL D.int) v_times), .sh (D.int (((v_lags.map fun (x2 : (Int × Int)) => x2.2)).sum)), .sh (D.int x11), .no, .sh ((eL D.int) ys29), .lst (shs (List.map (eP2 D.int D.int) (s36 ++ [(x37, (ys56).sum)]))), .sh (D.int x37), u16, .no, u17, .no], (ca_1 rfl ca_0), rfl, c61, rfl, ?_⟩
                exact ⟨(s36 ++ [(x37, (ys56).sum)]), h, ⟨_, rfl⟩⟩
              · replace h := ite_f c51 h
                refine to_f c51 ?_
                refine gs_nil ?_
                exact ⟨s36, h, ⟨_, rfl⟩⟩
            obtain ⟨u44, rfl⟩ := hr
            exact ⟨s42, h, ⟨_, _, rfl⟩⟩
          intro s36 ρ h hr
          obtain ⟨u39, u40, rfl⟩ := hr
          change Gs _ _ _ _ _ _
          refine gs_seq ?_
          refine gs_if ?_
          refine gt_not ?_
          refine gt_tru ?_
          refine gc_view ?_
          refine ga_cons ?_
          refine gc_meth ?_
          refine go_pu (pu_var rfl) ?_
          refine ⟨_, _, rfl, (by decide +kernel), ?_⟩
          refine ga_cons ?_
          refine go_pu (pu_var rfl) ?_
          refine ga_nil ?_
          refine ⟨_, _, _, (ca_1 rfl (ca_1 rfl ca_0)), ⟨rfl, rfl⟩, ?_⟩
          refine gl_data (enc := (fun v : (List (Int × Int)) => .sh ((eL (eP2 D.int D.int)) v))) (tr_Veil_odds v_veil x11 h) (fun _ _ _ _ z => z) (fun x63 h => ?_)
          refine ga_cons ?_
          refine go_pu (pu_own rfl) ?_
          refine ga_nil ?_
          refine ⟨rfl, _, (vw_1 rfl (vw_r rfl fr_new vw_0)), ?_⟩
          refine gl_sameV h (fun r64 h => ?_)
          refine ⟨_, _, rfl, rfl, ?_⟩
          by_cases c65 : (!r64) = true
          · replace h := ite_t c65 h
            refine to_t c65 ?_
            refine gs_retF ?_
            refine go_pu pu_c ?_
            refine ⟨_, _, (ca_1 rfl ca_0), ?_⟩
            exact ⟨false, rfl, h⟩
          · replace h := ite_f c65 h
            refine to_f c65 ?_
            refine gs_nil ?_
            change Gs _ _ _ _ _ _
            refine gs_seq ?_
            refine gs_setF ?_
            refine go_pu pu_c ?_
            refine ⟨_, _, [.sh (e_Veil v_veil), .sh ((eL D.int) v_limits), .sh ((eL (eP2 D.int D.int)) v_lags), .sh ((eL D.int) v_times), .sh (D.int (((v_lags.map fun (x2 : (Int × Int)) => x2.2)).sum)), .sh (D.int x11), .no, .sh ((eL D.int) ys29), .lst (shs (List.map (eP2 D.int D.int) s36)), u39, .sh (D.int 0), u40, u17, .no], (ca_1 rfl ca_0), rfl, ?_⟩
            change Gs _ _ _ _ _ _
            refine gs_for ?_
            refine gi_rng1 ?_
            refine go_pu (pu_cb1 (pu_var rfl) rfl o_lenL) ?_
            obtain ⟨c66, h⟩ := h
            refine ⟨_, rfl, c66, ?_⟩
            refine gs_forL (enc := D.int) (fun (s67 : Int) ρ => ∃ u70, ∃ u71, ρ = [.sh (e_Veil v_veil), .sh ((eL D.int) v_limits), .sh ((eL (eP2 D.int D.int)) v_lags), .sh ((eL D.int) v_times), .sh (D.int (((v_lags.map fun (x2 : (Int × Int)) => x2.2)).sum)), .sh (D.int x11), .no, .sh ((eL D.int) ys29), .lst (shs (List.map (eP2 D.int D.int) s36)), u39, .sh (D.int s67), u71, u70, .no]) ?_ ?_ (rngZ 0 (v_lags.length : Int)) 0 [.sh (e_Veil v_veil), .sh ((eL D.int) v_limits), .sh ((eL (eP2 D.int D.int)) v_lags), .sh ((eL D.int) v_times), .sh (D.int (((v_lags.map fun (x2 : (Int × Int)) => x2.2)).sum)), .sh (D.int x11), .no, .sh ((eL D.int) ys29), .lst (shs (List.map (eP2 D.int D.int) s36)), u39, .sh (D.int 0), u40, u17, .no] ⟨_, _, rfl⟩ h
            ·
              intro x68 s67 ρ k69 hr h
              obtain ⟨u70, u71, rfl⟩ := hr
              refine ⟨[.sh (e_Veil v_veil), .sh ((eL D.int) v_limits), .sh ((eL (eP2 D.int D.int)) v_lags), .sh ((eL D.int) v_times), .sh (D.int (((v_lags.map fun (x2 : (Int × Int)) => x2.2)).sum)), .sh (D.int x11), .no, .sh ((eL D.int) ys29), .lst (shs (List.map (eP2 D.int D.int) s36)), u39, .sh (D.int s67), .sh (D.int x68), u70, .no], rfl, ?_⟩
              refine gs_seq ?_
              refine gs_for ?_
              refine gi_seqL ?_
              refine ge_lst ?_
              refine ga_cons ?_
              refine go_pu (pu_var rfl) ?_
              refine ga_cons ?_
              refine ge_op ?_
              refine ge_op ?_
              refine go_pu (pu_var rfl) ?_
              refine ge_op ?_
              refine ge_op ?_
              refine go_pu (pu_var rfl) ?_
              refine go_pu (pu_var rfl) ?_
              obtain ⟨x73, hix73, h⟩ := h
              refine ⟨_, _, _, rfl, rfl, o_ixL (e := (eP2 D.int D.int)) hix73, ?_⟩
              refine go_pu pu_c ?_
              refine ⟨_, _, _, rfl, rfl, o_ixC rfl, ?_⟩
              refine ⟨_, _, _, rfl, rfl, (o_add _ _), ?_⟩
              refine go_pu pu_c ?_
              refine ⟨_, _, _, rfl, rfl, (o_sub _ _), ?_⟩
              refine ga_nil ?_
              refine ⟨_, _, (ca_1 rfl (ca_1 rfl ca_0)), (Nat.le_of_ble_eq_true rfl), ?_⟩
              refine ⟨_, List.map D.int [s67, ((s67 + x73.2) - 1)], _, (ca_1 fr_new ca_0), .inl rfl, ?_⟩
              refine gs_forL (enc := D.int) (fun (s75 : Unit) ρ => ∃ u78, ρ = [.sh (e_Veil v_veil), .sh ((eL D.int) v_limits), .sh ((eL (eP2 D.int D.int)) v_lags), .sh ((eL D.int) v_times), .sh (D.int (((v_lags.map fun (x2 : (Int × Int)) => x2.2)).sum)), .sh (D.int x11), .no, .sh ((eL D.int) ys29), .lst (shs (List.map (eP2 D.int D.int) s36)), u39, .sh (D.int s67), .sh (D.int x68), u78, .no]) ?_ ?_ [s67, ((s67 + x73.2) - 1)] () [.sh (e_Veil v_veil), .sh ((eL D.int) v_limits), .sh ((eL (eP2 D.int D.int)) v_lags), .sh ((eL D.int) v_times), .sh (D.int (((v_lags.map fun (x2 : (Int × Int)) => x2.2)).sum)), .sh (D.int x11), .no, .sh ((eL D.int) ys29), .lst (shs (List.map (eP2 D.int D.int) s36)), u39, .sh (D.int s67), .sh (D.int x68), u70, .no] ⟨_, rfl⟩ h
              ·
                intro x76 s75 ρ k77 hr h
                obtain ⟨u78, rfl⟩ := hr
                refine ⟨[.sh (e_Veil v_veil), .sh ((eL D.int) v_limits), .sh ((eL (eP2 D.int D.int)) v_lags), .sh ((eL D.int) v_times), .sh (D.int (((v_lags.map fun (x2 : (Int × Int)) => x2.2)).sum)), .sh (D.int x11), .no, .sh ((eL D.int) ys29), .lst (shs (List.map (eP2 D.int D.int) s36)), u39, .sh (D.int s67), .sh (D.int x68), .sh (D.int x76), .no], rfl, ?_⟩
                refine gs_if ?_
                refine go_join (fun (j80 : Bool) a ρ => j80 = a ∧ ρ = [.sh (e_Veil v_veil), .sh ((eL D.int) v_limits), .sh ((eL (eP2 D.int D.int)) v_lags), .sh ((eL D.int) v_times), .sh (D.int (((v_lags.map fun (x2 : (Int × Int)) => x2.2)).sum)), .sh (D.int x11), .no, .sh ((eL D.int) ys29), .lst (shs (List.map (eP2 D.int D.int) s36)), u39, .sh (D.int s67), .sh (D.int x68), .sh (D.int x76), .no]) h (fun k81 h => ?_) (fun j80 a ρ h hr => ?_)
                ·
                  refine gt_or ?_
                  refine gt_not ?_
                  refine gt_tru ?_
                  refine gc_data ?_
                  refine ga_cons ?_
                  refine gc_meth ?_
                  refine go_pu (pu_var rfl) ?_
                  refine ⟨_, _, rfl, (by decide +kernel), ?_⟩
                  refine ga_cons ?_
                  refine go_pu (pu_var rfl) ?_
                  refine ga_nil ?_
                  refine ⟨_, _, _, (ca_1 rfl (ca_1 rfl ca_0)), ⟨rfl, rfl⟩, ?_⟩
                  refine gl_data (enc := (fun v : Int => .sh (D.int v))) (tr_Veil_delay v_veil x76 h) (fun _ _ _ _ z => z) (fun x82 h => ?_)
                  refine ga_cons ?_
                  refine ge_op ?_
                  refine ge_op ?_
                  refine go_pu (pu_var rfl) ?_
                  refine go_pu (pu_var rfl) ?_
                  obtain ⟨x83, hix83, h⟩ := h
                  refine ⟨_, _, _, rfl, rfl, o_ixL (e := (eP2 D.int D.int)) hix83, ?_⟩
                  refine go_pu pu_c ?_
                  refine ⟨_, _, _, rfl, rfl, o_ixC rfl, ?_⟩
                  refine ga_nil ?_
                  refine ⟨_, _, (ca_1 rfl (ca_1 rfl ca_0)), rfl, ?_⟩
                  refine gl_same (n := 6) h (fun r85 h => ?_)
                  refine ⟨_, _, rfl, rfl, ?_⟩
                  by_cases c86 : (!r85) = true
                  · replace h := ite_t c86 h
                    refine to_t c86 ?_
                    exact ⟨true, h, rfl, rfl⟩
                  · replace h := ite_f c86 h
                    refine to_f c86 ?_
                    refine gt_not ?_
                    refine gt_tru ?_
                    refine gc_data ?_
                    refine ga_cons ?_
                    refine gc_meth ?_
                    refine go_pu (pu_var rfl) ?_
                    refine ⟨_, _, rfl, (by decide +kernel), ?_⟩
                    refine ga_cons ?_
                    refine go_pu (pu_var rfl) ?_
                    refine ga_cons ?_
                    refine go_pu (pu_var rfl) ?_
                    refine ga_nil ?_
                    refine ⟨_, _, _, (ca_1 rfl (ca_1 rfl (ca_1 rfl ca_0))), ⟨rfl, rfl⟩, ?_⟩
                    refine gl_data (enc := (fun v : Int => .sh (D.int v))) (tr_Veil_shown v_veil x11 x76 h) (fun _ _ _ _ z => z) (fun x87 h => ?_)
                    refine ga_cons ?_
                    refine ge_op ?_
                    refine go_pu (pu_var rfl) ?_
                    refine go_pu (pu_var rfl) ?_
                    obtain ⟨x88, hix88, h⟩ := h
                    refine ⟨_, _, _, rfl, rfl, o_ixL (e := D.int) hix88, ?_⟩
                    refine ga_nil ?_
                    refine ⟨_, _, (ca_1 rfl (ca_1 rfl ca_0)), rfl, ?_⟩
                    refine gl_same (n := 6) h (fun r89 h => ?_)
                    refine ⟨_, _, rfl, rfl, ?_⟩
                    exact ⟨(!r89), h, rfl, rfl⟩
                obtain ⟨rfl, rfl⟩ := hr
                by_cases c90 : j80 = true
                · replace h := ite_t c90 h
                  refine to_t c90 ?_
                  refine gs_retF ?_
                  refine go_pu pu_c ?_
                  refine ⟨_, _, (ca_1 rfl ca_0), ?_⟩
                  exact ⟨false, rfl, h⟩
                · replace h := ite_f c90 h
                  refine to_f c90 ?_
                  refine gs_nil ?_
                  exact ⟨(), h, ⟨_, rfl⟩⟩
              intro s75 ρ h hr
              obtain ⟨u78, rfl⟩ := hr
              change Gs _ _ _ _ _ _
              refine gs_setF ?_
              refine ge_op ?_
              refine go_pu (pu_var rfl) ?_
              refine ge_op ?_
              refine ge_op ?_
              refine go_pu (pu_var rfl) ?_
              refine go_pu (pu_var rfl) ?_
              obtain ⟨x91, hix91, h⟩ := h
              refine ⟨_, _, _, rfl, rfl, o_ixL (e := (eP2 D.int D.int)) hix91, ?_⟩
              refine go_pu pu_c ?_
              refine ⟨_, _, _, rfl, rfl, o_ixC rfl, ?_⟩
              refine ⟨_, _, _, rfl, rfl, (o_add _ _), ?_⟩
              refine ⟨_, _, [.sh (e_Veil v_veil), .sh ((eL D.int) v_limits), .sh ((eL (eP2 D.int D.int)) v_lags), .sh ((eL D.int) v_times), .sh (D.int (((v_lags.map fun (x2 : (Int × Int)) => x2.2)).sum)), .sh (D.int x11), .no, .sh ((eL D.int) ys29), .lst (shs (List.map (eP2 D.int D.int) s36)), u39, .sh (D.int (s67 + x91.2)), .sh (D.int x68), u78, .no], (ca_1 rfl ca_0), rfl, ?_⟩
              exact ⟨(s67 + x91.2), h, ⟨_, _, rfl⟩⟩
            intro s67 ρ h hr
            obtain ⟨u70, u71, rfl⟩ := hr
            exact ⟨(), h, ⟨_, _, _, _, _, _, _, _, rfl⟩⟩
    intro s10 ρ h hr
    obtain ⟨u13, u14, u15, u16, u17, u18, u19, u20, rfl⟩ := hr
    change Gs _ _ _ _ _ _
    refine gs_seq ?_
    refine gs_setF ?_
    refine ge_lst ?_
    refine ga_cons ?_
    refine gc_data ?_
    refine ga_cons ?_
    refine go_pu (pu_var rfl) ?_
    refine ga_cons ?_
    refine go_pu pu_c ?_
    refine ga_cons ?_
    refine go_pu (pu_op pu_c pu_c rfl rfl (o_sub _ _)) ?_
    refine ga_cons ?_
    refine go_pu (pu_var rfl) ?_
    refine ga_nil ?_
    refine ⟨_, _, (ca_1 rfl (ca_1 rfl (ca_1 rfl (ca_1 rfl ca_0)))), rfl, ?_⟩
    refine gl_data (enc := (fun v : D => .sh (eD v))) (tr__law_asked v_veil 0 (0 - 1) (((v_lags.map fun (x2 : (Int × Int)) => x2.2)).sum) h) (fun _ _ _ _ z => (exF z).elim) (fun x94 h => ?_)
    refine ga_cons ?_
    refine gc_data ?_
    refine ga_cons ?_
    refine go_pu (pu_var rfl) ?_
    refine ga_cons ?_
    refine go_pu pu_c ?_
    refine ga_cons ?_
    refine go_pu pu_c ?_
    refine ga_cons ?_
    refine go_pu (pu_var rfl) ?_
    refine ga_nil ?_
    refine ⟨_, _, (ca_1 rfl (ca_1 rfl (ca_1 rfl (ca_1 rfl ca_0)))), rfl, ?_⟩
    refine gl_data (enc := (fun v : D => .sh (eD v))) (tr__law_asked v_veil 0 0 (((v_lags.map fun (x2 : (Int × Int)) => x2.2)).sum) h) (fun _ _ _ _ z => (exF z).elim) (fun x95 h => ?_)
    refine ga_cons ?_
    refine gc_data ?_
    refine ga_cons ?_
    refine go_pu (pu_var rfl) ?_
    refine ga_cons ?_
    refine go_pu pu_c ?_
    refine ga_cons ?_
    refine go_pu pu_c ?_
    refine ga_cons ?_
    refine go_pu (pu_op pu_c pu_c rfl rfl (o_sub _ _)) ?_
    refine ga_nil ?_
    refine ⟨_, _, (ca_1 rfl (ca_1 rfl (ca_1 rfl (ca_1 rfl ca_0)))), rfl, ?_⟩
    refine gl_data (enc := (fun v : D => .sh (eD v))) (tr__law_asked v_veil 1 0 (0 - 1) h) (fun _ _ _ _ z => (exF z).elim) (fun x96 h => ?_)
    refine ga_nil ?_
    refine ⟨_, _, (ca_1 rfl (ca_1 rfl (ca_1 rfl ca_0))), (Nat.le_of_ble_eq_true rfl), ?_⟩
    refine ⟨_, _, [.sh (e_Veil v_veil), .sh ((eL D.int) v_limits), .sh ((eL (eP2 D.int D.int)) v_lags), .sh ((eL D.int) v_times), .sh (D.int (((v_lags.map fun (x2 : (Int × Int)) => x2.2)).sum)), u13, .sh ((eL eD) [x94, x95, x96]), u14, u15, u20, u16, u19, u17, u18], (ca_1 fr_new ca_0), rfl, ?_⟩
    change Gs _ _ _ _ _ _
    refine gs_seq ?_
    refine gs_setF ?_
    refine ge_op ?_
    refine go_pu (pu_var rfl) ?_
    refine ge_lst ?_
    refine ga_cons ?_
    refine gc_data ?_
    refine ga_cons ?_
    refine go_pu (pu_var rfl) ?_
    refine ga_cons ?_
    refine go_pu pu_c ?_
    refine ga_cons ?_
    refine go_pu pu_c ?_
    refine ga_cons ?_
    refine go_pu (pu_var rfl) ?_
    refine ga_nil ?_
    refine ⟨_, _, (ca_1 rfl (ca_1 rfl (ca_1 rfl (ca_1 rfl ca_0)))), rfl, ?_⟩
    refine gl_data (enc := (fun v : D => .sh (eD v))) (tr__law_asked v_veil 1 0 (((v_lags.map fun (x2 : (Int × Int)) => x2.2)).sum) h) (fun _ _ _ _ z => (exF z).elim) (fun x97 h => ?_)
    refine ga_cons ?_
    refine gc_data ?_
    refine ga_cons ?_
    refine go_pu (pu_var rfl) ?_
    refine ga_cons ?_
    refine go_pu pu_c ?_
    refine ga_cons ?_
    refine go_pu (pu_op pu_c pu_c rfl rfl (o_sub _ _)) ?_
    refine ga_cons ?_
    refine go_pu pu_c ?_
    refine ga_nil ?_
    refine ⟨_, _, (ca_1 rfl (ca_1 rfl (ca_1 rfl (ca_1 rfl ca_0)))), rfl, ?_⟩
    refine gl_data (enc := (fun v : D => .sh (eD v))) (tr__law_asked v_veil 2 (0 - 4) 0 h) (fun _ _ _ _ z => (exF z).elim) (fun x98 h => ?_)
    refine ga_cons ?_
    refine gc_data ?_
    refine ga_cons ?_
    refine go_pu (pu_var rfl) ?_
    refine ga_cons ?_
    refine go_pu pu_c ?_
    refine ga_cons ?_
    refine go_pu (pu_op pu_c pu_c rfl rfl (o_sub _ _)) ?_
    refine ga_cons ?_
    refine go_pu pu_c ?_
    refine ga_nil ?_
    refine ⟨_, _, (ca_1 rfl (ca_1 rfl (ca_1 rfl (ca_1 rfl ca_0)))), rfl, ?_⟩
    refine gl_data (enc := (fun v : D => .sh (eD v))) (tr__law_asked v_veil 3 (0 - 5) 0 h) (fun _ _ _ _ z => (exF z).elim) (fun x99 h => ?_)
    refine ga_nil ?_
    refine ⟨_, _, (ca_1 rfl (ca_1 rfl (ca_1 rfl ca_0))), (Nat.le_of_ble_eq_true rfl), ?_⟩
    obtain ⟨c100, h⟩ := h
    refine ⟨_, _, _, rfl, lk_new, o_addL (e := eD) (xs := [x94, x95, x96]) (ys := [x97, x98, x99]) c100, ?_⟩
    refine ⟨_, _, [.sh (e_Veil v_veil), .sh ((eL D.int) v_limits), .sh ((eL (eP2 D.int D.int)) v_lags), .sh ((eL D.int) v_times), .sh (D.int (((v_lags.map fun (x2 : (Int × Int)) => x2.2)).sum)), u13, .sh ((eL eD) ([x94, x95, x96] ++ [x97, x98, x99])), u14, u15, u20, u16, u19, u17, u18], (ca_1 fr_new ca_0), rfl, ?_⟩
    change Gs _ _ _ _ _ _
    refine gs_retF ?_
    refine ge_op ?_
    refine go_pu (pu_var rfl) ?_
    refine go_pu (pu_lst (pa_1 (pu_tup (pa_1 pu_c (pa_1 (pu_op pu_c pu_c rfl rfl (o_sub _ _)) pa_0)) (ca_1 rfl (ca_1 rfl ca_0)) (Nat.le_of_ble_eq_true rfl)) (pa_1 (pu_tup (pa_1 pu_c (pa_1 (pu_var rfl) pa_0)) (ca_1 rfl (ca_1 rfl ca_0)) (Nat.le_of_ble_eq_true rfl)) (pa_1 (pu_tup (pa_1 pu_c (pa_1 (pu_op pu_c pu_c rfl rfl (o_sub _ _)) pa_0)) (ca_1 rfl (ca_1 rfl ca_0)) (Nat.le_of_ble_eq_true rfl)) (pa_1 (pu_tup (pa_1 pu_c (pa_1 (pu_var rfl) pa_0)) (ca_1 rfl (ca_1 rfl ca_0)) (Nat.le_of_ble_eq_true rfl)) (pa_1 (pu_tup (pa_1 pu_c (pa_1 (pu_op pu_c pu_c rfl rfl (o_sub _ _)) pa_0)) (ca_1 rfl (ca_1 rfl ca_0)) (Nat.le_of_ble_eq_true rfl)) (pa_1 (pu_tup (pa_1 pu_c (pa_1 (pu_op pu_c pu_c rfl rfl (o_sub _ _)) pa_0)) (ca_1 rfl (ca_1 rfl ca_0)) (Nat.le_of_ble_eq_true rfl)) pa_0)))))) (ca_1 rfl (ca_1 rfl (ca_1 rfl (ca_1 rfl (ca_1 rfl (ca_1 rfl ca_0)))))) (Nat.le_of_ble_eq_true rfl)) ?_
    obtain ⟨b101, hib101, h⟩ := h
    refine ⟨_, _, _, rfl, lk_new, hib101, ?_⟩
    refine ⟨_, _, (ca_1 rfl ca_0), ?_⟩
    exact ⟨b101, rfl, h⟩
theorem tr_Veil___eq__  (v_self : V_Veil) (v_other : D) {Q : Bool → Prop} {E : EP} (h : W_Veil___eq__ v_self v_other Q E) : Go (fun s _ => ∃ (v : Bool), s = (fun v : Bool => .sh (D.bl v)) v ∧ Q v) (exP E) (F_Veil___eq__ [.sh (e_Veil v_self), .sh (eD v_other)]) := by
  unfold W_Veil___eq__ at h
  unfold F_Veil___eq__
  refine gs_fn (ρ0 := [.sh (e_Veil v_self), .sh (eD v_other)]) rfl ?_
  refine gs_retF ?_
  refine go_join (fun (j1 : Bool) a ρ => .v (.sh (.bl j1)) = a ∧ ρ = [.sh (e_Veil v_self), .sh (eD v_other)]) h (fun k2 h => ?_) (fun j1 a ρ h hr => ?_)
  ·
    refine ge_andV ?_
    refine ge_un ?_
    refine go_pu (pu_var rfl) ?_
    obtain ⟨b3, hib3, h⟩ := h
    refine ⟨_, _, rfl, hib3, ?_⟩
    refine ⟨_, rfl, ?_⟩
    by_cases c4 : b3 = true
    · replace h := ite_t c4 h
      refine to_t c4 ?_
      refine go_join (fun (j5 : Bool) a ρ => .v (.sh (.bl j5)) = a ∧ ρ = [.sh (e_Veil v_self), .sh (eD v_other)]) h (fun k6 h => ?_) (fun j5 a ρ h hr => ?_)
      ·
        refine ge_andV ?_
        refine ge_op ?_
        refine go_pu (pu_un (pu_var rfl) rfl (fld_Veil_limits _)) ?_
        refine ge_un ?_
        refine go_pu (pu_var rfl) ?_
        obtain ⟨x7, hix7, h⟩ := h
        refine ⟨_, _, rfl, hix7, ?_⟩
        obtain ⟨b8, hib8, h⟩ := h
        refine ⟨_, _, _, rfl, rfl, hib8, ?_⟩
        refine ⟨_, rfl, ?_⟩
        by_cases c9 : b8 = true
        · replace h := ite_t c9 h
          refine to_t c9 ?_
          refine ge_op ?_
          refine go_pu (pu_un (pu_var rfl) rfl (fld_Veil_delays _)) ?_
          refine ge_un ?_
          refine go_pu (pu_var rfl) ?_
          obtain ⟨x10, hix10, h⟩ := h
          refine ⟨_, _, rfl, hix10, ?_⟩
          obtain ⟨b11, hib11, h⟩ := h
          refine ⟨_, _, _, rfl, rfl, hib11, ?_⟩
          exact ⟨b11, h, rfl, rfl⟩
        · replace h := ite_f c9 h
          refine to_f c9 ?_
          exact ⟨false, h, rfl, rfl⟩
      obtain ⟨rfl, rfl⟩ := hr
      exact ⟨j5, h, rfl, rfl⟩
    · replace h := ite_f c4 h
      refine to_f c4 ?_
      exact ⟨false, h, rfl, rfl⟩
  obtain ⟨rfl, rfl⟩ := hr
  refine ⟨_, _, (ca_1 rfl ca_0), ?_⟩
  exact ⟨j1, rfl, h⟩
theorem tr__law_tried  (v_limits : (List Int)) (v_lags : (List (Int × Int))) {Q : D → Prop} {E : EP} (h : W__law_tried v_limits v_lags Q E) : Go (fun s _ => ∃ (v : D), s = (fun v : D => .sh (eD v)) v ∧ Q v) (exP E) (F__law_tried [.sh ((eL D.int) v_limits), .sh ((eL (eP2 D.int D.int)) v_lags)]) := by
  unfold W__law_tried at h
  unfold F__law_tried
  refine gs_fn (ρ0 := [.sh ((eL D.int) v_limits), .sh ((eL (eP2 D.int D.int)) v_lags), .no]) rfl ?_
  refine gs_seq ?_
  refine gs_try (I := fun ρ => ρ = [.sh ((eL D.int) v_limits), .sh ((eL (eP2 D.int D.int)) v_lags), .no]) (E1 := (fun k ds => (k = .BadCount ∧ wX1 ds (fun d1 => Q ((eP2 D.str eD) (("count" : Str), d1)))) ∨ (k = .BadSpan ∧ wX2 ds (fun d2 d3 => Q ((eP3 D.str eD eD) (("span" : Str), d3, d2)))))) ?_ ?_
  ·
    refine gs_join (fun (s5 : Unit) ρ => ρ = [.sh ((eL D.int) v_limits), .sh ((eL (eP2 D.int D.int)) v_lags), .no]) h (fun k6 h => ?_) (fun s5 ρ h hr => ?_)
    ·
      refine gs_if ?_
      refine go_pu (pt_e (pu_op (pu_cb1 (pu_var rfl) rfl o_lenL) pu_c rfl rfl (o_eq _ _))) ?_
      by_cases c7 : ((v_limits.length : Int) == 9) = true
      · replace h := ite_t c7 h
        refine to_t c7 ?_
        refine gs_expr ?_
        refine gc_makeS ?_
        refine ga_cons ?_
        refine ge_op ?_
        refine go_pu (pu_var rfl) ?_
        refine go_pu pu_c ?_
        obtain ⟨x8, hix8, h⟩ := h
        refine ⟨_, _, _, rfl, rfl, o_ixL (e := D.int) hix8, ?_⟩
        refine ga_cons ?_
        refine ge_op ?_
        refine go_pu (pu_var rfl) ?_
        refine go_pu pu_c ?_
        obtain ⟨x9, hix9, h⟩ := h
        refine ⟨_, _, _, rfl, rfl, o_ixL (e := D.int) hix9, ?_⟩
        refine ga_cons ?_
        refine ge_op ?_
        refine go_pu (pu_var rfl) ?_
        refine go_pu pu_c ?_
        obtain ⟨x10, hix10, h⟩ := h
        refine ⟨_, _, _, rfl, rfl, o_ixL (e := D.int) hix10, ?_⟩
        refine ga_cons ?_
        refine ge_op ?_
        refine go_pu (pu_var rfl) ?_
        refine go_pu pu_c ?_
        obtain ⟨x11, hix11, h⟩ := h
        refine ⟨_, _, _, rfl, rfl, o_ixL (e := D.int) hix11, ?_⟩
        refine ga_cons ?_
        refine ge_op ?_
        refine go_pu (pu_var rfl) ?_
        refine go_pu pu_c ?_
        obtain ⟨x12, hix12, h⟩ := h
        refine ⟨_, _, _, rfl, rfl, o_ixL (e := D.int) hix12, ?_⟩
        refine ga_cons ?_
        refine ge_op ?_
        refine go_pu (pu_var rfl) ?_
        refine go_pu pu_c ?_
        obtain ⟨x13, hix13, h⟩ := h
        refine ⟨_, _, _, rfl, rfl, o_ixL (e := D.int) hix13, ?_⟩
        refine ga_cons ?_
        refine ge_op ?_
        refine go_pu (pu_var rfl) ?_
        refine go_pu pu_c ?_
        obtain ⟨x14, hix14, h⟩ := h
        refine ⟨_, _, _, rfl, rfl, o_ixL (e := D.int) hix14, ?_⟩
        refine ga_cons ?_
        refine ge_op ?_
        refine go_pu (pu_var rfl) ?_
        refine go_pu pu_c ?_
        obtain ⟨x15, hix15, h⟩ := h
        refine ⟨_, _, _, rfl, rfl, o_ixL (e := D.int) hix15, ?_⟩
        refine ga_cons ?_
        refine ge_op ?_
        refine go_pu (pu_var rfl) ?_
        refine go_pu pu_c ?_
        obtain ⟨x16, hix16, h⟩ := h
        refine ⟨_, _, _, rfl, rfl, o_ixL (e := D.int) hix16, ?_⟩
        refine ga_nil ?_
        refine ga_cons ?_
        refine go_pu (pu_var rfl) ?_
        refine ga_nil ?_
        refine ⟨[(D.int x8), (D.int x9), (D.int x10), (D.int x11), (D.int x12), (D.int x13), (D.int x14), (D.int x15), (D.int x16)], [((eL (eP2 D.int D.int)) v_lags)], _, (ca_1 rfl (ca_1 rfl (ca_1 rfl (ca_1 rfl (ca_1 rfl (ca_1 rfl (ca_1 rfl (ca_1 rfl (ca_1 rfl (ca_1 rfl ca_0)))))))))), ⟨rfl, (Nat.le_of_ble_eq_true rfl), rfl⟩, ?_⟩
        refine gl_make (enc := fun o : V_Veil => .obj "Veil" ns_Veil (shs (ds_Veil o))) (tr_Veil___init__ (LoT.mk false v_lags) [x8, x9, x10, x11, x12, x13, x14, x15, x16] h) (fun _ _ _ _ z => exI_of (I := fun ρ => ρ = [.sh ((eL D.int) v_limits), .sh ((eL (eP2 D.int D.int)) v_lags), .no]) z (by exact rfl)) (fun o17 h => ?_)
        exact ⟨(), h, rfl⟩
      · replace h := ite_f c7 h
        refine to_f c7 ?_
        refine gs_expr ?_
        refine gc_data ?_
        refine ga_cons ?_
        refine go_pu (pu_var rfl) ?_
        refine ga_cons ?_
        refine go_pu (pu_var rfl) ?_
        refine ga_nil ?_
        refine ⟨_, _, (ca_1 rfl (ca_1 rfl ca_0)), rfl, ?_⟩
        refine gl_data (enc := (fun v : V_Veil => .sh (e_Veil v))) (tr__law_veil v_limits (LoT.mk false v_lags) h) (fun _ _ _ _ z => exI_of (I := fun ρ => ρ = [.sh ((eL D.int) v_limits), .sh ((eL (eP2 D.int D.int)) v_lags), .no]) z (by exact rfl)) (fun x18 h => ?_)
        exact ⟨(), h, rfl⟩
    obtain rfl := hr
    change Gs _ _ _ _ _ _
    refine gs_retF ?_
    refine go_pu (pu_tup (pa_1 pu_c pa_0) (ca_1 rfl ca_0) (Nat.le_of_ble_eq_true rfl)) ?_
    refine ⟨_, _, (ca_1 rfl ca_0), ?_⟩
    exact ⟨((eT D.str) [("none" : Str)]), rfl, h⟩
  ·
    intro k ds ρ hr h9
    obtain rfl := hr
    rcases h9 with ⟨rfl, h⟩ | ⟨rfl, h⟩
    ·
      obtain ⟨d1, rfl, h⟩ := h
      refine gs_hand (by decide +kernel) rfl ?_
      refine gs_retF ?_
      refine go_pu (pu_tup (pa_1 pu_c (pa_1 (pu_xf (d := d1) (by kernel_rfl)) pa_0)) (ca_1 rfl (ca_1 rfl ca_0)) (Nat.le_of_ble_eq_true rfl)) ?_
      refine ⟨_, _, (ca_1 rfl ca_0), ?_⟩
      exact ⟨((eP2 D.str eD) (("count" : Str), d1)), rfl, h⟩
    ·
      obtain ⟨d2, d3, rfl, h⟩ := h
      refine gs_skip (by decide +kernel) ?_
      refine gs_hand (by decide +kernel) rfl ?_
      refine gs_retF ?_
      refine go_pu (pu_tup (pa_1 pu_c (pa_1 (pu_xf (d := d3) (by kernel_rfl)) (pa_1 (pu_xf (d := d2) (by kernel_rfl)) pa_0))) (ca_1 rfl (ca_1 rfl (ca_1 rfl ca_0))) (Nat.le_of_ble_eq_true rfl)) ?_
      refine ⟨_, _, (ca_1 rfl ca_0), ?_⟩
      exact ⟨((eP3 D.str eD eD) (("span" : Str), d3, d2)), rfl, h⟩
theorem tr__law_due  (v_limits : (List Int)) (v_lags : (List (Int × Int))) {Q : D → Prop} {E : EP} (h : W__law_due v_limits v_lags Q E) : Go (fun s _ => ∃ (v : D), s = (fun v : D => .sh (eD v)) v ∧ Q v) (exP E) (F__law_due [.sh ((eL D.int) v_limits), .sh ((eL (eP2 D.int D.int)) v_lags)]) := by
  unfold W__law_due at h
  unfold F__law_due
  refine gs_fn (ρ0 := [.sh ((eL D.int) v_limits), .sh ((eL (eP2 D.int D.int)) v_lags), .no, .no, .no, .no, .no]) rfl ?_
  refine gs_seq ?_
  refine gs_if ?_
  refine go_pu (pt_e (pu_op (pu_cb1 (pu_var rfl) rfl o_lenL) pu_c rfl rfl (o_gt _ _))) ?_
  by_cases c1 : (decide (8 < (v_limits.length : Int))) = true
  · replace h := ite_t c1 h
    refine to_t c1 ?_
    refine gs_retF ?_
    refine go_pu (pu_tup (pa_1 pu_c (pa_1 (pu_cb1 (pu_var rfl) rfl o_lenL) pa_0)) (ca_1 rfl (ca_1 rfl ca_0)) (Nat.le_of_ble_eq_true rfl)) ?_
    refine ⟨_, _, (ca_1 rfl ca_0), ?_⟩
    exact ⟨((eP2 D.str D.int) (("count" : Str), (v_limits.length : Int))), rfl, h⟩
  · replace h := ite_f c1 h
    refine to_f c1 ?_
    refine gs_nil ?_
    change Gs _ _ _ _ _ _
    refine gs_seq ?_
    refine gs_setF ?_
    refine ge_comp ?_
    refine gi_seqL ?_
    refine go_pu (pu_var rfl) ?_
    refine ⟨_, List.map D.int v_limits, _, (ca_1 rfl ca_0), .inl rfl, ?_⟩
    obtain ⟨c2, h⟩ := h
    refine gc_pure (ρ := [.sh ((eL D.int) v_limits), .sh ((eL (eP2 D.int D.int)) v_lags), .no, .no, .no, .no, .no]) (enc := D.int) (enc2 := D.int) (c := (fun (x3 : Int) => (decide (x3 < 0)))) (fn := fun (x3 : Int) => x3) c2 (fun x3 _ => ⟨_, rfl, (pt_e (pu_op (pu_var rfl) pu_c rfl rfl (o_lt _ _))), rfl, fun _ => ⟨_, (pu_var rfl), rfl⟩⟩) ?_
    refine ⟨_, _, [.sh ((eL D.int) v_limits), .sh ((eL (eP2 D.int D.int)) v_lags), .sh ((eL D.int) ((v_limits.filter fun (x3 : Int) => (decide (x3 < 0))).map fun (x3 : Int) => x3)), .no, .no, .no, .no], (ca_1 fr_new ca_0), rfl, ?_⟩
    change Gs _ _ _ _ _ _
    refine gs_seq ?_
    refine gs_if ?_
    refine gt_e ?_
    refine ge_op ?_
    refine go_pu (pu_var rfl) ?_
    refine go_pu (pu_lst pa_0 ca_0 (Nat.le_of_ble_eq_true rfl)) ?_
    obtain ⟨b4, hib4, h⟩ := h
    refine ⟨_, _, _, rfl, lk_new, hib4, ?_⟩
    refine ⟨_, rfl, ?_⟩
    by_cases c5 : b4 = true
    · replace h := ite_t c5 h
      refine to_t c5 ?_
      refine gs_retF ?_
      refine ge_tup ?_
      refine ga_cons ?_
      refine go_pu pu_c ?_
      refine ga_cons ?_
      refine ge_op ?_
      refine go_pu (pu_var rfl) ?_
      refine go_pu pu_c ?_
      obtain ⟨x6, hix6, h⟩ := h
      refine ⟨_, _, _, rfl, rfl, o_ixL (e := D.int) hix6, ?_⟩
      refine ga_nil ?_
      refine ⟨_, _, (ca_1 rfl (ca_1 rfl ca_0)), (Nat.le_of_ble_eq_true rfl), ?_⟩
      refine ⟨_, _, (ca_1 rfl ca_0), ?_⟩
      exact ⟨((eP2 D.str D.int) (("count" : Str), x6)), rfl, h⟩
    · replace h := ite_f c5 h
      refine to_f c5 ?_
      refine gs_nil ?_
      change Gs _ _ _ _ _ _
      refine gs_seq ?_
      refine gs_for ?_
      refine gi_rng1 ?_
      refine go_pu (pu_op (pu_cb1 (pu_var rfl) rfl o_lenL) pu_c rfl rfl (o_sub _ _)) ?_
      obtain ⟨c7, h⟩ := h
      refine ⟨_, rfl, c7, ?_⟩
      refine gs_forL (enc := D.int) (fun (s8 : Unit) ρ => ∃ u11, ρ = [.sh ((eL D.int) v_limits), .sh ((eL (eP2 D.int D.int)) v_lags), .sh ((eL D.int) ((v_limits.filter fun (x3 : Int) => (decide (x3 < 0))).map fun (x3 : Int) => x3)), u11, .no, .no, .no]) ?_ ?_ (rngZ 0 ((v_limits.length : Int) - 1)) () [.sh ((eL D.int) v_limits), .sh ((eL (eP2 D.int D.int)) v_lags), .sh ((eL D.int) ((v_limits.filter fun (x3 : Int) => (decide (x3 < 0))).map fun (x3 : Int) => x3)), .no, .no, .no, .no] ⟨_, rfl⟩ h
      ·
        intro x9 s8 ρ k10 hr h
        obtain ⟨u11, rfl⟩ := hr
        refine ⟨[.sh ((eL D.int) v_limits), .sh ((eL (eP2 D.int D.int)) v_lags), .sh ((eL D.int) ((v_limits.filter fun (x3 : Int) => (decide (x3 < 0))).map fun (x3 : Int) => x3)), .sh (D.int x9), .no, .no, .no], rfl, ?_⟩
        refine gs_if ?_
        refine gt_e ?_
        refine ge_op ?_
        refine ge_op ?_
        refine go_pu (pu_var rfl) ?_
        refine go_pu (pu_var rfl) ?_
        obtain ⟨x13, hix13, h⟩ := h
        refine ⟨_, _, _, rfl, rfl, o_ixL (e := D.int) hix13, ?_⟩
        refine ge_op ?_
        refine go_pu (pu_var rfl) ?_
        refine go_pu (pu_op (pu_var rfl) pu_c rfl rfl (o_add _ _)) ?_
        obtain ⟨x14, hix14, h⟩ := h
        refine ⟨_, _, _, rfl, rfl, o_ixL (e := D.int) hix14, ?_⟩
        refine ⟨_, _, _, rfl, rfl, (o_ge _ _), ?_⟩
        refine ⟨_, rfl, ?_⟩
        by_cases c15 : (decide (x14 ≤ x13)) = true
        · replace h := ite_t c15 h
          refine to_t c15 ?_
          refine gs_retF ?_
          refine ge_tup ?_
          refine ga_cons ?_
          refine go_pu pu_c ?_
          refine ga_cons ?_
          refine ge_op ?_
          refine go_pu (pu_var rfl) ?_
          refine go_pu (pu_var rfl) ?_
          obtain ⟨x16, hix16, h⟩ := h
          refine ⟨_, _, _, rfl, rfl, o_ixL (e := D.int) hix16, ?_⟩
          refine ga_cons ?_
          refine ge_op ?_
          refine go_pu (pu_var rfl) ?_
          refine go_pu (pu_op (pu_var rfl) pu_c rfl rfl (o_add _ _)) ?_
          obtain ⟨x17, hix17, h⟩ := h
          refine ⟨_, _, _, rfl, rfl, o_ixL (e := D.int) hix17, ?_⟩
          refine ga_nil ?_
          refine ⟨_, _, (ca_1 rfl (ca_1 rfl (ca_1 rfl ca_0))), (Nat.le_of_ble_eq_true rfl), ?_⟩
          refine ⟨_, _, (ca_1 rfl ca_0), ?_⟩
          exact ⟨((eP3 D.str D.int D.int) (("span" : Str), x16, x17)), rfl, h⟩
        · replace h := ite_f c15 h
          refine to_f c15 ?_
          refine gs_nil ?_
          exact ⟨(), h, ⟨_, rfl⟩⟩
      intro s8 ρ h hr
      obtain ⟨u11, rfl⟩ := hr
      change Gs _ _ _ _ _ _
      refine gs_seq ?_
      refine gs_if ?_
      refine go_pu (pt_not (pt_e (pu_chain pu_c (pu_cb1 (pu_var rfl) rfl o_lenL) pu_c rfl rfl rfl (o_le _ _) (o_le _ _)))) ?_
      by_cases c18 : (!(decide (1 ≤ (v_lags.length : Int)) && decide ((v_lags.length : Int) ≤ 6))) = true
      · replace h := ite_t c18 h
        refine to_t c18 ?_
        refine gs_retF ?_
        refine go_pu (pu_tup (pa_1 pu_c (pa_1 (pu_cb1 (pu_var rfl) rfl o_lenL) pa_0)) (ca_1 rfl (ca_1 rfl ca_0)) (Nat.le_of_ble_eq_true rfl)) ?_
        refine ⟨_, _, (ca_1 rfl ca_0), ?_⟩
        exact ⟨((eP2 D.str D.int) (("count" : Str), (v_lags.length : Int))), rfl, h⟩
      · replace h := ite_f c18 h
        refine to_f c18 ?_
        refine gs_nil ?_
        change Gs _ _ _ _ _ _
        refine gs_seq ?_
        refine gs_for ?_
        refine gi_seqL ?_
        refine go_pu (pu_var rfl) ?_
        refine ⟨_, List.map (eP2 D.int D.int) v_lags, _, (ca_1 rfl ca_0), .inl rfl, ?_⟩
        refine gs_forL (enc := (eP2 D.int D.int)) (fun (s19 : Unit) ρ => ∃ u22, ∃ u23, ρ = [.sh ((eL D.int) v_limits), .sh ((eL (eP2 D.int D.int)) v_lags), .sh ((eL D.int) ((v_limits.filter fun (x3 : Int) => (decide (x3 < 0))).map fun (x3 : Int) => x3)), u11, u23, u22, .no]) ?_ ?_ v_lags () [.sh ((eL D.int) v_limits), .sh ((eL (eP2 D.int D.int)) v_lags), .sh ((eL D.int) ((v_limits.filter fun (x3 : Int) => (decide (x3 < 0))).map fun (x3 : Int) => x3)), u11, .no, .no, .no] ⟨_, _, rfl⟩ h
        ·
          intro x20 s19 ρ k21 hr h
          obtain ⟨u22, u23, rfl⟩ := hr
          refine ⟨[.sh ((eL D.int) v_limits), .sh ((eL (eP2 D.int D.int)) v_lags), .sh ((eL D.int) ((v_limits.filter fun (x3 : Int) => (decide (x3 < 0))).map fun (x3 : Int) => x3)), u11, .sh (D.int x20.1), .sh (D.int x20.2), .no], rfl, ?_⟩
          refine gs_seq ?_
          refine gs_if ?_
          refine go_pu (pt_e (pu_op (pu_var rfl) pu_c rfl rfl (o_lt _ _))) ?_
          by_cases c25 : (decide (x20.1 < 0)) = true
          · replace h := ite_t c25 h
            refine to_t c25 ?_
            refine gs_retF ?_
            refine go_pu (pu_tup (pa_1 pu_c (pa_1 (pu_var rfl) pa_0)) (ca_1 rfl (ca_1 rfl ca_0)) (Nat.le_of_ble_eq_true rfl)) ?_
            refine ⟨_, _, (ca_1 rfl ca_0), ?_⟩
            exact ⟨((eP2 D.str D.int) (("count" : Str), x20.1)), rfl, h⟩
          · replace h := ite_f c25 h
            refine to_f c25 ?_
            refine gs_nil ?_
            change Gs _ _ _ _ _ _
            refine gs_if ?_
            refine go_pu (pt_e (pu_op (pu_var rfl) pu_c rfl rfl (o_lt _ _))) ?_
            by_cases c26 : (decide (x20.2 < 1)) = true
            · replace h := ite_t c26 h
              refine to_t c26 ?_
              refine gs_retF ?_
              refine go_pu (pu_tup (pa_1 pu_c (pa_1 (pu_var rfl) pa_0)) (ca_1 rfl (ca_1 rfl ca_0)) (Nat.le_of_ble_eq_true rfl)) ?_
              refine ⟨_, _, (ca_1 rfl ca_0), ?_⟩
              exact ⟨((eP2 D.str D.int) (("count" : Str), x20.2)), rfl, h⟩
            · replace h := ite_f c26 h
              refine to_f c26 ?_
              refine gs_nil ?_
              exact ⟨(), h, ⟨_, _, rfl⟩⟩
        intro s19 ρ h hr
        obtain ⟨u22, u23, rfl⟩ := hr
        change Gs _ _ _ _ _ _
        refine gs_retF ?_
        refine go_pu (pu_tup (pa_1 pu_c pa_0) (ca_1 rfl ca_0) (Nat.le_of_ble_eq_true rfl)) ?_
        refine ⟨_, _, (ca_1 rfl ca_0), ?_⟩
        exact ⟨((eT D.str) [("none" : Str)]), rfl, h⟩
theorem tr_law (ns : List Int) (h : W_law) : Go (fun s _ => ∃ v : Bool, s = .sh (.bl v) ∧ v = true) (exP fun _ _ => False) (F_law [.sh (.rol (ns.map D.int))]) := by
  unfold W_law at h
  unfold F_law
  refine gs_fn (ρ0 := [(.sh (.rol (ns.map D.int))), .no, .no, .no, .no, .no, .no, .no, .no, .no, .no, .no, .no, .no, .no]) rfl ?_
  refine gs_seq ?_
  refine gs_set ?_
  refine gc_data (ga_cons (go_pu (pu_var rfl) (ga_nil ⟨_, _, ca_1 rfl ca_0, rfl, ?_⟩)))
  show Go _ _ (Lw.F__law_box [.sh (.rol (ns.map D.int))])
  rw [Lw.box_ok]
  have hb := Lw.BOK.start ns
  generalize Lw.Bx ns 0 0 0 0 = bx at hb ⊢
  refine go_pu rfl ?_
  refine ⟨_, [(.sh (.rol (ns.map D.int))), bx, .no, .no, .no, .no, .no, .no, .no, .no, .no, .no, .no, .no, .no], rfl, rfl, ?_⟩
  refine gs_seq ?_
  refine gs_set ?_
  refine go_pu (pu_lst pa_0 ca_0 (Nat.le_of_ble_eq_true rfl)) ?_
  refine ⟨_, [(.sh (.rol (ns.map D.int))), bx, .lst (shs (List.map D.int [])), .no, .no, .no, .no, .no, .no, .no, .no, .no, .no, .no, .no], rfl, rfl, ?_⟩
  change Gs _ _ _ _ _ _
  refine gs_seq ?_
  refine gs_setF ?_
  refine ge_draw (i := 1) hb rfl pu_c (fun b2 => [(.sh (.rol (ns.map D.int))), b2, .lst (shs (List.map D.int [])), .no, .no, .no, .no, .no, .no, .no, .no, .no, .no, .no, .no]) (fun _ => rfl) h (fun z1 b2 hb3 h => ?_)
  refine ⟨_, _, [(.sh (.rol (ns.map D.int))), b2, .lst (shs (List.map D.int [])), .sh (D.int z1), .no, .no, .no, .no, .no, .no, .no, .no, .no, .no, .no], (ca_1 rfl ca_0), rfl, ?_⟩
  change Gs _ _ _ _ _ _
  refine gs_seq ?_
  refine gs_for ?_
  refine gi_rng1 ?_
  refine ge_op ?_
  refine go_pu (pu_lst (pa_1 pu_c (pa_1 pu_c (pa_1 pu_c (pa_1 pu_c (pa_1 pu_c (pa_1 pu_c (pa_1 pu_c pa_0))))))) (ca_1 rfl (ca_1 rfl (ca_1 rfl (ca_1 rfl (ca_1 rfl (ca_1 rfl (ca_1 rfl ca_0))))))) (Nat.le_of_ble_eq_true rfl)) ?_
  refine ge_draw (i := 1) hb3 rfl pu_c (fun b5 => [(.sh (.rol (ns.map D.int))), b5, .lst (shs (List.map D.int [])), .sh (D.int z1), .no, .no, .no, .no, .no, .no, .no, .no, .no, .no, .no]) (fun _ => rfl) h (fun z4 b5 hb6 h => ?_)
  obtain ⟨x7, hix7, h⟩ := h
  refine ⟨_, _, _, lk_new, rfl, o_ixL (e := D.int) hix7, ?_⟩
  obtain ⟨c8, h⟩ := h
  refine ⟨_, rfl, c8, ?_⟩
  refine gs_forL (enc := D.int) (fun (s9 : (Int × (List Int))) ρ => ∃ u12, ∃ b13, Lw.BOK ns b13 ∧ ρ = [(.sh (.rol (ns.map D.int))), b13, .lst (shs (List.map D.int s9.2)), .sh (D.int s9.1), u12, .no, .no, .no, .no, .no, .no, .no, .no, .no, .no]) ?_ ?_ (rngZ 0 x7) (z1, []) [(.sh (.rol (ns.map D.int))), b5, .lst (shs (List.map D.int [])), .sh (D.int z1), .no, .no, .no, .no, .no, .no, .no, .no, .no, .no, .no] ⟨_, _, hb6, rfl⟩ h
  ·
    intro x10 s9 ρ k11 hr h
    obtain ⟨u12, b13, hb14, rfl⟩ := hr
    refine ⟨[(.sh (.rol (ns.map D.int))), b13, .lst (shs (List.map D.int s9.2)), .sh (D.int s9.1), .sh (D.int x10), .no, .no, .no, .no, .no, .no, .no, .no, .no, .no], rfl, ?_⟩
    refine gs_seq ?_
    refine gs_appT (xs := s9.2) (enc := D.int) rfl ?_
    refine go_pu (pu_var rfl) ?_
    obtain ⟨c16, h⟩ := h
    refine ⟨s9.1, _, s9.2, [(.sh (.rol (ns.map D.int))), b13, .lst (shs (List.map D.int (s9.2 ++ [s9.1]))), .sh (D.int s9.1), .sh (D.int x10), .no, .no, .no, .no, .no, .no, .no, .no, .no, .no], (ca_1 rfl ca_0), rfl, c16, rfl, ?_⟩
    change Gs _ _ _ _ _ _
    refine gs_setF ?_
    refine ge_op ?_
    refine go_pu (pu_var rfl) ?_
    refine ge_op ?_
    refine go_pu (pu_lst (pa_1 pu_c (pa_1 pu_c (pa_1 pu_c (pa_1 pu_c (pa_1 (pu_op pu_c pu_c rfl rfl (o_lit 1000000000000 (by kernel_rfl))) pa_0))))) (ca_1 rfl (ca_1 rfl (ca_1 rfl (ca_1 rfl (ca_1 rfl ca_0))))) (Nat.le_of_ble_eq_true rfl)) ?_
    refine ge_draw (i := 1) hb14 rfl pu_c (fun b18 => [(.sh (.rol (ns.map D.int))), b18, .lst (shs (List.map D.int (s9.2 ++ [s9.1]))), .sh (D.int s9.1), .sh (D.int x10), .no, .no, .no, .no, .no, .no, .no, .no, .no, .no]) (fun _ => rfl) h (fun z17 b18 hb19 h => ?_)
    obtain ⟨x20, hix20, h⟩ := h
    refine ⟨_, _, _, lk_new, rfl, o_ixL (e := D.int) hix20, ?_⟩
    refine ⟨_, _, _, rfl, rfl, (o_add _ _), ?_⟩
    refine ⟨_, _, [(.sh (.rol (ns.map D.int))), b18, .lst (shs (List.map D.int (s9.2 ++ [s9.1]))), .sh (D.int (s9.1 + x20)), .sh (D.int x10), .no, .no, .no, .no, .no, .no, .no, .no, .no, .no], (ca_1 rfl ca_0), rfl, ?_⟩
    exact ⟨((s9.1 + x20), (s9.2 ++ [s9.1])), h, ⟨_, _, hb19, rfl⟩⟩
  intro s9 ρ h hr
  obtain ⟨u12, b13, hb14, rfl⟩ := hr
  change Gs _ _ _ _ _ _
  refine gs_seq ?_
  refine gs_set ?_
  refine go_pu (pu_lst pa_0 ca_0 (Nat.le_of_ble_eq_true rfl)) ?_
  refine ⟨_, [(.sh (.rol (ns.map D.int))), b13, .lst (shs (List.map D.int s9.2)), .sh (D.int s9.1), u12, .lst (shs (List.map (eP2 D.int D.int) [])), .no, .no, .no, .no, .no, .no, .no, .no, .no], rfl, rfl, ?_⟩
  change Gs _ _ _ _ _ _
  refine gs_seq ?_
  refine gs_for ?_
  refine gi_rng1 ?_
  refine ge_op ?_
  refine go_pu pu_c ?_
  refine ge_draw (i := 1) hb14 rfl pu_c (fun b22 => [(.sh (.rol (ns.map D.int))), b22, .lst (shs (List.map D.int s9.2)), .sh (D.int s9.1), u12, .lst (shs (List.map (eP2 D.int D.int) [])), .no, .no, .no, .no, .no, .no, .no, .no, .no]) (fun _ => rfl) h (fun z21 b22 hb23 h => ?_)
  refine ⟨_, _, _, rfl, rfl, (o_add _ _), ?_⟩
  obtain ⟨c24, h⟩ := h
  refine ⟨_, rfl, c24, ?_⟩
  refine gs_forL (enc := D.int) (fun (s25 : (List (Int × Int))) ρ => ∃ u28, ∃ b29, Lw.BOK ns b29 ∧ ρ = [(.sh (.rol (ns.map D.int))), b29, .lst (shs (List.map D.int s9.2)), .sh (D.int s9.1), u28, .lst (shs (List.map (eP2 D.int D.int) s25)), .no, .no, .no, .no, .no, .no, .no, .no, .no]) ?_ ?_ (rngZ 0 (1 + z21)) [] [(.sh (.rol (ns.map D.int))), b22, .lst (shs (List.map D.int s9.2)), .sh (D.int s9.1), u12, .lst (shs (List.map (eP2 D.int D.int) [])), .no, .no, .no, .no, .no, .no, .no, .no, .no] ⟨_, _, hb23, rfl⟩ h
  ·
    intro x26 s25 ρ k27 hr h
    obtain ⟨u28, b29, hb30, rfl⟩ := hr
    refine ⟨[(.sh (.rol (ns.map D.int))), b29, .lst (shs (List.map D.int s9.2)), .sh (D.int s9.1), .sh (D.int x26), .lst (shs (List.map (eP2 D.int D.int) s25)), .no, .no, .no, .no, .no, .no, .no, .no, .no], rfl, ?_⟩
    refine gs_appT (xs := s25) (enc := (eP2 D.int D.int)) rfl ?_
    refine ge_tup ?_
    refine ga_cons ?_
    refine ge_op ?_
    refine go_pu (pu_lst (pa_1 pu_c (pa_1 pu_c (pa_1 pu_c (pa_1 pu_c (pa_1 pu_c (pa_1 (pu_op pu_c pu_c rfl rfl (o_lit 1000000000000 (by kernel_rfl))) pa_0)))))) (ca_1 rfl (ca_1 rfl (ca_1 rfl (ca_1 rfl (ca_1 rfl (ca_1 rfl ca_0)))))) (Nat.le_of_ble_eq_true rfl)) ?_
    refine ge_draw (i := 1) hb30 rfl pu_c (fun b33 => [(.sh (.rol (ns.map D.int))), b33, .lst (shs (List.map D.int s9.2)), .sh (D.int s9.1), .sh (D.int x26), .lst (shs (List.map (eP2 D.int D.int) s25)), .no, .no, .no, .no, .no, .no, .no, .no, .no]) (fun _ => rfl) h (fun z32 b33 hb34 h => ?_)
    obtain ⟨x35, hix35, h⟩ := h
    refine ⟨_, _, _, lk_new, rfl, o_ixL (e := D.int) hix35, ?_⟩
    refine ga_cons ?_
    refine ge_op ?_
    refine ge_lst ?_
    refine ga_cons ?_
    refine go_pu pu_c ?_
    refine ga_cons ?_
    refine go_pu pu_c ?_
    refine ga_cons ?_
    refine go_pu pu_c ?_
    refine ga_cons ?_
    refine go_pu pu_c ?_
    refine ga_cons ?_
    refine ge_op ?_
    refine go_pu pu_c ?_
    refine ge_draw (i := 1) hb34 rfl (pu_op pu_c pu_c rfl rfl (o_lit 100000000000000000000 (by kernel_rfl))) (fun b37 => [(.sh (.rol (ns.map D.int))), b37, .lst (shs (List.map D.int s9.2)), .sh (D.int s9.1), .sh (D.int x26), .lst (shs (List.map (eP2 D.int D.int) s25)), .no, .no, .no, .no, .no, .no, .no, .no, .no]) (fun _ => rfl) h (fun z36 b37 hb38 h => ?_)
    refine ⟨_, _, _, rfl, rfl, (o_add _ _), ?_⟩
    refine ga_nil ?_
    refine ⟨_, _, (ca_1 rfl (ca_1 rfl (ca_1 rfl (ca_1 rfl (ca_1 rfl ca_0))))), (Nat.le_of_ble_eq_true rfl), ?_⟩
    refine ge_draw (i := 1) hb38 rfl pu_c (fun b40 => [(.sh (.rol (ns.map D.int))), b40, .lst (shs (List.map D.int s9.2)), .sh (D.int s9.1), .sh (D.int x26), .lst (shs (List.map (eP2 D.int D.int) s25)), .no, .no, .no, .no, .no, .no, .no, .no, .no]) (fun _ => rfl) h (fun z39 b40 hb41 h => ?_)
    obtain ⟨x42, hix42, h⟩ := h
    refine ⟨_, _, _, lk_new, rfl, o_ixL (e := D.int) hix42, ?_⟩
    refine ga_nil ?_
    refine ⟨_, _, (ca_1 rfl (ca_1 rfl ca_0)), (Nat.le_of_ble_eq_true rfl), ?_⟩
    obtain ⟨c43, h⟩ := h
    refine ⟨(x35, x42), _, s25, [(.sh (.rol (ns.map D.int))), b40, .lst (shs (List.map D.int s9.2)), .sh (D.int s9.1), .sh (D.int x26), .lst (shs (List.map (eP2 D.int D.int) (s25 ++ [(x35, x42)]))), .no, .no, .no, .no, .no, .no, .no, .no, .no], (ca_1 rfl ca_0), rfl, c43, rfl, ?_⟩
    exact ⟨(s25 ++ [(x35, x42)]), h, ⟨_, _, hb41, rfl⟩⟩
  intro s25 ρ h hr
  obtain ⟨u28, b29, hb30, rfl⟩ := hr
  change Gs _ _ _ _ _ _
  refine gs_seq ?_
  refine gs_setF ?_
  refine ge_op ?_
  refine ge_op ?_
  refine go_pu (pu_lst (pa_1 pu_c (pa_1 pu_c (pa_1 pu_c (pa_1 (pu_op pu_c pu_c rfl rfl (o_lit 10000000000000 (by kernel_rfl))) pa_0)))) (ca_1 rfl (ca_1 rfl (ca_1 rfl (ca_1 rfl ca_0)))) (Nat.le_of_ble_eq_true rfl)) ?_
  refine go_pu (pu_own rfl) ?_
  obtain ⟨c44, h⟩ := h
  refine ⟨_, _, _, lk_new, (lk_own rfl), o_addL (e := D.int) (xs := [0, 1, 7, 10000000000000]) (ys := s9.2) c44, ?_⟩
  refine ge_comp ?_
  refine gi_seqL ?_
  refine go_pu (pu_own rfl) ?_
  refine ⟨_, List.map D.int s9.2, [(.sh (.rol (ns.map D.int))), b29, .sh ((eL D.int) s9.2), .sh (D.int s9.1), u28, .lst (shs (List.map (eP2 D.int D.int) s25)), .no, .no, .no, .no, .no, .no, .no, .no, .no], (ca_r rfl fr_new ca_0), .inl rfl, ?_⟩
  obtain ⟨c45, h⟩ := h
  refine gc_pure1 (ρ := [(.sh (.rol (ns.map D.int))), b29, .sh ((eL D.int) s9.2), .sh (D.int s9.1), u28, .lst (shs (List.map (eP2 D.int D.int) s25)), .no, .no, .no, .no, .no, .no, .no, .no, .no]) (enc := D.int) (enc2 := D.int) (fn := fun (x46 : Int) => (x46 + 1)) c45 (fun x46 _ => ⟨_, rfl, rfl, rfl, _, (pu_op (pu_var rfl) pu_c rfl rfl (o_add _ _)), rfl⟩) ?_
  obtain ⟨c47, h⟩ := h
  refine ⟨_, _, _, lk_new, lk_new, o_addL (e := D.int) (xs := ([0, 1, 7, 10000000000000] ++ s9.2)) (ys := (s9.2.map fun (x46 : Int) => (x46 + 1))) c47, ?_⟩
  refine ⟨_, _, [(.sh (.rol (ns.map D.int))), b29, .sh ((eL D.int) s9.2), .sh (D.int s9.1), u28, .lst (shs (List.map (eP2 D.int D.int) s25)), .sh ((eL D.int) (([0, 1, 7, 10000000000000] ++ s9.2) ++ (s9.2.map fun (x46 : Int) => (x46 + 1)))), .no, .no, .no, .no, .no, .no, .no, .no], (ca_1 fr_new ca_0), rfl, ?_⟩
  change Gs _ _ _ _ _ _
  refine gs_seq ?_
  refine gs_set ?_
  refine go_pu (pu_cb1 (pu_own rfl) (lk_own rfl) o_toL) ?_
  refine ⟨_, [(.sh (.rol (ns.map D.int))), b29, .sh ((eL D.int) s9.2), .sh (D.int s9.1), u28, .lst (shs (List.map (eP2 D.int D.int) s25)), .sh ((eL D.int) (([0, 1, 7, 10000000000000] ++ s9.2) ++ (s9.2.map fun (x46 : Int) => (x46 + 1)))), .lst (shs (List.map (eP2 D.int D.int) s25)), .no, .no, .no, .no, .no, .no, .no], rfl, rfl, ?_⟩
  change Gs _ _ _ _ _ _
  refine gs_seq ?_
  refine gs_setF ?_
  refine gc_viewW (ρ0 := [.no, b29, .sh ((eL D.int) s9.2), .no, .no, .lst (shs (List.map (eP2 D.int D.int) s25)), .sh ((eL D.int) (([0, 1, 7, 10000000000000] ++ s9.2) ++ (s9.2.map fun (x46 : Int) => (x46 + 1)))), .lst (shs (List.map (eP2 D.int D.int) s25)), .no, .no, .no, .no, .no, .no, .no]) rfl ?_
  refine ga_cons ?_
  refine go_pu (pu_var rfl) ?_
  refine ga_cons ?_
  refine go_pu (pu_own rfl) ?_
  refine ga_nil ?_
  refine ⟨rfl, _, (vw_1 rfl (vw_r rfl fr_new vw_0)), ⟨(noO_1 noO_no (noO_1 (BOK_noO hb30) (noO_1 (noO_shd _) (noO_1 noO_no (noO_1 noO_no (noO_1 (noO_lst _) (noO_1 (noO_shd _) (noO_1 (noO_lst _) (noO_1 noO_no (noO_1 noO_no (noO_1 noO_no (noO_1 noO_no (noO_1 noO_no (noO_1 noO_no (noO_1 noO_no noO_0))))))))))))))), (noR_1 (noO_shd _) (noR_1 noO_no noR_0))⟩, ?_⟩
  refine gl_viewW (enc := e_Veil) (tr__law_veil s9.2 (LoT.mk false s25) h) (fun x48 h => ?_)
  refine ⟨h.1, ?_⟩
  replace h := h.2
  refine ⟨_, [.no, b29, .sh ((eL D.int) s9.2), .no, .no, .lst (shs (List.map (eP2 D.int D.int) s25)), .sh ((eL D.int) (([0, 1, 7, 10000000000000] ++ s9.2) ++ (s9.2.map fun (x46 : Int) => (x46 + 1)))), .lst (shs (List.map (eP2 D.int D.int) s25)), .no, .no, .no, .no, .no, .no, .no], [.no, b29, .sh ((eL D.int) s9.2), .no, .no, .lst (shs (List.map (eP2 D.int D.int) s25)), .sh ((eL D.int) (([0, 1, 7, 10000000000000] ++ s9.2) ++ (s9.2.map fun (x46 : Int) => (x46 + 1)))), .lst (shs (List.map (eP2 D.int D.int) s25)), .sh (e_Veil x48), .no, .no, .no, .no, .no, .no], (ca_1 rfl ca_0), rfl, ?_⟩
  change Gs _ _ _ _ _ _
  refine gs_seq ?_
  refine gs_appT (xs := s25) (enc := (eP2 D.int D.int)) rfl ?_
  refine go_pu (pu_tup (pa_1 pu_c (pa_1 pu_c pa_0)) (ca_1 rfl (ca_1 rfl ca_0)) (Nat.le_of_ble_eq_true rfl)) ?_
  obtain ⟨c49, h⟩ := h
  refine ⟨(1, 1), _, s25, [.no, b29, .sh ((eL D.int) s9.2), .no, .no, .lst (shs (List.map (eP2 D.int D.int) s25)), .sh ((eL D.int) (([0, 1, 7, 10000000000000] ++ s9.2) ++ (s9.2.map fun (x46 : Int) => (x46 + 1)))), .lst (shs (List.map (eP2 D.int D.int) (s25 ++ [(1, 1)]))), .sh (e_Veil x48), .no, .no, .no, .no, .no, .no], (ca_1 rfl ca_0), rfl, c49, rfl, ?_⟩
  change Gs _ _ _ _ _ _
  refine gs_seq ?_
  refine gs_if ?_
  refine gt_not ?_
  refine gt_tru ?_
  refine gc_view ?_
  refine ga_cons ?_
  refine go_pu (pu_var rfl) ?_
  refine ga_cons ?_
  refine go_pu (pu_var rfl) ?_
  refine ga_cons ?_
  refine go_pu (pu_own rfl) ?_
  refine ga_cons ?_
  refine go_pu (pu_var rfl) ?_
  refine ga_nil ?_
  refine ⟨rfl, _, (vw_1 rfl (vw_1 rfl (vw_r rfl fr_new (vw_1 rfl vw_0)))), ?_⟩
  refine gl_view (enc := D.bl) (fun _ => rfl) (tr__law_veil_right x48 s9.2 s25 (([0, 1, 7, 10000000000000] ++ s9.2) ++ (s9.2.map fun (x46 : Int) => (x46 + 1))) h) (fun x50 h => ?_)
  refine ⟨_, _, rfl, rfl, ?_⟩
  by_cases c51 : (!x50) = true
  · replace h := ite_t c51 h
    refine to_t c51 ?_
    refine gs_retF ?_
    refine go_pu pu_c ?_
    refine ⟨_, _, (ca_1 rfl ca_0), ?_⟩
    exact ⟨false, rfl, h⟩
  · replace h := ite_f c51 h
    refine to_f c51 ?_
    refine gs_nil ?_
    change Gs _ _ _ _ _ _
    refine gs_seq ?_
    refine gs_setF ?_
    refine gc_makeS ?_
    refine ga_nil ?_
    refine ga_nil ?_
    refine ⟨[], [], _, ca_0, ⟨rfl, (Nat.le_of_ble_eq_true rfl), rfl⟩, ?_⟩
    refine gl_make (enc := fun o : V_Veil => .obj "Veil" ns_Veil (shs (ds_Veil o))) (tr_Veil___init__ (LoT.mk true [(0, 1)]) [] h) (fun _ _ _ _ z => (exF z).elim) (fun o52 h => ?_)
    refine ⟨_, _, [.no, b29, .sh ((eL D.int) s9.2), .no, .no, .lst (shs (List.map (eP2 D.int D.int) s25)), .sh ((eL D.int) (([0, 1, 7, 10000000000000] ++ s9.2) ++ (s9.2.map fun (x46 : Int) => (x46 + 1)))), .lst (shs (List.map (eP2 D.int D.int) (s25 ++ [(1, 1)]))), .sh (e_Veil x48), .sh (e_Veil o52), .no, .no, .no, .no, .no], (ca_1 fr_obj ca_0), rfl, ?_⟩
    change Gs _ _ _ _ _ _
    refine gs_seq ?_
    refine gs_if ?_
    refine go_join (fun (j53 : Bool) a ρ => j53 = a ∧ ρ = [.no, b29, .sh ((eL D.int) s9.2), .no, .no, .lst (shs (List.map (eP2 D.int D.int) s25)), .sh ((eL D.int) (([0, 1, 7, 10000000000000] ++ s9.2) ++ (s9.2.map fun (x46 : Int) => (x46 + 1)))), .lst (shs (List.map (eP2 D.int D.int) (s25 ++ [(1, 1)]))), .sh (e_Veil x48), .sh (e_Veil o52), .no, .no, .no, .no, .no]) h (fun k54 h => ?_) (fun j53 a ρ h hr => ?_)
    ·
      refine gt_or ?_
      refine gt_not ?_
      refine gt_tru ?_
      refine gc_data ?_
      refine ga_cons ?_
      refine go_pu (pu_var rfl) ?_
      refine ga_cons ?_
      refine go_pu (pu_lst pa_0 ca_0 (Nat.le_of_ble_eq_true rfl)) ?_
      refine ga_cons ?_
      refine go_pu (pu_lst (pa_1 (pu_tup (pa_1 pu_c (pa_1 pu_c pa_0)) (ca_1 rfl (ca_1 rfl ca_0)) (Nat.le_of_ble_eq_true rfl)) pa_0) (ca_1 rfl ca_0) (Nat.le_of_ble_eq_true rfl)) ?_
      refine ga_cons ?_
      refine go_pu (pu_var rfl) ?_
      refine ga_nil ?_
      refine ⟨_, _, (ca_1 rfl (ca_1 fr_new (ca_1 fr_new (ca_1 rfl ca_0)))), rfl, ?_⟩
      refine gl_data (enc := (fun v : Bool => .sh (D.bl v))) (tr__law_veil_right o52 [] [(0, 1)] (([0, 1, 7, 10000000000000] ++ s9.2) ++ (s9.2.map fun (x46 : Int) => (x46 + 1))) h) (fun _ _ _ _ z => (exF z).elim) (fun x55 h => ?_)
      refine ⟨_, _, rfl, rfl, ?_⟩
      by_cases c56 : (!x55) = true
      · replace h := ite_t c56 h
        refine to_t c56 ?_
        exact ⟨true, h, rfl, rfl⟩
      · replace h := ite_f c56 h
        refine to_f c56 ?_
        refine gt_not ?_
        refine gt_e ?_
        refine gc_own2 ?_
        refine go_pu (pu_var rfl) ?_
        refine gc_data ?_
        refine ga_cons ?_
        refine go_pu (pu_var rfl) ?_
        refine ga_cons ?_
        refine go_pu (pu_cb1 (pu_own rfl) (lk_own rfl) o_toT) ?_
        refine ga_nil ?_
        refine ⟨_, _, (ca_1 rfl (ca_1 rfl ca_0)), rfl, ?_⟩
        refine gl_data (enc := (fun v : V_Veil => .sh (e_Veil v))) (tr__law_veil s9.2 (LoT.mk true s25) h) (fun _ _ _ _ z => (exF z).elim) (fun x57 h => ?_)
        refine ⟨_, _, _, _, (ca_1 rfl (ca_1 rfl ca_0)), (by kernel_rfl), ?_⟩
        refine gl_bool (tr_Veil___eq__ x48 (e_Veil x57) h) (fun r58 h => ?_)
        refine ⟨_, rfl, ?_⟩
        exact ⟨(!r58), h, rfl, rfl⟩
    obtain ⟨rfl, rfl⟩ := hr
    by_cases c59 : j53 = true
    · replace h := ite_t c59 h
      refine to_t c59 ?_
      refine gs_retF ?_
      refine go_pu pu_c ?_
      refine ⟨_, _, (ca_1 rfl ca_0), ?_⟩
      exact ⟨false, rfl, h⟩
    · replace h := ite_f c59 h
      refine to_f c59 ?_
      refine gs_nil ?_
      change Gs _ _ _ _ _ _
      refine gs_seq ?_
      refine gs_if ?_
      refine go_join (fun (j60 : Bool) a ρ => j60 = a ∧ ρ = [.no, b29, .sh ((eL D.int) s9.2), .no, .no, .lst (shs (List.map (eP2 D.int D.int) s25)), .sh ((eL D.int) (([0, 1, 7, 10000000000000] ++ s9.2) ++ (s9.2.map fun (x46 : Int) => (x46 + 1)))), .lst (shs (List.map (eP2 D.int D.int) (s25 ++ [(1, 1)]))), .sh (e_Veil x48), .sh (e_Veil o52), .no, .no, .no, .no, .no]) h (fun k61 h => ?_) (fun j60 a ρ h hr => ?_)
      ·
        refine gt_or ?_
        refine gt_e ?_
        refine gc_own2 ?_
        refine go_pu (pu_var rfl) ?_
        refine gc_data ?_
        refine ga_cons ?_
        refine go_pu (pu_var rfl) ?_
        refine ga_cons ?_
        refine ge_op ?_
        refine ge_lst ?_
        refine ga_cons ?_
        refine ge_tup ?_
        refine ga_cons ?_
        refine ge_op ?_
        refine ge_op ?_
        refine ge_op ?_
        refine go_pu (pu_own rfl) ?_
        refine go_pu pu_c ?_
        obtain ⟨x62, hix62, h⟩ := h
        refine ⟨_, _, _, (lk_own rfl), rfl, o_ixL (e := (eP2 D.int D.int)) hix62, ?_⟩
        refine go_pu pu_c ?_
        refine ⟨_, _, _, rfl, rfl, o_ixC rfl, ?_⟩
        refine go_pu pu_c ?_
        refine ⟨_, _, _, rfl, rfl, (o_add _ _), ?_⟩
        refine ga_cons ?_
        refine ge_op ?_
        refine ge_op ?_
        refine go_pu (pu_own rfl) ?_
        refine go_pu pu_c ?_
        obtain ⟨x64, hix64, h⟩ := h
        refine ⟨_, _, _, (lk_own rfl), rfl, o_ixL (e := (eP2 D.int D.int)) hix64, ?_⟩
        refine go_pu pu_c ?_
        refine ⟨_, _, _, rfl, rfl, o_ixC rfl, ?_⟩
        refine ga_nil ?_
        refine ⟨_, _, (ca_1 rfl (ca_1 rfl ca_0)), (Nat.le_of_ble_eq_true rfl), ?_⟩
        refine ga_nil ?_
        refine ⟨_, _, (ca_1 rfl ca_0), (Nat.le_of_ble_eq_true rfl), ?_⟩
        refine go_pu (pu_sl (pu_own rfl) (po_some pu_c rfl) po_none (lk_own rfl) o_slL) ?_
        obtain ⟨c66, h⟩ := h
        refine ⟨_, _, _, lk_new, lk_new, o_addL (e := (eP2 D.int D.int)) (xs := [((x62.1 + 1), x64.2)]) (ys := (cutD s25 (some 1) none)) c66, ?_⟩
        refine ga_nil ?_
        refine ⟨_, _, (ca_1 rfl (ca_1 fr_new ca_0)), rfl, ?_⟩
        refine gl_data (enc := (fun v : V_Veil => .sh (e_Veil v))) (tr__law_veil s9.2 (LoT.mk false ([((x62.1 + 1), x64.2)] ++ (cutD s25 (some 1) none))) h) (fun _ _ _ _ z => (exF z).elim) (fun x67 h => ?_)
        refine ⟨_, _, _, _, (ca_1 rfl (ca_1 rfl ca_0)), (by kernel_rfl), ?_⟩
        refine gl_bool (tr_Veil___eq__ x48 (e_Veil x67) h) (fun r68 h => ?_)
        refine ⟨_, rfl, ?_⟩
        by_cases c69 : r68 = true
        · replace h := ite_t c69 h
          refine to_t c69 ?_
          exact ⟨true, h, rfl, rfl⟩
        · replace h := ite_f c69 h
          refine to_f c69 ?_
          refine go_join (fun (j70 : Bool) a ρ => j70 = a ∧ ρ = [.no, b29, .sh ((eL D.int) s9.2), .no, .no, .lst (shs (List.map (eP2 D.int D.int) s25)), .sh ((eL D.int) (([0, 1, 7, 10000000000000] ++ s9.2) ++ (s9.2.map fun (x46 : Int) => (x46 + 1)))), .lst (shs (List.map (eP2 D.int D.int) (s25 ++ [(1, 1)]))), .sh (e_Veil x48), .sh (e_Veil o52), .no, .no, .no, .no, .no]) h (fun k71 h => ?_) (fun j70 a ρ h hr => ?_)
          ·
            refine gt_or ?_
            refine gt_e ?_
            refine gc_own2 ?_
            refine go_pu (pu_var rfl) ?_
            refine go_pu (pu_var rfl) ?_
            refine ⟨_, _, _, _, (ca_1 rfl (ca_1 rfl ca_0)), (by kernel_rfl), ?_⟩
            refine gl_bool (tr_Veil___eq__ x48 ((eL D.int) s9.2) h) (fun r72 h => ?_)
            refine ⟨_, rfl, ?_⟩
            by_cases c73 : r72 = true
            · replace h := ite_t c73 h
              refine to_t c73 ?_
              exact ⟨true, h, rfl, rfl⟩
            · replace h := ite_f c73 h
              refine to_f c73 ?_
              refine gt_e ?_
              refine gc_own2 ?_
              refine go_pu (pu_var rfl) ?_
              refine gc_data ?_
              refine ga_cons ?_
              refine go_pu (pu_lst (pa_1 pu_c (pa_1 pu_c pa_0)) (ca_1 rfl (ca_1 rfl ca_0)) (Nat.le_of_ble_eq_true rfl)) ?_
              refine ga_cons ?_
              refine go_pu (pu_lst (pa_1 (pu_tup (pa_1 pu_c (pa_1 pu_c pa_0)) (ca_1 rfl (ca_1 rfl ca_0)) (Nat.le_of_ble_eq_true rfl)) pa_0) (ca_1 rfl ca_0) (Nat.le_of_ble_eq_true rfl)) ?_
              refine ga_nil ?_
              refine ⟨_, _, (ca_1 fr_new (ca_1 fr_new ca_0)), rfl, ?_⟩
              refine gl_data (enc := (fun v : V_Veil => .sh (e_Veil v))) (tr__law_veil [3, 9] (LoT.mk false [(7, 7)]) h) (fun _ _ _ _ z => (exF z).elim) (fun x74 h => ?_)
              refine ⟨_, _, _, _, (ca_1 rfl (ca_1 rfl ca_0)), (by kernel_rfl), ?_⟩
              refine gl_bool (tr_Veil___eq__ x48 (e_Veil x74) h) (fun r75 h => ?_)
              refine ⟨_, rfl, ?_⟩
              exact ⟨r75, h, rfl, rfl⟩
          obtain ⟨rfl, rfl⟩ := hr
          exact ⟨j70, h, rfl, rfl⟩
      obtain ⟨rfl, rfl⟩ := hr
      by_cases c76 : j60 = true
      · replace h := ite_t c76 h
        refine to_t c76 ?_
        refine gs_retF ?_
        refine go_pu pu_c ?_
        refine ⟨_, _, (ca_1 rfl ca_0), ?_⟩
        exact ⟨false, rfl, h⟩
      · replace h := ite_f c76 h
        refine to_f c76 ?_
        refine gs_nil ?_
        change Gs _ _ _ _ _ _
        refine gs_seq ?_
        refine gs_setF ?_
        refine ge_draw (i := 1) hb30 rfl pu_c (fun b78 => [.no, b78, .sh ((eL D.int) s9.2), .no, .no, .lst (shs (List.map (eP2 D.int D.int) s25)), .sh ((eL D.int) (([0, 1, 7, 10000000000000] ++ s9.2) ++ (s9.2.map fun (x46 : Int) => (x46 + 1)))), .lst (shs (List.map (eP2 D.int D.int) (s25 ++ [(1, 1)]))), .sh (e_Veil x48), .sh (e_Veil o52), .no, .no, .no, .no, .no]) (fun _ => rfl) h (fun z77 b78 hb79 h => ?_)
        refine ⟨_, _, [.no, b78, .sh ((eL D.int) s9.2), .no, .no, .lst (shs (List.map (eP2 D.int D.int) s25)), .sh ((eL D.int) (([0, 1, 7, 10000000000000] ++ s9.2) ++ (s9.2.map fun (x46 : Int) => (x46 + 1)))), .lst (shs (List.map (eP2 D.int D.int) (s25 ++ [(1, 1)]))), .sh (e_Veil x48), .sh (e_Veil o52), .sh (D.int z77), .no, .no, .no, .no], (ca_1 rfl ca_0), rfl, ?_⟩
        change Gs _ _ _ _ _ _
        refine gs_seq ?_
        refine gs_setF ?_
        refine ge_lst ?_
        refine ga_cons ?_
        refine go_pu (pu_var rfl) ?_
        refine ga_cons ?_
        refine ge_op ?_
        refine go_pu (pu_lst (pa_1 (pu_op pu_c pu_c rfl rfl (o_sub _ _)) pa_0) (ca_1 rfl ca_0) (Nat.le_of_ble_eq_true rfl)) ?_
        refine go_pu (pu_sl (pu_var rfl) po_none (po_some pu_c rfl) rfl o_slL) ?_
        obtain ⟨c80, h⟩ := h
        refine ⟨_, _, _, lk_new, lk_new, o_addL (e := D.int) (xs := [(0 - 1)]) (ys := (cutD s9.2 none (some 3))) c80, ?_⟩
        refine ga_cons ?_
        refine ge_op ?_
        refine go_pu (pu_sl (pu_var rfl) po_none (po_some pu_c rfl) rfl o_slL) ?_
        refine go_pu (pu_sl (pu_var rfl) po_none (po_some pu_c rfl) rfl o_slL) ?_
        obtain ⟨c81, h⟩ := h
        refine ⟨_, _, _, lk_new, lk_new, o_addL (e := D.int) (xs := (cutD s9.2 none (some 2))) (ys := (cutD s9.2 none (some 2))) c81, ?_⟩
        refine ga_cons ?_
        refine go_pu (pu_lst (pa_1 pu_c (pa_1 pu_c pa_0)) (ca_1 rfl (ca_1 rfl ca_0)) (Nat.le_of_ble_eq_true rfl)) ?_
        refine ga_cons ?_
        refine go_pu (pu_lst (pa_1 pu_c (pa_1 pu_c (pa_1 (pu_op pu_c pu_c rfl rfl (o_sub _ _)) pa_0))) (ca_1 rfl (ca_1 rfl (ca_1 rfl ca_0))) (Nat.le_of_ble_eq_true rfl)) ?_
        refine ga_cons ?_
        refine ge_LR1 ?_
        refine go_pu pu_c ?_
        obtain ⟨c82, h⟩ := h
        refine ⟨_, rfl, c82, ?_⟩
        refine ga_cons ?_
        refine ge_op ?_
        refine go_pu (pu_lst (pa_1 (pu_op pu_c pu_c rfl rfl (o_sub _ _)) pa_0) (ca_1 rfl ca_0) (Nat.le_of_ble_eq_true rfl)) ?_
        refine ge_LR1 ?_
        refine go_pu pu_c ?_
        obtain ⟨c83, h⟩ := h
        refine ⟨_, rfl, c83, ?_⟩
        obtain ⟨c84, h⟩ := h
        refine ⟨_, _, _, lk_new, lk_new, o_addL (e := D.int) (xs := [(0 - 3)]) (ys := (rngZ 0 8)) c84, ?_⟩
        refine ga_nil ?_
        refine ⟨_, _, (ca_1 rfl (ca_1 fr_new (ca_1 fr_new (ca_1 fr_new (ca_1 fr_new (ca_1 fr_new (ca_1 fr_new ca_0))))))), (Nat.le_of_ble_eq_true rfl), ?_⟩
        refine ⟨_, _, [.no, b78, .sh ((eL D.int) s9.2), .no, .no, .lst (shs (List.map (eP2 D.int D.int) s25)), .sh ((eL D.int) (([0, 1, 7, 10000000000000] ++ s9.2) ++ (s9.2.map fun (x46 : Int) => (x46 + 1)))), .lst (shs (List.map (eP2 D.int D.int) (s25 ++ [(1, 1)]))), .sh (e_Veil x48), .sh (e_Veil o52), .sh (D.int z77), .sh ((eL (eL D.int)) [s9.2, ([(0 - 1)] ++ (cutD s9.2 none (some 3))), ((cutD s9.2 none (some 2)) ++ (cutD s9.2 none (some 2))), [5, 5], [7, 3, (0 - 2)], (rngZ 0 9), ([(0 - 3)] ++ (rngZ 0 8))]), .no, .no, .no], (ca_1 fr_new ca_0), rfl, ?_⟩
        change Gs _ _ _ _ _ _
        refine gs_seq ?_
        refine gs_setF ?_
        refine ge_lst ?_
        refine ga_cons ?_
        refine go_pu (pu_own rfl) ?_
        refine ga_cons ?_
        refine go_pu (pu_lst pa_0 ca_0 (Nat.le_of_ble_eq_true rfl)) ?_
        refine ga_cons ?_
        refine ge_op ?_
        refine go_pu (pu_own rfl) ?_
        refine go_pu (pu_lst (pa_1 (pu_tup (pa_1 pu_c (pa_1 pu_c pa_0)) (ca_1 rfl (ca_1 rfl ca_0)) (Nat.le_of_ble_eq_true rfl)) (pa_1 (pu_tup (pa_1 pu_c (pa_1 pu_c pa_0)) (ca_1 rfl (ca_1 rfl ca_0)) (Nat.le_of_ble_eq_true rfl)) (pa_1 (pu_tup (pa_1 pu_c (pa_1 pu_c pa_0)) (ca_1 rfl (ca_1 rfl ca_0)) (Nat.le_of_ble_eq_true rfl)) (pa_1 (pu_tup (pa_1 pu_c (pa_1 pu_c pa_0)) (ca_1 rfl (ca_1 rfl ca_0)) (Nat.le_of_ble_eq_true rfl)) (pa_1 (pu_tup (pa_1 pu_c (pa_1 pu_c pa_0)) (ca_1 rfl (ca_1 rfl ca_0)) (Nat.le_of_ble_eq_true rfl)) (pa_1 (pu_tup (pa_1 pu_c (pa_1 pu_c pa_0)) (ca_1 rfl (ca_1 rfl ca_0)) (Nat.le_of_ble_eq_true rfl)) pa_0)))))) (ca_1 rfl (ca_1 rfl (ca_1 rfl (ca_1 rfl (ca_1 rfl (ca_1 rfl ca_0)))))) (Nat.le_of_ble_eq_true rfl)) ?_
        obtain ⟨c85, h⟩ := h
        refine ⟨_, _, _, (lk_own rfl), lk_new, o_addL (e := (eP2 D.int D.int)) (xs := s25) (ys := [(1, 1), (2, 1), (3, 1), (4, 1), (5, 1), (6, 1)]) c85, ?_⟩
        refine ga_cons ?_
        refine ge_op ?_
        refine go_pu (pu_sl (pu_own rfl) po_none (po_some pu_c rfl) (lk_own rfl) o_slL) ?_
        refine go_pu (pu_lst (pa_1 (pu_tup (pa_1 (pu_op pu_c pu_c rfl rfl (o_sub _ _)) (pa_1 pu_c pa_0)) (ca_1 rfl (ca_1 rfl ca_0)) (Nat.le_of_ble_eq_true rfl)) pa_0) (ca_1 rfl ca_0) (Nat.le_of_ble_eq_true rfl)) ?_
        obtain ⟨c86, h⟩ := h
        refine ⟨_, _, _, lk_new, lk_new, o_addL (e := (eP2 D.int D.int)) (xs := (cutD s25 none (some 5))) (ys := [((0 - 1), 0)]) c86, ?_⟩
        refine ga_cons ?_
        refine ge_op ?_
        refine go_pu (pu_sl (pu_own rfl) po_none (po_some pu_c rfl) (lk_own rfl) o_slL) ?_
        refine go_pu (pu_lst (pa_1 (pu_tup (pa_1 pu_c (pa_1 pu_c pa_0)) (ca_1 rfl (ca_1 rfl ca_0)) (Nat.le_of_ble_eq_true rfl)) pa_0) (ca_1 rfl ca_0) (Nat.le_of_ble_eq_true rfl)) ?_
        obtain ⟨c87, h⟩ := h
        refine ⟨_, _, _, lk_new, lk_new, o_addL (e := (eP2 D.int D.int)) (xs := (cutD s25 none (some 5))) (ys := [(2, 0)]) c87, ?_⟩
        refine ga_cons ?_
        refine go_pu (pu_lst (pa_1 (pu_tup (pa_1 pu_c (pa_1 (pu_op pu_c pu_c rfl rfl (o_sub _ _)) pa_0)) (ca_1 rfl (ca_1 rfl ca_0)) (Nat.le_of_ble_eq_true rfl)) pa_0) (ca_1 rfl ca_0) (Nat.le_of_ble_eq_true rfl)) ?_
        refine ga_nil ?_
        refine ⟨_, [.no, b78, .sh ((eL D.int) s9.2), .no, .no, .sh ((eL (eP2 D.int D.int)) s25), .sh ((eL D.int) (([0, 1, 7, 10000000000000] ++ s9.2) ++ (s9.2.map fun (x46 : Int) => (x46 + 1)))), .lst (shs (List.map (eP2 D.int D.int) (s25 ++ [(1, 1)]))), .sh (e_Veil x48), .sh (e_Veil o52), .sh (D.int z77), .sh ((eL (eL D.int)) [s9.2, ([(0 - 1)] ++ (cutD s9.2 none (some 3))), ((cutD s9.2 none (some 2)) ++ (cutD s9.2 none (some 2))), [5, 5], [7, 3, (0 - 2)], (rngZ 0 9), ([(0 - 3)] ++ (rngZ 0 8))]), .no, .no, .no], (ca_r rfl fr_new (ca_1 fr_new (ca_1 fr_new (ca_1 fr_new (ca_1 fr_new (ca_1 fr_new ca_0)))))), (Nat.le_of_ble_eq_true rfl), ?_⟩
        refine ⟨_, _, [.no, b78, .sh ((eL D.int) s9.2), .no, .no, .sh ((eL (eP2 D.int D.int)) s25), .sh ((eL D.int) (([0, 1, 7, 10000000000000] ++ s9.2) ++ (s9.2.map fun (x46 : Int) => (x46 + 1)))), .lst (shs (List.map (eP2 D.int D.int) (s25 ++ [(1, 1)]))), .sh (e_Veil x48), .sh (e_Veil o52), .sh (D.int z77), .sh ((eL (eL D.int)) [s9.2, ([(0 - 1)] ++ (cutD s9.2 none (some 3))), ((cutD s9.2 none (some 2)) ++ (cutD s9.2 none (some 2))), [5, 5], [7, 3, (0 - 2)], (rngZ 0 9), ([(0 - 3)] ++ (rngZ 0 8))]), .sh ((eL (eL (eP2 D.int D.int))) [s25, [], (s25 ++ [(1, 1), (2, 1), (3, 1), (4, 1), (5, 1), (6, 1)]), ((cutD s25 none (some 5)) ++ [((0 - 1), 0)]), ((cutD s25 none (some 5)) ++ [(2, 0)]), [(0, (0 - 5))]]), .no, .no], (ca_1 fr_new ca_0), rfl, ?_⟩
        change Gs _ _ _ _ _ _
        refine gs_seq ?_
        refine gs_for ?_
        refine gi_rng1 ?_
        refine go_pu pu_c ?_
        obtain ⟨c88, h⟩ := h
        refine ⟨_, rfl, c88, ?_⟩
        refine gs_forL (enc := D.int) (fun (s89 : Unit) ρ => ∃ u92, ∃ u93, ρ = [.no, b78, .sh ((eL D.int) s9.2), .no, u92, .sh ((eL (eP2 D.int D.int)) s25), .sh ((eL D.int) (([0, 1, 7, 10000000000000] ++ s9.2) ++ (s9.2.map fun (x46 : Int) => (x46 + 1)))), .lst (shs (List.map (eP2 D.int D.int) (s25 ++ [(1, 1)]))), .sh (e_Veil x48), .sh (e_Veil o52), .sh (D.int z77), .sh ((eL (eL D.int)) [s9.2, ([(0 - 1)] ++ (cutD s9.2 none (some 3))), ((cutD s9.2 none (some 2)) ++ (cutD s9.2 none (some 2))), [5, 5], [7, 3, (0 - 2)], (rngZ 0 9), ([(0 - 3)] ++ (rngZ 0 8))]), .sh ((eL (eL (eP2 D.int D.int))) [s25, [], (s25 ++ [(1, 1), (2, 1), (3, 1), (4, 1), (5, 1), (6, 1)]), ((cutD s25 none (some 5)) ++ [((0 - 1), 0)]), ((cutD s25 none (some 5)) ++ [(2, 0)]), [(0, (0 - 5))]]), u93, .no]) ?_ ?_ (rngZ 0 7) () [.no, b78, .sh ((eL D.int) s9.2), .no, .no, .sh ((eL (eP2 D.int D.int)) s25), .sh ((eL D.int) (([0, 1, 7, 10000000000000] ++ s9.2) ++ (s9.2.map fun (x46 : Int) => (x46 + 1)))), .lst (shs (List.map (eP2 D.int D.int) (s25 ++ [(1, 1)]))), .sh (e_Veil x48), .sh (e_Veil o52), .sh (D.int z77), .sh ((eL (eL D.int)) [s9.2, ([(0 - 1)] ++ (cutD s9.2 none (some 3))), ((cutD s9.2 none (some 2)) ++ (cutD s9.2 none (some 2))), [5, 5], [7, 3, (0 - 2)], (rngZ 0 9), ([(0 - 3)] ++ (rngZ 0 8))]), .sh ((eL (eL (eP2 D.int D.int))) [s25, [], (s25 ++ [(1, 1), (2, 1), (3, 1), (4, 1), (5, 1), (6, 1)]), ((cutD s25 none (some 5)) ++ [((0 - 1), 0)]), ((cutD s25 none (some 5)) ++ [(2, 0)]), [(0, (0 - 5))]]), .no, .no] ⟨_, _, rfl⟩ h
        ·
          intro x90 s89 ρ k91 hr h
          obtain ⟨u92, u93, rfl⟩ := hr
          refine ⟨[.no, b78, .sh ((eL D.int) s9.2), .no, .sh (D.int x90), .sh ((eL (eP2 D.int D.int)) s25), .sh ((eL D.int) (([0, 1, 7, 10000000000000] ++ s9.2) ++ (s9.2.map fun (x46 : Int) => (x46 + 1)))), .lst (shs (List.map (eP2 D.int D.int) (s25 ++ [(1, 1)]))), .sh (e_Veil x48), .sh (e_Veil o52), .sh (D.int z77), .sh ((eL (eL D.int)) [s9.2, ([(0 - 1)] ++ (cutD s9.2 none (some 3))), ((cutD s9.2 none (some 2)) ++ (cutD s9.2 none (some 2))), [5, 5], [7, 3, (0 - 2)], (rngZ 0 9), ([(0 - 3)] ++ (rngZ 0 8))]), .sh ((eL (eL (eP2 D.int D.int))) [s25, [], (s25 ++ [(1, 1), (2, 1), (3, 1), (4, 1), (5, 1), (6, 1)]), ((cutD s25 none (some 5)) ++ [((0 - 1), 0)]), ((cutD s25 none (some 5)) ++ [(2, 0)]), [(0, (0 - 5))]]), u93, .no], rfl, ?_⟩
          refine gs_for ?_
          refine gi_seqL ?_
          refine go_pu (pu_lst (pa_1 pu_c (pa_1 (pu_var rfl) (pa_1 (pu_op pu_c (pu_var rfl) rfl rfl (o_add _ _)) pa_0))) (ca_1 rfl (ca_1 rfl (ca_1 rfl ca_0))) (Nat.le_of_ble_eq_true rfl)) ?_
          refine ⟨_, List.map D.int [0, z77, (3 + z77)], _, (ca_1 fr_new ca_0), .inl rfl, ?_⟩
          refine gs_forL (enc := D.int) (fun (s95 : Unit) ρ => ∃ u98, ρ = [.no, b78, .sh ((eL D.int) s9.2), .no, .sh (D.int x90), .sh ((eL (eP2 D.int D.int)) s25), .sh ((eL D.int) (([0, 1, 7, 10000000000000] ++ s9.2) ++ (s9.2.map fun (x46 : Int) => (x46 + 1)))), .lst (shs (List.map (eP2 D.int D.int) (s25 ++ [(1, 1)]))), .sh (e_Veil x48), .sh (e_Veil o52), .sh (D.int z77), .sh ((eL (eL D.int)) [s9.2, ([(0 - 1)] ++ (cutD s9.2 none (some 3))), ((cutD s9.2 none (some 2)) ++ (cutD s9.2 none (some 2))), [5, 5], [7, 3, (0 - 2)], (rngZ 0 9), ([(0 - 3)] ++ (rngZ 0 8))]), .sh ((eL (eL (eP2 D.int D.int))) [s25, [], (s25 ++ [(1, 1), (2, 1), (3, 1), (4, 1), (5, 1), (6, 1)]), ((cutD s25 none (some 5)) ++ [((0 - 1), 0)]), ((cutD s25 none (some 5)) ++ [(2, 0)]), [(0, (0 - 5))]]), u98, .no]) ?_ ?_ [0, z77, (3 + z77)] () [.no, b78, .sh ((eL D.int) s9.2), .no, .sh (D.int x90), .sh ((eL (eP2 D.int D.int)) s25), .sh ((eL D.int) (([0, 1, 7, 10000000000000] ++ s9.2) ++ (s9.2.map fun (x46 : Int) => (x46 + 1)))), .lst (shs (List.map (eP2 D.int D.int) (s25 ++ [(1, 1)]))), .sh (e_Veil x48), .sh (e_Veil o52), .sh (D.int z77), .sh ((eL (eL D.int)) [s9.2, ([(0 - 1)] ++ (cutD s9.2 none (some 3))), ((cutD s9.2 none (some 2)) ++ (cutD s9.2 none (some 2))), [5, 5], [7, 3, (0 - 2)], (rngZ 0 9), ([(0 - 3)] ++ (rngZ 0 8))]), .sh ((eL (eL (eP2 D.int D.int))) [s25, [], (s25 ++ [(1, 1), (2, 1), (3, 1), (4, 1), (5, 1), (6, 1)]), ((cutD s25 none (some 5)) ++ [((0 - 1), 0)]), ((cutD s25 none (some 5)) ++ [(2, 0)]), [(0, (0 - 5))]]), u93, .no] ⟨_, rfl⟩ h
          ·
            intro x96 s95 ρ k97 hr h
            obtain ⟨u98, rfl⟩ := hr
            refine ⟨[.no, b78, .sh ((eL D.int) s9.2), .no, .sh (D.int x90), .sh ((eL (eP2 D.int D.int)) s25), .sh ((eL D.int) (([0, 1, 7, 10000000000000] ++ s9.2) ++ (s9.2.map fun (x46 : Int) => (x46 + 1)))), .lst (shs (List.map (eP2 D.int D.int) (s25 ++ [(1, 1)]))), .sh (e_Veil x48), .sh (e_Veil o52), .sh (D.int z77), .sh ((eL (eL D.int)) [s9.2, ([(0 - 1)] ++ (cutD s9.2 none (some 3))), ((cutD s9.2 none (some 2)) ++ (cutD s9.2 none (some 2))), [5, 5], [7, 3, (0 - 2)], (rngZ 0 9), ([(0 - 3)] ++ (rngZ 0 8))]), .sh ((eL (eL (eP2 D.int D.int))) [s25, [], (s25 ++ [(1, 1), (2, 1), (3, 1), (4, 1), (5, 1), (6, 1)]), ((cutD s25 none (some 5)) ++ [((0 - 1), 0)]), ((cutD s25 none (some 5)) ++ [(2, 0)]), [(0, (0 - 5))]]), .sh (D.int x96), .no], rfl, ?_⟩
            refine gs_if ?_
            refine gt_e ?_
            refine ge_op ?_
            refine gc_data ?_
            refine ga_cons ?_
            refine ge_op ?_
            refine go_pu (pu_var rfl) ?_
            refine go_pu (pu_var rfl) ?_
            obtain ⟨x100, hix100, h⟩ := h
            refine ⟨_, _, _, rfl, rfl, o_ixL (e := (eL D.int)) hix100, ?_⟩
            refine ga_cons ?_
            refine ge_op ?_
            refine go_pu (pu_var rfl) ?_
            refine go_pu (pu_var rfl) ?_
            obtain ⟨x101, hix101, h⟩ := h
            refine ⟨_, _, _, rfl, rfl, o_ixL (e := (eL (eP2 D.int D.int))) hix101, ?_⟩
            refine ga_nil ?_
            refine ⟨_, _, (ca_1 rfl (ca_1 rfl ca_0)), rfl, ?_⟩
            refine gl_data (enc := (fun v : D => .sh (eD v))) (tr__law_tried x100 x101 h) (fun _ _ _ _ z => (exF z).elim) (fun x102 h => ?_)
            refine gc_data ?_
            refine ga_cons ?_
            refine ge_op ?_
            refine go_pu (pu_var rfl) ?_
            refine go_pu (pu_var rfl) ?_
            obtain ⟨x103, hix103, h⟩ := h
            refine ⟨_, _, _, rfl, rfl, o_ixL (e := (eL D.int)) hix103, ?_⟩
            refine ga_cons ?_
            refine ge_op ?_
            refine go_pu (pu_var rfl) ?_
            refine go_pu (pu_var rfl) ?_
            obtain ⟨x104, hix104, h⟩ := h
            refine ⟨_, _, _, rfl, rfl, o_ixL (e := (eL (eP2 D.int D.int))) hix104, ?_⟩
            refine ga_nil ?_
            refine ⟨_, _, (ca_1 rfl (ca_1 rfl ca_0)), rfl, ?_⟩
            refine gl_data (enc := (fun v : D => .sh (eD v))) (tr__law_due x103 x104 h) (fun _ _ _ _ z => (exF z).elim) (fun x105 h => ?_)
            obtain ⟨b106, hib106, h⟩ := h
            refine ⟨_, _, _, rfl, rfl, hib106, ?_⟩
            refine ⟨_, rfl, ?_⟩
            by_cases c107 : b106 = true
            · replace h := ite_t c107 h
              refine to_t c107 ?_
              refine gs_retF ?_
              refine go_pu pu_c ?_
              refine ⟨_, _, (ca_1 rfl ca_0), ?_⟩
              exact ⟨false, rfl, h⟩
            · replace h := ite_f c107 h
              refine to_f c107 ?_
              refine gs_nil ?_
              exact ⟨(), h, ⟨_, rfl⟩⟩
          intro s95 ρ h hr
          obtain ⟨u98, rfl⟩ := hr
          exact ⟨(), h, ⟨_, _, rfl⟩⟩
        intro s89 ρ h hr
        obtain ⟨u92, u93, rfl⟩ := hr
        change Gs _ _ _ _ _ _
        refine gs_retF ?_
        refine gc_view ?_
        refine ga_cons ?_
        refine go_pu (pu_var rfl) ?_
        refine ga_cons ?_
        refine go_pu (pu_var rfl) ?_
        refine ga_cons ?_
        refine go_pu (pu_var rfl) ?_
        refine ga_cons ?_
        refine go_pu (pu_sl (pu_var rfl) po_none (po_some pu_c rfl) rfl o_slL) ?_
        refine ga_nil ?_
        refine ⟨rfl, _, (vw_1 rfl (vw_1 rfl (vw_1 rfl (vw_1 fr_new vw_0)))), ?_⟩
        refine gl_view (enc := D.bl) (fun _ => rfl) (tr__law_veil_right x48 s9.2 s25 (cutD (([0, 1, 7, 10000000000000] ++ s9.2) ++ (s9.2.map fun (x46 : Int) => (x46 + 1))) none (some 2)) h) (fun x108 h => ?_)
        refine ⟨_, _, (ca_1 rfl ca_0), ?_⟩
        exact ⟨x108, rfl, h⟩
theorem law_of (h : W_law) (ns : List Int) : ∃ fs, F_law [.sh (.rol (ns.map D.int))] = .ok (.sh (.bl true)) fs := by
  have g := tr_law ns h
  cases e : F_law [.sh (.rol (ns.map D.int))] with
  | ok s fs =>
    rw [e] at g
    replace g := g.ok_e
    obtain ⟨v, e1, e2⟩ := g
    subst e1 e2
    exact ⟨fs, rfl⟩
  | exc => rw [e] at g; replace g := g.exc_e; obtain ⟨_, _, _, z, _⟩ := g; exact z.elim
  | stuck => rw [e] at g; exact g.stuck_e.elim
end Lw

/-! TyF: to show a wish. -/
namespace Sep
open PySem L2
section
variable {α β σ : Type}
theorem wDraw_i {n : Int} {K : Int → Prop} (h : ∀ z, 0 ≤ z → z < n → K z) (h1 : 0 < n := by decide) (h2 : n.natAbs.log2 < 9000 := by decide +kernel) : wDraw n K := ⟨⟨h1, h2⟩, h⟩
theorem atI_get {xs : List α} {i : Int} (h0 : 0 ≤ i) (h1 : i < xs.length) : ∃ x, atI xs i = some x ∧ x ∈ xs ∧ xs[i.toNat]? = some x := by
  have hl : i.toNat < xs.length := by omega
  exact ⟨xs[i.toNat], by rw [atI_nn xs i h0 h1, List.getElem?_eq_getElem hl], List.getElem_mem hl, List.getElem?_eq_getElem hl⟩
/-- an item of a menu -/
theorem wIx_i {xs : List α} {i : Int} {K : α → Prop} (h0 : 0 ≤ i) (h1 : i < xs.length) (h : ∀ x ∈ xs, K x) : wIx xs i K := by
  obtain ⟨x, e, m, _⟩ := atI_get h0 h1
  exact ⟨x, e, h x m⟩
theorem wIx_at {xs : List α} {i : Int} {x : α} {K : α → Prop} (e : atI xs i = some x) (h : K x) : wIx xs i K := ⟨x, e, h⟩
theorem wIx_get {xs : List α} {i : Int} {K : α → Prop} (h0 : 0 ≤ i) (h1 : i < xs.length) (h : ∀ x, xs[i.toNat]? = some x → K x) : wIx xs i K := by
  obtain ⟨x, e, _, g⟩ := atI_get h0 h1
  exact ⟨x, e, h x g⟩
theorem wGet_some {x : α} {K : α → Prop} : wGet (some x) K ↔ K x := ⟨fun ⟨y, e, h⟩ => by cases e; exact h, fun h => ⟨x, rfl, h⟩⟩
theorem wGet_i {o : Option α} {x : α} {K : α → Prop} (e : o = some x) (h : K x) : wGet o K := ⟨x, e, h⟩
theorem wJ_i {F : (σ → Prop) → Prop} {K : σ → Prop} (h : F K) : wJ F K := h
theorem wJ_ite {c : Prop} [Decidable c] {a b : σ} {K : σ → Prop} : wJ (fun k => if c then k a else k b) K ↔ K (if c then a else b) := by
  unfold wJ; split <;> rfl
theorem wJ_k {a : σ} {K : σ → Prop} : wJ (fun k => k a) K ↔ K a := Iff.rfl
/-- what is known of the joined value -/
theorem wJ_p {F : (σ → Prop) → Prop} {K : σ → Prop} (P : σ → Prop) (h : F P) (mono : ∀ A B : σ → Prop, (∀ s, A s → B s) → F A → F B) (k : ∀ s, P s → K s) : wJ F K := mono P K k h
theorem wFor_i {body : α → σ → (σ → Prop) → (σ → Prop) → Prop} {C : σ → Prop} (J : σ → Prop) : ∀ (xs : List α) (s : σ), J s → (∀ x ∈ xs, ∀ s k, J s → (∀ s', J s' → k s') → body x s k C) → (∀ s, J s → C s) → wFor body xs s C
  | [], s, hs, _, hc => hc s hs
  | x :: xs, s, hs, hb, hc => hb x List.mem_cons_self s _ hs fun s' h' => wFor_i J xs s' h' (fun y hy => hb y (List.mem_cons_of_mem _ hy)) hc
/-- nothing is carried -/
theorem wFor_u {body : α → Unit → (Unit → Prop) → (Unit → Prop) → Prop} {C : Unit → Prop} {xs : List α} (hb : ∀ x ∈ xs, ∀ k : Unit → Prop, k () → body x () k C) (hc : C ()) : wFor body xs () C :=
  wFor_i (fun _ => True) xs () trivial (fun x hx _ k _ hk => hb x hx k (hk () trivial)) fun _ _ => hc
/-- the invariant tells what has been walked -/
theorem wFor_pre {body : α → σ → (σ → Prop) → (σ → Prop) → Prop} {C : σ → Prop} {xs : List α} (J : List α → σ → Prop) (hb : ∀ pre x post, xs = pre ++ x :: post → ∀ s k, J pre s → (∀ s', J (pre ++ [x]) s' → k s') → body x s k C) (hc : ∀ s, J xs s → C s) {s : σ} (hs : J [] s) : wFor body xs s C := by
  have key : ∀ post pre s, xs = pre ++ post → J pre s → wFor body post s C := by
    intro post
    induction post with
    | nil => intro pre s e hj; exact hc s (by rw [e, List.append_nil]; exact hj)
    | cons x post ih =>
      intro pre s e hj
      exact hb pre x post e s _ hj fun s' hj' => ih (pre ++ [x]) s' (by rw [e, List.append_assoc]; rfl) hj'
  exact key xs [] s rfl hs
theorem wComp_i {body : α → (Option β → Prop) → Prop} {K : List β → Prop} (g : α → Option β) : ∀ (xs : List α), (∀ x ∈ xs, ∀ k : Option β → Prop, k (g x) → body x k) → K (xs.filterMap g) → wComp body xs K
  | [], _, h => h
  | x :: xs, hb, h => hb x List.mem_cons_self _ (by
    refine wComp_i g xs (fun y hy => hb y (List.mem_cons_of_mem _ hy)) ?_
    rw [List.filterMap_cons] at h
    cases e : g x with
    | none => rw [e] at h; exact h
    | some y => rw [e] at h; exact h)
/-- each item a value -/
theorem wComp_map {body : α → (Option β → Prop) → Prop} {K : List β → Prop} (g : α → β) (xs : List α) (hb : ∀ x ∈ xs, ∀ k : Option β → Prop, k (some (g x)) → body x k) (h : K (xs.map g)) : wComp body xs K :=
  wComp_i (fun x => some (g x)) xs hb (by rw [List.filterMap_eq_map']; exact h)
/-- some items, as they are -/
theorem wComp_filter {body : α → (Option α → Prop) → Prop} {K : List α → Prop} (c : α → Bool) (xs : List α) (hb : ∀ x ∈ xs, ∀ k : Option α → Prop, k (if c x = true then some x else none) → body x k) (h : K (xs.filter c)) : wComp body xs K :=
  wComp_i (fun x => if c x = true then some x else none) xs hb (by
    have e : ∀ l : List α, l.filterMap (fun x => if c x = true then some x else none) = l.filter c := by
      intro l
      induction l with
      | nil => rfl
      | cons y l ih =>
        rw [List.filterMap_cons, List.filter_cons]
        cases q : c y <;> simp [q, ih]
    rw [e]; exact h)
/-- each item a value of a kind -/
theorem wComp_p {body : α → (Option β → Prop) → Prop} {K : List β → Prop} (P : β → Prop) : ∀ (xs : List α), (∀ x ∈ xs, ∀ k : Option β → Prop, (∀ y, P y → k (some y)) → body x k) → (∀ ys : List β, ys.length = xs.length → (∀ y ∈ ys, P y) → K ys) → wComp body xs K
  | [], _, h => h [] rfl (fun _ z => nomatch z)
  | x :: xs, hb, h => hb x List.mem_cons_self _ fun y hy => wComp_p P xs (fun z hz => hb z (List.mem_cons_of_mem _ hz)) fun ys hl hp => h (y :: ys) (by simp [hl]) (fun z hz => by
    rcases List.mem_cons.mp hz with rfl | hz
    · exact hy
    · exact hp z hz)
theorem wSame_i {a b : D} {K : Bool → Prop} (e : a = b) (p : LwB.plainM 5 a = true) (h : K true) : wSame a b K := ⟨e, p, h⟩
theorem wB_i {o : Option Slot} {b : Bool} {K : Bool → Prop} (e : o = some (.sh (.bl b))) (h : K b) : wB o K := ⟨b, e, h⟩
theorem wI_i {o : Option Slot} {b : Int} {K : Int → Prop} (e : o = some (.sh (.int b))) (h : K b) : wI o K := ⟨b, e, h⟩
theorem wD_i {o : Option Slot} {b : D} {K : D → Prop} (e : o = some (.sh b)) (h : K b) : wD o K := ⟨b, e, h⟩
end
theorem mul_ok {a b : Int} (ha : a.natAbs < 2 ^ 400000) (hb : b.natAbs < 2 ^ 400000) : cMul a b = true := by
  have k : ∀ c : Nat, c < 2 ^ 400000 → c.log2 < 400000 := fun c h => Lw.log2_lt h (by decide)
  have e1 := k _ ha
  have e2 := k _ hb
  exact decide_eq_true (by omega)
theorem mul_ok64 {a b : Int} (ha : a.natAbs < 2 ^ 64) (hb : b.natAbs < 2 ^ 64) : cMul a b = true := by
  have e1 := Lw.log2_lt ha (by decide : 0 < 64)
  have e2 := Lw.log2_lt hb (by decide : 0 < 64)
  exact decide_eq_true (by omega)
theorem div_ok {a b : Int} (hb : 0 < b) (h : b.natAbs < 2 ^ 64) : cDiv a b = true := by
  have e2 := Lw.log2_lt h (by decide : 0 < 64)
  exact decide_eq_true ⟨hb, by omega⟩
theorem rOk_i {i : Int} (h : -4611686018427387904 ≤ i) (h2 : i < 4611686018427387904) : rOk i := ⟨by omega, by omega⟩
end Sep

/-! TyG: == of data. -/
namespace Sep
open PySem L2
mutual
/-- data that == looks at, no deeper than n -/
def gd : Nat → D → Bool
  | _, .non => true
  | _, .bl _ => true
  | _, .int _ => true
  | _, .str s => PyData.strOk s
  | n + 1, .tup ds => gds n ds
  | n + 1, .lst ds => gds n ds
  | _, _ => false
def gds : Nat → List D → Bool
  | _, [] => true
  | n, d :: ds => gd n d && gds n ds
end
mutual
/-- Python's == -/
def deq : D → D → Bool
  | .non, .non => true
  | .bl a, .bl b => a == b
  | .bl a, .int j => (if a then 1 else 0) == j
  | .int i, .bl b => i == (if b then 1 else 0)
  | .int i, .int j => i == j
  | .str x, .str y => x == y
  | .lst xs, .lst ys => deqs xs ys
  | .tup xs, .tup ys => deqs xs ys
  | _, _ => false
def deqs : List D → List D → Bool
  | [], [] => true
  | x :: xs, y :: ys => deq x y && deqs xs ys
  | _, _ => false
end
mutual
theorem gd_py : ∀ (n : Nat) (d : D), gd n d = true → ∃ p, d.py = some p ∧ p.canLay0 = true ∧ p.depth ≤ n
  | n, .non, _ => ⟨.none, rfl, by simp only [PyData.canLay0], by simp only [PyData.depth]; omega⟩
  | n, .bl b, _ => ⟨.bool b, rfl, by simp only [PyData.canLay0], by simp only [PyData.depth]; omega⟩
  | n, .int i, _ => ⟨.int i, rfl, by simp only [PyData.canLay0], by simp only [PyData.depth]; omega⟩
  | n, .str s, h => ⟨.str s, rfl, by rw [gd] at h; simpa only [PyData.canLay0] using h, by simp only [PyData.depth]; omega⟩
  | n + 1, .tup ds, h => by
    rw [gd] at h
    obtain ⟨ps, e, c, l⟩ := gds_py n ds h
    exact ⟨.tuple ps, by rw [D.py, e]; rfl, by simpa only [PyData.canLay0] using c, by simp only [PyData.depth]; omega⟩
  | n + 1, .lst ds, h => by
    rw [gd] at h
    obtain ⟨ps, e, c, l⟩ := gds_py n ds h
    exact ⟨.list ps, by rw [D.py, e]; rfl, by simpa only [PyData.canLay0] using c, by simp only [PyData.depth]; omega⟩
  | 0, .tup _, h => by simp [gd] at h
  | 0, .lst _, h => by simp [gd] at h
  | n, .rol _, h => by simp [gd] at h
  | n, .obj _ _ _, h => by simp [gd] at h
  | n, .dct _ _, h => by simp [gd] at h
  | n, .xd _ _, h => by simp [gd] at h
  | n, .raw _ _, h => by simp [gd] at h
  | n, .kls _, h => by simp [gd] at h
theorem gds_py : ∀ (n : Nat) (ds : List D), gds n ds = true → ∃ ps, pys ds = some ps ∧ PyData.canLayAll0 ps = true ∧ PyData.depthAll ps ≤ n
  | n, [], _ => ⟨[], rfl, by simp only [PyData.canLayAll0], by simp only [PyData.depthAll]; omega⟩
  | n, d :: ds, h => by
    rw [gds, Bool.and_eq_true] at h
    obtain ⟨p, e1, c1, l1⟩ := gd_py n d h.1
    obtain ⟨ps, e2, c2, l2⟩ := gds_py n ds h.2
    exact ⟨p :: ps, by rw [pys, e1, e2], by simp only [PyData.canLayAll0, c1, c2, Bool.and_self], by simp only [PyData.depthAll]; omega⟩
end
mutual
theorem deq_py : ∀ (a b : D) (p r : PyData), a.py = some p → b.py = some r → PyData.eqv p r = deq a b
  | .non, b, p, r, e1, e2 => by
    cases e1
    cases b <;> rw [D.py] at e2 <;> first | (cases e2; done) | (cases e2; simp only [PyData.eqv, deq]) | skip
    all_goals (rename_i ds; cases q : pys ds <;> rw [q] at e2 <;> cases e2 <;> simp only [PyData.eqv, deq])
  | .bl x, b, p, r, e1, e2 => by
    cases e1
    cases b <;> rw [D.py] at e2 <;> first | (cases e2; done) | (cases e2; simp only [PyData.eqv, deq]) | skip
    all_goals (rename_i ds; cases q : pys ds <;> rw [q] at e2 <;> cases e2 <;> simp only [PyData.eqv, deq])
  | .int x, b, p, r, e1, e2 => by
    cases e1
    cases b <;> rw [D.py] at e2 <;> first | (cases e2; done) | (cases e2; simp only [PyData.eqv, deq]) | skip
    all_goals (rename_i ds; cases q : pys ds <;> rw [q] at e2 <;> cases e2 <;> simp only [PyData.eqv, deq])
  | .str x, b, p, r, e1, e2 => by
    cases e1
    cases b <;> rw [D.py] at e2 <;> first | (cases e2; done) | (cases e2; simp only [PyData.eqv, deq]) | skip
    all_goals (rename_i ds; cases q : pys ds <;> rw [q] at e2 <;> cases e2 <;> simp only [PyData.eqv, deq])
  | .tup xs, b, p, r, e1, e2 => by
    rw [D.py] at e1
    cases q1 : pys xs with
    | none => rw [q1] at e1; cases e1
    | some ps =>
      rw [q1] at e1; cases e1
      cases b <;> rw [D.py] at e2 <;> first | (cases e2; done) | (cases e2; simp only [PyData.eqv, deq]) | skip
      · rename_i ys
        cases q : pys ys <;> rw [q] at e2 <;> cases e2
        simp only [PyData.eqv, deq]
        exact deqs_py xs ys _ _ q1 q
      · rename_i ys
        cases q : pys ys <;> rw [q] at e2 <;> cases e2
        simp only [PyData.eqv, deq]
  | .lst xs, b, p, r, e1, e2 => by
    rw [D.py] at e1
    cases q1 : pys xs with
    | none => rw [q1] at e1; cases e1
    | some ps =>
      rw [q1] at e1; cases e1
      cases b <;> rw [D.py] at e2 <;> first | (cases e2; done) | (cases e2; simp only [PyData.eqv, deq]) | skip
      · rename_i ys
        cases q : pys ys <;> rw [q] at e2 <;> cases e2
        simp only [PyData.eqv, deq]
      · rename_i ys
        cases q : pys ys <;> rw [q] at e2 <;> cases e2
        simp only [PyData.eqv, deq]
        exact deqs_py xs ys _ _ q1 q
  | .rol _, _, _, _, e1, _ => by rw [D.py] at e1; cases e1
  | .obj _ _ _, _, _, _, e1, _ => by rw [D.py] at e1; cases e1
  | .dct _ _, _, _, _, e1, _ => by rw [D.py] at e1; cases e1
  | .xd _ _, _, _, _, e1, _ => by rw [D.py] at e1; cases e1
  | .raw _ _, _, _, _, e1, _ => by rw [D.py] at e1; cases e1
  | .kls _, _, _, _, e1, _ => by rw [D.py] at e1; cases e1
theorem deqs_py : ∀ (xs ys : List D) (ps rs : List PyData), pys xs = some ps → pys ys = some rs → PyData.eqvAll ps rs = deqs xs ys
  | [], [], _, _, e1, e2 => by cases e1; cases e2; simp only [PyData.eqvAll, deqs]
  | [], y :: ys, _, rs, e1, e2 => by
    cases e1
    rw [pys] at e2
    split at e2
    · cases e2; simp only [PyData.eqvAll, deqs]
    · cases e2
  | x :: xs, [], ps, _, e1, e2 => by
    cases e2
    rw [pys] at e1
    split at e1
    · cases e1; simp only [PyData.eqvAll, deqs]
    · cases e1
  | x :: xs, y :: ys, ps, rs, e1, e2 => by
    rw [pys] at e1 e2
    split at e1
    · rename_i p ps' q1 q2
      cases e1
      split at e2
      · rename_i r rs' q3 q4
        cases e2
        simp only [PyData.eqvAll, deqs]
        rw [deq_py x y p r q1 q3, deqs_py xs ys ps' rs' q2 q4]
      · cases e2
    · cases e1
end
theorem eq_good {n m : Nat} {a b : D} (ha : gd n a = true) (hb : gd m b = true) (hn : n ≤ 64 := by decide) (hm : m ≤ 64 := by decide) : gEq a b = some (.sh (.bl (deq a b))) := by
  obtain ⟨p, e1, c1, l1⟩ := gd_py n a ha
  obtain ⟨r, e2, c2, l2⟩ := gd_py m b hb
  unfold gEq
  rw [e1, e2]
  have s1 : SeqAt.shaped p = true := by unfold SeqAt.shaped; rw [c1, decide_eq_true (by omega)]; rfl
  have s2 : SeqAt.shaped r = true := by unfold SeqAt.shaped; rw [c2, decide_eq_true (by omega)]; rfl
  simp only [s1, s2, Bool.and_self, if_true, deq_py a b p r e1 e2]
theorem ne_good {n m : Nat} {a b : D} (ha : gd n a = true) (hb : gd m b = true) (hn : n ≤ 64 := by decide) (hm : m ≤ 64 := by decide) : gNe a b = some (.sh (.bl (!deq a b))) := by
  obtain ⟨p, e1, c1, l1⟩ := gd_py n a ha
  obtain ⟨r, e2, c2, l2⟩ := gd_py m b hb
  unfold gNe
  rw [e1, e2]
  have s1 : SeqAt.shaped p = true := by unfold SeqAt.shaped; rw [c1, decide_eq_true (by omega)]; rfl
  have s2 : SeqAt.shaped r = true := by unfold SeqAt.shaped; rw [c2, decide_eq_true (by omega)]; rfl
  simp only [s1, s2, Bool.and_self, if_true, deq_py a b p r e1 e2]
mutual
theorem deq_refl : ∀ (n : Nat) (d : D), gd n d = true → deq d d = true
  | _, .non, _ => by simp only [deq]
  | _, .bl b, _ => by simp only [deq, beq_self_eq_true]
  | _, .int i, _ => by simp only [deq, beq_self_eq_true]
  | _, .str s, _ => by simp only [deq, beq_self_eq_true]
  | n + 1, .tup ds, h => by rw [gd] at h; simp only [deq]; exact deqs_refl n ds h
  | n + 1, .lst ds, h => by rw [gd] at h; simp only [deq]; exact deqs_refl n ds h
  | 0, .tup _, h => by simp [gd] at h
  | 0, .lst _, h => by simp [gd] at h
  | n, .rol _, h => by simp [gd] at h
  | n, .obj _ _ _, h => by simp [gd] at h
  | n, .dct _ _, h => by simp [gd] at h
  | n, .xd _ _, h => by simp [gd] at h
  | n, .raw _ _, h => by simp [gd] at h
  | n, .kls _, h => by simp [gd] at h
theorem deqs_refl : ∀ (n : Nat) (ds : List D), gds n ds = true → deqs ds ds = true
  | _, [], _ => by simp only [deqs]
  | n, d :: ds, h => by
    rw [gds, Bool.and_eq_true] at h
    rw [deqs, deq_refl n d h.1, deqs_refl n ds h.2]; rfl
end
theorem eq_refl {n : Nat} {a : D} (ha : gd n a = true) (hn : n ≤ 64 := by decide) : gEq a a = some (.sh (.bl true)) := by rw [eq_good ha ha hn hn, deq_refl n a ha]
theorem ne_refl {n : Nat} {a : D} (ha : gd n a = true) (hn : n ≤ 64 := by decide) : gNe a a = some (.sh (.bl false)) := by rw [ne_good ha ha hn hn, deq_refl n a ha]; rfl
/-! lists of numbers -/
theorem gds_ints (n : Nat) (xs : List Int) : gds n (xs.map D.int) = true := by
  induction xs with
  | nil => simp only [List.map_nil, gds]
  | cons x xs ih => simp only [List.map_cons, gds, gd, ih, Bool.and_self]
theorem deqs_ints (xs ys : List Int) : deqs (xs.map D.int) (ys.map D.int) = decide (xs = ys) := by
  induction xs generalizing ys with
  | nil => cases ys <;> simp [deqs]
  | cons x xs ih =>
    cases ys with
    | nil => simp [deqs]
    | cons y ys =>
      simp only [List.map_cons, deqs, deq, ih, List.cons.injEq]
      by_cases h : x = y <;> by_cases h2 : xs = ys <;> simp [h, h2]
theorem gds_map {α : Type} {n : Nat} {e : α → D} {xs : List α} (h : ∀ x ∈ xs, gd n (e x) = true) : gds n (xs.map e) = true := by
  induction xs with
  | nil => simp only [List.map_nil, gds]
  | cons x xs ih => simp only [List.map_cons, gds, h x List.mem_cons_self, ih fun y hy => h y (List.mem_cons_of_mem _ hy), Bool.and_self]
end Sep

/-! TyI: more about wishes: loops that look for something, errors as data. -/
namespace Sep
open PySem L2
section
variable {α β σ τ : Type}
/-- an error, or nothing -/
abbrev Er := Option (Cl × List D)
def wE (o : Er) (Q : Prop) (E : EP) : Prop := match o with
  | none => Q
  | some e => E e.1 e.2
theorem wE_none {Q : Prop} {E : EP} : wE none Q E = Q := rfl
theorem wE_some {k : Cl} {ds : List D} {Q : Prop} {E : EP} : wE (some (k, ds)) Q E = E k ds := rfl
theorem wE_or {o o' : Er} {Q : Prop} {E : EP} : wE (o.or o') Q E = wE o (wE o' Q E) E := by cases o <;> rfl
theorem wE_mono {o : Er} {Q Q' : Prop} {E : EP} (h : Q → Q') (w : wE o Q E) : wE o Q' E := by
  cases o
  · exact h w
  · exact w
/-- a loop that only looks for an error -/
theorem wFor_err {f : α → Er} {E : EP} {body : α → Unit → (Unit → Prop) → (Unit → Prop) → Prop} (hb : ∀ x k c, body x () k c = wE (f x) (k ()) E) : ∀ (xs : List α) (K : Unit → Prop), wFor body xs () K = wE (xs.findSome? f) (K ()) E
  | [], _ => rfl
  | x :: xs, K => by
    unfold wFor
    rw [hb, List.findSome?_cons]
    cases f x with
    | none => exact wFor_err hb xs K
    | some e => rfl
/-- the same, the error being an answer -/
theorem wFor_ans {f : α → Option τ} {A : τ → Prop} {body : α → Unit → (Unit → Prop) → (Unit → Prop) → Prop} (hb : ∀ x k c, body x () k c = match f x with | none => k () | some e => A e) : ∀ (xs : List α) (K : Unit → Prop), wFor body xs () K = match xs.findSome? f with | none => K () | some e => A e
  | [], _ => rfl
  | x :: xs, K => by
    unfold wFor
    rw [hb, List.findSome?_cons]
    cases f x with
    | none => exact wFor_ans hb xs K
    | some e => rfl
theorem find_filter {c : α → Bool} : ∀ xs : List α, (xs.filter c).head? = xs.find? c
  | [] => rfl
  | x :: xs => by
    rw [List.filter_cons, List.find?_cons]
    cases q : c x
    · simp only [Bool.false_eq_true, if_false]; exact find_filter xs
    · rfl
theorem atI_zero {xs : List α} : atI xs 0 = xs.head? := by
  cases xs with
  | nil => rfl
  | cons x xs => rw [atI_nn _ 0 (by omega) (by simp)]; rfl
theorem atI_cons0 {x : α} {xs : List α} : atI (x :: xs) 0 = some x := by rw [atI_zero]; rfl
end
/-- data that == can look at, of one kind -/
theorem gd_L {α : Type} {n : Nat} {e : α → D} {xs : List α} (h : ∀ x ∈ xs, gd n (e x) = true) : gd (n + 1) (eL e xs) = true := by
  show gd (n + 1) (.lst (xs.map e)) = true
  rw [gd]; exact gds_map h
theorem gd_T {α : Type} {n : Nat} {e : α → D} {xs : List α} (h : ∀ x ∈ xs, gd n (e x) = true) : gd (n + 1) (eT e xs) = true := by
  show gd (n + 1) (.tup (xs.map e)) = true
  rw [gd]; exact gds_map h
theorem gd_int (n : Nat) (i : Int) : gd n (.int i) = true := by rw [gd]
theorem eq_nilL {α : Type} {n : Nat} {e : α → D} {xs : List α} (h : ∀ x ∈ xs, gd n (e x) = true) (hn : n ≤ 63 := by decide) : gEq (eL e xs) (eL eU []) = some (.sh (.bl xs.isEmpty)) := by
  rw [eq_good (gd_L h) (m := 1) (by simp [gd, gds]) (by omega)]
  cases xs <;> rfl
theorem ne_nilL {α : Type} {n : Nat} {e : α → D} {xs : List α} (h : ∀ x ∈ xs, gd n (e x) = true) (hn : n ≤ 63 := by decide) : gNe (eL e xs) (eL eU []) = some (.sh (.bl (!xs.isEmpty))) := by
  rw [ne_good (gd_L h) (m := 1) (by simp [gd, gds]) (by omega)]
  cases xs <;> rfl
theorem eq_nilT {α : Type} {n : Nat} {e : α → D} {xs : List α} (h : ∀ x ∈ xs, gd n (e x) = true) (hn : n ≤ 63 := by decide) : gEq (eT e xs) (eT eU []) = some (.sh (.bl xs.isEmpty)) := by
  rw [eq_good (gd_T h) (m := 1) (by simp [gd, gds]) (by omega)]
  cases xs <;> rfl
/-- encodings that tell the values apart, and are good for == -/
def eqv {α : Type} [DecidableEq α] (n : Nat) (e : α → D) : Prop := ∀ x y, gd n (e x) = true ∧ deq (e x) (e y) = decide (x = y)
theorem eqv_int (n : Nat) : eqv n D.int := fun x y => ⟨gd_int n x, by
  simp only [deq]
  by_cases h : x = y <;> simp [h]⟩
theorem deqs_map {α : Type} [DecidableEq α] {n : Nat} {e : α → D} (h : eqv n e) : ∀ xs ys : List α, deqs (xs.map e) (ys.map e) = decide (xs = ys)
  | [], [] => by simp [deqs]
  | [], _ :: _ => by simp [deqs]
  | _ :: _, [] => by simp [deqs]
  | x :: xs, y :: ys => by
    simp only [List.map_cons, deqs, (h x y).2, deqs_map h xs ys, List.cons.injEq]
    by_cases h : x = y <;> by_cases h2 : xs = ys <;> simp [h, h2]
theorem eqv_L {α : Type} [DecidableEq α] {n : Nat} {e : α → D} (h : eqv n e) : eqv (n + 1) (eL e) := fun xs ys => ⟨gd_L fun x _ => (h x x).1, by
  show deq (.lst _) (.lst _) = _
  simp only [deq]; exact deqs_map h xs ys⟩
theorem eqv_T {α : Type} [DecidableEq α] {n : Nat} {e : α → D} (h : eqv n e) : eqv (n + 1) (eT e) := fun xs ys => ⟨gd_T fun x _ => (h x x).1, by
  show deq (.tup _) (.tup _) = _
  simp only [deq]; exact deqs_map h xs ys⟩
theorem eqv_P2 {α β : Type} [DecidableEq α] [DecidableEq β] {n : Nat} {a : α → D} {b : β → D} (h : eqv n a) (k : eqv n b) : eqv (n + 1) (eP2 a b) := fun x y => ⟨by
  show gd (n + 1) (.tup [a x.1, b x.2]) = true
  simp only [gd, gds, (h x.1 x.1).1, (k x.2 x.2).1, Bool.and_self], by
  show deq (.tup [a x.1, b x.2]) (.tup [a y.1, b y.2]) = _
  simp only [deq, deqs, (h x.1 y.1).2, (k x.2 y.2).2, Bool.and_true]
  obtain ⟨x1, x2⟩ := x
  obtain ⟨y1, y2⟩ := y
  by_cases h : x1 = y1 <;> by_cases h2 : x2 = y2 <;> simp [h, h2]⟩
theorem eqv_P3 {α β γ : Type} [DecidableEq α] [DecidableEq β] [DecidableEq γ] {n : Nat} {a : α → D} {b : β → D} {c : γ → D} (h : eqv n a) (k : eqv n b) (l : eqv n c) : eqv (n + 1) (eP3 a b c) := fun x y => ⟨by
  show gd (n + 1) (.tup [a x.1, b x.2.1, c x.2.2]) = true
  simp only [gd, gds, (h x.1 x.1).1, (k x.2.1 x.2.1).1, (l x.2.2 x.2.2).1, Bool.and_self], by
  show deq (.tup [a x.1, b x.2.1, c x.2.2]) (.tup [a y.1, b y.2.1, c y.2.2]) = _
  simp only [deq, deqs, (h x.1 y.1).2, (k x.2.1 y.2.1).2, (l x.2.2 y.2.2).2, Bool.and_true]
  obtain ⟨x1, x2, x3⟩ := x
  obtain ⟨y1, y2, y3⟩ := y
  by_cases h : x1 = y1 <;> by_cases h2 : x2 = y2 <;> by_cases h3 : x3 = y3 <;> simp [h, h2, h3]⟩
theorem eqv_eq {α : Type} [DecidableEq α] {n : Nat} {e : α → D} (h : eqv n e) (x y : α) (hn : n ≤ 64 := by decide) : gEq (e x) (e y) = some (.sh (.bl (decide (x = y)))) := by
  rw [eq_good (h x x).1 (h y y).1 hn hn, (h x y).2]
theorem eqv_ne {α : Type} [DecidableEq α] {n : Nat} {e : α → D} (h : eqv n e) (x y : α) (hn : n ≤ 64 := by decide) : gNe (e x) (e y) = some (.sh (.bl (!decide (x = y)))) := by
  rw [ne_good (h x x).1 (h y y).1 hn hn, (h x y).2]
/-! plainness of typed data -/
theorem plain_L {α : Type} {n : Nat} {e : α → D} {xs : List α} (hl : xs.length < 16777216) (h : ∀ x ∈ xs, LwB.plainM n (e x) = true) : LwB.plainM (n + 1) (eL e xs) = true := by
  show (decide ((xs.map e).length < 16777216) && (xs.map e).all (LwB.plainM n)) = true
  rw [List.length_map, decide_eq_true hl, Bool.true_and, List.all_eq_true]
  intro d hd
  obtain ⟨x, hx, rfl⟩ := List.mem_map.mp hd
  exact h x hx
theorem plain_T {α : Type} {n : Nat} {e : α → D} {xs : List α} (hl : xs.length < 16777216) (h : ∀ x ∈ xs, LwB.plainM n (e x) = true) : LwB.plainM (n + 1) (eT e xs) = true := by
  show (decide ((xs.map e).length < 16777216) && (xs.map e).all (LwB.plainM n)) = true
  rw [List.length_map, decide_eq_true hl, Bool.true_and, List.all_eq_true]
  intro d hd
  obtain ⟨x, hx, rfl⟩ := List.mem_map.mp hd
  exact h x hx
theorem plain_int (n : Nat) (i : Int) : LwB.plainM n (.int i) = true := by cases n <;> rfl
theorem plain_P2 {α β : Type} {n : Nat} {a : α → D} {b : β → D} {p : α × β} (h : LwB.plainM n (a p.1) = true) (k : LwB.plainM n (b p.2) = true) : LwB.plainM (n + 1) (eP2 a b p) = true := by
  show (decide _ && (LwB.plainM n (a p.1) && (LwB.plainM n (b p.2) && true))) = true
  rw [h, k]; rfl
theorem wIx_eq {α : Type} {xs : List α} {i : Int} {x : α} {K : α → Prop} (e : atI xs i = some x) : wIx xs i K = K x := by
  unfold wIx; rw [e, eq_iff_iff]
  exact ⟨fun ⟨y, e, h⟩ => by cases e; exact h, fun h => ⟨x, rfl, h⟩⟩
theorem atI_ge {α : Type} {xs : List α} {i : Nat} {x : α} (h : xs[i]? = some x) : atI xs (i : Int) = some x := by
  have hl := (List.getElem?_eq_some_iff.mp h).1
  rw [atI_nn _ _ (by omega) (by omega)]; exact h
theorem wIx0 {α : Type} {x0 : α} {xs : List α} {K : α → Prop} : wIx (x0 :: xs) 0 K = K x0 := wIx_eq (atI_ge (i := 0) rfl)
theorem wIx1 {α : Type} {x0 x1 : α} {xs : List α} {K : α → Prop} : wIx (x0 :: x1 :: xs) 1 K = K x1 := wIx_eq (atI_ge (i := 1) rfl)
theorem wIx2 {α : Type} {x0 x1 x2 : α} {xs : List α} {K : α → Prop} : wIx (x0 :: x1 :: x2 :: xs) 2 K = K x2 := wIx_eq (atI_ge (i := 2) rfl)
theorem wIx3 {α : Type} {x0 x1 x2 x3 : α} {xs : List α} {K : α → Prop} : wIx (x0 :: x1 :: x2 :: x3 :: xs) 3 K = K x3 := wIx_eq (atI_ge (i := 3) rfl)
theorem wIx4 {α : Type} {x0 x1 x2 x3 x4 : α} {xs : List α} {K : α → Prop} : wIx (x0 :: x1 :: x2 :: x3 :: x4 :: xs) 4 K = K x4 := wIx_eq (atI_ge (i := 4) rfl)
theorem wIx5 {α : Type} {x0 x1 x2 x3 x4 x5 : α} {xs : List α} {K : α → Prop} : wIx (x0 :: x1 :: x2 :: x3 :: x4 :: x5 :: xs) 5 K = K x5 := wIx_eq (atI_ge (i := 5) rfl)
theorem wIx6 {α : Type} {x0 x1 x2 x3 x4 x5 x6 : α} {xs : List α} {K : α → Prop} : wIx (x0 :: x1 :: x2 :: x3 :: x4 :: x5 :: x6 :: xs) 6 K = K x6 := wIx_eq (atI_ge (i := 6) rfl)
theorem wIx7 {α : Type} {x0 x1 x2 x3 x4 x5 x6 x7 : α} {xs : List α} {K : α → Prop} : wIx (x0 :: x1 :: x2 :: x3 :: x4 :: x5 :: x6 :: x7 :: xs) 7 K = K x7 := wIx_eq (atI_ge (i := 7) rfl)
theorem wIx8 {α : Type} {x0 x1 x2 x3 x4 x5 x6 x7 x8 : α} {xs : List α} {K : α → Prop} : wIx (x0 :: x1 :: x2 :: x3 :: x4 :: x5 :: x6 :: x7 :: x8 :: xs) 8 K = K x8 := wIx_eq (atI_ge (i := 8) rfl)
theorem wB_eq {o : Option Slot} {b : Bool} {K : Bool → Prop} (e : o = some (.sh (.bl b))) : wB o K = K b := by
  unfold wB; rw [e, eq_iff_iff]
  exact ⟨fun ⟨b, e, h⟩ => by cases e; exact h, fun h => ⟨_, rfl, h⟩⟩
theorem wD_eq {o : Option Slot} {b : D} {K : D → Prop} (e : o = some (.sh b)) : wD o K = K b := by
  unfold wD; rw [e, eq_iff_iff]
  exact ⟨fun ⟨b, e, h⟩ => by cases e; exact h, fun h => ⟨_, rfl, h⟩⟩
theorem wI_eq {o : Option Slot} {b : Int} {K : Int → Prop} (e : o = some (.sh (.int b))) : wI o K = K b := by
  unfold wI; rw [e, eq_iff_iff]
  exact ⟨fun ⟨b, e, h⟩ => by cases e; exact h, fun h => ⟨_, rfl, h⟩⟩
theorem wJ_eq {σ : Type} {F : (σ → Prop) → Prop} {K : σ → Prop} : wJ F K = F K := rfl
theorem and_of {p q : Prop} (h : p) : (p ∧ q) = q := by rw [eq_iff_iff]; exact ⟨fun z => z.2, fun z => ⟨h, z⟩⟩
end Sep

/-! TyJ: loops over indexes as loops over items; sorted lists; tables of sums. -/
namespace Sep
open PySem L2
section
variable {α β σ τ : Type}
theorem rngZ_succ (n : Nat) : rngZ 0 ((n : Int) + 1) = rngZ 0 n ++ [(n : Int)] := by
  unfold rngZ
  rw [show ((n : Int) + 1 - 0).toNat = n + 1 by omega, show ((n : Int) - 0).toNat = n by omega, List.range_succ, List.map_append]
  simp
theorem rngZ_nil {a b : Int} (h : b ≤ a) : rngZ a b = [] := by
  unfold rngZ; rw [show (b - a).toNat = 0 by omega]; rfl
theorem rngZ_cons {a b : Int} (h : a < b) : rngZ a b = a :: rngZ (a + 1) b := by
  unfold rngZ
  obtain ⟨n, hn⟩ : ∃ n : Nat, (b - a).toNat = n + 1 := ⟨(b - a).toNat - 1, by omega⟩
  rw [hn, show (b - (a + 1)).toNat = n by omega, List.range_succ_eq_map, List.map_cons, List.map_map]
  congr 1
  · simp
  · apply List.map_congr_left
    intro i _
    simp only [Function.comp_apply, Nat.succ_eq_add_one]
    omega
theorem wFor_rng_aux {body : Int → σ → (σ → Prop) → (σ → Prop) → Prop} {body' : α → σ → (σ → Prop) → (σ → Prop) → Prop} : ∀ (zs : List α) (a : Nat) (s : σ) (K : σ → Prop), (∀ (i : Nat) x, zs[i]? = some x → ∀ s k c, body ((a + i : Nat) : Int) s k c = body' x s k c) → wFor body (rngZ a ((a + zs.length : Nat) : Int)) s K = wFor body' zs s K
  | [], a, s, K, _ => by rw [show ((a + ([] : List α).length : Nat) : Int) = (a : Int) from rfl, rngZ_nil (Int.le_refl _)]; rfl
  | z :: zs, a, s, K, h => by
    rw [rngZ_cons (by simp only [List.length_cons]; omega)]
    unfold wFor
    rw [show (a : Int) = ((a + 0 : Nat) : Int) from rfl, h 0 z rfl]
    have e : ∀ s', wFor body (rngZ (((a + 0 : Nat) : Int) + 1) ((a + (z :: zs).length : Nat) : Int)) s' K = wFor body' zs s' K := by
      intro s'
      have := wFor_rng_aux (body := body) (body' := body') zs (a + 1) s' K fun i x hx s k c => by
        have := h (i + 1) x (by simpa using hx) s k c
        rw [← this]; congr 2; omega
      rw [← this]
      congr 2
      simp only [List.length_cons]; omega
    have e2 : (fun s' => wFor body (rngZ (((a + 0 : Nat) : Int) + 1) ((a + (z :: zs).length : Nat) : Int)) s' K) = fun s' => wFor body' zs s' K := funext e
    rw [e2]
/-- a loop over the indexes of a list -/
theorem wFor_rng {body : Int → σ → (σ → Prop) → (σ → Prop) → Prop} {body' : α → σ → (σ → Prop) → (σ → Prop) → Prop} {n : Int} {zs : List α} (hn : n = zs.length) (h : ∀ (i : Nat) x, zs[i]? = some x → ∀ s k c, body (i : Int) s k c = body' x s k c) (s : σ) (K : σ → Prop) : wFor body (rngZ 0 n) s K = wFor body' zs s K := by
  have := wFor_rng_aux (body := body) (body' := body') zs 0 s K fun i x hx s k c => by rw [Nat.zero_add]; exact h i x hx s k c
  rw [Nat.zero_add] at this
  rw [hn]; exact this
theorem rngZ_fm_aux {f : Int → Option β} {g : α → Option β} : ∀ (zs : List α) (a : Nat), (∀ (i : Nat) x, zs[i]? = some x → f ((a + i : Nat) : Int) = g x) → (rngZ a ((a + zs.length : Nat) : Int)).filterMap f = zs.filterMap g
  | [], a, _ => by rw [show ((a + ([] : List α).length : Nat) : Int) = (a : Int) from rfl, rngZ_nil (Int.le_refl _)]; rfl
  | z :: zs, a, h => by
    rw [rngZ_cons (by simp only [List.length_cons]; omega), List.filterMap_cons, List.filterMap_cons]
    rw [show (a : Int) = ((a + 0 : Nat) : Int) from rfl, h 0 z rfl]
    have e : (rngZ (((a + 0 : Nat) : Int) + 1) ((a + (z :: zs).length : Nat) : Int)).filterMap f = zs.filterMap g := by
      have := rngZ_fm_aux (f := f) (g := g) zs (a + 1) fun i x hx => by
        have := h (i + 1) x (by simpa using hx)
        rw [← this]; congr 2; omega
      rw [← this]
      congr 2
      simp only [List.length_cons]; omega
    rw [e]
/-- a comprehension over the indexes of a list -/
theorem rngZ_fm {f : Int → Option β} {g : α → Option β} {n : Int} {zs : List α} (hn : n = zs.length) (h : ∀ (i : Nat) x, zs[i]? = some x → f (i : Int) = g x) : (rngZ 0 n).filterMap f = zs.filterMap g := by
  have := rngZ_fm_aux (f := f) (g := g) zs 0 fun i x hx => by rw [Nat.zero_add]; exact h i x hx
  rw [Nat.zero_add] at this
  rw [hn]; exact this
/-- a comprehension as a filterMap, by equations -/
theorem wComp_eq {body : α → (Option β → Prop) → Prop} (g : α → Option β) : ∀ (xs : List α) (K : List β → Prop), (∀ x ∈ xs, ∀ k : Option β → Prop, body x k = k (g x)) → wComp body xs K = K (xs.filterMap g)
  | [], _, _ => rfl
  | x :: xs, K, hb => by
    unfold wComp
    rw [hb x List.mem_cons_self, wComp_eq g xs _ fun y hy => hb y (List.mem_cons_of_mem _ hy), List.filterMap_cons]
    cases g x <;> rfl
/-- .. over the indexes of a list -/
theorem wComp_rng {body : Int → (Option β → Prop) → Prop} {zs : List α} (g : α → Option β) {n : Int} (hn : n = zs.length) (h : ∀ (i : Nat) x, zs[i]? = some x → ∀ k : Option β → Prop, body (i : Int) k = k (g x)) (K : List β → Prop) : wComp body (rngZ 0 n) K = K (zs.filterMap g) := by
  have e : ∀ x ∈ rngZ 0 n, ∀ k : Option β → Prop, body x k = k ((zs[x.toNat]?).bind g) := by
    intro x hx k
    have := mem_rngZ.mp hx
    obtain ⟨j, rfl⟩ : ∃ j : Nat, x = j := ⟨x.toNat, by omega⟩
    have hj : j < zs.length := by omega
    rw [h j _ (List.getElem?_eq_getElem hj), show ((j : Int)).toNat = j by omega, List.getElem?_eq_getElem hj]
    rfl
  rw [wComp_eq _ _ K e, rngZ_fm hn (g := g) fun i x hx => by rw [show ((i : Int)).toNat = i by omega, hx]; rfl]
theorem wIx_nat {xs : List α} {i : Nat} {x : α} {K : α → Prop} (e : xs[i]? = some x) : wIx xs (i : Int) K = K x := wIx_eq (atI_ge e)
/-! sorted lists -/
theorem asc_ext : ∀ {xs ys : List Int}, xs.Pairwise (· < ·) → ys.Pairwise (· < ·) → (∀ z, z ∈ xs ↔ z ∈ ys) → xs = ys
  | [], [], _, _, _ => rfl
  | [], y :: ys, _, _, h => by have := (h y).mpr List.mem_cons_self; cases this
  | x :: xs, [], _, _, h => by have := (h x).mp List.mem_cons_self; cases this
  | x :: xs, y :: ys, hx, hy, h => by
    rw [List.pairwise_cons] at hx hy
    have e : x = y := by
      rcases List.mem_cons.mp ((h x).mp List.mem_cons_self) with e | a
      · exact e
      · rcases List.mem_cons.mp ((h y).mpr List.mem_cons_self) with e | b
        · exact e.symm
        · have := hy.1 _ a; have := hx.1 _ b; omega
    subst e
    rw [asc_ext hx.2 hy.2 fun z => ?_]
    constructor
    · intro a
      rcases List.mem_cons.mp ((h z).mp (List.mem_cons_of_mem _ a)) with e | b
      · subst e; exact absurd (hx.1 _ a) (by omega)
      · exact b
    · intro a
      rcases List.mem_cons.mp ((h z).mpr (List.mem_cons_of_mem _ a)) with e | b
      · subst e; exact absurd (hy.1 _ a) (by omega)
      · exact b
theorem isort_asc {xs : List Int} (h : xs.Nodup) : (isort xs).Pairwise (· < ·) := by
  have h1 := isort_sorted xs
  have h2 : (isort xs).Nodup := (isort_perm xs).nodup_iff.mpr h
  rw [List.pairwise_iff_getElem] at *
  intro i j hi hj hij
  have a := h1 i j hi hj hij
  have b : (isort xs)[i] ≠ (isort xs)[j] := fun e => by
    have := (List.getElem_inj h2).mp e
    omega
  omega
theorem minL_sorted : ∀ {xs : List Int} {x : Int}, (∀ y ∈ xs, x ≤ y) → minL x xs = x := by
  intro xs x h
  have := minL_spec xs x
  have a := this.2 x List.mem_cons_self
  rcases List.mem_cons.mp this.1 with e | b
  · exact e
  · have := h _ b; omega
/-! tables of sums -/
def sumOf (zs : List (Int × Int)) (k : Int) : Int := (zs.filterMap fun p => if p.1 = k then some p.2 else none).sum
def keysOf (m : List (Int × α)) : List Int := m.map (·.1)
theorem mGet_cons {p : Int × α} {m : List (Int × α)} {k : Int} : mGet (p :: m) k = if p.1 = k then some p.2 else mGet m k := by
  unfold mGet
  rw [List.find?_cons]
  by_cases h : p.1 = k
  · rw [decide_eq_true h, if_pos h]; rfl
  · rw [decide_eq_false h, if_neg h]
theorem mGet_none {m : List (Int × α)} {k : Int} : mGet m k = none ↔ k ∉ keysOf m := by
  induction m with
  | nil => exact ⟨fun _ h => (nomatch h), fun _ => rfl⟩
  | cons p m ih =>
    rw [mGet_cons]
    unfold keysOf at *
    by_cases h : p.1 = k
    · rw [if_pos h]
      simp [h]
    · rw [if_neg h, ih]
      simp only [List.map_cons, List.mem_cons, not_or]
      exact ⟨fun z => ⟨fun e => h e.symm, z⟩, fun z => z.2⟩
theorem any_key {m : List (Int × α)} {k : Int} : (m.any fun p => decide (p.1 = k)) = true ↔ k ∈ keysOf m := by
  unfold keysOf
  rw [List.any_eq_true, List.mem_map]
  constructor
  · rintro ⟨p, h, e⟩; exact ⟨p, h, by simpa using e⟩
  · rintro ⟨p, h, e⟩; exact ⟨p, h, by simpa using e⟩
theorem mPut_get {m : List (Int × α)} {k : Int} {v : α} (k' : Int) : mGet (mPut m k v) k' = if k' = k then some v else mGet m k' := by
  unfold mPut
  by_cases h : k ∈ keysOf m
  · rw [if_pos (any_key.mpr h)]
    induction m with
    | nil => cases h
    | cons p m ih =>
      rw [List.map_cons, mGet_cons]
      by_cases hp : p.1 = k
      · rw [if_pos hp]
        by_cases hk : k' = k
        · subst hk; rw [if_pos rfl, if_pos hp]
        · rw [if_neg hk, if_neg (fun z => hk (by rw [← z]; exact hp)), mGet_cons, if_neg (fun z => hk (by rw [← z]; exact hp))]
          by_cases hm : k ∈ keysOf m
          · rw [ih hm, if_neg hk]
          · have : m.map (fun p => if p.1 = k then (p.1, v) else p) = m := by
              have : ∀ q ∈ m, (fun p : Int × α => if p.1 = k then (p.1, v) else p) q = id q := by
                intro q hq
                show (if q.1 = k then (q.1, v) else q) = q
                rw [if_neg fun e => hm (List.mem_map.mpr ⟨q, hq, e⟩)]
              rw [List.map_congr_left this, List.map_id]
            rw [this]
      · rw [if_neg hp]
        have hm : k ∈ keysOf m := by
          unfold keysOf at h ⊢
          rw [List.map_cons] at h
          exact (List.mem_cons.mp h).elim (fun e => absurd e.symm hp) id
        rw [ih hm, mGet_cons]
        by_cases hk : k' = k
        · rw [if_pos hk, if_pos hk, if_neg (fun z => hp (by rw [z, hk]))]
        · rw [if_neg hk, if_neg hk]
  · rw [if_neg (fun z => h (any_key.mp z))]
    induction m with
    | nil =>
      rw [List.nil_append, mGet_cons]
      by_cases hk : k' = k
      · subst hk; rfl
      · rw [if_neg hk, if_neg (fun e => hk e.symm)]
    | cons p m ih =>
      have hm : k ∉ keysOf m := fun z => h (List.mem_cons_of_mem _ z)
      have hp : p.1 ≠ k := fun z => h (by unfold keysOf; rw [List.map_cons, z]; exact List.mem_cons_self)
      rw [List.cons_append, mGet_cons, mGet_cons, ih hm]
      by_cases hk : k' = k
      · subst hk; rw [if_pos rfl, if_neg hp, if_pos rfl]
      · rw [if_neg hk, if_neg hk]
theorem mPut_keys {m : List (Int × α)} {k : Int} {v : α} : keysOf (mPut m k v) = if k ∈ keysOf m then keysOf m else keysOf m ++ [k] := by
  unfold mPut
  by_cases h : k ∈ keysOf m
  · rw [if_pos (any_key.mpr h), if_pos h]
    unfold keysOf
    rw [List.map_map]
    apply List.map_congr_left
    intro p _
    show (if p.1 = k then (p.1, v) else p).1 = p.1
    split <;> rfl
  · rw [if_neg (fun z => h (any_key.mp z)), if_neg h]
    unfold keysOf
    rw [List.map_append]; rfl
theorem mPut_nodup {m : List (Int × α)} {k : Int} {v : α} (h : (keysOf m).Nodup) : (keysOf (mPut m k v)).Nodup := by
  rw [mPut_keys]
  split
  · exact h
  · rename_i hk
    rw [List.nodup_append]
    exact ⟨h, by simp, fun a ha b hb e => by
      rw [List.mem_singleton] at hb
      subst hb e; exact hk ha⟩
theorem mPut_mem {m : List (Int × α)} {k : Int} {v : α} {z : Int} : z ∈ keysOf (mPut m k v) ↔ z = k ∨ z ∈ keysOf m := by
  rw [mPut_keys]
  split
  · rename_i hk
    exact ⟨.inr, fun h => h.elim (fun e => by rw [e]; exact hk) id⟩
  · rw [List.mem_append, List.mem_singleton]
    exact ⟨fun h => h.elim .inr .inl, fun h => h.elim .inr .inl⟩
theorem mPut_len {m : List (Int × α)} {k : Int} {v : α} : (mPut m k v).length ≤ m.length + 1 := by
  have : (keysOf (mPut m k v)).length ≤ (keysOf m).length + 1 := by
    rw [mPut_keys]
    split
    · omega
    · rw [List.length_append]; simp
  unfold keysOf at this
  rwa [List.length_map, List.length_map] at this
/-- a table of sums: what it tells of the pairs walked -/
structure Sums (m zs : List (Int × Int)) : Prop where
  nd : (keysOf m).Nodup
  mem : ∀ k, k ∈ keysOf m ↔ k ∈ keysOf zs
  get : ∀ k, k ∈ keysOf zs → mGet m k = some (sumOf zs k)
  len : m.length ≤ zs.length
theorem sumOf_app {zs : List (Int × Int)} {p : Int × Int} {k : Int} : sumOf (zs ++ [p]) k = sumOf zs k + if p.1 = k then p.2 else 0 := by
  unfold sumOf
  rw [List.filterMap_append, List.sum_append]
  congr 1
  by_cases h : p.1 = k
  · rw [if_pos h]; simp [h]
  · rw [if_neg h]; simp [h]
theorem sumOf_none {zs : List (Int × Int)} {k : Int} (h : k ∉ keysOf zs) : sumOf zs k = 0 := by
  unfold sumOf
  have : zs.filterMap (fun p => if p.1 = k then some p.2 else none) = [] := by
    rw [List.filterMap_eq_nil_iff]
    intro p hp
    rw [if_neg fun e => h (List.mem_map.mpr ⟨p, hp, e⟩)]
  rw [this]; rfl
theorem Sums.nil : Sums [] [] := ⟨List.nodup_nil, fun k => Iff.rfl, fun k h => (nomatch h), Nat.le_refl _⟩
theorem Sums.step {m zs : List (Int × Int)} (h : Sums m zs) (p : Int × Int) : Sums (mPut m p.1 (((mGet m p.1).getD 0) + p.2)) (zs ++ [p]) := by
  have ka : ∀ k, k ∈ keysOf (zs ++ [p]) ↔ k = p.1 ∨ k ∈ keysOf zs := by
    intro k
    unfold keysOf
    rw [List.map_append, List.mem_append]
    simp only [List.map_cons, List.map_nil, List.mem_singleton]
    exact ⟨fun z => z.elim .inr .inl, fun z => z.elim .inr .inl⟩
  have gd : (mGet m p.1).getD 0 = sumOf zs p.1 := by
    by_cases q : p.1 ∈ keysOf zs
    · rw [h.get _ q]; rfl
    · rw [mGet_none.mpr (fun z => q ((h.mem _).mp z)), sumOf_none q]; rfl
  refine ⟨mPut_nodup h.nd, fun k => by rw [mPut_mem, ka, h.mem], fun k hk => ?_, ?_⟩
  · rw [mPut_get, gd, sumOf_app]
    by_cases e : k = p.1
    · subst e; rw [if_pos rfl, if_pos rfl]
    · rw [if_neg e, if_neg (fun z => e z.symm), Int.add_zero]
      rcases (ka k).mp hk with z | z
      · exact absurd z e
      · exact h.get k z
  · have := mPut_len (m := m) (k := p.1) (v := ((mGet m p.1).getD 0) + p.2)
    have := h.len
    rw [List.length_append]
    simp only [List.length_cons, List.length_nil]
    omega
end
end Sep

/-! SepHk: what the run has laid, the interpreter's statics with it -/
namespace Sep
open PySem
def obsC (n : Nat) (fa : List He.Fa) (fn : List He5.DefA) (ex : PySem.W.Frag → Bool) (g : Addr → Option Obj) : He.AlD × Bool := (He5.obsA fa fn (He.frT g (He.asD g n ++ [cStatics])), ex (He.frT g (He.asD g n ++ [cStatics])))
def hookC (n : Nat) (fa : List He.Fa) (fn : List He5.DefA) (ex : PySem.W.Frag → Bool) : PySem.W.Hook where
  α := He.AlD × Bool
  obs := fun s => obsC n fa fn ex s.heap.get?
  val := fun _ => (He5.valA fn, true)
  says := fun _ h => ∃ K : PySem.W.Frag, K.In h ∧ (He5.SaysA fa fn K ∧ ex K = true)
  of := fun _ _ e => ⟨_, He.frT_in, congrArg (fun z : He.AlD × Bool => z.1) e, congrArg (fun z : He.AlD × Bool => z.2) e⟩
  keeps := fun _ _ _ ⟨K, hK, c⟩ k => ⟨K, PySem.W.Frag.In.keeps hK k, c⟩
theorem obsC_eq {n : Nat} {fa : List He.Fa} {fn : List He5.DefA} {ex : PySem.W.Frag → Bool} {g : Addr → Option Obj} {s : Shared} (h : ∀ a, g a = s.heap.get? a) : obsC n fa fn ex g = (hookC n fa fn ex).obs s := by
  have e : g = s.heap.get? := funext h
  rw [e] <;> rfl
end Sep

/-! k89: veils, what each def computes -/
namespace Lw
open PySem L2 Sep LwB
abbrev PL := List (Int × Int)
def limE (ls : List Int) : Er :=
  if 8 < (ls.length : Int) then some (.BadCount, [.int ls.length])
  else (ls.findSome? fun x => if x < 0 then some (Cl.BadCount, [D.int x]) else none).or
    ((ls.zip (cutD ls (some 1) none)).findSome? fun p => if p.2 ≤ p.1 then some (Cl.BadSpan, [D.int p.2, D.int p.1]) else none)
def lagE (ds : PL) : Er :=
  if ¬ (1 ≤ (ds.length : Int) ∧ (ds.length : Int) ≤ 6) then some (.BadCount, [.int ds.length])
  else ds.findSome? fun p => if p.1 < 0 then some (.BadCount, [.int p.1]) else if p.2 < 1 then some (.BadCount, [.int p.2]) else none
theorem e_check_limits (ls : List Int) (Q : Unit → Prop) (E : EP) : W__check_limits ls Q E = wE (limE ls) (Q ()) E := by
  unfold W__check_limits limE
  by_cases h : 8 < (ls.length : Int)
  · simp only [h, decide_true, if_true, wE_some]
  · simp only [h, decide_false, Bool.false_eq_true, if_false, wE_or]
    rw [wFor_err (f := fun x => if x < 0 then some (Cl.BadCount, [D.int x]) else none) (E := E)]
    · congr 1
      rw [wFor_err (f := fun p : Int × Int => if p.2 ≤ p.1 then some (Cl.BadSpan, [D.int p.2, D.int p.1]) else none) (E := E)]
      intro x k c
      by_cases h : x.2 ≤ x.1 <;> simp [h, wE]
    · intro x k c
      by_cases h : x < 0 <;> simp [h, wE]
theorem e_check_delays (ds : LoT (Int × Int)) (Q : Unit → Prop) (E : EP) : W__check_delays ds Q E = wE (lagE ds.xs) (Q ()) E := by
  unfold W__check_delays lagE
  by_cases h : 1 ≤ (ds.xs.length : Int) ∧ (ds.xs.length : Int) ≤ 6
  · rw [if_neg (by simp [h]), if_neg (fun z => z h)]
    rw [wFor_err (f := fun p : Int × Int => if p.1 < 0 then some (Cl.BadCount, [D.int p.1]) else if p.2 < 1 then some (Cl.BadCount, [D.int p.2]) else none) (E := E)]
    intro x k c
    by_cases h : x.1 < 0 <;> by_cases h2 : x.2 < 1 <;> simp [h, h2, wE]
  · rw [if_pos (by simp only [Bool.not_eq_true, Bool.not_eq_false', Bool.and_eq_true, decide_eq_true_eq, Bool.not_eq_true']; simpa using h), if_pos h]; rfl
theorem lagE_len {ds : PL} (h : lagE ds = none) : 1 ≤ ds.length ∧ ds.length ≤ 6 := by
  unfold lagE at h
  split at h
  · cases h
  · omega
theorem map_pair {ds : PL} : ds.map (fun x => (x.1, x.2)) = ds := by
  induction ds with
  | nil => rfl
  | cons x xs ih => rw [List.map_cons, ih]
theorem e_init (ds : LoT (Int × Int)) (ls : List Int) (Q : V_Veil → Prop) (E : EP) : W_Veil___init__ ds ls Q E = wE ((limE ls).or (lagE ds.xs)) (Q ⟨ls, ds.xs⟩) E := by
  unfold W_Veil___init__
  rw [e_check_limits, wE_or, e_check_delays, map_pair]
  congr 1
  cases h : lagE ds.xs with
  | none =>
    have := lagE_len h
    show (_ ∧ _) = Q _
    rw [eq_iff_iff]
    exact ⟨fun z => z.2, fun z => ⟨by show ds.xs.length ≤ 16777216; omega, z⟩⟩
  | some e => rfl
theorem e_law_veil (ls : List Int) (ds : LoT (Int × Int)) (hl : ls.length ≤ 5 ∨ ls.length = 8) (Q : V_Veil → Prop) (E : EP) : W__law_veil ls ds Q E = wE ((limE ls).or (lagE ds.xs)) (Q ⟨ls, ds.xs⟩) E := by
  rw [← e_init]
  unfold W__law_veil
  have g : ls = [] ∨ (∃ a, ls = [a]) ∨ (∃ a b, ls = [a, b]) ∨ (∃ a b c, ls = [a, b, c]) ∨ (∃ a b c d, ls = [a, b, c, d]) ∨ (∃ a b c d e, ls = [a, b, c, d, e]) ∨ (∃ a b c d e f g h, ls = [a, b, c, d, e, f, g, h]) := by
    match ls, hl with
    | [], _ => simp
    | [a], _ => simp
    | [a, b], _ => simp
    | [a, b, c], _ => simp
    | [a, b, c, d], _ => simp
    | [a, b, c, d, e], _ => simp
    | [a, b, c, d, e, f], q => simp at q
    | [a, b, c, d, e, f, g], q => simp at q
    | [a, b, c, d, e, f, g, h], _ => simp
    | a :: b :: c :: d :: e :: f :: g :: h :: i :: _, q => simp at q
  rcases g with rfl | ⟨a, rfl⟩ | ⟨a, b, rfl⟩ | ⟨a, b, c, rfl⟩ | ⟨a, b, c, d, rfl⟩ | ⟨a, b, c, d, e, rfl⟩ | ⟨a, b, c, d, e, f, g, h, rfl⟩
  all_goals simp only [List.length_cons, List.length_nil, Nat.reduceAdd, Int.cast_ofNat_Int, Int.reduceBEq, if_true, Bool.false_eq_true, if_false, wIx0, wIx1, wIx2, wIx3, wIx4, wIx5, wIx6, wIx7, wIx8]
  · rw [show cutD [a, b, c, d, e] none (some 4) = [a, b, c, d] from rfl]
    simp only [wIx0, wIx1, wIx2, wIx3]
end Lw

namespace Lw
open PySem L2 Sep LwB
/-- good limits and delays -/
structure OkV (ls : List Int) (ds : PL) : Prop where
  len : ls.length ≤ 8
  asc : ls.Pairwise (· < ·)
  nn : ∀ l ∈ ls, 0 ≤ l
  d1 : 1 ≤ ds.length
  d6 : ds.length ≤ 6
  tk : ∀ p ∈ ds, 0 ≤ p.1
  sh : ∀ p ∈ ds, 1 ≤ p.2
theorem zip_tail : ∀ {ls : List Int}, ls.Pairwise (· < ·) → ∀ p ∈ ls.zip (ls.drop 1), p.1 < p.2
  | [], _, p, hp => nomatch hp
  | [a], _, p, hp => nomatch hp
  | a :: b :: r, h, p, hp => by
    rw [List.pairwise_cons] at h
    rcases List.mem_cons.mp (show p ∈ (a, b) :: (b :: r).zip r from hp) with e | hp
    · subst e; exact h.1 b List.mem_cons_self
    · exact zip_tail h.2 p hp
theorem cut1 {α : Type} (xs : List α) : cutD xs (some 1) none = xs.drop 1 := by
  cases xs with
  | nil => rfl
  | cons x xs =>
    have e1 : HT.sIx (x :: xs).length 0 (some 1) = 1 := by
      simp [HT.sIx]
    unfold cutD
    rw [e1]
    apply List.take_of_length_le
    simp [HT.sIx]
theorem OkV.lim {ls : List Int} {ds : PL} (o : OkV ls ds) : limE ls = none := by
  unfold limE
  rw [if_neg (by have := o.len; omega), Option.or_eq_none_iff]
  constructor
  · rw [List.findSome?_eq_none_iff]
    intro x hx
    rw [if_neg (by have := o.nn x hx; omega)]
  · rw [List.findSome?_eq_none_iff, cut1]
    intro p hp
    rw [if_neg (by have := zip_tail o.asc p hp; omega)]
theorem OkV.lag {ls : List Int} {ds : PL} (o : OkV ls ds) : lagE ds = none := by
  unfold lagE
  rw [if_neg (by have := o.d1; have := o.d6; omega), List.findSome?_eq_none_iff]
  intro x hx
  rw [if_neg (by have := o.tk x hx; omega), if_neg (by have := o.sh x hx; omega)]
def rnd (ls : List Int) (t : Int) : Int := if ls = [] then t else (ls.find? fun l => decide (t ≤ l)).getD (-1)
def tot (ds : PL) : Int := (ds.map (·.2)).sum
def dly : PL → Int → Int
  | [], _ => 0
  | p :: r, k => if k < p.2 then p.1 else dly r (k - p.2)
theorem map_id' {α : Type} (xs : List α) : xs.map (fun x => x) = xs := List.map_id xs
theorem minDf_asc {ls : List Int} (h : ls.Pairwise (· < ·)) (c : Int) : minDf c ls = ls.head?.getD c := by
  cases ls with
  | nil => rfl
  | cons x xs =>
    rw [List.pairwise_cons] at h
    exact minL_sorted fun y hy => by have := h.1 y hy; omega
theorem gdi (xs : List Int) : ∀ x ∈ xs, gd 0 (D.int x) = true := fun x _ => gd_int 0 x
theorem LIM_eq : LIM = 16777216 := rfl
section
variable {ls : List Int} {ds : PL} (o : OkV ls ds)
include o
theorem e_rounded (t : Int) (Q : Int → Prop) (E : EP) : W_Veil_rounded ⟨ls, ds⟩ t Q E = Q (rnd ls t) := by
  unfold W_Veil_rounded rnd
  show wB (gEq (eT D.int ls) (eT eU [])) _ = _
  have e : ∀ K : Bool → Prop, wB (gEq (eT D.int ls) (eT eU [])) K = K ls.isEmpty := by
    intro K; unfold wB; rw [eq_nilT (gdi ls), eq_iff_iff]
    exact ⟨fun ⟨b, e, h⟩ => by cases e; exact h, fun h => ⟨_, rfl, h⟩⟩
  rw [e]
  cases ls with
  | nil => rfl
  | cons x xs =>
    simp only [List.isEmpty_cons, Bool.false_eq_true, if_false, reduceCtorEq]
    rw [map_id', minDf_asc (o.asc.filter _), find_filter, eq_iff_iff]
    exact ⟨fun h => h.2, fun h => ⟨by have := o.len; rw [LIM_eq]; omega, h⟩⟩
theorem e_law_rounded (t : Int) (Q : Int → Prop) (E : EP) : W__law_rounded ls t Q E = Q (rnd ls t) := by
  unfold W__law_rounded rnd
  simp only [wJ]
  have e : ∀ K : Bool → Prop, wB (gEq (eL D.int ls) (eL eU [])) K = K ls.isEmpty := by
    intro K; unfold wB; rw [eq_nilL (gdi ls), eq_iff_iff]
    exact ⟨fun ⟨b, e, h⟩ => by cases e; exact h, fun h => ⟨_, rfl, h⟩⟩
  have e2 : ∀ K : Bool → Prop, wB (gNe (eL D.int ((ls.filter fun x => decide (t ≤ x)).map fun x => x)) (eL eU [])) K = K (!(ls.filter fun x => decide (t ≤ x)).isEmpty) := by
    intro K; unfold wB; rw [ne_nilL (gdi _), eq_iff_iff, map_id']
    exact ⟨fun ⟨b, e, h⟩ => by cases e; exact h, fun h => ⟨_, rfl, h⟩⟩
  have hl : ls.length ≤ LIM := by have := o.len; rw [LIM_eq]; omega
  rw [eq_iff_iff]
  refine Iff.trans ⟨fun h => h.2, fun h => ⟨hl, h⟩⟩ ?_
  rw [e, e2, map_id']
  cases hls : ls with
  | nil => exact Iff.rfl
  | cons x xs =>
    rw [← hls]
    have e0 : ls.isEmpty = false := by rw [hls]; rfl
    have e1 : ¬ ls = [] := by rw [hls]; simp
    rw [e0, if_neg (by simp), if_neg e1, ← find_filter]
    cases hf : ls.filter fun x => decide (t ≤ x) with
    | nil => exact Iff.rfl
    | cons y ys => rw [if_pos (by rfl), wIx0]; exact Iff.rfl
theorem e_lots (Q : Int → Prop) (E : EP) : W_Veil_lots ⟨ls, ds⟩ Q E = Q (tot ds) := by
  unfold W_Veil_lots
  rw [eq_iff_iff]
  exact ⟨fun h => h.2, fun h => ⟨by have := o.d6; rw [LIM_eq]; show ds.length ≤ _; omega, h⟩⟩
theorem e_dloop {Q : Int → Prop} : ∀ (xs : PL) (k : Int), wFor (fun (x8 : (Int × Int)) (s7 : Int) k9 k12 => if (decide (s7 < x8.2)) = true then Q x8.1 else k9 (s7 - x8.2)) xs k (fun _ => Q 0) = Q (dly xs k)
  | [], k => rfl
  | x :: xs, k => by
    unfold wFor dly
    by_cases h : k < x.2
    · simp only [h, decide_true, if_true]
    · simp only [h, decide_false, Bool.false_eq_true, if_false]; exact e_dloop xs _
theorem e_delay (k : Int) (Q : Int → Prop) (E : EP) : W_Veil_delay ⟨ls, ds⟩ k Q E = if 0 ≤ k ∧ k < tot ds then Q (dly ds k) else E .BadLot [.int k] := by
  unfold W_Veil_delay
  simp only [wJ]
  rw [e_lots o]
  by_cases h : 0 ≤ k
  · by_cases h2 : k < tot ds
    · simp only [h, h2, decide_true, if_true, and_self, Bool.not_true, Bool.false_eq_true, if_false]; exact e_dloop o _ _
    · simp only [h, h2, decide_true, decide_false, if_true, and_false, Bool.not_false, if_false]
  · simp only [h, decide_false, Bool.false_eq_true, if_false, false_and, Bool.not_false, if_true]
theorem e_shown (t k : Int) (Q : Int → Prop) (E : EP) : W_Veil_shown ⟨ls, ds⟩ t k Q E = if t < 0 then E .BadCount [.int t] else if 0 ≤ k ∧ k < tot ds then Q (rnd ls (t + dly ds k)) else E .BadLot [.int k] := by
  unfold W_Veil_shown
  rw [e_delay o]
  simp only [e_rounded o, decide_eq_true_eq]
abbrev vw (ls : List Int) (ds : PL) (t : Int) : List Int := ds.map fun p => rnd ls (t + p.1)
theorem e_view (t : Int) (Q : List Int → Prop) (E : EP) : W_Veil_view ⟨ls, ds⟩ t Q E = if t < 0 then E .BadCount [.int t] else Q (vw ls ds t) := by
  unfold W_Veil_view
  simp only [decide_eq_true_eq]
  congr 1
  rw [wComp_eq (fun p => some (rnd ls (t + p.1))) _ _ (fun x _ k => e_rounded o _ _ _), List.filterMap_eq_map', eq_iff_iff]
  exact ⟨fun h => h.2, fun h => ⟨by have := o.d6; rw [LIM_eq]; show ds.length ≤ _; omega, h⟩⟩
/-- what may be seen, with the numbers of lots -/
def odz (xs : List Int) (ds : PL) : List (Int × Int) := (xs.zip ds).map fun q => (q.1, q.2.2)
def uq (xs : List Int) : List Int := xs.foldl (fun a v => if a.getLast? = some v then a else a ++ [v]) []
def odds (zs : List (Int × Int)) : List (Int × Int) := (uq (isort (keysOf zs))).map fun k => (k, sumOf zs k)
end
theorem uq_aux : ∀ (xs a : List Int), a.Pairwise (· < ·) → (∀ x ∈ a, ∀ y ∈ xs, x ≤ y) → xs.Pairwise (· ≤ ·) →
    (xs.foldl (fun a v => if a.getLast? = some v then a else a ++ [v]) a).Pairwise (· < ·) ∧ ∀ z, z ∈ xs.foldl (fun a v => if a.getLast? = some v then a else a ++ [v]) a ↔ z ∈ a ∨ z ∈ xs
  | [], a, h, _, _ => ⟨h, fun z => by simp⟩
  | x :: xs, a, h, hx, hs => by
    rw [List.foldl_cons]
    rw [List.pairwise_cons] at hs
    by_cases q : a.getLast? = some x
    · rw [if_pos q]
      obtain ⟨g1, g2⟩ := uq_aux xs a h (fun y hy z hz => hx y hy z (List.mem_cons_of_mem _ hz)) hs.2
      refine ⟨g1, fun z => ?_⟩
      rw [g2, List.mem_cons]
      have := List.mem_of_getLast? q
      exact ⟨fun t => t.elim .inl fun u => .inr (.inr u), fun t => t.elim .inl fun u => u.elim (fun e => .inl (by rw [e]; exact this)) .inr⟩
    · rw [if_neg q]
      have lt : ∀ y ∈ a, y < x := by
        intro y hy
        have l1 := hx y hy x List.mem_cons_self
        by_cases e : y = x
        · exfalso
          subst e
          apply q
          cases hl : a.getLast? with
          | none => rw [List.getLast?_eq_none_iff] at hl; rw [hl] at hy; cases hy
          | some w =>
            have hw := List.mem_of_getLast? hl
            have l2 := hx w hw y List.mem_cons_self
            obtain ⟨b, rfl⟩ : ∃ b, a = b ++ [w] := ⟨a.dropLast, by rw [List.getLast?_eq_some_iff] at hl; obtain ⟨b, e⟩ := hl; rw [e]; simp⟩
            rw [List.pairwise_append] at h
            rcases List.mem_append.mp hy with hy | hy
            · have := h.2.2 y hy w List.mem_cons_self
              congr 1; omega
            · rw [List.mem_singleton] at hy; rw [hy]
        · omega
      obtain ⟨g1, g2⟩ := uq_aux xs (a ++ [x]) (by
        rw [List.pairwise_append]
        refine ⟨h, by simp, fun y hy z hz => ?_⟩
        rw [List.mem_singleton] at hz; rw [hz]; exact lt y hy) (fun y hy z hz => by
        rcases List.mem_append.mp hy with hy | hy
        · exact hx y hy z (List.mem_cons_of_mem _ hz)
        · rw [List.mem_singleton] at hy; rw [hy]; exact hs.1 z hz) hs.2
      refine ⟨g1, fun z => ?_⟩
      rw [g2, List.mem_append, List.mem_singleton, List.mem_cons, or_assoc]
theorem uq_isort {xs ks : List Int} (hn : ks.Nodup) (h : ∀ z, z ∈ ks ↔ z ∈ xs) : isort ks = uq (isort xs) := by
  have g := uq_aux (isort xs) [] List.Pairwise.nil (fun _ h => nomatch h) (isort_sorted xs)
  refine asc_ext (isort_asc hn) g.1 fun z => ?_
  rw [show (z ∈ uq (isort xs) ↔ _) from g.2 z, mem_isort, mem_isort, h]
  simp
section
variable {ls : List Int} {ds : PL} (o : OkV ls ds)
include o
theorem e_odds (t : Int) (Q : List (Int × Int) → Prop) (E : EP) (h : if t < 0 then E .BadCount [.int t] else Q (odds (odz (vw ls ds t) ds))) : W_Veil_odds ⟨ls, ds⟩ t Q E := by
  unfold W_Veil_odds
  rw [e_view o]
  split
  · rename_i c; rwa [if_pos c] at h
  · rename_i c
    rw [if_neg c] at h
    generalize hz : (vw ls ds t).zip ds = zs
    have hzl : zs.length ≤ 6 := by rw [← hz, List.length_zip]; have := o.d6; omega
    refine wFor_pre (fun pre (s : List (Int × Int)) => Sums s (pre.map fun q => (q.1, q.2.2))) (fun pre x post e s k hs hk => ⟨?_, hk _ ?_⟩) (fun s hs => ?_) Sums.nil
    · have hl := hs.len
      rw [List.length_map] at hl
      have e1 : (zs.map fun q : Int × Int × Int => (q.1, q.2.2)) = odz (vw ls ds t) ds := by unfold odz; rw [hz]
      rw [e1] at hs
      refine ⟨by rw [List.length_map, LIM_eq]; omega, by rw [len_isort, List.length_map, List.length_map, LIM_eq]; omega, ?_⟩
      rw [map_id']
      rw [show s.map (·.1) = keysOf s from rfl, uq_isort (xs := keysOf (odz (vw ls ds t) ds)) hs.nd hs.mem]
      refine wComp_map (fun k => (k, sumOf (odz (vw ls ds t) ds) k)) _ (fun x hx k hk => ⟨_, hs.get x ?_, hk⟩) h
      have hu : ∀ z, z ∈ uq (isort (keysOf (odz (vw ls ds t) ds))) ↔ z ∈ isort (keysOf (odz (vw ls ds t) ds)) := fun z => by
        have := (uq_aux (isort (keysOf (odz (vw ls ds t) ds))) [] List.Pairwise.nil (fun _ h => nomatch h) (isort_sorted _)).2 z
        simpa [uq] using this
      exact mem_isort.mp ((hu x).mp hx)
    · have := hs.len
      have hp : pre.length ≤ 6 := by have := congrArg List.length e; rw [List.length_append] at this; omega
      rw [List.length_map] at this; rw [LIM_eq]; omega
    · rw [List.map_append]; exact hs.step (x.1, x.2.2)
end
end Lw

namespace Lw
open PySem L2 Sep LwB
/-- a number, or a span that is turned -/
abbrev VE := Int × Option Int
def toE : VE → Cl × List D
  | (n, none) => (.BadCount, [.int n])
  | (a, some b) => (.BadSpan, [.int b, .int a])
def dueD : Option VE → D
  | none => .tup [.str "none"]
  | some (n, none) => .tup [.str "count", .int n]
  | some (a, some b) => .tup [.str "span", .int a, .int b]
def limV (ls : List Int) : Option VE :=
  if 8 < (ls.length : Int) then some (ls.length, none)
  else (ls.findSome? fun x => if x < 0 then some (x, none) else none).or
    ((ls.zip (cutD ls (some 1) none)).findSome? fun p => if p.2 ≤ p.1 then some (p.1, some p.2) else none)
def lagV (ds : PL) : Option VE :=
  if ¬ (1 ≤ (ds.length : Int) ∧ (ds.length : Int) ≤ 6) then some (ds.length, none)
  else ds.findSome? fun p => if p.1 < 0 then some (p.1, none) else if p.2 < 1 then some (p.2, none) else none
theorem fs_map {α β γ : Type} {f : α → Option β} {f' : α → Option γ} {g : β → γ} (h : ∀ x, f' x = (f x).map g) : ∀ xs : List α, xs.findSome? f' = (xs.findSome? f).map g
  | [] => rfl
  | x :: xs => by
    rw [List.findSome?_cons, List.findSome?_cons, h]
    cases f x with
    | none => exact fs_map h xs
    | some y => rfl
theorem limE_V (ls : List Int) : limE ls = (limV ls).map toE := by
  unfold limE limV
  split
  · rfl
  · rw [fs_map (f := fun x : Int => if x < 0 then some ((x, none) : VE) else none) (g := toE) (fun x => by split <;> rfl),
      fs_map (f := fun p : Int × Int => if p.2 ≤ p.1 then some ((p.1, some p.2) : VE) else none) (g := toE) (fun x => by split <;> rfl)]
    rw [Option.map_or]
theorem lagE_V (ds : PL) : lagE ds = (lagV ds).map toE := by
  unfold lagE lagV
  split
  · rfl
  · rw [fs_map (f := fun p : Int × Int => if p.1 < 0 then some ((p.1, none) : VE) else if p.2 < 1 then some (p.2, none) else none) (g := toE) (fun x => by
      split
      · rfl
      · split <;> rfl)]
theorem E_V (ls : List Int) (ds : PL) : (limE ls).or (lagE ds) = ((limV ls).or (lagV ds)).map toE := by rw [limE_V, lagE_V, Option.map_or]
theorem gd_due (e : Option VE) : gd 1 (dueD e) = true := by
  rcases e with _ | ⟨a, _ | b⟩
  · decide +kernel
  · simp only [dueD, gd, gds, Bool.and_self, Bool.and_true]; decide +kernel
  · simp only [dueD, gd, gds, Bool.and_self, Bool.and_true]; decide +kernel
theorem wE_due {o : Option VE} {Q : D → Prop} {K : Prop} (hk : K = Q (dueD none)) : wE (o.map toE) K (fun k ds => (k = .BadCount ∧ wX1 ds (fun d1 => Q ((eP2 D.str eD) (("count" : Str), d1)))) ∨ (k = .BadSpan ∧ wX2 ds (fun d2 d3 => Q ((eP3 D.str eD eD) (("span" : Str), d3, d2))))) = Q (dueD o) := by
  rcases o with _ | ⟨a, _ | b⟩
  · exact hk
  · show (_ ∨ _) = _
    rw [eq_iff_iff]
    constructor
    · rintro (⟨_, b, e, h⟩ | ⟨z, _⟩)
      · cases e; exact h
      · cases z
    · exact fun h => .inl ⟨rfl, _, rfl, h⟩
  · show (_ ∨ _) = _
    rw [eq_iff_iff]
    constructor
    · rintro (⟨z, _⟩ | ⟨_, b, c, e, h⟩)
      · cases z
      · cases e; exact h
    · exact fun h => .inr ⟨rfl, _, _, rfl, h⟩
theorem e_tried (ls : List Int) (ds : PL) (hl : ls.length ≤ 5 ∨ ls.length = 8 ∨ ls.length = 9) (Q : D → Prop) (E : EP) : W__law_tried ls ds Q E = Q (dueD ((limV ls).or (lagV ds))) := by
  unfold W__law_tried
  simp only [wJ]
  by_cases h : ls.length = 9
  · rw [if_pos (by rw [h]; rfl)]
    match ls, h with
    | [a, b, c, d, e, f, g, i, j], _ =>
      simp only [wIx0, wIx1, wIx2, wIx3, wIx4, wIx5, wIx6, wIx7, wIx8]
      rw [e_init]
      rw [E_V]; exact wE_due rfl
  · rw [if_neg (by simp only [beq_iff_eq]; omega), e_law_veil _ _ (by omega)]
    rw [E_V]; exact wE_due rfl
theorem fs_filter {α β : Type} {p : α → Prop} [DecidablePred p] {g : α → β} : ∀ xs : List α, (xs.findSome? fun x => if p x then some (g x) else none) = ((xs.filter fun x => decide (p x)).head?).map g
  | [] => rfl
  | x :: xs => by
    rw [List.findSome?_cons, List.filter_cons]
    by_cases h : p x
    · rw [if_pos h, if_pos (decide_eq_true h)]; rfl
    · rw [if_neg h, if_neg (by simpa using h)]; exact fs_filter xs
theorem e_pairs {ls : List Int} {ds : PL} {Q : D → Prop} {K : Prop} (hl : ls.length ≤ 1000) : (rOk ((ls.length : Int) - 1) ∧ wFor (fun (x9 : Int) (s8 : Unit) k10 k12 => wIx ls x9 (fun (x13 : Int) => wIx ls (x9 + 1) (fun (x14 : Int) => if (decide (x14 ≤ x13)) = true then wIx ls x9 (fun (x16 : Int) => wIx ls (x9 + 1) (fun (x17 : Int) => Q ((eP3 D.str D.int D.int) (("span" : Str), x16, x17)))) else k10 ()))) (rngZ 0 ((ls.length : Int) - 1)) () (fun _ => K)) =
    match ((ls.zip (ls.drop 1)).findSome? fun p => if p.2 ≤ p.1 then some ((p.1, some p.2) : VE) else none) with | none => K | some e => Q (dueD (some e)) := by
  rw [and_of (rOk_i (by omega) (by omega))]
  cases hls : ls with
  | nil => rfl
  | cons z zs =>
    rw [← hls]
    have hn : ((ls.length : Int) - 1) = ((ls.zip (ls.drop 1)).length : Nat) := by
      rw [List.length_zip, List.length_drop, hls, List.length_cons]; omega
    rw [wFor_rng (body' := fun (p : Int × Int) (_ : Unit) (k : Unit → Prop) (_ : Unit → Prop) => if p.2 ≤ p.1 then Q (.tup [.str "span", .int p.1, .int p.2]) else k ()) hn]
    · rw [wFor_ans (f := fun p : Int × Int => if p.2 ≤ p.1 then some ((p.1, some p.2) : VE) else none) (A := fun e => Q (dueD (some e)))]
      · cases (List.findSome? (fun p : Int × Int => if p.2 ≤ p.1 then some ((p.1, some p.2) : VE) else none) (ls.zip (ls.drop 1))) <;> rfl
      · intro x k c
        by_cases h : x.2 ≤ x.1 <;> simp [h, dueD]
    · intro i x hx s k c
      rw [List.getElem?_zip_eq_some] at hx
      have h2 : ls[i + 1]? = some x.2 := by
        have := hx.2
        rwa [List.getElem?_drop, Nat.add_comm] at this
      rw [show ((i : Int) + 1) = ((i + 1 : Nat) : Int) by omega]
      simp only [wIx_nat hx.1, wIx_nat h2, decide_eq_true_eq]
theorem e_due (ls : List Int) (ds : PL) (hl : ls.length ≤ 1000) (Q : D → Prop) (E : EP) : W__law_due ls ds Q E = Q (dueD ((limV ls).or (lagV ds))) := by
  unfold W__law_due limV
  by_cases h : 8 < (ls.length : Int)
  · simp only [h, decide_true, if_true]; rfl
  · simp only [h, decide_false, Bool.false_eq_true, if_false]
    rw [and_of (by rw [LIM_eq]; omega), wB_eq (ne_nilL (gdi _)), map_id', fs_filter]
    cases hf : ls.filter fun x => decide (x < 0) with
    | cons y ys => rw [if_pos (by rfl), wIx0]; rfl
    | nil =>
      rw [if_neg (by simp)]
      have := e_pairs (ds := ds) (Q := Q) (K := Q (dueD (lagV ds))) hl
      rw [cut1]
      simp only [List.head?_nil, Option.map_none, Option.none_or]
      refine Eq.trans ?_ (this.trans ?_)
      · congr 2
        funext u
        unfold lagV
        by_cases h : 1 ≤ (ds.length : Int) ∧ (ds.length : Int) ≤ 6
        · rw [if_neg (by simp [h]), if_neg (fun z => z h)]
          rw [wFor_ans (f := fun p : Int × Int => if p.1 < 0 then some ((p.1, none) : VE) else if p.2 < 1 then some (p.2, none) else none) (A := fun e => Q (dueD (some e)))]
          · cases (ds.findSome? fun p : Int × Int => if p.1 < 0 then some ((p.1, none) : VE) else if p.2 < 1 then some (p.2, none) else none) <;> rfl
          · intro x k c
            by_cases h : x.1 < 0 <;> by_cases h2 : x.2 < 1 <;> simp [h, h2, dueD]
        · rw [if_pos (by simp only [Bool.not_eq_true, Bool.not_eq_false', Bool.and_eq_true, decide_eq_true_eq, Bool.not_eq_true']; simpa using h), if_pos h]; rfl
      · cases ((ls.zip (ls.drop 1)).findSome? fun p => if p.2 ≤ p.1 then some ((p.1, some p.2) : VE) else none) <;> rfl
end Lw

namespace Lw
open PySem L2 Sep LwB
theorem tot_app (a b : PL) : tot (a ++ b) = tot a + tot b := by unfold tot; rw [List.map_append, List.sum_append]
theorem tot_nn : ∀ {a : PL}, (∀ p ∈ a, 1 ≤ p.2) → 0 ≤ tot a
  | [], _ => Int.le_refl 0
  | p :: a, h => by
    have := tot_nn fun q hq => h q (List.mem_cons_of_mem _ hq)
    have := h p List.mem_cons_self
    show 0 ≤ ((p :: a).map (·.2)).sum
    rw [List.map_cons, List.sum_cons]; unfold tot at *; omega
theorem tot_cons (p : Int × Int) (a : PL) : tot (p :: a) = p.2 + tot a := by unfold tot; rw [List.map_cons, List.sum_cons]
theorem dly_at : ∀ (pre : PL) {p : Int × Int} {post : PL} {j : Int}, (∀ q ∈ pre, 1 ≤ q.2) → 0 ≤ j → j < p.2 → dly (pre ++ p :: post) (tot pre + j) = p.1
  | [], p, post, j, _, h0, h1 => by
    show dly (p :: post) (0 + j) = p.1
    unfold dly; rw [if_pos (by omega)]
  | q :: pre, p, post, j, h, h0, h1 => by
    have hq := h q List.mem_cons_self
    have hp := tot_nn fun q hq => h q (List.mem_cons_of_mem _ hq)
    rw [List.cons_append, tot_cons]
    unfold dly
    rw [if_neg (by omega), show q.2 + tot pre + j - q.2 = tot pre + j by omega]
    exact dly_at pre (fun q hq => h q (List.mem_cons_of_mem _ hq)) h0 h1
theorem uq_app (xs : List Int) (v : Int) : uq (xs ++ [v]) = if (uq xs).getLast? = some v then uq xs else uq xs ++ [v] := by
  unfold uq; rw [List.foldl_append]; rfl
theorem uq_len : ∀ (xs a : List Int), (xs.foldl (fun a v => if a.getLast? = some v then a else a ++ [v]) a).length ≤ a.length + xs.length
  | [], a => by simp
  | x :: xs, a => by
    rw [List.foldl_cons]
    have := uq_len xs (if a.getLast? = some x then a else a ++ [x])
    refine Nat.le_trans this ?_
    split <;> simp <;> omega
theorem plain_ints (n : Nat) (xs : List Int) (h : xs.length < 16777216) : plainM (n + 1) (eT D.int xs) = true := plain_T h fun x _ => plain_int n x
theorem plain_pairsT (n : Nat) (xs : PL) (h : xs.length < 16777216) : plainM (n + 2) (eT (eP2 D.int D.int) xs) = true := plain_T h fun x _ => plain_P2 (plain_int _ _) (plain_int _ _)
theorem plain_pairsL (n : Nat) (xs : PL) (h : xs.length < 16777216) : plainM (n + 2) (eL (eP2 D.int D.int) xs) = true := plain_L h fun x _ => plain_P2 (plain_int _ _) (plain_int _ _)
theorem last_ge {α : Type} {xs : List α} {x : α} (h : xs.getLast? = some x) : atI xs ((xs.length : Int) - 1) = some x := by
  have hl : 0 < xs.length := by
    cases xs with
    | nil => cases h
    | cons => simp
  rw [show ((xs.length : Int) - 1) = ((xs.length - 1 : Nat) : Int) by omega]
  apply atI_ge
  rw [← h, List.getLast?_eq_getElem?]
section
variable {ls : List Int} {ds : PL} (o : OkV ls ds)
include o
theorem r_shown_neg {t n : Int} {Q : D → Prop} {E : EP} (ht : t < 0) (h : Q (.tup [.str "count", .int t])) : W__law_asked ⟨ls, ds⟩ 0 t n Q E := by
  unfold W__law_asked
  refine to_t (by decide) ?_
  rw [e_shown o, if_pos ht]
  exact .inl ⟨rfl, _, rfl, h⟩
theorem r_shown_lot {t n : Int} {Q : D → Prop} {E : EP} (ht : ¬ t < 0) (hn : ¬ (0 ≤ n ∧ n < tot ds)) (h : Q (.tup [.str "lot", .int n])) : W__law_asked ⟨ls, ds⟩ 0 t n Q E := by
  unfold W__law_asked
  refine to_t (by decide) ?_
  rw [e_shown o, if_neg ht, if_neg hn]
  exact .inr ⟨rfl, _, rfl, h⟩
theorem r_delay {t n : Int} {Q : D → Prop} {E : EP} (hn : ¬ (0 ≤ n ∧ n < tot ds)) (h : Q (.tup [.str "lot", .int n])) : W__law_asked ⟨ls, ds⟩ 1 t n Q E := by
  unfold W__law_asked
  refine to_f (by decide) (to_t (by decide) ?_)
  rw [e_delay o, if_neg hn]
  exact .inr ⟨rfl, _, rfl, h⟩
theorem r_view {t n : Int} {Q : D → Prop} {E : EP} (ht : t < 0) (h : Q (.tup [.str "count", .int t])) : W__law_asked ⟨ls, ds⟩ 2 t n Q E := by
  unfold W__law_asked
  refine to_f (by decide) (to_f (by decide) (wJ_i (to_t (by decide) ?_)))
  rw [e_view o, if_pos ht]
  exact .inl ⟨rfl, _, rfl, h⟩
theorem r_odds {t n : Int} {Q : D → Prop} {E : EP} (ht : t < 0) (h : Q (.tup [.str "count", .int t])) : W__law_asked ⟨ls, ds⟩ 3 t n Q E := by
  unfold W__law_asked
  refine to_f (by decide) (to_f (by decide) (wJ_i (to_f (by decide) ?_)))
  refine e_odds o _ _ _ ?_
  rw [if_pos ht]
  exact .inl ⟨rfl, _, rfl, h⟩
theorem s_right {times : List Int} (ht : ∀ t ∈ times, 0 ≤ t) {Q : Bool → Prop} {E : EP} (hQ : Q true) : W__law_veil_right ⟨ls, ds⟩ ls ds times Q E := by
  have hd := o.d6
  have hls := o.len
  unfold W__law_veil_right
  refine ⟨by rw [LIM_eq]; omega, wJ_i ?_⟩
  rw [e_lots o]
  refine wSame_i rfl (plain_int _ _) (to_f (by simp) (wSame_i rfl (plain_P2 (plain_ints _ _ (by show ls.length < _; omega)) (plain_pairsT _ _ (by show ds.length < _; omega))) (to_f (by simp) ?_)))
  refine wFor_u (fun t h0 k hk => ?_) ?_
  · have h0 := ht t h0
    rw [e_rounded o, e_law_rounded o]
    refine wSame_i rfl (plain_int _ _) (to_f (by simp) ⟨by rw [LIM_eq]; omega, ?_⟩)
    rw [wComp_eq (fun p => some (rnd ls (t + p.1))) _ _ (fun x _ k => e_law_rounded o _ _ _), List.filterMap_eq_map']
    rw [e_view o, if_neg (by omega)]
    generalize hy : ds.map (fun p => rnd ls (t + p.1)) = ys
    have hyl : ys.length = ds.length := by rw [← hy, List.length_map]
    refine wSame_i (by rw [← hy]) (by unfold vw; rw [hy]; exact plain_ints _ _ (by omega)) (to_f (by simp) ⟨by rw [LIM_eq]; omega, ?_⟩)
    have hS : ∀ v : Int, ((ys.zip ds).filterMap fun q => if q.1 = v then some q.2.2 else none) = (odz ys ds).filterMap fun p => if p.1 = v then some p.2 else none := by
      intro v; unfold odz; rw [List.filterMap_map]; rfl
    have hk1 : keysOf (odz ys ds) = ys := by
      unfold keysOf odz
      rw [List.map_map]
      exact List.map_fst_zip (by omega)
    refine wFor_pre (fun pre (s : PL) => s = (uq pre).map fun v => (v, sumOf (odz ys ds) v)) (fun pre v post e s kk hs hkk => ?_) (fun s hs => ?_) rfl
    · have hpl : pre.length ≤ 6 := by
        have := congrArg List.length e
        rw [len_isort, List.length_map, List.length_append] at this; omega
      have hsl : s.length ≤ 6 := by
        rw [hs, List.length_map]
        have := uq_len pre []
        unfold uq
        simp only [List.length_nil, Nat.zero_add] at this
        omega
      rw [wJ_eq, wJ_eq, wB_eq (eq_nilL (n := 1) fun x _ => (eqv_P2 (eqv_int 0) (eqv_int 0) x x).1)]
      have good : (uq pre).getLast? ≠ some v → (rOk (ds.length : Int) ∧ (rngZ 0 (ds.length : Int)).length ≤ LIM ∧ wComp (fun x54 k55 => wIx ys x54 fun x57 => if (x57 == v) = true then wIx ds x54 fun x59 => k55 (some x59.2) else k55 none) (rngZ 0 (ds.length : Int)) fun ys56 => s.length < LIM ∧ kk (s ++ [(v, ys56.sum)])) := by
        intro hne
        refine ⟨rOk_i (by omega) (by omega), by rw [len_rngZ, LIM_eq]; omega, ?_⟩
        rw [wComp_rng (zs := ys.zip ds) (fun q => if q.1 = v then some q.2.2 else none) (by rw [List.length_zip, hyl, Nat.min_self])]
        · refine ⟨by rw [LIM_eq]; omega, hkk _ ?_⟩
          rw [hS, uq_app, if_neg hne, List.map_append, hs]; rfl
        · intro i x hx k
          rw [List.getElem?_zip_eq_some] at hx
          rw [wIx_nat hx.1, wIx_nat hx.2]
          by_cases h : x.1 = v <;> simp [h]
      cases hu : (uq pre).getLast? with
      | none =>
        rw [List.getLast?_eq_none_iff] at hu
        have hs0 : s = [] := by rw [hs, hu]; rfl
        rw [hs0] at good ⊢
        exact to_t rfl (to_t rfl (good (by rw [hu]; simp)))
      | some w =>
        have hne : s.isEmpty = false := by
          rw [hs]
          cases hq : uq pre with
          | nil => rw [hq] at hu; cases hu
          | cons => rfl
        rw [hne]
        refine to_f (by simp) ?_
        rw [wIx_eq (last_ge (x := (w, sumOf (odz ys ds) w)) (by rw [hs, List.getLast?_map, hu]; rfl))]
        by_cases hw : w = v
        · refine to_f (by simp [hw]) (hkk _ ?_)
          rw [uq_app, if_pos (by rw [hu, hw]), hs]
        · exact to_t (by simp [hw]) (good (by rw [hu]; simpa using hw))
    · refine e_odds o _ _ _ ?_
      rw [if_neg (by omega)]
      have e1 : odz (vw ls ds t) ds = odz ys ds := by unfold vw; rw [hy]
      refine wSame_i (by rw [hs, e1]; unfold odds; rw [hk1, map_id']) (plain_pairsL _ _ ?_) (to_f (by simp) ⟨rOk_i (by omega) (by omega), ?_⟩)
      · unfold odds
        rw [List.length_map]
        have := uq_len (isort (keysOf (odz (vw ls ds t) ds))) []
        rw [len_isort, e1, hk1] at this
        simp only [List.length_nil, Nat.zero_add] at this
        unfold uq
        rw [e1, hk1]; omega
      · rw [wFor_rng (zs := ds) (body' := fun (p : Int × Int) (s67 : Int) k69 k72 => wFor (fun (x76 : Int) (s75 : Unit) k77 k79 => wJ (fun k81 => W_Veil_delay ⟨ls, ds⟩ x76 (fun (x82 : Int) => wSame (D.int x82) (D.int p.1) (fun r85 => if (!r85) = true then k81 true else W_Veil_shown ⟨ls, ds⟩ t x76 (fun (x87 : Int) => wSame (D.int x87) (D.int (rnd ls (t + p.1))) (fun r89 => k81 (!r89))) E)) E) (fun (j80 : Bool) => if j80 = true then Q false else k77 ())) [s67, ((s67 + p.2) - 1)] () (fun (s75 : Unit) => k69 (s67 + p.2))) rfl]
        · refine wFor_pre (fun pre (s : Int) => s = tot pre) (fun pre p post e s kk hs hkk => ?_) (fun s hs => hk) rfl
          have hpre : ∀ q ∈ pre, 1 ≤ q.2 := fun q hq => o.sh q (by rw [e]; exact List.mem_append_left _ hq)
          have hp2 : 1 ≤ p.2 := o.sh p (by rw [e]; exact List.mem_append_right _ List.mem_cons_self)
          have hpost : ∀ q ∈ post, 1 ≤ q.2 := fun q hq => o.sh q (by rw [e]; exact List.mem_append_right _ (List.mem_cons_of_mem _ hq))
          have n1 := tot_nn hpre
          have n2 := tot_nn hpost
          have ht : tot ds = tot pre + (p.2 + tot post) := by rw [e, tot_app, tot_cons]
          refine wFor_u (fun x hx k' hk' => ?_) (hkk _ (by rw [tot_app, tot_cons, hs]; show tot pre + p.2 = tot pre + (p.2 + 0); omega))
          have hx : ∃ j, 0 ≤ j ∧ j < p.2 ∧ x = tot pre + j := by
            simp only [List.mem_cons, List.not_mem_nil, or_false] at hx
            rcases hx with hx | hx
            · exact ⟨0, by omega, by omega, by omega⟩
            · exact ⟨p.2 - 1, by omega, by omega, by omega⟩
          obtain ⟨j, j0, j1, rfl⟩ := hx
          have hdly : dly ds (tot pre + j) = p.1 := by rw [e]; exact dly_at pre hpre j0 j1
          rw [wJ_eq, e_delay o, if_pos (by omega), hdly]
          refine wSame_i rfl (plain_int _ _) (to_f (by simp) ?_)
          rw [e_shown o, if_neg (by omega), if_pos (by omega), hdly]
          exact wSame_i rfl (plain_int _ _) (to_f (by simp) hk')
        · intro i p hp s k c
          have hp2 : ys[i]? = some (rnd ls (t + p.1)) := by rw [← hy, List.getElem?_map, hp]; rfl
          simp only [wIx_nat hp, wIx_nat hp2]
  · have htn : 0 ≤ tot ds := tot_nn o.sh
    rw [show ((ds.map fun (x2 : Int × Int) => x2.2)).sum = tot ds from rfl]
    refine r_shown_neg o (by decide) (r_shown_lot o (by decide) (by omega) (r_delay o (by omega) (r_delay o (by omega) (r_view o (by decide) (r_odds o (by decide) ⟨by rw [LIM_eq]; show 3 + 3 ≤ 16777216; omega, ?_⟩)))))
    have e1 : ([("count", 0 - 1), ("lot", tot ds), ("lot", 0 - 1), ("lot", tot ds), ("count", 0 - 4), ("count", 0 - 5)] : List (Str × Int)).map (eP2 D.str D.int) = [.tup [.str "count", .int (0 - 1)], .tup [.str "lot", .int (tot ds)], .tup [.str "lot", .int (0 - 1)], .tup [.str "lot", .int (tot ds)], .tup [.str "count", .int (0 - 4)], .tup [.str "count", .int (0 - 5)]] := rfl
    refine wB_i (b := true) ?_ hQ
    show gEq (.lst _) (.lst _) = _
    rw [e1]
    refine eq_refl (n := 2) ?_
    have s1 : gd 0 (.str "count") = true := by decide +kernel
    have s2 : gd 0 (.str "lot") = true := by decide +kernel
    simp only [List.cons_append, List.nil_append, List.map_cons, List.map_nil, gd, gds, Bool.and_self, Bool.and_true] at *
    simp only [s1, s2, Bool.and_self]
end
end Lw

namespace Lw
open PySem L2 Sep LwB
theorem eqv_ls : eqv 1 (eT D.int) := eqv_T (eqv_int 0)
theorem eqv_ds : eqv 2 (eT (eP2 D.int D.int)) := eqv_T (eqv_P2 (eqv_int 0) (eqv_int 0))
theorem e_eq (a b : V_Veil) (Q : Bool → Prop) (E : EP) : W_Veil___eq__ a (e_Veil b) Q E = Q (decide (a.f_limits = b.f_limits ∧ a.f_delays = b.f_delays)) := by
  unfold W_Veil___eq__
  simp only [wJ_eq]
  rw [wB_eq (b := true) (by rfl)]
  simp only [if_true]
  rw [wD_eq (fld_Veil_limits b)]
  rw [wB_eq (eqv_eq eqv_ls a.f_limits b.f_limits)]
  by_cases h : a.f_limits = b.f_limits
  · rw [if_pos (by simpa using h), wD_eq (fld_Veil_delays b), wB_eq (eqv_eq eqv_ds a.f_delays b.f_delays)]
    simp [h]
  · rw [if_neg (by simpa using h)]; simp [h]
theorem e_eqL (a : V_Veil) (xs : List Int) (Q : Bool → Prop) (E : EP) : W_Veil___eq__ a (eL D.int xs) Q E = Q false := by
  unfold W_Veil___eq__
  simp only [wJ_eq]
  rw [wB_eq (b := false) (by rfl)]
  simp
theorem noL_ints (xs : List Int) : noLs (xs.map D.int) = true := by
  induction xs with
  | nil => rfl
  | cons x xs ih => rw [List.map_cons, noLs, ih]; rfl
theorem noL_pairs (xs : PL) : noLs (xs.map (eP2 D.int D.int)) = true := by
  induction xs with
  | nil => rfl
  | cons x xs ih => rw [List.map_cons, noLs, ih]; rfl
theorem noL_veil (v : V_Veil) : (e_Veil v).noL = true := by
  show noLs [.tup (v.f_limits.map D.int), .tup (v.f_delays.map (eP2 D.int D.int))] = true
  simp only [noLs, D.noL, noL_ints, noL_pairs, Bool.and_self]
theorem law_holds : W_law := by
  unfold W_law
  refine wDraw_i fun z1 a1 b1 => wDraw_i fun z4 a4 b4 => wIx_i a4 b4 fun n hn => ?_
  have hn : 0 ≤ n ∧ n ≤ 8 ∧ n ≠ 6 ∧ n ≠ 7 := by
    simp only [List.mem_cons, List.not_mem_nil, or_false] at hn
    omega
  refine ⟨rOk_i (by omega) (by omega), ?_⟩
  refine wFor_pre (fun pre (s : Int × List Int) => s.2.length = pre.length ∧ 0 ≤ s.1 ∧ s.2.Pairwise (· < ·) ∧ (∀ l ∈ s.2, 0 ≤ l) ∧ ∀ l ∈ s.2, l < s.1) (fun pre x post e s k hs hk => ?_) (fun s hs => ?_) ⟨rfl, a1, List.Pairwise.nil, fun _ h => (nomatch h), fun _ h => (nomatch h)⟩
  · have hp : pre.length < 8 := by
      have := congrArg List.length e
      rw [len_rngZ, List.length_append, List.length_cons] at this; omega
    obtain ⟨h1, h2, h3, h4, h5⟩ := hs
    refine ⟨by rw [LIM_eq]; omega, wDraw_i fun z a b => wIx_i a b fun y hy => hk _ ?_⟩
    have hy : 1 ≤ y := by
      simp only [List.mem_cons, List.not_mem_nil, or_false] at hy
      omega
    refine ⟨by simp [h1], by show 0 ≤ s.1 + y; omega, ?_, fun l hl => ?_, fun l hl => ?_⟩
    · rw [List.pairwise_append]
      exact ⟨h3, by simp, fun a ha b hb => by rw [List.mem_singleton] at hb; rw [hb]; exact h5 a ha⟩
    · rcases List.mem_append.mp hl with hl | hl
      · exact h4 l hl
      · rw [List.mem_singleton] at hl; omega
    · show l < s.1 + y
      rcases List.mem_append.mp hl with hl | hl
      · have := h5 l hl; omega
      · rw [List.mem_singleton] at hl; omega
  obtain ⟨hl, -, hasc, hnn, -⟩ := hs
  generalize s.2 = ls at *
  rw [len_rngZ] at hl
  refine wDraw_i fun z21 a21 b21 => ⟨rOk_i (by omega) (by omega), ?_⟩
  refine wFor_pre (fun pre (s : PL) => s.length = pre.length ∧ (∀ p ∈ s, 0 ≤ p.1 ∧ p.1 ≠ 7) ∧ ∀ p ∈ s, 1 ≤ p.2) (fun pre x post e s k hs hk => ?_) (fun ds hs => ?_) ⟨rfl, fun _ h => (nomatch h), fun _ h => (nomatch h)⟩
  · have hp : pre.length < 6 := by
      have := congrArg List.length e
      rw [len_rngZ, List.length_append, List.length_cons] at this; omega
    refine wDraw_i fun z a b => wIx_i a b fun y hy => wDraw_i (fun w aw bw => wDraw_i fun u au bu => wIx_i au bu fun v hv => ⟨by rw [LIM_eq]; omega, hk _ ?_⟩)
    have hy : 0 ≤ y ∧ y ≠ 7 := by
      simp only [List.mem_cons, List.not_mem_nil, or_false] at hy
      omega
    have hv : 1 ≤ v := by
      simp only [List.mem_cons, List.not_mem_nil, or_false] at hv
      omega
    obtain ⟨h1, h2, h3⟩ := hs
    refine ⟨by simp [h1], fun p hp => ?_, fun p hp => ?_⟩
    · rcases List.mem_append.mp hp with hp | hp
      · exact h2 p hp
      · rw [List.mem_singleton] at hp; rw [hp]; exact hy
    · rcases List.mem_append.mp hp with hp | hp
      · exact h3 p hp
      · rw [List.mem_singleton] at hp; rw [hp]; exact hv
  obtain ⟨hd, htk7, hsh⟩ := hs
  have htk : ∀ p ∈ ds, 0 ≤ p.1 := fun p hp => (htk7 p hp).1
  rw [len_rngZ] at hd
  have o : OkV ls ds := ⟨by omega, hasc, hnn, by omega, by omega, htk, hsh⟩
  have hl5 : ls.length ≤ 5 ∨ ls.length = 8 := by omega
  have o0 : OkV [] [(0, 1)] := ⟨by decide, List.Pairwise.nil, fun _ h => (nomatch h), by decide, by decide, by decide, by decide⟩
  have oE : ∀ {ds' : PL}, OkV ls ds' → (limE ls).or (lagE ds') = none := fun o' => by rw [o'.lim, o'.lag]; rfl
  have ht : ∀ t ∈ ([0, 1, 7, 10000000000000] ++ ls) ++ ls.map fun x => x + 1, 0 ≤ t := by
    intro t ht
    rw [List.mem_append, List.mem_append, List.mem_map] at ht
    rcases ht with (ht | ht) | ⟨y, hy, rfl⟩
    · simp only [List.mem_cons, List.not_mem_nil, or_false] at ht; omega
    · exact hnn t ht
    · have := hnn y hy; omega
  have l1 : (ls.map fun x : Int => x + 1).length = ls.length := List.length_map ..
  refine ⟨by rw [LIM_eq]; show 4 + ls.length ≤ _; omega, by rw [LIM_eq]; omega, by rw [LIM_eq, List.length_append, l1]; show 4 + ls.length + ls.length ≤ _; omega, ?_⟩
  rw [e_law_veil _ _ hl5, oE o, wE_none]
  refine ⟨noL_veil _, by rw [LIM_eq]; omega, s_right o ht (to_f (by simp) ?_)⟩
  rw [e_init, show (limE []).or (lagE (LoT.mk true [((0 : Int), (1 : Int))]).xs) = none by rw [o0.lim, o0.lag]; rfl, wE_none, wJ_eq]
  refine s_right o0 ht (to_f (by simp) ?_)
  rw [e_law_veil _ _ hl5, oE o, wE_none, e_eq]
  refine to_f (by simp) ?_
  obtain ⟨d0, dr, rfl⟩ : ∃ d0 dr, ds = d0 :: dr := by
    cases ds with
    | nil => simp at hd; omega
    | cons a b => exact ⟨a, b, rfl⟩
  have c1 : cutD (d0 :: dr) (some 1) none = dr := cut1 _
  have hdr : dr.length ≤ 5 := by rw [List.length_cons] at hd; omega
  rw [wJ_eq, wIx0, wIx0, c1]
  refine ⟨by rw [LIM_eq]; show 1 + dr.length ≤ _; omega, ?_⟩
  have o1 : OkV ls ([(d0.1 + 1, d0.2)] ++ dr) := ⟨o.len, hasc, hnn, by simp, by simp; omega, fun p hp => by
    rcases List.mem_cons.mp hp with e | hp
    · rw [e]; have := htk d0 List.mem_cons_self; show 0 ≤ d0.1 + 1; omega
    · exact htk p (List.mem_cons_of_mem _ hp), fun p hp => by
    rcases List.mem_cons.mp hp with e | hp
    · rw [e]; exact hsh d0 List.mem_cons_self
    · exact hsh p (List.mem_cons_of_mem _ hp)⟩
  rw [e_law_veil _ _ hl5, oE o1, wE_none, e_eq]
  refine to_f ?_ ?_
  · simp only [decide_eq_true_eq, not_and]
    intro _ z
    have := congrArg Prod.fst (List.cons.inj z).1
    have : d0.1 = d0.1 + 1 := this
    omega
  rw [wJ_eq, e_eqL]
  refine to_f (by simp) ?_
  have o2 : OkV [3, 9] [(7, 7)] := ⟨by decide, by decide, by decide, by decide, by decide, by decide, by decide⟩
  rw [e_law_veil _ _ (by decide), show (limE [3, 9]).or (lagE (LoT.mk false [((7 : Int), (7 : Int))]).xs) = none by rw [o2.lim, o2.lag]; rfl, wE_none, e_eq]
  refine to_f ?_ ?_
  · simp only [decide_eq_true_eq, not_and]
    intro _ z
    have := (htk7 d0 List.mem_cons_self).2
    rw [(List.cons.inj z).1] at this
    exact this rfl
  refine wDraw_i fun m am bm => ?_
  have l2 : (cutD ls none (some 3)).length ≤ 3 := by
    unfold cutD
    rw [List.length_take]
    have : HT.sIx ls.length ls.length (some 3) ≤ 3 := by simp [HT.sIx]; omega
    omega
  have l3 : (cutD ls none (some 2)).length ≤ 2 := by
    unfold cutD
    rw [List.length_take]
    have : HT.sIx ls.length ls.length (some 2) ≤ 2 := by simp [HT.sIx]; omega
    omega
  have l4 : (cutD (d0 :: dr) none (some 5)).length ≤ 5 := by
    unfold cutD
    rw [List.length_take]
    have : HT.sIx (d0 :: dr).length (d0 :: dr).length (some 5) ≤ 5 := by simp [HT.sIx]; omega
    omega
  have l5 : (rngZ 0 8).length = 8 := by decide +kernel
  have l6 : (rngZ 0 9).length = 9 := by decide +kernel
  have hdl : (d0 :: dr).length ≤ 6 := by rw [hd]; omega
  refine ⟨by rw [LIM_eq]; show 1 + _ ≤ _; omega, by rw [LIM_eq]; omega, ⟨rOk_i (by decide) (by decide), by decide +kernel⟩, ⟨rOk_i (by decide) (by decide), by decide +kernel⟩, by rw [LIM_eq, l5]; decide, by rw [LIM_eq]; show _ + 6 ≤ _; omega, by rw [LIM_eq]; show _ + 1 ≤ _; omega, by rw [LIM_eq]; show _ + 1 ≤ _; omega, rOk_i (by decide) (by decide), ?_⟩
  refine wFor_u (fun k hk K hK => wFor_u (fun j hj K' hK' => ?_) hK) ?_
  · have hk := mem_rngZ.mp hk
    have hj : 0 ≤ j ∧ j < 6 := by
      simp only [List.mem_cons, List.not_mem_nil, or_false] at hj
      omega
    obtain ⟨ws, ew, mw, _⟩ := atI_get (xs := [ls, ([(0 - 1)] ++ (cutD ls none (some 3))), ((cutD ls none (some 2)) ++ (cutD ls none (some 2))), [5, 5], [7, 3, (0 - 2)], (rngZ 0 9), ([(0 - 3)] ++ (rngZ 0 8))]) hk.1 hk.2
    obtain ⟨us, eu, mu, _⟩ := atI_get (xs := [(d0 :: dr), [], ((d0 :: dr) ++ [(1, 1), (2, 1), (3, 1), (4, 1), (5, 1), (6, 1)]), ((cutD (d0 :: dr) none (some 5)) ++ [((0 - 1), 0)]), ((cutD (d0 :: dr) none (some 5)) ++ [(2, 0)]), [(0, (0 - 5))]]) hj.1 hj.2
    have hw : ws.length ≤ 5 ∨ ws.length = 8 ∨ ws.length = 9 := by
      simp only [List.mem_cons, List.not_mem_nil, or_false] at mw
      rcases mw with rfl | rfl | rfl | rfl | rfl | rfl | rfl
      · omega
      · rw [List.length_append]; left; show 1 + _ ≤ _; omega
      · rw [List.length_append]; left; omega
      · left; decide
      · left; decide
      · right; right; exact l6
      · right; right; rw [List.length_append, l5]; rfl
    rw [wIx_eq ew, wIx_eq eu, e_tried _ _ hw, wIx_eq ew, wIx_eq eu, e_due _ _ (by omega), wB_eq (ne_refl (gd_due _))]
    exact to_f (by simp) hK'
  · refine s_right o (fun t h => ht t ?_) rfl
    unfold cutD at h
    exact List.mem_of_mem_drop (List.mem_of_mem_take h)
end Lw

def clsB : PySem.Stmt → Nat → PySem.Stmt
  | .ClassDef (body := b) .., j => b.getD j (.Pass ⟨0, 0, 0, 0⟩)
  | s, _ => s
namespace Lw
open PySem L2 Sep LwB
def top (i : Nat) : Stmt := PySem.Challenge.pw_stepstell_k89_veils.main.body.getD i (.Pass ⟨0, 0, 0, 0⟩)
abbrev s__law_box : Stmt := top 13
theorem sc__law_box : FnScope ["script"] ["script"] (defScope s__law_box) := ⟨rfl, rfl, rfl, by decide +kernel, rfl, by decide +kernel, by decide +kernel⟩
abbrev s__law_draw : Stmt := top 14
theorem sc__law_draw : FnScope ["box", "size", "mixed", "drawn"] ["box", "size"] (defScope s__law_draw) := ⟨rfl, rfl, rfl, by decide +kernel, rfl, by decide +kernel, by decide +kernel⟩
abbrev s__check_limits : Stmt := top 9
theorem sc__check_limits : FnScope ["limits", "limit", "low", "high"] ["limits"] (defScope s__check_limits) := ⟨rfl, rfl, rfl, by decide +kernel, rfl, by decide +kernel, by decide +kernel⟩
abbrev s__check_delays : Stmt := top 10
theorem sc__check_delays : FnScope ["delays", "ticks", "share"] ["delays"] (defScope s__check_delays) := ⟨rfl, rfl, rfl, by decide +kernel, rfl, by decide +kernel, by decide +kernel⟩
abbrev s_Veil___init__ : Stmt := clsB (top 11) 0
theorem sc_Veil___init__ : FnScope ["self", "delays", "limits", "ticks", "share"] ["self", "delays", "limits"] (defScope s_Veil___init__) := ⟨rfl, rfl, rfl, by decide +kernel, rfl, by decide +kernel, by decide +kernel⟩
abbrev s__law_veil : Stmt := top 16
theorem sc__law_veil : FnScope ["limits", "lags", "first"] ["limits", "lags"] (defScope s__law_veil) := ⟨rfl, rfl, rfl, by decide +kernel, rfl, by decide +kernel, by decide +kernel⟩
abbrev s_Veil_rounded : Stmt := clsB (top 11) 2
theorem sc_Veil_rounded : FnScope ["self", "ticks", "limit"] ["self", "ticks"] (defScope s_Veil_rounded) := ⟨rfl, rfl, rfl, by decide +kernel, rfl, by decide +kernel, by decide +kernel⟩
abbrev s_Veil_lots : Stmt := clsB (top 11) 1
theorem sc_Veil_lots : FnScope ["self", "ticks", "share"] ["self"] (defScope s_Veil_lots) := ⟨rfl, rfl, rfl, by decide +kernel, rfl, by decide +kernel, by decide +kernel⟩
abbrev s_Veil_delay : Stmt := clsB (top 11) 3
theorem sc_Veil_delay : FnScope ["self", "lot", "ticks", "share"] ["self", "lot"] (defScope s_Veil_delay) := ⟨rfl, rfl, rfl, by decide +kernel, rfl, by decide +kernel, by decide +kernel⟩
abbrev s_Veil_shown : Stmt := clsB (top 11) 4
theorem sc_Veil_shown : FnScope ["self", "ticks", "lot"] ["self", "ticks", "lot"] (defScope s_Veil_shown) := ⟨rfl, rfl, rfl, by decide +kernel, rfl, by decide +kernel, by decide +kernel⟩
abbrev s_Veil_view : Stmt := clsB (top 11) 5
theorem sc_Veil_view : FnScope ["self", "ticks", "delay", "share"] ["self", "ticks"] (defScope s_Veil_view) := ⟨rfl, rfl, rfl, by decide +kernel, rfl, by decide +kernel, by decide +kernel⟩
abbrev s_Veil_odds : Stmt := clsB (top 11) 6
theorem sc_Veil_odds : FnScope ["self", "ticks", "found", "shown", "delay", "share", "one"] ["self", "ticks"] (defScope s_Veil_odds) := ⟨rfl, rfl, rfl, by decide +kernel, rfl, by decide +kernel, by decide +kernel⟩
abbrev s__law_asked : Stmt := top 20
theorem sc__law_asked : FnScope ["veil", "way", "ticks", "number", "e"] ["veil", "way", "ticks", "number"] (defScope s__law_asked) := ⟨rfl, rfl, rfl, by decide +kernel, rfl, by decide +kernel, by decide +kernel⟩
abbrev s__law_same : Stmt := top 15
theorem sc__law_same : FnScope ["one", "two", "k"] ["one", "two"] (defScope s__law_same) := ⟨rfl, rfl, rfl, by decide +kernel, rfl, by decide +kernel, by decide +kernel⟩
abbrev s__law_rounded : Stmt := top 19
theorem sc__law_rounded : FnScope ["limits", "ticks", "fit", "limit"] ["limits", "ticks"] (defScope s__law_rounded) := ⟨rfl, rfl, rfl, by decide +kernel, rfl, by decide +kernel, by decide +kernel⟩
abbrev s__law_veil_right : Stmt := top 21
theorem sc__law_veil_right : FnScope ["veil", "limits", "lags", "times", "whole", "ticks", "refused", "shown", "odds", "value", "start", "k", "number", "one"] ["veil", "limits", "lags", "times"] (defScope s__law_veil_right) := ⟨rfl, rfl, rfl, by decide +kernel, rfl, by decide +kernel, by decide +kernel⟩
abbrev s_Veil___eq__ : Stmt := clsB (top 11) 7
theorem sc_Veil___eq__ : FnScope ["self", "other"] ["self", "other"] (defScope s_Veil___eq__) := ⟨rfl, rfl, rfl, by decide +kernel, rfl, by decide +kernel, by decide +kernel⟩
abbrev s__law_tried : Stmt := top 17
theorem sc__law_tried : FnScope ["limits", "lags", "e"] ["limits", "lags"] (defScope s__law_tried) := ⟨rfl, rfl, rfl, by decide +kernel, rfl, by decide +kernel, by decide +kernel⟩
abbrev s__law_due : Stmt := top 18
theorem sc__law_due : FnScope ["limits", "lags", "low", "k", "ticks", "share", "limit"] ["limits", "lags"] (defScope s__law_due) := ⟨rfl, rfl, rfl, by decide +kernel, rfl, by decide +kernel, by decide +kernel⟩
abbrev s_law : Stmt := top 22
theorem sc_law : FnScope ["script", "box", "limits", "last", "k", "lags", "times", "passed", "veil", "plain", "many", "wrong", "spoilt", "j", "limit"] ["script"] (defScope s_law) := ⟨rfl, rfl, rfl, by decide +kernel, rfl, by decide +kernel, by decide +kernel⟩
abbrev s_X_BadCount : Stmt := clsB (top 3) 0
theorem sc_X_BadCount : FnScope ["self", "number"] ["self", "number"] (defScope s_X_BadCount) := ⟨rfl, rfl, rfl, by decide +kernel, rfl, by decide +kernel, by decide +kernel⟩
abbrev s_X_BadSpan : Stmt := clsB (top 2) 0
theorem sc_X_BadSpan : FnScope ["self", "low", "high"] ["self", "low", "high"] (defScope s_X_BadSpan) := ⟨rfl, rfl, rfl, by decide +kernel, rfl, by decide +kernel, by decide +kernel⟩
abbrev s_X_BadLot : Stmt := clsB (top 5) 0
theorem sc_X_BadLot : FnScope ["self", "number"] ["self", "number"] (defScope s_X_BadLot) := ⟨rfl, rfl, rfl, by decide +kernel, rfl, by decide +kernel, by decide +kernel⟩
structure Txt (K : PySem.W.Frag) (mg : Str → Option Value) where
  gl_BadCount : mg "BadCount" = some (.ref (He.ga K "BadCount"))
  gl_BadLot : mg "BadLot" = some (.ref (He.ga K "BadLot"))
  gl_BadSpan : mg "BadSpan" = some (.ref (He.ga K "BadSpan"))
  gl_TellError : mg "TellError" = some (.ref (He.ga K "TellError"))
  fd_X_BadCount : FuncData
  fu_X_BadCount : FunD K "__init__" "BadCount.__init__" (defArgs s_X_BadCount) (defBody s_X_BadCount) (defScope s_X_BadCount) [] [] (He.fAd K ("BadCount", some "__init__")) fd_X_BadCount
  fd_X_BadSpan : FuncData
  fu_X_BadSpan : FunD K "__init__" "BadSpan.__init__" (defArgs s_X_BadSpan) (defBody s_X_BadSpan) (defScope s_X_BadSpan) [] [] (He.fAd K ("BadSpan", some "__init__")) fd_X_BadSpan
  fd_X_BadLot : FuncData
  fu_X_BadLot : FunD K "__init__" "BadLot.__init__" (defArgs s_X_BadLot) (defBody s_X_BadLot) (defScope s_X_BadLot) [] [] (He.fAd K ("BadLot", some "__init__")) fd_X_BadLot
  oe_BadCount : OexC K (He.ga K "BadCount")
  no_BadCount_number : PySem.W.findIn K (.ref (He.ga K "BadCount")) "number" = some none
  ii_BadCount : PySem.W.findIn K (.ref (He.ga K "BadCount")) "__init__" = some (some (.ref (He.fAd K ("BadCount", some "__init__"))))
  tf_BadCount : PySem.W.typeIn K (.ref (He.fAd K ("BadCount", some "__init__"))) = some (.type "function")
  cr_TellError : ClX.CRead K (He.ga K "TellError") (.type "type") ∧ PySem.W.findCls K (.ref (He.ga K "TellError")) (.type "type") "__init__" = some (.val (.builtin "ValueError.__init__"))
  oe_BadSpan : OexC K (He.ga K "BadSpan")
  no_BadSpan_low : PySem.W.findIn K (.ref (He.ga K "BadSpan")) "low" = some none
  no_BadSpan_high : PySem.W.findIn K (.ref (He.ga K "BadSpan")) "high" = some none
  ii_BadSpan : PySem.W.findIn K (.ref (He.ga K "BadSpan")) "__init__" = some (some (.ref (He.fAd K ("BadSpan", some "__init__"))))
  tf_BadSpan : PySem.W.typeIn K (.ref (He.fAd K ("BadSpan", some "__init__"))) = some (.type "function")
  kd_Veil___init___delays : AtD K (kwdAt (fun K => He.fAd K ("Veil", some "__init__")) "delays" K) (.tup [.tup [.int 0, .int 1]])
  pr_Veil_lots : PropOf K (He.ga K "Veil") "lots" (He.ma K (He.ga K "Veil") "lots") (getAt K (He.ga K "Veil") "lots")
  oe_BadLot : OexC K (He.ga K "BadLot")
  no_BadLot_number : PySem.W.findIn K (.ref (He.ga K "BadLot")) "number" = some none
  ii_BadLot : PySem.W.findIn K (.ref (He.ga K "BadLot")) "__init__" = some (some (.ref (He.fAd K ("BadLot", some "__init__"))))
  tf_BadLot : PySem.W.typeIn K (.ref (He.fAd K ("BadLot", some "__init__"))) = some (.type "function")
  em_BadCount_BadCount : PySem.W.exmOne K (.ref (He.ga K "BadCount")) (.ref (He.ga K "BadCount")) = some true
  em_BadSpan_BadCount : PySem.W.exmOne K (.ref (He.ga K "BadSpan")) (.ref (He.ga K "BadCount")) = some false
  em_BadLot_BadCount : PySem.W.exmOne K (.ref (He.ga K "BadLot")) (.ref (He.ga K "BadCount")) = some false
  xf_BadCount : XfC K (He.ga K "BadCount")
  em_BadCount_BadLot : PySem.W.exmOne K (.ref (He.ga K "BadCount")) (.ref (He.ga K "BadLot")) = some false
  em_BadSpan_BadLot : PySem.W.exmOne K (.ref (He.ga K "BadSpan")) (.ref (He.ga K "BadLot")) = some false
  em_BadLot_BadLot : PySem.W.exmOne K (.ref (He.ga K "BadLot")) (.ref (He.ga K "BadLot")) = some true
  xf_BadLot : XfC K (He.ga K "BadLot")
  em_BadCount_BadSpan : PySem.W.exmOne K (.ref (He.ga K "BadCount")) (.ref (He.ga K "BadSpan")) = some false
  em_BadSpan_BadSpan : PySem.W.exmOne K (.ref (He.ga K "BadSpan")) (.ref (He.ga K "BadSpan")) = some true
  em_BadLot_BadSpan : PySem.W.exmOne K (.ref (He.ga K "BadLot")) (.ref (He.ga K "BadSpan")) = some false
  xf_BadSpan : XfC K (He.ga K "BadSpan")
  fd__law_box : FuncData
  fu__law_box : FunD K "_law_box" "_law_box" (defArgs s__law_box) (defBody s__law_box) (defScope s__law_box) [] [] (He.fAd K ("_law_box", none)) fd__law_box
  g__law_box : mg "_law_box" = some (.ref (He.fAd K ("_law_box", none)))
  fd__law_draw : FuncData
  fu__law_draw : FunD K "_law_draw" "_law_draw" (defArgs s__law_draw) (defBody s__law_draw) (defScope s__law_draw) [] [] (He.fAd K ("_law_draw", none)) fd__law_draw
  g__law_draw : mg "_law_draw" = some (.ref (He.fAd K ("_law_draw", none)))
  fd__check_limits : FuncData
  fu__check_limits : FunD K "_check_limits" "_check_limits" (defArgs s__check_limits) (defBody s__check_limits) (defScope s__check_limits) [] [] (He.fAd K ("_check_limits", none)) fd__check_limits
  g__check_limits : mg "_check_limits" = some (.ref (He.fAd K ("_check_limits", none)))
  fd__check_delays : FuncData
  fu__check_delays : FunD K "_check_delays" "_check_delays" (defArgs s__check_delays) (defBody s__check_delays) (defScope s__check_delays) [] [] (He.fAd K ("_check_delays", none)) fd__check_delays
  g__check_delays : mg "_check_delays" = some (.ref (He.fAd K ("_check_delays", none)))
  fd_Veil___init__ : FuncData
  fu_Veil___init__ : FunD K "__init__" "Veil.__init__" (defArgs s_Veil___init__) (defBody s_Veil___init__) (defScope s_Veil___init__) [] [("delays", .ref (kwdAt (fun K => He.fAd K ("Veil", some "__init__")) "delays" K))] (He.fAd K ("Veil", some "__init__")) fd_Veil___init__
  fd__law_veil : FuncData
  fu__law_veil : FunD K "_law_veil" "_law_veil" (defArgs s__law_veil) (defBody s__law_veil) (defScope s__law_veil) [] [] (He.fAd K ("_law_veil", none)) fd__law_veil
  g__law_veil : mg "_law_veil" = some (.ref (He.fAd K ("_law_veil", none)))
  fd_Veil_rounded : FuncData
  fu_Veil_rounded : FunD K "rounded" "Veil.rounded" (defArgs s_Veil_rounded) (defBody s_Veil_rounded) (defScope s_Veil_rounded) [] [] (He.fAd K ("Veil", some "rounded")) fd_Veil_rounded
  fd_Veil_lots : FuncData
  fu_Veil_lots : FunD K "lots" "Veil.lots" (defArgs s_Veil_lots) (defBody s_Veil_lots) (defScope s_Veil_lots) [] [] (getAt K (He.ga K "Veil") "lots") fd_Veil_lots
  fd_Veil_delay : FuncData
  fu_Veil_delay : FunD K "delay" "Veil.delay" (defArgs s_Veil_delay) (defBody s_Veil_delay) (defScope s_Veil_delay) [] [] (He.fAd K ("Veil", some "delay")) fd_Veil_delay
  fd_Veil_shown : FuncData
  fu_Veil_shown : FunD K "shown" "Veil.shown" (defArgs s_Veil_shown) (defBody s_Veil_shown) (defScope s_Veil_shown) [] [] (He.fAd K ("Veil", some "shown")) fd_Veil_shown
  fd_Veil_view : FuncData
  fu_Veil_view : FunD K "view" "Veil.view" (defArgs s_Veil_view) (defBody s_Veil_view) (defScope s_Veil_view) [] [] (He.fAd K ("Veil", some "view")) fd_Veil_view
  fd_Veil_odds : FuncData
  fu_Veil_odds : FunD K "odds" "Veil.odds" (defArgs s_Veil_odds) (defBody s_Veil_odds) (defScope s_Veil_odds) [] [] (He.fAd K ("Veil", some "odds")) fd_Veil_odds
  fd__law_asked : FuncData
  fu__law_asked : FunD K "_law_asked" "_law_asked" (defArgs s__law_asked) (defBody s__law_asked) (defScope s__law_asked) [] [] (He.fAd K ("_law_asked", none)) fd__law_asked
  g__law_asked : mg "_law_asked" = some (.ref (He.fAd K ("_law_asked", none)))
  fd__law_same : FuncData
  fu__law_same : FunD K "_law_same" "_law_same" (defArgs s__law_same) (defBody s__law_same) (defScope s__law_same) [] [] (He.fAd K ("_law_same", none)) fd__law_same
  g__law_same : mg "_law_same" = some (.ref (He.fAd K ("_law_same", none)))
  fd__law_rounded : FuncData
  fu__law_rounded : FunD K "_law_rounded" "_law_rounded" (defArgs s__law_rounded) (defBody s__law_rounded) (defScope s__law_rounded) [] [] (He.fAd K ("_law_rounded", none)) fd__law_rounded
  g__law_rounded : mg "_law_rounded" = some (.ref (He.fAd K ("_law_rounded", none)))
  fd__law_veil_right : FuncData
  fu__law_veil_right : FunD K "_law_veil_right" "_law_veil_right" (defArgs s__law_veil_right) (defBody s__law_veil_right) (defScope s__law_veil_right) [] [] (He.fAd K ("_law_veil_right", none)) fd__law_veil_right
  g__law_veil_right : mg "_law_veil_right" = some (.ref (He.fAd K ("_law_veil_right", none)))
  fd_Veil___eq__ : FuncData
  fu_Veil___eq__ : FunD K "__eq__" "Veil.__eq__" (defArgs s_Veil___eq__) (defBody s_Veil___eq__) (defScope s_Veil___eq__) [] [] (He.fAd K ("Veil", some "__eq__")) fd_Veil___eq__
  fd__law_tried : FuncData
  fu__law_tried : FunD K "_law_tried" "_law_tried" (defArgs s__law_tried) (defBody s__law_tried) (defScope s__law_tried) [] [] (He.fAd K ("_law_tried", none)) fd__law_tried
  g__law_tried : mg "_law_tried" = some (.ref (He.fAd K ("_law_tried", none)))
  fd__law_due : FuncData
  fu__law_due : FunD K "_law_due" "_law_due" (defArgs s__law_due) (defBody s__law_due) (defScope s__law_due) [] [] (He.fAd K ("_law_due", none)) fd__law_due
  g__law_due : mg "_law_due" = some (.ref (He.fAd K ("_law_due", none)))
  fd_law : FuncData
  fu_law : FunD K "law" "law" (defArgs s_law) (defBody s_law) (defScope s_law) [] [] (He.fAd K ("law", none)) fd_law
  g_law : mg "law" = some (.ref (He.fAd K ("law", none)))
  n_abs : mg "abs" = none
  n_all : mg "all" = none
  n_bool : mg "bool" = none
  n_int : mg "int" = none
  n_isinstance : mg "isinstance" = none
  n_len : mg "len" = none
  n_list : mg "list" = none
  n_min : mg "min" = none
  n_range : mg "range" = none
  n_sorted : mg "sorted" = none
  n_sum : mg "sum" = none
  n_tuple : mg "tuple" = none
  n_zip : mg "zip" = none
  gc_Veil : mg "Veil" = some (.ref (He.ga K "Veil"))
  cl_Veil : Cls K (He.ga K "Veil")
  mk_Veil : Mk K (He.ga K "Veil") (He.ma K (He.ga K "Veil") "__init__")
  me_Veil_delay : Meth K (He.ga K "Veil") "delay" (He.ma K (He.ga K "Veil") "delay")
  me_Veil_odds : Meth K (He.ga K "Veil") "odds" (He.ma K (He.ga K "Veil") "odds")
  me_Veil_rounded : Meth K (He.ga K "Veil") "rounded" (He.ma K (He.ga K "Veil") "rounded")
  me_Veil_shown : Meth K (He.ga K "Veil") "shown" (He.ma K (He.ga K "Veil") "shown")
  me_Veil_view : Meth K (He.ga K "Veil") "view" (He.ma K (He.ga K "Veil") "view")
  op_Veil___eq__ : Meth K (He.ga K "Veil") "__eq__" (He.ma K (He.ga K "Veil") "__eq__")
  na_Veil_delays : NoAttr K (He.ga K "Veil") "delays"
  na_Veil_limits : NoAttr K (He.ga K "Veil") "limits"
  ic_Veil : IsC K (He.ga K) "Veil" (tabL [("Veil", true)])
  nf_Veil : Nf K (He.ga K) "Veil" ["Veil"]
  ci_MOST_DELAYS : ∃ t, mg "MOST_DELAYS" = some (.int 6 t)
  ci_MOST_LIMITS : ∃ t, mg "MOST_LIMITS" = some (.int 8 t)
theorem bt_bool : bootBuiltins "bool" = some (.type "bool") := by decide +kernel
theorem bt_int : bootBuiltins "int" = some (.type "int") := by decide +kernel
theorem bt_list : bootBuiltins "list" = some (.type "list") := by decide +kernel
theorem bt_tuple : bootBuiltins "tuple" = some (.type "tuple") := by decide +kernel
theorem kb_Veil_rounded_1 {K : PySem.W.Frag} {mg : Str → Option Value} (T : Txt K mg) : KBm K T.fd_Veil_rounded ["self", "ticks"] 1 1 [] [(0, 0)] [] [] :=
  kb0 T.fu_Veil_rounded fun e1 e2 e3 e4 e5 e6 us ws h1 h2 => match us, ws, h1, h2 with | [a0, a1], [], _, _ => rfl
theorem kb_Veil_delay_1 {K : PySem.W.Frag} {mg : Str → Option Value} (T : Txt K mg) : KBm K T.fd_Veil_delay ["self", "lot"] 1 1 [] [(0, 0)] [] [] :=
  kb0 T.fu_Veil_delay fun e1 e2 e3 e4 e5 e6 us ws h1 h2 => match us, ws, h1, h2 with | [a0, a1], [], _, _ => rfl
theorem kb_Veil_view_1 {K : PySem.W.Frag} {mg : Str → Option Value} (T : Txt K mg) : KBm K T.fd_Veil_view ["self", "ticks"] 1 1 [] [(0, 0)] [] [] :=
  kb0 T.fu_Veil_view fun e1 e2 e3 e4 e5 e6 us ws h1 h2 => match us, ws, h1, h2 with | [a0, a1], [], _, _ => rfl
theorem kb_Veil_shown_2 {K : PySem.W.Frag} {mg : Str → Option Value} (T : Txt K mg) : KBm K T.fd_Veil_shown ["self", "ticks", "lot"] 1 2 [] [(0, 0), (0, 1)] [] [] :=
  kb0 T.fu_Veil_shown fun e1 e2 e3 e4 e5 e6 us ws h1 h2 => match us, ws, h1, h2 with | [a0, a1, a2], [], _, _ => rfl
theorem kb_Veil_odds_1 {K : PySem.W.Frag} {mg : Str → Option Value} (T : Txt K mg) : KBm K T.fd_Veil_odds ["self", "ticks"] 1 1 [] [(0, 0)] [] [] :=
  kb0 T.fu_Veil_odds fun e1 e2 e3 e4 e5 e6 us ws h1 h2 => match us, ws, h1, h2 with | [a0, a1], [], _, _ => rfl
abbrev GK (K : PySem.W.Frag) : Gm := ⟨He.ga K, K, []⟩
section
variable {P : Program} {w : World} {K : PySem.W.Frag} {mg : Str → Option Value} {base : Heap}
theorem bd_X_BadCount (T : Txt K mg) : Binds K T.fd_X_BadCount ["self", "number"] [] := T.fu_X_BadCount.bindsN fun _ _ _ _ _ _ us hl => match us, hl with | [_, _], _ => rfl
theorem ok_X_BadCount (T : Txt K mg) : FnOk P w K mg base (L2.CX P w) 1 (He.fAd K ("BadCount", some "__init__")) T.fd_X_BadCount ["self", "number"] (spX K 1 [] [("number", 1)]) :=
  fn_exc (k := 0) T.fu_X_BadCount sc_X_BadCount rfl (by decide) (by decide) (by decide) fun cdv A outer s H E => ⟨_, msg_c, pss_cons (ps_expr (pe_teinit (by rfl) T.gl_TellError T.cr_TellError.1 T.cr_TellError.2 (pa_cons (de_var (G := GK K) (W := W0) 0).pe (pa_cons pe_str pa_nil)))) (pss_cons (ps_ost (de_var (G := GK K) (W := W0) 0).pe (de_var (G := GK K) (W := W0) 1).pe) pss_nil)⟩
theorem bd_X_BadSpan (T : Txt K mg) : Binds K T.fd_X_BadSpan ["self", "low", "high"] [] := T.fu_X_BadSpan.bindsN fun _ _ _ _ _ _ us hl => match us, hl with | [_, _, _], _ => rfl
theorem ok_X_BadSpan (T : Txt K mg) : FnOk P w K mg base (L2.CX P w) 1 (He.fAd K ("BadSpan", some "__init__")) T.fd_X_BadSpan ["self", "low", "high"] (spX K 2 [] [("low", 1), ("high", 2)]) :=
  fn_exc (k := 0) T.fu_X_BadSpan sc_X_BadSpan rfl (by decide) (by decide) (by decide) fun cdv A outer s H E => ⟨_, msg_c, pss_cons (ps_expr (pe_teinit (by rfl) T.gl_TellError T.cr_TellError.1 T.cr_TellError.2 (pa_cons (de_var (G := GK K) (W := W0) 0).pe (pa_cons pe_str pa_nil)))) (pss_cons (ps_ost (de_var (G := GK K) (W := W0) 0).pe (de_var (G := GK K) (W := W0) 1).pe) (pss_cons (ps_ost (de_var (G := GK K) (W := W0) 0).pe (de_var (G := GK K) (W := W0) 2).pe) pss_nil))⟩
theorem bd_X_BadLot (T : Txt K mg) : Binds K T.fd_X_BadLot ["self", "number"] [] := T.fu_X_BadLot.bindsN fun _ _ _ _ _ _ us hl => match us, hl with | [_, _], _ => rfl
theorem ok_X_BadLot (T : Txt K mg) : FnOk P w K mg base (L2.CX P w) 1 (He.fAd K ("BadLot", some "__init__")) T.fd_X_BadLot ["self", "number"] (spX K 1 [] [("number", 1)]) :=
  fn_exc (k := 0) T.fu_X_BadLot sc_X_BadLot rfl (by decide) (by decide) (by decide) fun cdv A outer s H E => ⟨_, msg_c, pss_cons (ps_expr (pe_teinit (by rfl) T.gl_TellError T.cr_TellError.1 T.cr_TellError.2 (pa_cons (de_var (G := GK K) (W := W0) 0).pe (pa_cons pe_str pa_nil)))) (pss_cons (ps_ost (de_var (G := GK K) (W := W0) 0).pe (de_var (G := GK K) (W := W0) 1).pe) pss_nil)⟩
theorem cf_delays (T : Txt K mg) : ∀ c ∈ (["Veil"] : List Str), ClF K (He.ga K c) "delays" := by
  intro c hc
  simp only [List.mem_cons, List.not_mem_nil, or_false] at hc
  rcases hc with rfl
  · exact ⟨T.cl_Veil, T.na_Veil_delays⟩
theorem cf_limits (T : Txt K mg) : ∀ c ∈ (["Veil"] : List Str), ClF K (He.ga K c) "limits" := by
  intro c hc
  simp only [List.mem_cons, List.not_mem_nil, or_false] at hc
  rcases hc with rfl
  · exact ⟨T.cl_Veil, T.na_Veil_limits⟩
theorem bd__law_box (T : Txt K mg) : Binds K T.fd__law_box ["script"] [] := T.fu__law_box.bindsN fun _ _ _ _ _ _ us hl => match us, hl with | [_], _ => rfl
theorem bd__law_draw (T : Txt K mg) : Binds K T.fd__law_draw ["box", "size"] [] := T.fu__law_draw.bindsN fun _ _ _ _ _ _ us hl => match us, hl with | [_, _], _ => rfl
theorem bd__check_limits (T : Txt K mg) : Binds K T.fd__check_limits ["limits"] [] := T.fu__check_limits.bindsN fun _ _ _ _ _ _ us hl => match us, hl with | [_], _ => rfl
theorem bd__check_delays (T : Txt K mg) : Binds K T.fd__check_delays ["delays"] [] := T.fu__check_delays.bindsN fun _ _ _ _ _ _ us hl => match us, hl with | [_], _ => rfl
theorem bd__law_veil (T : Txt K mg) : Binds K T.fd__law_veil ["limits", "lags"] [] := T.fu__law_veil.bindsN fun _ _ _ _ _ _ us hl => match us, hl with | [_, _], _ => rfl
theorem bd_Veil_rounded (T : Txt K mg) : Binds K T.fd_Veil_rounded ["self", "ticks"] [] := T.fu_Veil_rounded.bindsN fun _ _ _ _ _ _ us hl => match us, hl with | [_, _], _ => rfl
theorem bd_Veil_lots (T : Txt K mg) : Binds K T.fd_Veil_lots ["self"] [] := T.fu_Veil_lots.bindsN fun _ _ _ _ _ _ us hl => match us, hl with | [_], _ => rfl
theorem bd_Veil_delay (T : Txt K mg) : Binds K T.fd_Veil_delay ["self", "lot"] [] := T.fu_Veil_delay.bindsN fun _ _ _ _ _ _ us hl => match us, hl with | [_, _], _ => rfl
theorem bd_Veil_shown (T : Txt K mg) : Binds K T.fd_Veil_shown ["self", "ticks", "lot"] [] := T.fu_Veil_shown.bindsN fun _ _ _ _ _ _ us hl => match us, hl with | [_, _, _], _ => rfl
theorem bd_Veil_view (T : Txt K mg) : Binds K T.fd_Veil_view ["self", "ticks"] [] := T.fu_Veil_view.bindsN fun _ _ _ _ _ _ us hl => match us, hl with | [_, _], _ => rfl
theorem bd_Veil_odds (T : Txt K mg) : Binds K T.fd_Veil_odds ["self", "ticks"] [] := T.fu_Veil_odds.bindsN fun _ _ _ _ _ _ us hl => match us, hl with | [_, _], _ => rfl
theorem bd__law_asked (T : Txt K mg) : Binds K T.fd__law_asked ["veil", "way", "ticks", "number"] [] := T.fu__law_asked.bindsN fun _ _ _ _ _ _ us hl => match us, hl with | [_, _, _, _], _ => rfl
theorem bd__law_same (T : Txt K mg) : Binds K T.fd__law_same ["one", "two"] [] := T.fu__law_same.bindsN fun _ _ _ _ _ _ us hl => match us, hl with | [_, _], _ => rfl
theorem bd__law_rounded (T : Txt K mg) : Binds K T.fd__law_rounded ["limits", "ticks"] [] := T.fu__law_rounded.bindsN fun _ _ _ _ _ _ us hl => match us, hl with | [_, _], _ => rfl
theorem bd__law_veil_right (T : Txt K mg) : Binds K T.fd__law_veil_right ["veil", "limits", "lags", "times"] [] := T.fu__law_veil_right.bindsN fun _ _ _ _ _ _ us hl => match us, hl with | [_, _, _, _], _ => rfl
theorem bd_Veil___eq__ (T : Txt K mg) : Binds K T.fd_Veil___eq__ ["self", "other"] [] := T.fu_Veil___eq__.bindsN fun _ _ _ _ _ _ us hl => match us, hl with | [_, _], _ => rfl
theorem bd__law_tried (T : Txt K mg) : Binds K T.fd__law_tried ["limits", "lags"] [] := T.fu__law_tried.bindsN fun _ _ _ _ _ _ us hl => match us, hl with | [_, _], _ => rfl
theorem bd__law_due (T : Txt K mg) : Binds K T.fd__law_due ["limits", "lags"] [] := T.fu__law_due.bindsN fun _ _ _ _ _ _ us hl => match us, hl with | [_, _], _ => rfl
theorem bd_law (T : Txt K mg) : Binds K T.fd_law ["script"] [] := T.fu_law.bindsN fun _ _ _ _ _ _ us hl => match us, hl with | [_], _ => rfl
theorem ok__law_box (T : Txt K mg) : FnOk P w K mg base (L2.CX P w) 1 (He.fAd K ("_law_box", none)) T.fd__law_box ["script"] (spF (GK K) 1 F__law_box) :=
  fn_okD (G := GK K) (k := 0) rfl T.fu__law_box sc__law_box rfl rfl (by decide) fun cdv A outer s H E fr C => ⟨_,
  (dss_one (ds_retM (de_lst (da_cons (de_toL C.hK (by rfl) T.n_list (de_var 0)) (da_cons de_int (da_cons de_int (da_cons de_int (da_cons de_int da_nil))))))))⟩
theorem ok__law_draw (T : Txt K mg) : FnOk P w K mg base (L2.CX P w) 1 (He.fAd K ("_law_draw", none)) T.fd__law_draw ["box", "size"] (spF (GK K) 2 F__law_draw) :=
  fn_okD (G := GK K) (k := 0) rfl T.fu__law_draw sc__law_draw rfl rfl (by decide) fun cdv A outer s H E fr C => ⟨_,
  (dss_cons (ds_if (dt_eq C.hK C.rm (de_ix C.hK (de_var 0) de_int) de_int)
  (dss_cons (ds_if (dt_ge  (de_ix C.hK (de_var 0) de_int) (de_len C.hK (by rfl) T.n_len (de_ix C.hK (de_var 0) de_int)))
  (dss_one (ds_retM de_int))
  dss_nil)
  (dss_cons (ds_asg (de_abs  (by rfl) T.n_abs (de_toInt  (by rfl) T.n_int (de_ix C.hK (de_ix C.hK (de_var 0) de_int) (de_ix C.hK (de_var 0) de_int)))) (dg_sub C (de_var 0) de_int))
  (dss_cons (ds_asg (de_add C.hK (de_ix C.hK (de_var 0) de_int) de_int) (dg_sub C (de_var 0) de_int))
  (dss_cons (ds_asg (de_toInt  (by rfl) T.n_int (de_ge  (de_ix C.hK (de_var 0) de_int) (de_pow de_int de_int))) (dg_sub C (de_var 0) de_int))
  (dss_one (ds_asg (de_add C.hK de_int (de_mul de_int (de_ix C.hK (de_var 0) de_int))) (dg_sub C (de_var 0) de_int)))))))
  dss_nil)
  (dss_cons (ds_asg (de_sub (de_ix C.hK (de_var 0) de_int) de_int) (dg_sub C (de_var 0) de_int))
  (dss_cons (ds_if (dt_eq C.hK C.rm (de_ix C.hK (de_var 0) de_int) de_int)
  (dss_cons (ds_setF C (i := 3) (by rfl) (de_mod (de_toInt  (by rfl) T.n_int (de_ix C.hK (de_var 0) de_int)) (de_var 1)))
  (dss_cons (ds_asg (de_div (de_toInt  (by rfl) T.n_int (de_ix C.hK (de_var 0) de_int)) (de_var 1)) (dg_sub C (de_var 0) de_int))
  (dss_cons (ds_if (dt_eq C.hK C.rm (de_ix C.hK (de_var 0) de_int) de_int)
  (dss_one (ds_asg de_int (dg_sub C (de_var 0) de_int)))
  dss_nil)
  (dss_one (ds_retM (de_var 3))))))
  dss_nil)
  (dss_cons (ds_setF C (i := 2) (by rfl) (de_mod (de_toInt  (by rfl) T.n_int (de_add C.hK (de_add C.hK (de_mul (de_toInt  (by rfl) T.n_int (de_ix C.hK (de_var 0) de_int)) de_int) (de_mul (de_ix C.hK (de_var 0) de_int) de_int)) de_int)) de_int))
  (dss_cons (ds_setF C (i := 2) (by rfl) (de_mod (de_toInt  (by rfl) T.n_int (de_add C.hK (de_add C.hK (de_mul (de_var 2) de_int) (de_mul (de_ix C.hK (de_var 0) de_int) de_int)) de_int)) de_int))
  (dss_one (ds_retM (de_mod (de_toInt  (by rfl) T.n_int (de_var 2)) (de_var 1)))))))))⟩
theorem ok__check_limits (T : Txt K mg) : FnOk P w K mg base (L2.CX P w) 3 (He.fAd K ("_check_limits", none)) T.fd__check_limits ["limits"] (spF (GK K) 1 F__check_limits) :=
  fn_okD (G := GK K) (k := 2) rfl T.fu__check_limits sc__check_limits rfl rfl (by decide) fun cdv A outer s H E fr C => ⟨_,
  (dss_cons (ds_if (dt_gt  (de_len C.hK (by rfl) T.n_len (de_var 0)) (de_gint (by rfl) T.ci_MOST_LIMITS))
  (dss_one (ds_raise (c := "BadCount") (is := []) (fs := [("number", 1)]) C T.oe_BadCount (al_1 T.no_BadCount_number al_0) (ok_X_BadCount T) (by decide) T.ii_BadCount T.tf_BadCount (bd_X_BadCount T) (by rfl) T.gl_BadCount (da_cons (de_len C.hK (by rfl) T.n_len (de_var 0)) da_nil)))
  dss_nil)
  (dss_cons (ds_for C (di_seq C.hK (de_var 0)) (dg_name C (i := 1) (by rfl))
  (dss_one (ds_if (dt_lt  (de_var 1) de_int)
  (dss_one (ds_raise (c := "BadCount") (is := []) (fs := [("number", 1)]) C T.oe_BadCount (al_1 T.no_BadCount_number al_0) (ok_X_BadCount T) (by decide) T.ii_BadCount T.tf_BadCount (bd_X_BadCount T) (by rfl) T.gl_BadCount (da_cons (de_var 1) da_nil)))
  dss_nil)))
  (dss_one (ds_for C (di_zip C.hK (by rfl) T.n_zip (de_var 0) (de_sl C.hK (de_var 0) (do_some de_int) do_none)) (dg_tup C (dgs_cons (dg_name C (i := 2) (by rfl)) (dgs_cons (dg_name C (i := 3) (by rfl)) dgs_nil)))
  (dss_one (ds_if (dt_ge  (de_var 2) (de_var 3))
  (dss_one (ds_raise (c := "BadSpan") (is := []) (fs := [("low", 1), ("high", 2)]) C T.oe_BadSpan (al_1 T.no_BadSpan_low (al_1 T.no_BadSpan_high al_0)) (ok_X_BadSpan T) (by decide) T.ii_BadSpan T.tf_BadSpan (bd_X_BadSpan T) (by rfl) T.gl_BadSpan (da_cons (de_var 2) (da_cons (de_var 3) da_nil))))
  dss_nil))))))⟩
theorem ok__check_delays (T : Txt K mg) : FnOk P w K mg base (L2.CX P w) 3 (He.fAd K ("_check_delays", none)) T.fd__check_delays ["delays"] (spF (GK K) 1 F__check_delays) :=
  fn_okD (G := GK K) (k := 2) rfl T.fu__check_delays sc__check_delays rfl rfl (by decide) fun cdv A outer s H E fr C => ⟨_,
  (dss_cons (ds_if (dt_not (dt_chain op_le op_le od_cmp od_cmp de_int (de_len C.hK (by rfl) T.n_len (de_var 0)) (de_gint (by rfl) T.ci_MOST_DELAYS)))
  (dss_one (ds_raise (c := "BadCount") (is := []) (fs := [("number", 1)]) C T.oe_BadCount (al_1 T.no_BadCount_number al_0) (ok_X_BadCount T) (by decide) T.ii_BadCount T.tf_BadCount (bd_X_BadCount T) (by rfl) T.gl_BadCount (da_cons (de_len C.hK (by rfl) T.n_len (de_var 0)) da_nil)))
  dss_nil)
  (dss_one (ds_for C (di_seq C.hK (de_var 0)) (dg_tup C (dgs_cons (dg_name C (i := 1) (by rfl)) (dgs_cons (dg_name C (i := 2) (by rfl)) dgs_nil)))
  (dss_cons (ds_if (dt_lt  (de_var 1) de_int)
  (dss_one (ds_raise (c := "BadCount") (is := []) (fs := [("number", 1)]) C T.oe_BadCount (al_1 T.no_BadCount_number al_0) (ok_X_BadCount T) (by decide) T.ii_BadCount T.tf_BadCount (bd_X_BadCount T) (by rfl) T.gl_BadCount (da_cons (de_var 1) da_nil)))
  dss_nil)
  (dss_one (ds_if (dt_lt  (de_var 2) de_int)
  (dss_one (ds_raise (c := "BadCount") (is := []) (fs := [("number", 1)]) C T.oe_BadCount (al_1 T.no_BadCount_number al_0) (ok_X_BadCount T) (by decide) T.ii_BadCount T.tf_BadCount (bd_X_BadCount T) (by rfl) T.gl_BadCount (da_cons (de_var 2) da_nil)))
  dss_nil))))))⟩
theorem sb_Veil___init____delays (T : Txt K mg) : SBm K T.fd_Veil___init__ ["self", "delays"] "limits" ["delays"] [(3, 0)] [] :=
  sb_k (ms := []) T.fu_Veil___init__ (by simp) (by simp) fun dd e2 e3 e4 e5 e6 u0 mv ws h1 h2 => match mv, ws, h1, h2 with | [], [d0], _, _ => ⟨rfl, fun r rest => rfl⟩
theorem ok_Veil___init____delays (T : Txt K mg) : FnS P w K mg base 4 (He.fAd K ("Veil", some "__init__")) ["delays"] (spS (GK K) 3 [] [(3, 0)] F_Veil___init__) :=
  fn_starD (G := GK K) (k := 3) rfl T.fu_Veil___init__ sc_Veil___init__ rfl rfl (by decide) (sb_Veil___init____delays T) fun cdv A outer s H E fr C => ⟨_,
  (dss_cons (ds_expr (de_callF C (ok__check_limits T) (by decide) (by rfl) T.g__check_limits T.fu__check_limits.kp (bd__check_limits T) (da_cons (de_var 2) da_nil)))
  (dss_cons (ds_expr (de_callF C (ok__check_delays T) (by decide) (by rfl) T.g__check_delays T.fu__check_delays.kp (bd__check_delays T) (da_cons (de_var 1) da_nil)))
  (dss_cons (ds_fldS (cs := ["Veil"]) C.hK (cf_limits T) (de_var 0) (de_toT C.hK (by rfl) T.n_tuple (de_var 2)))
  (dss_one (ds_fldS (cs := ["Veil"]) C.hK (cf_delays T) (de_var 0) (de_toT C.hK (by rfl) T.n_tuple (de_comp C [("ticks", 3), ("share", 4)] (di_seq C.hK (de_var 1)) (blkOk_by (N := ["self", "delays", "limits", "ticks", "share"]) (sc := defScope s_Veil___init__) (by decide +kernel)) (fun _ _ _ _ _ C' => (dg_tup C' (dgs_cons (dg_name C' (i := 3) (by rfl)) (dgs_cons (dg_name C' (i := 4) (by rfl)) dgs_nil)))) (fun _ _ _ _ _ C' => dts_nil) (fun _ _ _ _ _ C' => (de_tup (da_cons (de_var 3) (da_cons (de_var 4) da_nil)))))))))))⟩
theorem sb_Veil___init____0 (T : Txt K mg) : SBm K T.fd_Veil___init__ ["self", "delays"] "limits" [] [(2, 0)] [.ref (kwdAt (fun K => He.fAd K ("Veil", some "__init__")) "delays" K)] :=
  sb_k (ms := [("delays", .ref (kwdAt (fun K => He.fAd K ("Veil", some "__init__")) "delays" K))]) T.fu_Veil___init__ (by simp) (by simp) fun dd e2 e3 e4 e5 e6 u0 mv ws h1 h2 => match mv, ws, h1, h2 with | [c0], [], _, _ => ⟨⟨_, _, _, _, _, _, rfl, rfl, rfl⟩, fun r rest => ⟨_, _, _, _, _, _, rfl, rfl, rfl⟩⟩
theorem ok_Veil___init____0 (T : Txt K mg) : FnS P w K mg base 4 (He.fAd K ("Veil", some "__init__")) [] (spS (GK K) 3 [.ref (kwdAt (fun K => He.fAd K ("Veil", some "__init__")) "delays" K)] [(2, 0)] F_Veil___init__) :=
  fn_starD (G := GK K) (k := 3) rfl T.fu_Veil___init__ sc_Veil___init__ rfl rfl (by decide) (sb_Veil___init____0 T) fun cdv A outer s H E fr C => ⟨_,
  (dss_cons (ds_expr (de_callF C (ok__check_limits T) (by decide) (by rfl) T.g__check_limits T.fu__check_limits.kp (bd__check_limits T) (da_cons (de_var 2) da_nil)))
  (dss_cons (ds_expr (de_callF C (ok__check_delays T) (by decide) (by rfl) T.g__check_delays T.fu__check_delays.kp (bd__check_delays T) (da_cons (de_var 1) da_nil)))
  (dss_cons (ds_fldS (cs := ["Veil"]) C.hK (cf_limits T) (de_var 0) (de_toT C.hK (by rfl) T.n_tuple (de_var 2)))
  (dss_one (ds_fldS (cs := ["Veil"]) C.hK (cf_delays T) (de_var 0) (de_toT C.hK (by rfl) T.n_tuple (de_comp C [("ticks", 3), ("share", 4)] (di_seq C.hK (de_var 1)) (blkOk_by (N := ["self", "delays", "limits", "ticks", "share"]) (sc := defScope s_Veil___init__) (by decide +kernel)) (fun _ _ _ _ _ C' => (dg_tup C' (dgs_cons (dg_name C' (i := 3) (by rfl)) (dgs_cons (dg_name C' (i := 4) (by rfl)) dgs_nil)))) (fun _ _ _ _ _ C' => dts_nil) (fun _ _ _ _ _ C' => (de_tup (da_cons (de_var 3) (da_cons (de_var 4) da_nil)))))))))))⟩
theorem ok__law_veil (T : Txt K mg) : FnOk P w K mg base (L2.CX P w) 6 (He.fAd K ("_law_veil", none)) T.fd__law_veil ["limits", "lags"] (spF (GK K) 2 F__law_veil) :=
  fn_okD (G := GK K) (k := 5) rfl T.fu__law_veil sc__law_veil rfl rfl (by decide) fun cdv A outer s H E fr C => ⟨_,
  (dss_cons (ds_if (dt_eq C.hK C.rm (de_len C.hK (by rfl) T.n_len (de_var 0)) de_int)
  (dss_one (ds_retF (de_makeS0 (c := "Veil") C T.mk_Veil (ok_Veil___init____delays T) (by decide) (by rfl) T.gc_Veil dfl_nil (dk_cons (de_var 1) dk_nil))))
  dss_nil)
  (dss_cons (ds_if (dt_eq C.hK C.rm (de_len C.hK (by rfl) T.n_len (de_var 0)) de_int)
  (dss_one (ds_retF (de_makeS (c := "Veil") C T.mk_Veil (ok_Veil___init____delays T) (by decide) (by rfl) T.gc_Veil dfl_nil (da_cons (de_ix C.hK (de_var 0) de_int) da_nil) (dk_cons (de_var 1) dk_nil))))
  dss_nil)
  (dss_cons (ds_if (dt_eq C.hK C.rm (de_len C.hK (by rfl) T.n_len (de_var 0)) de_int)
  (dss_one (ds_retF (de_makeS (c := "Veil") C T.mk_Veil (ok_Veil___init____delays T) (by decide) (by rfl) T.gc_Veil dfl_nil (da_cons (de_ix C.hK (de_var 0) de_int) (da_cons (de_ix C.hK (de_var 0) de_int) da_nil)) (dk_cons (de_var 1) dk_nil))))
  dss_nil)
  (dss_cons (ds_if (dt_eq C.hK C.rm (de_len C.hK (by rfl) T.n_len (de_var 0)) de_int)
  (dss_one (ds_retF (de_makeS (c := "Veil") C T.mk_Veil (ok_Veil___init____delays T) (by decide) (by rfl) T.gc_Veil dfl_nil (da_cons (de_ix C.hK (de_var 0) de_int) (da_cons (de_ix C.hK (de_var 0) de_int) (da_cons (de_ix C.hK (de_var 0) de_int) da_nil))) (dk_cons (de_var 1) dk_nil))))
  dss_nil)
  (dss_cons (ds_if (dt_eq C.hK C.rm (de_len C.hK (by rfl) T.n_len (de_var 0)) de_int)
  (dss_one (ds_retF (de_makeS (c := "Veil") C T.mk_Veil (ok_Veil___init____delays T) (by decide) (by rfl) T.gc_Veil dfl_nil (da_cons (de_ix C.hK (de_var 0) de_int) (da_cons (de_ix C.hK (de_var 0) de_int) (da_cons (de_ix C.hK (de_var 0) de_int) (da_cons (de_ix C.hK (de_var 0) de_int) da_nil)))) (dk_cons (de_var 1) dk_nil))))
  dss_nil)
  (dss_cons (ds_if (dt_eq C.hK C.rm (de_len C.hK (by rfl) T.n_len (de_var 0)) de_int)
  (dss_one (ds_retF (de_makeS (c := "Veil") C T.mk_Veil (ok_Veil___init____delays T) (by decide) (by rfl) T.gc_Veil dfl_nil (da_cons (de_ix C.hK (de_var 0) de_int) (da_cons (de_ix C.hK (de_var 0) de_int) (da_cons (de_ix C.hK (de_var 0) de_int) (da_cons (de_ix C.hK (de_var 0) de_int) (da_cons (de_ix C.hK (de_var 0) de_int) (da_cons (de_ix C.hK (de_var 0) de_int) (da_cons (de_ix C.hK (de_var 0) de_int) (da_cons (de_ix C.hK (de_var 0) de_int) da_nil)))))))) (dk_cons (de_var 1) dk_nil))))
  dss_nil)
  (dss_cons (ds_setF C (i := 2) (by rfl) (de_sl C.hK (de_var 0) do_none (do_some de_int)))
  (dss_one (ds_retF (de_makeS (c := "Veil") C T.mk_Veil (ok_Veil___init____delays T) (by decide) (by rfl) T.gc_Veil dfl_nil (da_cons (de_ix C.hK (de_var 2) de_int) (da_cons (de_ix C.hK (de_var 2) de_int) (da_cons (de_ix C.hK (de_var 2) de_int) (da_cons (de_ix C.hK (de_var 2) de_int) (da_cons (de_ix C.hK (de_var 0) de_int) da_nil))))) (dk_cons (de_var 1) dk_nil)))))))))))⟩
theorem ok_Veil_rounded (T : Txt K mg) : FnOk P w K mg base (L2.CX P w) 1 (He.fAd K ("Veil", some "rounded")) T.fd_Veil_rounded ["self", "ticks"] (spF (GK K) 2 F_Veil_rounded) :=
  fn_okD (G := GK K) (k := 0) rfl T.fu_Veil_rounded sc_Veil_rounded rfl rfl (by decide) fun cdv A outer s H E fr C => ⟨_,
  (dss_cons (ds_if (dt_eq C.hK C.rm (de_fld (cs := ["Veil"]) C.hK (cf_limits T) (de_var 0)) (de_tup da_nil))
  (dss_one (ds_retF (de_var 1)))
  dss_nil)
  (dss_one (ds_retF (de_minD C.hK C.calm C.rm (by rfl) T.n_min (de_comp C [("limit", 2)] (di_seq C.hK (de_fld (cs := ["Veil"]) C.hK (cf_limits T) (de_var 0))) (blkOk_by (N := ["self", "ticks", "limit"]) (sc := defScope s_Veil_rounded) (by decide +kernel)) (fun _ _ _ _ _ C' => (dg_name C' (i := 2) (by rfl))) (fun _ _ _ _ _ C' => (dts_one (dt_ge  (de_var 2) (de_var 1)))) (fun _ _ _ _ _ C' => (de_toInt  (by rfl) T.n_int (de_var 2)))) (de_neg de_int)))))⟩
theorem ok_Veil_lots (T : Txt K mg) : FnOk P w K mg base (L2.CX P w) 1 (getAt K (He.ga K "Veil") "lots") T.fd_Veil_lots ["self"] (spF (GK K) 1 F_Veil_lots) :=
  fn_okD (G := GK K) (k := 0) rfl T.fu_Veil_lots sc_Veil_lots rfl rfl (by decide) fun cdv A outer s H E fr C => ⟨_,
  (dss_one (ds_retF (de_sum C.hK C.calm (by rfl) T.n_sum (de_comp C [("ticks", 1), ("share", 2)] (di_seq C.hK (de_fld (cs := ["Veil"]) C.hK (cf_delays T) (de_var 0))) (blkOk_by (N := ["self", "ticks", "share"]) (sc := defScope s_Veil_lots) (by decide +kernel)) (fun _ _ _ _ _ C' => (dg_tup C' (dgs_cons (dg_name C' (i := 1) (by rfl)) (dgs_cons (dg_name C' (i := 2) (by rfl)) dgs_nil)))) (fun _ _ _ _ _ C' => dts_nil) (fun _ _ _ _ _ C' => (de_var 2))))))⟩
theorem ok_Veil_delay (T : Txt K mg) : FnOk P w K mg base (L2.CX P w) 3 (He.fAd K ("Veil", some "delay")) T.fd_Veil_delay ["self", "lot"] (spF (GK K) 2 F_Veil_delay) :=
  fn_okD (G := GK K) (k := 2) rfl T.fu_Veil_delay sc_Veil_delay rfl rfl (by decide) fun cdv A outer s H E fr C => ⟨_,
  (dss_cons (ds_if (dt_not (dt_chain op_le op_lt od_cmp od_cmp de_int (de_var 1) (de_prop (c := "Veil") C T.cl_Veil T.pr_Veil_lots (ok_Veil_lots T) (by decide) (bd_Veil_lots T) (de_var 0))))
  (dss_one (ds_raise (c := "BadLot") (is := []) (fs := [("number", 1)]) C T.oe_BadLot (al_1 T.no_BadLot_number al_0) (ok_X_BadLot T) (by decide) T.ii_BadLot T.tf_BadLot (bd_X_BadLot T) (by rfl) T.gl_BadLot (da_cons (de_var 1) da_nil)))
  dss_nil)
  (dss_cons (ds_for C (di_seq C.hK (de_fld (cs := ["Veil"]) C.hK (cf_delays T) (de_var 0))) (dg_tup C (dgs_cons (dg_name C (i := 2) (by rfl)) (dgs_cons (dg_name C (i := 3) (by rfl)) dgs_nil)))
  (dss_cons (ds_if (dt_lt  (de_var 1) (de_var 3))
  (dss_one (ds_retF (de_var 2)))
  dss_nil)
  (dss_one (ds_setF C (i := 1) (by rfl) (de_sub (de_var 1) (de_var 3))))))
  (dss_one (ds_retF de_int))))⟩
theorem ok_Veil_shown (T : Txt K mg) : FnOk P w K mg base (L2.CX P w) 4 (He.fAd K ("Veil", some "shown")) T.fd_Veil_shown ["self", "ticks", "lot"] (spF (GK K) 3 F_Veil_shown) :=
  fn_okD (G := GK K) (k := 3) rfl T.fu_Veil_shown sc_Veil_shown rfl rfl (by decide) fun cdv A outer s H E fr C => ⟨_,
  (dss_cons (ds_if (dt_lt  (de_var 1) de_int)
  (dss_one (ds_raise (c := "BadCount") (is := []) (fs := [("number", 1)]) C T.oe_BadCount (al_1 T.no_BadCount_number al_0) (ok_X_BadCount T) (by decide) T.ii_BadCount T.tf_BadCount (bd_X_BadCount T) (by rfl) T.gl_BadCount (da_cons (de_var 1) da_nil)))
  dss_nil)
  (dss_one (ds_retF (de_methK (c := "Veil") C T.cl_Veil T.me_Veil_rounded (ok_Veil_rounded T) (by decide) (kb_Veil_rounded_1 T) dfl_nil dfl_nil (de_var 0) (da_cons (de_add C.hK (de_var 1) (de_methK (c := "Veil") C T.cl_Veil T.me_Veil_delay (ok_Veil_delay T) (by decide) (kb_Veil_delay_1 T) dfl_nil dfl_nil (de_var 0) (da_cons (de_var 2) da_nil))) da_nil)))))⟩
theorem ok_Veil_view (T : Txt K mg) : FnOk P w K mg base (L2.CX P w) 3 (He.fAd K ("Veil", some "view")) T.fd_Veil_view ["self", "ticks"] (spF (GK K) 2 F_Veil_view) :=
  fn_okD (G := GK K) (k := 2) rfl T.fu_Veil_view sc_Veil_view rfl rfl (by decide) fun cdv A outer s H E fr C => ⟨_,
  (dss_cons (ds_if (dt_lt  (de_var 1) de_int)
  (dss_one (ds_raise (c := "BadCount") (is := []) (fs := [("number", 1)]) C T.oe_BadCount (al_1 T.no_BadCount_number al_0) (ok_X_BadCount T) (by decide) T.ii_BadCount T.tf_BadCount (bd_X_BadCount T) (by rfl) T.gl_BadCount (da_cons (de_var 1) da_nil)))
  dss_nil)
  (dss_one (ds_retF (de_toT C.hK (by rfl) T.n_tuple (de_comp C [("delay", 2), ("share", 3)] (di_seq C.hK (de_fld (cs := ["Veil"]) C.hK (cf_delays T) (de_var 0))) (blkOk_by (N := ["self", "ticks", "delay", "share"]) (sc := defScope s_Veil_view) (by decide +kernel)) (fun _ _ _ _ _ C' => (dg_tup C' (dgs_cons (dg_name C' (i := 2) (by rfl)) (dgs_cons (dg_name C' (i := 3) (by rfl)) dgs_nil)))) (fun _ _ _ _ _ C' => dts_nil) (fun _ _ _ _ _ C' => (de_methK (c := "Veil") C' T.cl_Veil T.me_Veil_rounded (ok_Veil_rounded T) (by decide) (kb_Veil_rounded_1 T) dfl_nil dfl_nil (de_var 0) (da_cons (de_add C'.hK (de_var 1) (de_var 2)) da_nil))))))))⟩
theorem ok_Veil_odds (T : Txt K mg) : FnOk P w K mg base (L2.CX P w) 4 (He.fAd K ("Veil", some "odds")) T.fd_Veil_odds ["self", "ticks"] (spF (GK K) 2 F_Veil_odds) :=
  fn_okD (G := GK K) (k := 3) rfl T.fu_Veil_odds sc_Veil_odds rfl rfl (by decide) fun cdv A outer s H E fr C => ⟨_,
  (dss_cons (ds_set C (i := 2) (by rfl) de_d0)
  (dss_cons (ds_for C (di_zip C.hK (by rfl) T.n_zip (de_methK (c := "Veil") C T.cl_Veil T.me_Veil_view (ok_Veil_view T) (by decide) (kb_Veil_view_1 T) dfl_nil dfl_nil (de_var 0) (da_cons (de_var 1) da_nil)) (de_fld (cs := ["Veil"]) C.hK (cf_delays T) (de_var 0))) (dg_tup C (dgs_cons (dg_name C (i := 3) (by rfl)) (dgs_cons (dg_tup C (dgs_cons (dg_name C (i := 4) (by rfl)) (dgs_cons (dg_name C (i := 5) (by rfl)) dgs_nil))) dgs_nil)))
  (dss_one (ds_dput C.rm (de_var 2) (de_var 3) (de_add C.hK (de_dget2 C.rm (de_var 2) (de_var 3) de_int ⟨by rfl, by rfl, by rfl, by rfl⟩) (de_var 5)))))
  (dss_one (ds_retF (de_comp C [("shown", 3)] (di_seq C.hK (de_sorted C.hK (by rfl) T.n_sorted (de_comp C [("one", 6)] (di_dct (de_var 2)) (blkOk_by (N := ["self", "ticks", "found", "shown", "delay", "share", "one"]) (sc := defScope s_Veil_odds) (by decide +kernel)) (fun _ _ _ _ _ C' => (dg_name C' (i := 6) (by rfl))) (fun _ _ _ _ _ C' => dts_nil) (fun _ _ _ _ _ C' => (de_toInt  (by rfl) T.n_int (de_var 6)))))) (blkOk_by (N := ["self", "ticks", "found", "shown", "delay", "share", "one"]) (sc := defScope s_Veil_odds) (by decide +kernel)) (fun _ _ _ _ _ C' => (dg_name C' (i := 3) (by rfl))) (fun _ _ _ _ _ C' => dts_nil) (fun _ _ _ _ _ C' => (de_tup (da_cons (de_var 3) (da_cons (de_dix C'.rm (de_var 2) (de_var 3)) da_nil)))))))))⟩
theorem ok__law_asked (T : Txt K mg) : FnOk P w K mg base (L2.CX P w) 5 (He.fAd K ("_law_asked", none)) T.fd__law_asked ["veil", "way", "ticks", "number"] (spF (GK K) 4 F__law_asked) :=
  fn_okD (G := GK K) (k := 4) rfl T.fu__law_asked sc__law_asked rfl rfl (by decide) fun cdv A outer s H E fr C => ⟨_,
  (dss_one (ds_try C (by rfl) (by rfl) (fun W pn xe C' => ⟨_, (dss_cons (ds_if (dt_eq C'.hK C'.rm (de_var 1) de_int)
  (dss_one (ds_retF (de_methK (c := "Veil") C' T.cl_Veil T.me_Veil_shown (ok_Veil_shown T) (by decide) (kb_Veil_shown_2 T) dfl_nil dfl_nil (de_var 0) (da_cons (de_var 2) (da_cons (de_var 3) da_nil)))))
  dss_nil)
  (dss_cons (ds_if (dt_eq C'.hK C'.rm (de_var 1) de_int)
  (dss_one (ds_retF (de_methK (c := "Veil") C' T.cl_Veil T.me_Veil_delay (ok_Veil_delay T) (by decide) (kb_Veil_delay_1 T) dfl_nil dfl_nil (de_var 0) (da_cons (de_var 3) da_nil))))
  dss_nil)
  (dss_one (ds_retF (de_if (dt_eq C'.hK C'.rm (de_var 1) de_int) (de_methK (c := "Veil") C' T.cl_Veil T.me_Veil_view (ok_Veil_view T) (by decide) (kb_Veil_view_1 T) dfl_nil dfl_nil (de_var 0) (da_cons (de_var 2) da_nil)) (de_methK (c := "Veil") C' T.cl_Veil T.me_Veil_odds (ok_Veil_odds T) (by decide) (kb_Veil_odds_1 T) dfl_nil dfl_nil (de_var 0) (da_cons (de_var 2) da_nil)))))))⟩) (DHs.cons ⟨by rfl, by decide, .inl T.gl_BadCount⟩ (by rfl) (by rfl) (by rfl) (exm_tab (al_1 T.em_BadCount_BadCount (al_1 T.em_BadSpan_BadCount (al_1 T.em_BadLot_BadCount al_0)))) (su_ret (f := fun ns ds => (eTup (aCons (eC (.str "count")) (aCons (eXf "number" ns ds) aNil)))) fun b dd oe pn c ns ds e hz hf => (hx_tup (ha_1 (hx_c pe_str fun _ _ => rfl) (ha_1 (px_fld (n := "e") C.hK (tab_true (al_1 (fun _ => ⟨T.xf_BadCount, T.no_BadCount_number⟩) (al_1 (fun z => by cases z) (al_1 (fun z => by cases z) al_0)))) e hz hf) ha_0)))) (DHs.cons ⟨by rfl, by decide, .inl T.gl_BadLot⟩ (by rfl) (by rfl) (by rfl) (exm_tab (al_1 T.em_BadCount_BadLot (al_1 T.em_BadSpan_BadLot (al_1 T.em_BadLot_BadLot al_0)))) (su_ret (f := fun ns ds => (eTup (aCons (eC (.str "lot")) (aCons (eXf "number" ns ds) aNil)))) fun b dd oe pn c ns ds e hz hf => (hx_tup (ha_1 (hx_c pe_str fun _ _ => rfl) (ha_1 (px_fld (n := "e") C.hK (tab_true (al_1 (fun z => by cases z) (al_1 (fun z => by cases z) (al_1 (fun _ => ⟨T.xf_BadLot, T.no_BadLot_number⟩) al_0)))) e hz hf) ha_0)))) DHs.nil))))⟩
theorem ok__law_same (T : Txt K mg) : ∀ n : Nat, FnOk P w K mg base (L2.CX P w) (0 + n) (He.fAd K ("_law_same", none)) T.fd__law_same ["one", "two"] (spF (GK K) 2 (F__law_same n))
  | 0 => fn_stuck rfl
  | n + 1 =>
    have IH := ok__law_same T n
    fn_okD (G := GK K) (k := 0 + n) rfl T.fu__law_same sc__law_same rfl rfl (by decide) fun cdv A outer s H E fr C => ⟨_,
  (dss_cons (ds_if (DW.dt (dw_or (dt_ne C.hK C.rm (de_isi (by decide) C.hK (by rfl) T.n_isinstance (by rfl) T.n_tuple bt_tuple (de_var 1)) (de_isi (by decide) C.hK (by rfl) T.n_isinstance (by rfl) T.n_tuple bt_tuple (de_var 0))) (dw_or1 (dt_ne C.hK C.rm (de_isi (by decide) C.hK (by rfl) T.n_isinstance (by rfl) T.n_list bt_list (de_var 1)) (de_isi (by decide) C.hK (by rfl) T.n_isinstance (by rfl) T.n_list bt_list (de_var 0))))))
  (dss_one (ds_retM de_bl))
  dss_nil)
  (dss_cons (ds_if (DW.dt (dw_or (dt_tru C.hK (de_isi (by decide) C.hK (by rfl) T.n_isinstance (by rfl) T.n_tuple bt_tuple (de_var 1))) (dw_or1 (dt_tru C.hK (de_isi (by decide) C.hK (by rfl) T.n_isinstance (by rfl) T.n_list bt_list (de_var 1))))))
  (dss_one (ds_retM (de_and (de_eq C.hK C.rm (de_len C.hK (by rfl) T.n_len (de_var 0)) (de_len C.hK (by rfl) T.n_len (de_var 1))) (de_one (de_all C.hK C.calm (by rfl) T.n_all (de_comp C [("k", 2)] (di_range1 (by rfl) T.n_range (de_len C.hK (by rfl) T.n_len (de_var 1))) (blkOk_by (N := ["one", "two", "k"]) (sc := defScope s__law_same) (by decide +kernel)) (fun _ _ _ _ _ C' => (dg_name C' (i := 2) (by rfl))) (fun _ _ _ _ _ C' => dts_nil) (fun _ _ _ _ _ C' => (de_callF C' IH (by omega) (by rfl) T.g__law_same T.fu__law_same.kp (bd__law_same T) (da_cons (de_ix C'.hK (de_var 0) (de_var 2)) (da_cons (de_ix C'.hK (de_var 1) (de_var 2)) da_nil))))))))))
  dss_nil)
  (dss_one (ds_retM (de_and (de_eq C.hK C.rm (de_isi (by decide) C.hK (by rfl) T.n_isinstance (by rfl) T.n_bool bt_bool (de_var 0)) (de_isi (by decide) C.hK (by rfl) T.n_isinstance (by rfl) T.n_bool bt_bool (de_var 1))) (de_one (de_eq C.hK C.rm (de_var 0) (de_var 1))))))))⟩
theorem ok__law_rounded (T : Txt K mg) : FnOk P w K mg base (L2.CX P w) 1 (He.fAd K ("_law_rounded", none)) T.fd__law_rounded ["limits", "ticks"] (spF (GK K) 2 F__law_rounded) :=
  fn_okD (G := GK K) (k := 0) rfl T.fu__law_rounded sc__law_rounded rfl rfl (by decide) fun cdv A outer s H E fr C => ⟨_,
  (dss_cons (ds_setLcF C [("limit", 3)] (by rfl) (di_seq C.hK (de_var 0)) (blkOk_by (N := ["limits", "ticks", "fit", "limit"]) (sc := defScope s__law_rounded) (by decide +kernel)) (fun _ _ _ _ _ C' => (dg_name C' (i := 3) (by rfl))) (fun _ _ _ _ _ C' => (dts_one (dt_ge  (de_var 3) (de_var 1)))) (fun _ _ _ _ _ C' => (de_var 3)))
  (dss_one (ds_retF (de_if (dt_eq C.hK C.rm (de_var 0) (de_lst da_nil)) (de_var 1) (de_if (dt_ne C.hK C.rm (de_var 2) (de_lst da_nil)) (de_ix C.hK (de_var 2) de_int) (de_sub de_int de_int))))))⟩
theorem ok__law_veil_right (T : Txt K mg) : FnOk P w K mg base (L2.CX P w) 8 (He.fAd K ("_law_veil_right", none)) T.fd__law_veil_right ["veil", "limits", "lags", "times"] (spF (GK K) 4 F__law_veil_right) :=
  fn_okD (G := GK K) (k := 7) rfl T.fu__law_veil_right sc__law_veil_right rfl rfl (by decide) fun cdv A outer s H E fr C => ⟨_,
  (dss_cons (ds_setF C (i := 4) (by rfl) (de_sum C.hK C.calm (by rfl) T.n_sum (de_comp C [("one", 13)] (di_seq C.hK (de_var 2)) (blkOk_by (N := ["veil", "limits", "lags", "times", "whole", "ticks", "refused", "shown", "odds", "value", "start", "k", "number", "one"]) (sc := defScope s__law_veil_right) (by decide +kernel)) (fun _ _ _ _ _ C' => (dg_name C' (i := 13) (by rfl))) (fun _ _ _ _ _ C' => dts_nil) (fun _ _ _ _ _ C' => (de_ix C'.hK (de_var 13) de_int)))))
  (dss_cons (ds_if (DW.dt (dw_or (dt_not (dt_tru C.hK (de_callF C (ok__law_same T 6) (by decide) (by rfl) T.g__law_same T.fu__law_same.kp (bd__law_same T) (da_cons (de_prop (c := "Veil") C T.cl_Veil T.pr_Veil_lots (ok_Veil_lots T) (by decide) (bd_Veil_lots T) (de_var 0)) (da_cons (de_var 4) da_nil))))) (dw_or1 (dt_not (dt_tru C.hK (de_callF C (ok__law_same T 6) (by decide) (by rfl) T.g__law_same T.fu__law_same.kp (bd__law_same T) (da_cons (de_tup (da_cons (de_fld (cs := ["Veil"]) C.hK (cf_limits T) (de_var 0)) (da_cons (de_fld (cs := ["Veil"]) C.hK (cf_delays T) (de_var 0)) da_nil))) (da_cons (de_tup (da_cons (de_toT C.hK (by rfl) T.n_tuple (de_var 1)) (da_cons (de_toT C.hK (by rfl) T.n_tuple (de_var 2)) da_nil))) da_nil))))))))
  (dss_one (ds_retF de_bl))
  dss_nil)
  (dss_cons (ds_for C (di_seq C.hK (de_var 3)) (dg_name C (i := 5) (by rfl))
  (dss_cons (ds_if (dt_not (dt_tru C.hK (de_callF C (ok__law_same T 6) (by decide) (by rfl) T.g__law_same T.fu__law_same.kp (bd__law_same T) (da_cons (de_methK (c := "Veil") C T.cl_Veil T.me_Veil_rounded (ok_Veil_rounded T) (by decide) (kb_Veil_rounded_1 T) dfl_nil dfl_nil (de_var 0) (da_cons (de_var 5) da_nil)) (da_cons (de_callF C (ok__law_rounded T) (by decide) (by rfl) T.g__law_rounded T.fu__law_rounded.kp (bd__law_rounded T) (da_cons (de_var 1) (da_cons (de_var 5) da_nil))) da_nil)))))
  (dss_one (ds_retF de_bl))
  dss_nil)
  (dss_cons (ds_setF C (i := 7) (by rfl) (de_comp C [("one", 13)] (di_seq C.hK (de_var 2)) (blkOk_by (N := ["veil", "limits", "lags", "times", "whole", "ticks", "refused", "shown", "odds", "value", "start", "k", "number", "one"]) (sc := defScope s__law_veil_right) (by decide +kernel)) (fun _ _ _ _ _ C' => (dg_name C' (i := 13) (by rfl))) (fun _ _ _ _ _ C' => dts_nil) (fun _ _ _ _ _ C' => (de_callF C' (ok__law_rounded T) (by decide) (by rfl) T.g__law_rounded T.fu__law_rounded.kp (bd__law_rounded T) (da_cons (de_var 1) (da_cons (de_add C'.hK (de_var 5) (de_ix C'.hK (de_var 13) de_int)) da_nil))))))
  (dss_cons (ds_if (dt_not (dt_tru C.hK (de_callF C (ok__law_same T 6) (by decide) (by rfl) T.g__law_same T.fu__law_same.kp (bd__law_same T) (da_cons (de_methK (c := "Veil") C T.cl_Veil T.me_Veil_view (ok_Veil_view T) (by decide) (kb_Veil_view_1 T) dfl_nil dfl_nil (de_var 0) (da_cons (de_var 5) da_nil)) (da_cons (de_toT C.hK (by rfl) T.n_tuple (de_var 7)) da_nil)))))
  (dss_one (ds_retF de_bl))
  dss_nil)
  (dss_cons (ds_set C (i := 8) (by rfl) (de_lst da_nil))
  (dss_cons (ds_for C (di_seq C.hK (de_sorted C.hK (by rfl) T.n_sorted (de_comp C [("one", 13)] (di_seq C.hK (de_var 7)) (blkOk_by (N := ["veil", "limits", "lags", "times", "whole", "ticks", "refused", "shown", "odds", "value", "start", "k", "number", "one"]) (sc := defScope s__law_veil_right) (by decide +kernel)) (fun _ _ _ _ _ C' => (dg_name C' (i := 13) (by rfl))) (fun _ _ _ _ _ C' => dts_nil) (fun _ _ _ _ _ C' => (de_toInt  (by rfl) T.n_int (de_var 13)))))) (dg_name C (i := 9) (by rfl))
  (dss_one (ds_if (DW.dt (dw_or (dt_eq C.hK C.rm (de_var 8) (de_lst da_nil)) (dw_or1 (dt_ne C.hK C.rm (de_ix C.hK (de_ix C.hK (de_var 8) (de_sub (de_len C.hK (by rfl) T.n_len (de_var 8)) de_int)) de_int) (de_var 9)))))
  (dss_one (ds_expr (de_app C.hK (de_var 8) (de_tup (da_cons (de_var 9) (da_cons (de_sum C.hK C.calm (by rfl) T.n_sum (de_comp C [("k", 11)] (di_range1 (by rfl) T.n_range (de_len C.hK (by rfl) T.n_len (de_var 2))) (blkOk_by (N := ["veil", "limits", "lags", "times", "whole", "ticks", "refused", "shown", "odds", "value", "start", "k", "number", "one"]) (sc := defScope s__law_veil_right) (by decide +kernel)) (fun _ _ _ _ _ C' => (dg_name C' (i := 11) (by rfl))) (fun _ _ _ _ _ C' => (dts_one (dt_eq C'.hK C'.rm (de_ix C'.hK (de_var 7) (de_var 11)) (de_var 9)))) (fun _ _ _ _ _ C' => (de_ix C'.hK (de_ix C'.hK (de_var 2) (de_var 11)) de_int)))) da_nil))))))
  dss_nil)))
  (dss_cons (ds_if (dt_not (dt_tru C.hK (de_callV C (ok__law_same T 6) (by decide) (by rfl) T.g__law_same T.fu__law_same.kp (bd__law_same T) (da_cons (de_methK (c := "Veil") C T.cl_Veil T.me_Veil_odds (ok_Veil_odds T) (by decide) (kb_Veil_odds_1 T) dfl_nil dfl_nil (de_var 0) (da_cons (de_var 5) da_nil)) (da_cons (de_var 8) da_nil)))))
  (dss_one (ds_retF de_bl))
  dss_nil)
  (dss_cons (ds_setF C (i := 10) (by rfl) de_int)
  (dss_one (ds_for C (di_range1 (by rfl) T.n_range (de_len C.hK (by rfl) T.n_len (de_var 2))) (dg_name C (i := 11) (by rfl))
  (dss_cons (ds_for C (di_seq C.hK (de_lst (da_cons (de_var 10) (da_cons (de_sub (de_add C.hK (de_var 10) (de_ix C.hK (de_ix C.hK (de_var 2) (de_var 11)) de_int)) de_int) da_nil)))) (dg_name C (i := 12) (by rfl))
  (dss_one (ds_if (DW.dt (dw_or (dt_not (dt_tru C.hK (de_callF C (ok__law_same T 6) (by decide) (by rfl) T.g__law_same T.fu__law_same.kp (bd__law_same T) (da_cons (de_methK (c := "Veil") C T.cl_Veil T.me_Veil_delay (ok_Veil_delay T) (by decide) (kb_Veil_delay_1 T) dfl_nil dfl_nil (de_var 0) (da_cons (de_var 12) da_nil)) (da_cons (de_ix C.hK (de_ix C.hK (de_var 2) (de_var 11)) de_int) da_nil))))) (dw_or1 (dt_not (dt_tru C.hK (de_callF C (ok__law_same T 6) (by decide) (by rfl) T.g__law_same T.fu__law_same.kp (bd__law_same T) (da_cons (de_methK (c := "Veil") C T.cl_Veil T.me_Veil_shown (ok_Veil_shown T) (by decide) (kb_Veil_shown_2 T) dfl_nil dfl_nil (de_var 0) (da_cons (de_var 5) (da_cons (de_var 12) da_nil))) (da_cons (de_ix C.hK (de_var 7) (de_var 11)) da_nil))))))))
  (dss_one (ds_retF de_bl))
  dss_nil)))
  (dss_one (ds_setF C (i := 10) (by rfl) (de_add C.hK (de_var 10) (de_ix C.hK (de_ix C.hK (de_var 2) (de_var 11)) de_int)))))))))))))))
  (dss_cons (ds_setF C (i := 6) (by rfl) (de_lst (da_cons (de_callF C (ok__law_asked T) (by decide) (by rfl) T.g__law_asked T.fu__law_asked.kp (bd__law_asked T) (da_cons (de_var 0) (da_cons de_int (da_cons (de_sub de_int de_int) (da_cons (de_var 4) da_nil))))) (da_cons (de_callF C (ok__law_asked T) (by decide) (by rfl) T.g__law_asked T.fu__law_asked.kp (bd__law_asked T) (da_cons (de_var 0) (da_cons de_int (da_cons de_int (da_cons (de_var 4) da_nil))))) (da_cons (de_callF C (ok__law_asked T) (by decide) (by rfl) T.g__law_asked T.fu__law_asked.kp (bd__law_asked T) (da_cons (de_var 0) (da_cons de_int (da_cons de_int (da_cons (de_sub de_int de_int) da_nil))))) da_nil)))))
  (dss_cons (ds_setF C (i := 6) (by rfl) (de_add C.hK (de_var 6) (de_lst (da_cons (de_callF C (ok__law_asked T) (by decide) (by rfl) T.g__law_asked T.fu__law_asked.kp (bd__law_asked T) (da_cons (de_var 0) (da_cons de_int (da_cons de_int (da_cons (de_var 4) da_nil))))) (da_cons (de_callF C (ok__law_asked T) (by decide) (by rfl) T.g__law_asked T.fu__law_asked.kp (bd__law_asked T) (da_cons (de_var 0) (da_cons de_int (da_cons (de_sub de_int de_int) (da_cons de_int da_nil))))) (da_cons (de_callF C (ok__law_asked T) (by decide) (by rfl) T.g__law_asked T.fu__law_asked.kp (bd__law_asked T) (da_cons (de_var 0) (da_cons de_int (da_cons (de_sub de_int de_int) (da_cons de_int da_nil))))) da_nil))))))
  (dss_one (ds_retF (de_eq C.hK C.rm (de_var 6) (de_lst (da_cons (de_tup (da_cons de_str (da_cons (de_sub de_int de_int) da_nil))) (da_cons (de_tup (da_cons de_str (da_cons (de_var 4) da_nil))) (da_cons (de_tup (da_cons de_str (da_cons (de_sub de_int de_int) da_nil))) (da_cons (de_tup (da_cons de_str (da_cons (de_var 4) da_nil))) (da_cons (de_tup (da_cons de_str (da_cons (de_sub de_int de_int) da_nil))) (da_cons (de_tup (da_cons de_str (da_cons (de_sub de_int de_int) da_nil))) da_nil)))))))))))))))⟩
theorem ok_Veil___eq__ (T : Txt K mg) : FnOk P w K mg base (L2.CX P w) 1 (He.fAd K ("Veil", some "__eq__")) T.fd_Veil___eq__ ["self", "other"] (spF (GK K) 2 F_Veil___eq__) :=
  fn_okD (G := GK K) (k := 0) rfl T.fu_Veil___eq__ sc_Veil___eq__ rfl rfl (by decide) fun cdv A outer s H E fr C => ⟨_,
  (dss_one (ds_retF (de_and (de_isc C.hK T.ic_Veil (by rfl) T.n_isinstance (by rfl) T.gc_Veil (de_var 1)) (de_and (de_eq C.hK C.rm (de_fld (cs := ["Veil"]) C.hK (cf_limits T) (de_var 0)) (de_fld (cs := ["Veil"]) C.hK (cf_limits T) (de_var 1))) (de_one (de_eq C.hK C.rm (de_fld (cs := ["Veil"]) C.hK (cf_delays T) (de_var 0)) (de_fld (cs := ["Veil"]) C.hK (cf_delays T) (de_var 1))))))))⟩
theorem ok__law_tried (T : Txt K mg) : FnOk P w K mg base (L2.CX P w) 7 (He.fAd K ("_law_tried", none)) T.fd__law_tried ["limits", "lags"] (spF (GK K) 2 F__law_tried) :=
  fn_okD (G := GK K) (k := 6) rfl T.fu__law_tried sc__law_tried rfl rfl (by decide) fun cdv A outer s H E fr C => ⟨_,
  (dss_cons (ds_try C (by rfl) (by rfl) (fun W pn xe C' => ⟨_, (dss_one (ds_if (dt_eq C'.hK C'.rm (de_len C'.hK (by rfl) T.n_len (de_var 0)) de_int)
  (dss_one (ds_expr (de_makeS (c := "Veil") C' T.mk_Veil (ok_Veil___init____delays T) (by decide) (by rfl) T.gc_Veil dfl_nil (da_cons (de_ix C'.hK (de_var 0) de_int) (da_cons (de_ix C'.hK (de_var 0) de_int) (da_cons (de_ix C'.hK (de_var 0) de_int) (da_cons (de_ix C'.hK (de_var 0) de_int) (da_cons (de_ix C'.hK (de_var 0) de_int) (da_cons (de_ix C'.hK (de_var 0) de_int) (da_cons (de_ix C'.hK (de_var 0) de_int) (da_cons (de_ix C'.hK (de_var 0) de_int) (da_cons (de_ix C'.hK (de_var 0) de_int) da_nil))))))))) (dk_cons (de_var 1) dk_nil))))
  (dss_one (ds_expr (de_callF C' (ok__law_veil T) (by decide) (by rfl) T.g__law_veil T.fu__law_veil.kp (bd__law_veil T) (da_cons (de_var 0) (da_cons (de_var 1) da_nil)))))))⟩) (DHs.cons ⟨by rfl, by decide, .inl T.gl_BadCount⟩ (by rfl) (by rfl) (by rfl) (exm_tab (al_1 T.em_BadCount_BadCount (al_1 T.em_BadSpan_BadCount (al_1 T.em_BadLot_BadCount al_0)))) (su_ret (f := fun ns ds => (eTup (aCons (eC (.str "count")) (aCons (eXf "number" ns ds) aNil)))) fun b dd oe pn c ns ds e hz hf => (hx_tup (ha_1 (hx_c pe_str fun _ _ => rfl) (ha_1 (px_fld (n := "e") C.hK (tab_true (al_1 (fun _ => ⟨T.xf_BadCount, T.no_BadCount_number⟩) (al_1 (fun z => by cases z) (al_1 (fun z => by cases z) al_0)))) e hz hf) ha_0)))) (DHs.cons ⟨by rfl, by decide, .inl T.gl_BadSpan⟩ (by rfl) (by rfl) (by rfl) (exm_tab (al_1 T.em_BadCount_BadSpan (al_1 T.em_BadSpan_BadSpan (al_1 T.em_BadLot_BadSpan al_0)))) (su_ret (f := fun ns ds => (eTup (aCons (eC (.str "span")) (aCons (eXf "low" ns ds) (aCons (eXf "high" ns ds) aNil))))) fun b dd oe pn c ns ds e hz hf => (hx_tup (ha_1 (hx_c pe_str fun _ _ => rfl) (ha_1 (px_fld (n := "e") C.hK (tab_true (al_1 (fun z => by cases z) (al_1 (fun _ => ⟨T.xf_BadSpan, T.no_BadSpan_low⟩) (al_1 (fun z => by cases z) al_0)))) e hz hf) (ha_1 (px_fld (n := "e") C.hK (tab_true (al_1 (fun z => by cases z) (al_1 (fun _ => ⟨T.xf_BadSpan, T.no_BadSpan_high⟩) (al_1 (fun z => by cases z) al_0)))) e hz hf) ha_0))))) DHs.nil)))
  (dss_one (ds_retF (de_tup (da_cons de_str da_nil)))))⟩
theorem ok__law_due (T : Txt K mg) : FnOk P w K mg base (L2.CX P w) 1 (He.fAd K ("_law_due", none)) T.fd__law_due ["limits", "lags"] (spF (GK K) 2 F__law_due) :=
  fn_okD (G := GK K) (k := 0) rfl T.fu__law_due sc__law_due rfl rfl (by decide) fun cdv A outer s H E fr C => ⟨_,
  (dss_cons (ds_if (dt_gt  (de_len C.hK (by rfl) T.n_len (de_var 0)) de_int)
  (dss_one (ds_retF (de_tup (da_cons de_str (da_cons (de_len C.hK (by rfl) T.n_len (de_var 0)) da_nil)))))
  dss_nil)
  (dss_cons (ds_setLcF C [("limit", 6)] (by rfl) (di_seq C.hK (de_var 0)) (blkOk_by (N := ["limits", "lags", "low", "k", "ticks", "share", "limit"]) (sc := defScope s__law_due) (by decide +kernel)) (fun _ _ _ _ _ C' => (dg_name C' (i := 6) (by rfl))) (fun _ _ _ _ _ C' => (dts_one (dt_lt  (de_var 6) de_int))) (fun _ _ _ _ _ C' => (de_var 6)))
  (dss_cons (ds_if (dt_ne C.hK C.rm (de_var 2) (de_lst da_nil))
  (dss_one (ds_retF (de_tup (da_cons de_str (da_cons (de_ix C.hK (de_var 2) de_int) da_nil)))))
  dss_nil)
  (dss_cons (ds_for C (di_range1 (by rfl) T.n_range (de_sub (de_len C.hK (by rfl) T.n_len (de_var 0)) de_int)) (dg_name C (i := 3) (by rfl))
  (dss_one (ds_if (dt_ge  (de_ix C.hK (de_var 0) (de_var 3)) (de_ix C.hK (de_var 0) (de_add C.hK (de_var 3) de_int)))
  (dss_one (ds_retF (de_tup (da_cons de_str (da_cons (de_ix C.hK (de_var 0) (de_var 3)) (da_cons (de_ix C.hK (de_var 0) (de_add C.hK (de_var 3) de_int)) da_nil))))))
  dss_nil)))
  (dss_cons (ds_if (dt_not (dt_chain op_le op_le od_cmp od_cmp de_int (de_len C.hK (by rfl) T.n_len (de_var 1)) de_int))
  (dss_one (ds_retF (de_tup (da_cons de_str (da_cons (de_len C.hK (by rfl) T.n_len (de_var 1)) da_nil)))))
  dss_nil)
  (dss_cons (ds_for C (di_seq C.hK (de_var 1)) (dg_tup C (dgs_cons (dg_name C (i := 4) (by rfl)) (dgs_cons (dg_name C (i := 5) (by rfl)) dgs_nil)))
  (dss_cons (ds_if (dt_lt  (de_var 4) de_int)
  (dss_one (ds_retF (de_tup (da_cons de_str (da_cons (de_var 4) da_nil)))))
  dss_nil)
  (dss_one (ds_if (dt_lt  (de_var 5) de_int)
  (dss_one (ds_retF (de_tup (da_cons de_str (da_cons (de_var 5) da_nil)))))
  dss_nil))))
  (dss_one (ds_retF (de_tup (da_cons de_str da_nil))))))))))⟩
theorem ok_law (T : Txt K mg) : FnOk P w K mg base (L2.CX P w) 9 (He.fAd K ("law", none)) T.fd_law ["script"] (spL (GK K) 1 F_law) :=
  fn_okL (G := GK K) (k := 8) rfl T.fu_law sc_law rfl rfl (by decide) fun cdv A outer s H E fr C => ⟨_,
  (dsst_cons (dst_of (ds_set C (i := 1) (by rfl) (de_callF C (ok__law_box T) (by decide) (by rfl) T.g__law_box T.fu__law_box.kp (bd__law_box T) (da_cons (de_var 0) da_nil))))
  (dsst_cons (dst_of (ds_set C (i := 2) (by rfl) (de_lst da_nil)))
  (dsst_cons (dst_of (ds_setF C (i := 3) (by rfl) (de_call C (ok__law_draw T) (by decide) (by rfl) T.g__law_draw T.fu__law_draw.kp (bd__law_draw T) (da_cons (de_var 1) (da_cons de_int da_nil)))))
  (dsst_cons (dst_of (ds_for C (di_range1 (by rfl) T.n_range (de_ix C.hK (de_lst (da_cons de_int (da_cons de_int (da_cons de_int (da_cons de_int (da_cons de_int (da_cons de_int (da_cons de_int da_nil)))))))) (de_call C (ok__law_draw T) (by decide) (by rfl) T.g__law_draw T.fu__law_draw.kp (bd__law_draw T) (da_cons (de_var 1) (da_cons de_int da_nil))))) (dg_name C (i := 4) (by rfl))
  (dss_cons (ds_expr (de_app C.hK (de_var 2) (de_var 3)))
  (dss_one (ds_setF C (i := 3) (by rfl) (de_add C.hK (de_var 3) (de_ix C.hK (de_lst (da_cons de_int (da_cons de_int (da_cons de_int (da_cons de_int (da_cons (de_pow de_int de_int) da_nil)))))) (de_call C (ok__law_draw T) (by decide) (by rfl) T.g__law_draw T.fu__law_draw.kp (bd__law_draw T) (da_cons (de_var 1) (da_cons de_int da_nil))))))))))
  (dsst_cons (dst_of (ds_set C (i := 5) (by rfl) (de_lst da_nil)))
  (dsst_cons (dst_of (ds_for C (di_range1 (by rfl) T.n_range (de_add C.hK de_int (de_call C (ok__law_draw T) (by decide) (by rfl) T.g__law_draw T.fu__law_draw.kp (bd__law_draw T) (da_cons (de_var 1) (da_cons de_int da_nil))))) (dg_name C (i := 4) (by rfl))
  (dss_one (ds_expr (de_app C.hK (de_var 5) (de_tup (da_cons (de_ix C.hK (de_lst (da_cons de_int (da_cons de_int (da_cons de_int (da_cons de_int (da_cons de_int (da_cons (de_pow de_int de_int) da_nil))))))) (de_call C (ok__law_draw T) (by decide) (by rfl) T.g__law_draw T.fu__law_draw.kp (bd__law_draw T) (da_cons (de_var 1) (da_cons de_int da_nil)))) (da_cons (de_ix C.hK (de_lst (da_cons de_int (da_cons de_int (da_cons de_int (da_cons de_int (da_cons (de_add C.hK de_int (de_call C (ok__law_draw T) (by decide) (by rfl) T.g__law_draw T.fu__law_draw.kp (bd__law_draw T) (da_cons (de_var 1) (da_cons (de_pow de_int de_int) da_nil)))) da_nil)))))) (de_call C (ok__law_draw T) (by decide) (by rfl) T.g__law_draw T.fu__law_draw.kp (bd__law_draw T) (da_cons (de_var 1) (da_cons de_int da_nil)))) da_nil))))))))
  (dsst_cons (dst_of (ds_setF C (i := 6) (by rfl) (de_add C.hK (de_add C.hK (de_lst (da_cons de_int (da_cons de_int (da_cons de_int (da_cons (de_pow de_int de_int) da_nil))))) (de_var 2)) (de_comp C [("limit", 14)] (di_seq C.hK (de_var 2)) (blkOk_by (N := ["script", "box", "limits", "last", "k", "lags", "times", "passed", "veil", "plain", "many", "wrong", "spoilt", "j", "limit"]) (sc := defScope s_law) (by decide +kernel)) (fun _ _ _ _ _ C' => (dg_name C' (i := 14) (by rfl))) (fun _ _ _ _ _ C' => dts_nil) (fun _ _ _ _ _ C' => (de_add C'.hK (de_var 14) de_int))))))
  (dsst_cons (dst_of (ds_set C (i := 7) (by rfl) (de_toL C.hK (by rfl) T.n_list (de_var 5))))
  (dsst_cons (dst_setF C (i := 8) (by rfl) (de_callW (ws := [0, 3, 4, 8, 9, 10, 11, 12, 13, 14]) C (ok__law_veil T) (by decide) (by rfl) T.g__law_veil T.fu__law_veil.kp (bd__law_veil T) (da_cons (de_var 2) (da_cons (de_var 7) da_nil))))
  (dsst_cons (dst_of (ds_expr (de_app C.hK (de_var 7) (de_tup (da_cons de_int (da_cons de_int da_nil))))))
  (dsst_cons (dst_of (ds_if (dt_not (dt_tru C.hK (de_callV C (ok__law_veil_right T) (by decide) (by rfl) T.g__law_veil_right T.fu__law_veil_right.kp (bd__law_veil_right T) (da_cons (de_var 8) (da_cons (de_var 2) (da_cons (de_var 5) (da_cons (de_var 6) da_nil)))))))
  (dss_one (ds_retF de_bl))
  dss_nil))
  (dsst_cons (dst_of (ds_setF C (i := 9) (by rfl) (de_makeS0 (c := "Veil") C T.mk_Veil (ok_Veil___init____0 T) (by decide) (by rfl) T.gc_Veil (dfl_cons (fun H O => AtD.rep T.kd_Veil___init___delays H O) dfl_nil) dk_nil)))
  (dsst_cons (dst_of (ds_if (DW.dt (dw_or (dt_not (dt_tru C.hK (de_callF C (ok__law_veil_right T) (by decide) (by rfl) T.g__law_veil_right T.fu__law_veil_right.kp (bd__law_veil_right T) (da_cons (de_var 9) (da_cons (de_lst da_nil) (da_cons (de_lst (da_cons (de_tup (da_cons de_int (da_cons de_int da_nil))) da_nil)) (da_cons (de_var 6) da_nil))))))) (dw_or1 (dt_not (dt_own2 C T.nf_Veil (ok_Veil___eq__ T) (by decide) T.op_Veil___eq__.at_ T.op_Veil___eq__.fn (bd_Veil___eq__ T) rfl (de_var 8) (de_callF C (ok__law_veil T) (by decide) (by rfl) T.g__law_veil T.fu__law_veil.kp (bd__law_veil T) (da_cons (de_var 2) (da_cons (de_toT C.hK (by rfl) T.n_tuple (de_var 5)) da_nil))))))))
  (dss_one (ds_retF de_bl))
  dss_nil))
  (dsst_cons (dst_of (ds_if (DW.dt (dw_or (dt_own2 C T.nf_Veil (ok_Veil___eq__ T) (by decide) T.op_Veil___eq__.at_ T.op_Veil___eq__.fn (bd_Veil___eq__ T) rfl (de_var 8) (de_callF C (ok__law_veil T) (by decide) (by rfl) T.g__law_veil T.fu__law_veil.kp (bd__law_veil T) (da_cons (de_var 2) (da_cons (de_add C.hK (de_lst (da_cons (de_tup (da_cons (de_add C.hK (de_ix C.hK (de_ix C.hK (de_var 5) de_int) de_int) de_int) (da_cons (de_ix C.hK (de_ix C.hK (de_var 5) de_int) de_int) da_nil))) da_nil)) (de_sl C.hK (de_var 5) (do_some de_int) do_none)) da_nil)))) (dw_or (dt_own2 C T.nf_Veil (ok_Veil___eq__ T) (by decide) T.op_Veil___eq__.at_ T.op_Veil___eq__.fn (bd_Veil___eq__ T) rfl (de_var 8) (de_var 2)) (dw_or1 (dt_own2 C T.nf_Veil (ok_Veil___eq__ T) (by decide) T.op_Veil___eq__.at_ T.op_Veil___eq__.fn (bd_Veil___eq__ T) rfl (de_var 8) (de_callF C (ok__law_veil T) (by decide) (by rfl) T.g__law_veil T.fu__law_veil.kp (bd__law_veil T) (da_cons (de_lst (da_cons de_int (da_cons de_int da_nil))) (da_cons (de_lst (da_cons (de_tup (da_cons de_int (da_cons de_int da_nil))) da_nil)) da_nil))))))))
  (dss_one (ds_retF de_bl))
  dss_nil))
  (dsst_cons (dst_of (ds_setF C (i := 10) (by rfl) (de_call C (ok__law_draw T) (by decide) (by rfl) T.g__law_draw T.fu__law_draw.kp (bd__law_draw T) (da_cons (de_var 1) (da_cons de_int da_nil)))))
  (dsst_cons (dst_of (ds_setF C (i := 11) (by rfl) (de_lst (da_cons (de_var 2) (da_cons (de_add C.hK (de_lst (da_cons (de_sub de_int de_int) da_nil)) (de_sl C.hK (de_var 2) do_none (do_some de_int))) (da_cons (de_add C.hK (de_sl C.hK (de_var 2) do_none (do_some de_int)) (de_sl C.hK (de_var 2) do_none (do_some de_int))) (da_cons (de_lst (da_cons de_int (da_cons de_int da_nil))) (da_cons (de_lst (da_cons de_int (da_cons de_int (da_cons (de_sub de_int de_int) da_nil)))) (da_cons (de_LR1 C.calm (by rfl) T.n_list (by rfl) T.n_range de_int) (da_cons (de_add C.hK (de_lst (da_cons (de_sub de_int de_int) da_nil)) (de_LR1 C.calm (by rfl) T.n_list (by rfl) T.n_range de_int)) da_nil))))))))))
  (dsst_cons (dst_of (ds_setF C (i := 12) (by rfl) (de_lst (da_cons (de_var 5) (da_cons (de_lst da_nil) (da_cons (de_add C.hK (de_var 5) (de_lst (da_cons (de_tup (da_cons de_int (da_cons de_int da_nil))) (da_cons (de_tup (da_cons de_int (da_cons de_int da_nil))) (da_cons (de_tup (da_cons de_int (da_cons de_int da_nil))) (da_cons (de_tup (da_cons de_int (da_cons de_int da_nil))) (da_cons (de_tup (da_cons de_int (da_cons de_int da_nil))) (da_cons (de_tup (da_cons de_int (da_cons de_int da_nil))) da_nil)))))))) (da_cons (de_add C.hK (de_sl C.hK (de_var 5) do_none (do_some de_int)) (de_lst (da_cons (de_tup (da_cons (de_sub de_int de_int) (da_cons de_int da_nil))) da_nil))) (da_cons (de_add C.hK (de_sl C.hK (de_var 5) do_none (do_some de_int)) (de_lst (da_cons (de_tup (da_cons de_int (da_cons de_int da_nil))) da_nil))) (da_cons (de_lst (da_cons (de_tup (da_cons de_int (da_cons (de_sub de_int de_int) da_nil))) da_nil)) da_nil)))))))))
  (dsst_cons (dst_of (ds_for C (di_range1 (by rfl) T.n_range de_int) (dg_name C (i := 4) (by rfl))
  (dss_one (ds_for C (di_seq C.hK (de_lst (da_cons de_int (da_cons (de_var 10) (da_cons (de_add C.hK de_int (de_var 10)) da_nil))))) (dg_name C (i := 13) (by rfl))
  (dss_one (ds_if (dt_ne C.hK C.rm (de_callF C (ok__law_tried T) (by decide) (by rfl) T.g__law_tried T.fu__law_tried.kp (bd__law_tried T) (da_cons (de_ix C.hK (de_var 11) (de_var 4)) (da_cons (de_ix C.hK (de_var 12) (de_var 13)) da_nil))) (de_callF C (ok__law_due T) (by decide) (by rfl) T.g__law_due T.fu__law_due.kp (bd__law_due T) (da_cons (de_ix C.hK (de_var 11) (de_var 4)) (da_cons (de_ix C.hK (de_var 12) (de_var 13)) da_nil))))
  (dss_one (ds_retF de_bl))
  dss_nil))))))
  (dsst_of (dss_one (ds_retF (de_callV C (ok__law_veil_right T) (by decide) (by rfl) T.g__law_veil_right T.fu__law_veil_right.kp (bd__law_veil_right T) (da_cons (de_var 8) (da_cons (de_var 2) (da_cons (de_var 5) (da_cons (de_sl C.hK (de_var 6) do_none (do_some de_int)) da_nil))))))))))))))))))))))))))⟩
end
end Lw

namespace Lw
open PySem L2 Sep LwB
def dd__law_box : He5.DefA := ⟨fun K => He.fAd K ("_law_box", none), "_law_box", "_law_box", defArgs s__law_box, defBody s__law_box, defScope s__law_box, [], []⟩
def dd__law_draw : He5.DefA := ⟨fun K => He.fAd K ("_law_draw", none), "_law_draw", "_law_draw", defArgs s__law_draw, defBody s__law_draw, defScope s__law_draw, [], []⟩
def dd__check_limits : He5.DefA := ⟨fun K => He.fAd K ("_check_limits", none), "_check_limits", "_check_limits", defArgs s__check_limits, defBody s__check_limits, defScope s__check_limits, [], []⟩
def dd__check_delays : He5.DefA := ⟨fun K => He.fAd K ("_check_delays", none), "_check_delays", "_check_delays", defArgs s__check_delays, defBody s__check_delays, defScope s__check_delays, [], []⟩
def dd_Veil___init__ : He5.DefA := ⟨fun K => He.fAd K ("Veil", some "__init__"), "__init__", "Veil.__init__", defArgs s_Veil___init__, defBody s_Veil___init__, defScope s_Veil___init__, [], [("delays", .adr (kwdAt (fun K => He.fAd K ("Veil", some "__init__")) "delays"))]⟩
def dd__law_veil : He5.DefA := ⟨fun K => He.fAd K ("_law_veil", none), "_law_veil", "_law_veil", defArgs s__law_veil, defBody s__law_veil, defScope s__law_veil, [], []⟩
def dd_Veil_rounded : He5.DefA := ⟨fun K => He.fAd K ("Veil", some "rounded"), "rounded", "Veil.rounded", defArgs s_Veil_rounded, defBody s_Veil_rounded, defScope s_Veil_rounded, [], []⟩
def dd_Veil_lots : He5.DefA := ⟨fun K => getAt K (He.ga K "Veil") "lots", "lots", "Veil.lots", defArgs s_Veil_lots, defBody s_Veil_lots, defScope s_Veil_lots, [], []⟩
def dd_Veil_delay : He5.DefA := ⟨fun K => He.fAd K ("Veil", some "delay"), "delay", "Veil.delay", defArgs s_Veil_delay, defBody s_Veil_delay, defScope s_Veil_delay, [], []⟩
def dd_Veil_shown : He5.DefA := ⟨fun K => He.fAd K ("Veil", some "shown"), "shown", "Veil.shown", defArgs s_Veil_shown, defBody s_Veil_shown, defScope s_Veil_shown, [], []⟩
def dd_Veil_view : He5.DefA := ⟨fun K => He.fAd K ("Veil", some "view"), "view", "Veil.view", defArgs s_Veil_view, defBody s_Veil_view, defScope s_Veil_view, [], []⟩
def dd_Veil_odds : He5.DefA := ⟨fun K => He.fAd K ("Veil", some "odds"), "odds", "Veil.odds", defArgs s_Veil_odds, defBody s_Veil_odds, defScope s_Veil_odds, [], []⟩
def dd__law_asked : He5.DefA := ⟨fun K => He.fAd K ("_law_asked", none), "_law_asked", "_law_asked", defArgs s__law_asked, defBody s__law_asked, defScope s__law_asked, [], []⟩
def dd__law_same : He5.DefA := ⟨fun K => He.fAd K ("_law_same", none), "_law_same", "_law_same", defArgs s__law_same, defBody s__law_same, defScope s__law_same, [], []⟩
def dd__law_rounded : He5.DefA := ⟨fun K => He.fAd K ("_law_rounded", none), "_law_rounded", "_law_rounded", defArgs s__law_rounded, defBody s__law_rounded, defScope s__law_rounded, [], []⟩
def dd__law_veil_right : He5.DefA := ⟨fun K => He.fAd K ("_law_veil_right", none), "_law_veil_right", "_law_veil_right", defArgs s__law_veil_right, defBody s__law_veil_right, defScope s__law_veil_right, [], []⟩
def dd_Veil___eq__ : He5.DefA := ⟨fun K => He.fAd K ("Veil", some "__eq__"), "__eq__", "Veil.__eq__", defArgs s_Veil___eq__, defBody s_Veil___eq__, defScope s_Veil___eq__, [], []⟩
def dd__law_tried : He5.DefA := ⟨fun K => He.fAd K ("_law_tried", none), "_law_tried", "_law_tried", defArgs s__law_tried, defBody s__law_tried, defScope s__law_tried, [], []⟩
def dd__law_due : He5.DefA := ⟨fun K => He.fAd K ("_law_due", none), "_law_due", "_law_due", defArgs s__law_due, defBody s__law_due, defScope s__law_due, [], []⟩
def dd_law : He5.DefA := ⟨fun K => He.fAd K ("law", none), "law", "law", defArgs s_law, defBody s_law, defScope s_law, [], []⟩
def dd_X_BadCount : He5.DefA := ⟨fun K => He.fAd K ("BadCount", some "__init__"), "__init__", "BadCount.__init__", defArgs s_X_BadCount, defBody s_X_BadCount, defScope s_X_BadCount, [], []⟩
def dd_X_BadSpan : He5.DefA := ⟨fun K => He.fAd K ("BadSpan", some "__init__"), "__init__", "BadSpan.__init__", defArgs s_X_BadSpan, defBody s_X_BadSpan, defScope s_X_BadSpan, [], []⟩
def dd_X_BadLot : He5.DefA := ⟨fun K => He.fAd K ("BadLot", some "__init__"), "__init__", "BadLot.__init__", defArgs s_X_BadLot, defBody s_X_BadLot, defScope s_X_BadLot, [], []⟩
def fnL : List He5.DefA := [dd__law_box, dd__law_draw, dd__check_limits, dd__check_delays, dd_Veil___init__, dd__law_veil, dd_Veil_rounded, dd_Veil_lots, dd_Veil_delay, dd_Veil_shown, dd_Veil_view, dd_Veil_odds, dd__law_asked, dd__law_same, dd__law_rounded, dd__law_veil_right, dd_Veil___eq__, dd__law_tried, dd__law_due, dd_law, dd_X_BadCount, dd_X_BadSpan, dd_X_BadLot]
def faL : List He.Fa := [.glo "_law_box", .glo "_law_draw", .glo "_check_limits", .glo "_check_delays", .glo "_law_veil", .glo "_law_asked", .glo "_law_same", .glo "_law_rounded", .glo "_law_veil_right", .glo "_law_tried", .glo "_law_due", .glo "law", .free "abs", .free "all", .free "bool", .free "int", .free "isinstance", .free "len", .free "list", .free "min", .free "range", .free "sorted", .free "sum", .free "tuple", .free "zip", .glo "Veil", .cls "Veil", .mkr "Veil", .meth "Veil" "delay", .meth "Veil" "odds", .meth "Veil" "rounded", .meth "Veil" "shown", .meth "Veil" "view", .meth "Veil" "__eq__", .noat "Veil" "delays", .noat "Veil" "limits", .int "MOST_DELAYS" 6, .int "MOST_LIMITS" 8, .glo "BadCount", .glo "BadLot", .glo "BadSpan", .glo "TellError"]
def exL : List (PySem.W.Frag → Bool) := [fun K => He.eqO (PySem.W.findIn K (.ref (He.ga K "Veil")) "__class__") (some (some (.builtin "object.__class__"))),
  fun K => He.eqO (PySem.W.specialIn K (.builtin "object.__class__") "__get__") (some (some (.builtin "getset_descriptor.__get__"))),
  fun K => decide (PySem.W.takesIn K (.builtin "object.__class__") = some true),
  fun K => decide (PySem.W.mroIn K (He.ga K "Veil") (.type "object") = some true),
  fun K => decide (PySem.W.kitOne K (.ref (He.ga K "Veil")) (.ref (He.ga K "Veil")) = some true),
  fun K => decide (PySem.W.kitOne K (.type "NoneType") (.ref (He.ga K "Veil")) = some false),
  fun K => decide (PySem.W.kitOne K (.type "bool") (.ref (He.ga K "Veil")) = some false),
  fun K => decide (PySem.W.kitOne K (.type "int") (.ref (He.ga K "Veil")) = some false),
  fun K => decide (PySem.W.kitOne K (.type "str") (.ref (He.ga K "Veil")) = some false),
  fun K => decide (PySem.W.kitOne K (.type "tuple") (.ref (He.ga K "Veil")) = some false),
  fun K => decide (PySem.W.kitOne K (.type "list") (.ref (He.ga K "Veil")) = some false),
  fun K => decide (PySem.W.kitOne K (.type "dict") (.ref (He.ga K "Veil")) = some false),
  fun K => PySem.W.notFirst K (He.ga K "Veil") (.ref (He.ga K "Veil")),
  fun K => PySem.W.notFirst K (He.ga K "Veil") (.type "NoneType"),
  fun K => PySem.W.notFirst K (He.ga K "Veil") (.type "bool"),
  fun K => PySem.W.notFirst K (He.ga K "Veil") (.type "int"),
  fun K => PySem.W.notFirst K (He.ga K "Veil") (.type "str"),
  fun K => PySem.W.notFirst K (He.ga K "Veil") (.type "tuple"),
  fun K => PySem.W.notFirst K (He.ga K "Veil") (.type "list"),
  fun K => PySem.W.notFirst K (He.ga K "Veil") (.type "dict"),
  fun K => oexB K (He.ga K "BadCount"),
  fun K => He.eqO (PySem.W.findIn K (.ref (He.ga K "BadCount")) "number") (some none),
  fun K => He.eqO (PySem.W.findIn K (.ref (He.ga K "BadCount")) "__init__") (some (some (.ref (He.fAd K ("BadCount", some "__init__"))))),
  fun K => decide (PySem.W.typeIn K (.ref (He.fAd K ("BadCount", some "__init__"))) = some (.type "function")),
  fun K => crB K (He.ga K "TellError"),
  fun K => oexB K (He.ga K "BadSpan"),
  fun K => He.eqO (PySem.W.findIn K (.ref (He.ga K "BadSpan")) "low") (some none),
  fun K => He.eqO (PySem.W.findIn K (.ref (He.ga K "BadSpan")) "high") (some none),
  fun K => He.eqO (PySem.W.findIn K (.ref (He.ga K "BadSpan")) "__init__") (some (some (.ref (He.fAd K ("BadSpan", some "__init__"))))),
  fun K => decide (PySem.W.typeIn K (.ref (He.fAd K ("BadSpan", some "__init__"))) = some (.type "function")),
  fun K => isD K (.tup [.tup [.int 0, .int 1]]) (.ref (kwdAt (fun K => He.fAd K ("Veil", some "__init__")) "delays" K)),
  fun K => propB K (He.ga K "Veil") "lots",
  fun K => oexB K (He.ga K "BadLot"),
  fun K => He.eqO (PySem.W.findIn K (.ref (He.ga K "BadLot")) "number") (some none),
  fun K => He.eqO (PySem.W.findIn K (.ref (He.ga K "BadLot")) "__init__") (some (some (.ref (He.fAd K ("BadLot", some "__init__"))))),
  fun K => decide (PySem.W.typeIn K (.ref (He.fAd K ("BadLot", some "__init__"))) = some (.type "function")),
  fun K => decide (PySem.W.exmOne K (.ref (He.ga K "BadCount")) (.ref (He.ga K "BadCount")) = some true),
  fun K => decide (PySem.W.exmOne K (.ref (He.ga K "BadSpan")) (.ref (He.ga K "BadCount")) = some false),
  fun K => decide (PySem.W.exmOne K (.ref (He.ga K "BadLot")) (.ref (He.ga K "BadCount")) = some false),
  fun K => xfB K (He.ga K "BadCount"),
  fun K => decide (PySem.W.exmOne K (.ref (He.ga K "BadCount")) (.ref (He.ga K "BadLot")) = some false),
  fun K => decide (PySem.W.exmOne K (.ref (He.ga K "BadSpan")) (.ref (He.ga K "BadLot")) = some false),
  fun K => decide (PySem.W.exmOne K (.ref (He.ga K "BadLot")) (.ref (He.ga K "BadLot")) = some true),
  fun K => xfB K (He.ga K "BadLot"),
  fun K => decide (PySem.W.exmOne K (.ref (He.ga K "BadCount")) (.ref (He.ga K "BadSpan")) = some false),
  fun K => decide (PySem.W.exmOne K (.ref (He.ga K "BadSpan")) (.ref (He.ga K "BadSpan")) = some true),
  fun K => decide (PySem.W.exmOne K (.ref (He.ga K "BadLot")) (.ref (He.ga K "BadSpan")) = some false),
  fun K => xfB K (He.ga K "BadSpan")]
def exB (K : PySem.W.Frag) : Bool := exL.all fun g => g K
theorem exAt {K : PySem.W.Frag} (h : exB K = true) (i : Nat) {g : PySem.W.Frag → Bool} (e : exL[i]? = some g) : g K = true := List.all_eq_true.mp h g (List.mem_of_getElem? e)
theorem txt {K : PySem.W.Frag} {h : Heap} {mg : Str → Option Value} (X : K.In h) (Gn : h.Ns mainGlobals mg) (c : He5.SaysA faL fnL K) (hx : exB K = true) : Nonempty (Txt K mg) := by
  obtain ⟨fd0, F0⟩ := c.def_ 0 (d := dd__law_box) rfl
  obtain ⟨fd1, F1⟩ := c.def_ 1 (d := dd__law_draw) rfl
  obtain ⟨fd2, F2⟩ := c.def_ 2 (d := dd__check_limits) rfl
  obtain ⟨fd3, F3⟩ := c.def_ 3 (d := dd__check_delays) rfl
  obtain ⟨fd4, F4⟩ := c.def_ 4 (d := dd_Veil___init__) rfl
  obtain ⟨fd5, F5⟩ := c.def_ 5 (d := dd__law_veil) rfl
  obtain ⟨fd6, F6⟩ := c.def_ 6 (d := dd_Veil_rounded) rfl
  obtain ⟨fd7, F7⟩ := c.def_ 7 (d := dd_Veil_lots) rfl
  obtain ⟨fd8, F8⟩ := c.def_ 8 (d := dd_Veil_delay) rfl
  obtain ⟨fd9, F9⟩ := c.def_ 9 (d := dd_Veil_shown) rfl
  obtain ⟨fd10, F10⟩ := c.def_ 10 (d := dd_Veil_view) rfl
  obtain ⟨fd11, F11⟩ := c.def_ 11 (d := dd_Veil_odds) rfl
  obtain ⟨fd12, F12⟩ := c.def_ 12 (d := dd__law_asked) rfl
  obtain ⟨fd13, F13⟩ := c.def_ 13 (d := dd__law_same) rfl
  obtain ⟨fd14, F14⟩ := c.def_ 14 (d := dd__law_rounded) rfl
  obtain ⟨fd15, F15⟩ := c.def_ 15 (d := dd__law_veil_right) rfl
  obtain ⟨fd16, F16⟩ := c.def_ 16 (d := dd_Veil___eq__) rfl
  obtain ⟨fd17, F17⟩ := c.def_ 17 (d := dd__law_tried) rfl
  obtain ⟨fd18, F18⟩ := c.def_ 18 (d := dd__law_due) rfl
  obtain ⟨fd19, F19⟩ := c.def_ 19 (d := dd_law) rfl
  obtain ⟨xd0, XF0⟩ := c.def_ 20 (d := dd_X_BadCount) rfl
  obtain ⟨xd1, XF1⟩ := c.def_ 21 (d := dd_X_BadSpan) rfl
  obtain ⟨xd2, XF2⟩ := c.def_ 22 (d := dd_X_BadLot) rfl
  exact ⟨⟨(He.glo_ok X Gn (c.fact 38 (f := .glo "BadCount") rfl)),
    (He.glo_ok X Gn (c.fact 39 (f := .glo "BadLot") rfl)),
    (He.glo_ok X Gn (c.fact 40 (f := .glo "BadSpan") rfl)),
    (He.glo_ok X Gn (c.fact 41 (f := .glo "TellError") rfl)),
    xd0,
    XF0,
    xd1,
    XF1,
    xd2,
    XF2,
    (oexB_ok (exAt hx 20 rfl)),
    (He.eqO_ok (exAt hx 21 rfl)),
    (He.eqO_ok (exAt hx 22 rfl)),
    (of_decide_eq_true (exAt hx 23 rfl)),
    (crB_ok (exAt hx 24 rfl)),
    (oexB_ok (exAt hx 25 rfl)),
    (He.eqO_ok (exAt hx 26 rfl)),
    (He.eqO_ok (exAt hx 27 rfl)),
    (He.eqO_ok (exAt hx 28 rfl)),
    (of_decide_eq_true (exAt hx 29 rfl)),
    (exAt hx 30 rfl),
    (propB_ok (exAt hx 31 rfl)),
    (oexB_ok (exAt hx 32 rfl)),
    (He.eqO_ok (exAt hx 33 rfl)),
    (He.eqO_ok (exAt hx 34 rfl)),
    (of_decide_eq_true (exAt hx 35 rfl)),
    (of_decide_eq_true (exAt hx 36 rfl)),
    (of_decide_eq_true (exAt hx 37 rfl)),
    (of_decide_eq_true (exAt hx 38 rfl)),
    (xfB_ok (exAt hx 39 rfl)),
    (of_decide_eq_true (exAt hx 40 rfl)),
    (of_decide_eq_true (exAt hx 41 rfl)),
    (of_decide_eq_true (exAt hx 42 rfl)),
    (xfB_ok (exAt hx 43 rfl)),
    (of_decide_eq_true (exAt hx 44 rfl)),
    (of_decide_eq_true (exAt hx 45 rfl)),
    (of_decide_eq_true (exAt hx 46 rfl)),
    (xfB_ok (exAt hx 47 rfl)),
    fd0,
    F0,
    (He.glo_ok X Gn (c.fact 0 (f := .glo "_law_box") rfl)),
    fd1,
    F1,
    (He.glo_ok X Gn (c.fact 1 (f := .glo "_law_draw") rfl)),
    fd2,
    F2,
    (He.glo_ok X Gn (c.fact 2 (f := .glo "_check_limits") rfl)),
    fd3,
    F3,
    (He.glo_ok X Gn (c.fact 3 (f := .glo "_check_delays") rfl)),
    fd4,
    F4,
    fd5,
    F5,
    (He.glo_ok X Gn (c.fact 4 (f := .glo "_law_veil") rfl)),
    fd6,
    F6,
    fd7,
    F7,
    fd8,
    F8,
    fd9,
    F9,
    fd10,
    F10,
    fd11,
    F11,
    fd12,
    F12,
    (He.glo_ok X Gn (c.fact 5 (f := .glo "_law_asked") rfl)),
    fd13,
    F13,
    (He.glo_ok X Gn (c.fact 6 (f := .glo "_law_same") rfl)),
    fd14,
    F14,
    (He.glo_ok X Gn (c.fact 7 (f := .glo "_law_rounded") rfl)),
    fd15,
    F15,
    (He.glo_ok X Gn (c.fact 8 (f := .glo "_law_veil_right") rfl)),
    fd16,
    F16,
    fd17,
    F17,
    (He.glo_ok X Gn (c.fact 9 (f := .glo "_law_tried") rfl)),
    fd18,
    F18,
    (He.glo_ok X Gn (c.fact 10 (f := .glo "_law_due") rfl)),
    fd19,
    F19,
    (He.glo_ok X Gn (c.fact 11 (f := .glo "law") rfl)),
    (He.free_ok X Gn (c.fact 12 (f := .free "abs") rfl)),
    (He.free_ok X Gn (c.fact 13 (f := .free "all") rfl)),
    (He.free_ok X Gn (c.fact 14 (f := .free "bool") rfl)),
    (He.free_ok X Gn (c.fact 15 (f := .free "int") rfl)),
    (He.free_ok X Gn (c.fact 16 (f := .free "isinstance") rfl)),
    (He.free_ok X Gn (c.fact 17 (f := .free "len") rfl)),
    (He.free_ok X Gn (c.fact 18 (f := .free "list") rfl)),
    (He.free_ok X Gn (c.fact 19 (f := .free "min") rfl)),
    (He.free_ok X Gn (c.fact 20 (f := .free "range") rfl)),
    (He.free_ok X Gn (c.fact 21 (f := .free "sorted") rfl)),
    (He.free_ok X Gn (c.fact 22 (f := .free "sum") rfl)),
    (He.free_ok X Gn (c.fact 23 (f := .free "tuple") rfl)),
    (He.free_ok X Gn (c.fact 24 (f := .free "zip") rfl)),
    (He.glo_ok X Gn (c.fact 25 (f := .glo "Veil") rfl)),
    (He.cls_ok (c.fact 26 (f := .cls "Veil") rfl)),
    (He.mkr_ok (c.fact 27 (f := .mkr "Veil") rfl)),
    (He.meth_ok (c.fact 28 (f := .meth "Veil" "delay") rfl)),
    (He.meth_ok (c.fact 29 (f := .meth "Veil" "odds") rfl)),
    (He.meth_ok (c.fact 30 (f := .meth "Veil" "rounded") rfl)),
    (He.meth_ok (c.fact 31 (f := .meth "Veil" "shown") rfl)),
    (He.meth_ok (c.fact 32 (f := .meth "Veil" "view") rfl)),
    (He.meth_ok (c.fact 33 (f := .meth "Veil" "__eq__") rfl)),
    (He.noat_ok (c.fact 34 (f := .noat "Veil" "delays") rfl)),
    (He.noat_ok (c.fact 35 (f := .noat "Veil" "limits") rfl)),
    ⟨isL (by
      intro p hp
      simp only [List.mem_cons, List.not_mem_nil, or_false] at hp
      rcases hp with rfl
      · exact ⟨⟨(He.cls_ok (c.fact 26 (f := .cls "Veil") rfl)), He.eqO_ok (exAt hx 0 rfl), He.eqO_ok (exAt hx 1 rfl), of_decide_eq_true (exAt hx 2 rfl), of_decide_eq_true (exAt hx 3 rfl)⟩, of_decide_eq_true (exAt hx 4 rfl)⟩), by
      intro T hT
      simp only [btN, List.mem_cons, List.not_mem_nil, or_false] at hT
      rcases hT with rfl | rfl | rfl | rfl | rfl | rfl | rfl
      · exact of_decide_eq_true (exAt hx 5 rfl)
      · exact of_decide_eq_true (exAt hx 6 rfl)
      · exact of_decide_eq_true (exAt hx 7 rfl)
      · exact of_decide_eq_true (exAt hx 8 rfl)
      · exact of_decide_eq_true (exAt hx 9 rfl)
      · exact of_decide_eq_true (exAt hx 10 rfl)
      · exact of_decide_eq_true (exAt hx 11 rfl)⟩,
    ⟨by
      intro p hp
      simp only [List.mem_cons, List.not_mem_nil, or_false] at hp
      rcases hp with rfl
      · exact ⟨⟨(He.cls_ok (c.fact 26 (f := .cls "Veil") rfl)), He.eqO_ok (exAt hx 0 rfl), He.eqO_ok (exAt hx 1 rfl), of_decide_eq_true (exAt hx 2 rfl), of_decide_eq_true (exAt hx 3 rfl)⟩, (exAt hx 12 rfl)⟩, by
      intro T hT
      simp only [btN, List.mem_cons, List.not_mem_nil, or_false] at hT
      rcases hT with rfl | rfl | rfl | rfl | rfl | rfl | rfl
      · exact (exAt hx 13 rfl)
      · exact (exAt hx 14 rfl)
      · exact (exAt hx 15 rfl)
      · exact (exAt hx 16 rfl)
      · exact (exAt hx 17 rfl)
      · exact (exAt hx 18 rfl)
      · exact (exAt hx 19 rfl)⟩,
    (He.int_ok X Gn (c.fact 36 (f := .int "MOST_DELAYS" 6) rfl)),
    (He.int_ok X Gn (c.fact 37 (f := .int "MOST_LIMITS" 8) rfl))⟩⟩
abbrev rowO : PySem.W.OpenRow := PySem.W.OpenLaw.row PySem.Challenge.rw_stepstell_k89_veils
abbrev hookO : PySem.W.Hook := hookC 7 faL fnL exB
def obO (s : PySem.W.SharedT) : He.AlD × Bool := obsC 7 faL fnL exB (HandSHeadRun.getT s)
theorem obO_eq (s : PySem.W.SharedT) : obO s = hookO.obs s.abs := obsC_eq (HandSHeadRun.getT_eq s)
theorem runO (w : World) : HandSHeadRun.RunEq rowO (PySem.W.view rowO.prog [22]) hookO obO 6000 ["TellError", "BadSpan", "BadCount", "BadLot", "MOST_LIMITS", "MOST_DELAYS", "_check_limits", "_check_delays", "Veil", "_law_box", "_law_draw", "_law_same", "_law_veil", "_law_tried", "_law_due", "_law_rounded", "_law_asked", "_law_veil_right"] w := by
  intro os
  kernel_rfl
theorem law_ok {P : Program} {w : World} {K : PySem.W.Frag} {h : Heap} {mg : Str → Option Value} {fa : Addr} (X : K.In h) (Gn : h.Ns mainGlobals mg) (hfa : mg "law" = some (.ref fa)) (c : He5.SaysA faL fnL K) (hx : exB K = true) :
    ∃ fd : FuncData, (∀ (s : Shared) (v : Value), BindsTo s fd ⟨[v], []⟩ [("script", v)]) ∧ ∀ base : Heap, K.In base → base.Ns mainGlobals mg → FnOk P w K mg base (L2.CX P w) 9 fa fd ["script"] (spL (GK K) 1 F_law) := by
  obtain ⟨T⟩ := txt X Gn c hx
  have e := hfa.symm.trans T.g_law
  cases e
  exact ⟨T.fd_law, fun s v => FunD.bindsA (ps := ["script"]) T.fu_law (fun _ _ _ _ _ _ us hl => match us, hl with | [_], _ => rfl) s [v] rfl, fun base _ _ => ok_law T⟩
theorem law_true (ns : List Int) (hl : ns.length ≤ 63) : ∃ fs, F_law [.sh (.rol (ns.map D.int))] = .ok (.sh (.bl true)) fs := law_of law_holds ns
end Lw
open PySem PySem.W PySem.Calls PyProof.Rows
theorem PySem.Challenge.cw_stepstell_k89_veils_holds : PySem.Challenge.rw_stepstell_k89_veils.Holds := by
  w_on; o_law
  refine HandSHeadRun.head_any (r := OpenLaw.row PySem.Challenge.rw_stepstell_k89_veils) (q := view (OpenLaw.row PySem.Challenge.rw_stepstell_k89_veils).prog [22]) (H := Lw.hookO) (ob := Lw.obO) (M := 6000)
    (loose := ["TellError", "BadSpan", "BadCount", "BadLot", "MOST_LIMITS", "MOST_DELAYS", "_check_limits", "_check_delays", "Veil", "_law_box", "_law_draw", "_law_same", "_law_veil", "_law_tried", "_law_due", "_law_rounded", "_law_asked", "_law_veil_right"])
    (d := HandSHeadRun.topDef (OpenLaw.row PySem.Challenge.rw_stepstell_k89_veils).prog 22) (kwd := []) Lw.obO_eq ?g1 ?g2 Lw.runO ?g3 ?g4 ?g5 ?g6 ?g7 ?g8 ?g9 ?hw ?hc
  case g1 => kernel_rfl
  case g2 => exact fun s => by kernel_rfl
  case g3 => kernel_rfl
  case g4 => kernel_rfl
  case g5 => kernel_rfl
  case g6 => rfl
  case g7 => first | assumption | decide +kernel
  case g8 => decide +kernel
  case g9 => exact ⟨rfl, rfl, rfl, rfl, rfl, by decide +kernel⟩
  case hw => w_witness2
  case hc =>
    refine Sep.walk_w (l := PySem.Challenge.rw_stepstell_k89_veils) (n := 63) (k := 9) (x := "script") (CX := fun w => L2.CX (PySem.Challenge.rw_stepstell_k89_veils).prog w) rfl (by decide) (by kernel_rfl) ⟨rfl, by decide, by decide⟩ ?F ?G
    case G =>
      intro w H s e s' h
      obtain ⟨_, _, _, _, _, _, _, _, _, _, _, _, z⟩ := h
      exact z
    case F =>
      intro w mg fa h Y Gn hmg0
      obtain ⟨K, KX, c⟩ := Y
      have hmg : mg ("law" : PySem.Str) = some (.ref fa) := by
        have e : (HandSHeadRun.topDef (OpenLaw.row PySem.Challenge.rw_stepstell_k89_veils).prog 22).name = ("law" : PySem.Str) := by kernel_rfl
        rw [← e]; exact hmg0
      obtain ⟨fd, hb, hF⟩ := Lw.law_ok (P := (PySem.Challenge.rw_stepstell_k89_veils).prog) (w := w) KX Gn hmg c.1 c.2
      exact ⟨K, fd, _, KX, hb, fun H a ns hl hO hS => Sep.law_spL (G := Lw.GK K) hO hS (Lw.law_true ns hl), hF⟩
