import PyProof.Rows.All
import Wide.All
import OpenK.AllK
import Wide.FinOn
import HandS.ForMost
import HandS.Wide
import HandS.TupAny
import KE.DataEq
import KE.DataCmp
import KE.DataIsa
import HandS.EndBits
import PySem.Challenge.RW_threetrees_k24_sides_of_points
-- PuA
section
set_option Elab.async false
set_option linter.all false
set_option maxRecDepth 100000
/-! Pu, part A: trees, what is frozen, what is owned, the state of a frame. -/
namespace Pu
open PySem PySem.Spec L2
open PyProof.Rows hiding St

/-- a tree that a slot holds: frozen data, or a list (a tuple of such) that is owned -/
inductive O where
  | fz (d : PyData)
  | ls (l : List O)
  | tp (l : List O)

mutual
def O.toD : O → PyData
  | .fz d => d
  | .ls l => .list (O.toDs l)
  | .tp l => .tuple (O.toDs l)
def O.toDs : List O → List PyData
  | [] => []
  | o :: os => O.toD o :: O.toDs os
end

theorem toDs_map : ∀ os : List O, O.toDs os = os.map O.toD
  | [] => rfl
  | o :: os => by rw [O.toDs, List.map_cons, toDs_map os]
theorem toDs_fz : ∀ ds : List PyData, O.toDs (ds.map O.fz) = ds
  | [] => rfl
  | d :: ds => by rw [List.map_cons, O.toDs, O.toD, toDs_fz ds]

/-- a list that is read and not owned -/
def LstR (K : PySem.W.Frag) (A : List Addr) (H : Hp) (a : Addr) (xs : List V) : Prop :=
  (Rd H a (.lst xs) ∧ a ∉ A) ∨
    ∃ (o : Obj) (its : Array Value) (n : Nat), K.lookup a = some o ∧ o.cls = .type "list" ∧ o.dict = none ∧ o.data = .seq its n ∧ its.size ≤ sizeLine ∧ Vals xs its.toList
theorem LstR.seq {K : PySem.W.Frag} {A : List Addr} {H : Hp} {a : Addr} {xs : List V} (h : LstR K A H a xs) : SqL K H a xs := by
  rcases h with h | h
  · exact .inl h.1
  · exact .inr h

/-- a tuple, its object known to have no dict -/
def TupR (K : PySem.W.Frag) (H : Hp) (a : Addr) (xs : List V) : Prop :=
  (∃ o : Obj, H a = some (.frz o (.tup xs)) ∧ o.dict = none) ∨
    ∃ (o : Obj) (its : Array Value) (n : Nat), K.lookup a = some o ∧ o.cls = .type "tuple" ∧ o.dict = none ∧ o.data = .seq its n ∧ its.size ≤ sizeLine ∧ Vals xs its.toList
theorem TupR.seq {K : PySem.W.Frag} {H : Hp} {a : Addr} {xs : List V} (h : TupR K H a xs) : SqT K H a xs := by
  rcases h with ⟨o, h, _⟩ | ⟨o, its, n, h1, h2, _, h4⟩
  · exact .inl (.inr ⟨o, h⟩)
  · exact .inr ⟨o, its, n, h1, h2, h4⟩

mutual
inductive Rp (K : PySem.W.Frag) (A : List Addr) (H : Hp) : V → PyData → Prop
  | non : Rp K A H .non .none
  | bl (b : Bool) : Rp K A H (.bl b) (.bool b)
  | int (i : Int) : Rp K A H (.int i) (.int i)
  | str (x : Str) : Rp K A H (.str x) (.str x)
  | lst {a : Addr} {vs : List V} {ds : List PyData} : LstR K A H a vs → Rps K A H vs ds → Rp K A H (.ref a) (.list ds)
  | tup {a : Addr} {vs : List V} {ds : List PyData} : TupR K H a vs → Rps K A H vs ds → Rp K A H (.ref a) (.tuple ds)
inductive Rps (K : PySem.W.Frag) (A : List Addr) (H : Hp) : List V → List PyData → Prop
  | nil : Rps K A H [] []
  | cons {v : V} {vs : List V} {d : PyData} {ds : List PyData} : Rp K A H v d → Rps K A H vs ds → Rps K A H (v :: vs) (d :: ds)
end

mutual
inductive Own (K : PySem.W.Frag) (A : List Addr) (H : Hp) : V → O → List Addr → Prop
  | fz {v : V} {d : PyData} : Rp K A H v d → Own K A H v (.fz d) []
  | ls {a : Addr} {vs : List V} {os : List O} {F : List Addr} : H a = some (.lst vs) → Owns K A H vs os F → Own K A H (.ref a) (.ls os) (a :: F)
  | tp {a : Addr} {vs : List V} {os : List O} {F : List Addr} : TupR K H a vs → Owns K A H vs os F → Own K A H (.ref a) (.tp os) F
inductive Owns (K : PySem.W.Frag) (A : List Addr) (H : Hp) : List V → List O → List Addr → Prop
  | nil : Owns K A H [] [] []
  | cons {v : V} {vs : List V} {o : O} {os : List O} {F G : List Addr} : Own K A H v o F → Owns K A H vs os G → Owns K A H (v :: vs) (o :: os) (F ++ G)
end

/-- what isn't in A stands -/
def Kept (A : List Addr) (H H' : Hp) : Prop := ∀ b o, H b = some o → b ∉ A → H' b = some o
theorem Kept.refl (A : List Addr) (H : Hp) : Kept A H H := fun _ _ h _ => h
theorem Kept.same {A : List Addr} {H H' : Hp} (s : Same H H') : Kept A H H' := fun b o h _ => s b o h

section
variable {K : PySem.W.Frag} {A A' : List Addr} {H H' : Hp}

theorem TupR.kept {a : Addr} {vs : List V} (h : TupR K H a vs) (hf : ∀ b o u, H b = some (.frz o u) → H' b = some (.frz o u)) : TupR K H' a vs := by
  rcases h with ⟨o, h, d⟩ | h
  · exact .inl ⟨o, hf a o _ h, d⟩
  · exact .inr h

/-- how frozen things stay: A may lose, or gain what was untracked -/
structure Stay (A A' : List Addr) (H H' : Hp) : Prop where
  kept : Kept A H H'
  frz : ∀ b o u, H b = some (.frz o u) → H' b = some (.frz o u)
  sub : ∀ b, b ∈ A' → b ∈ A ∨ H b = none
theorem Stay.refl : Stay A A H H := ⟨Kept.refl A H, fun _ _ _ h => h, fun _ h => .inl h⟩
theorem Stay.same (s : Same H H') (h : ∀ b, b ∈ A' → b ∈ A ∨ H b = none) : Stay A A' H H' := ⟨Kept.same s, fun b o u h => s b _ h, h⟩

theorem LstR.stay {a : Addr} {vs : List V} (s : Stay A A' H H') (h : LstR K A H a vs) : LstR K A' H' a vs := by
  rcases h with ⟨h, hn⟩ | h
  · refine .inl ⟨?_, fun hm => ?_⟩
    · rcases h with h | ⟨o, h⟩
      · exact .inl (s.kept a _ h hn)
      · exact .inr ⟨o, s.frz a o _ h⟩
    · rcases s.sub a hm with q | q
      · exact hn q
      · rcases h with h | ⟨o, h⟩
        · rw [q] at h; cases h
        · rw [q] at h; cases h
  · exact .inr h
mutual
theorem Rp.stay (s : Stay A A' H H') : ∀ {v : V} {d : PyData}, Rp K A H v d → Rp K A' H' v d
  | _, _, .non => .non
  | _, _, .bl b => .bl b
  | _, _, .int i => .int i
  | _, _, .str x => .str x
  | _, _, .lst h r => .lst (h.stay s) (Rps.stay s r)
  | _, _, .tup h r => .tup (h.kept s.frz) (Rps.stay s r)
theorem Rps.stay (s : Stay A A' H H') : ∀ {vs : List V} {ds : List PyData}, Rps K A H vs ds → Rps K A' H' vs ds
  | _, _, .nil => .nil
  | _, _, .cons h r => .cons (Rp.stay s h) (Rps.stay s r)
end
mutual
theorem Own.stay (s : Stay A A' H H') : ∀ {v : V} {o : O} {F : List Addr}, Own K A H v o F → (∀ a ∈ F, ∀ x, H a = some x → H' a = some x) → Own K A' H' v o F
  | _, _, _, .fz h, _ => .fz (h.stay s)
  | _, _, _, .ls h r, k => .ls (k _ List.mem_cons_self _ h) (Owns.stay s r fun a m => k a (List.mem_cons_of_mem _ m))
  | _, _, _, .tp h r, k => .tp (h.kept s.frz) (Owns.stay s r k)
theorem Owns.stay (s : Stay A A' H H') : ∀ {vs : List V} {os : List O} {F : List Addr}, Owns K A H vs os F → (∀ a ∈ F, ∀ x, H a = some x → H' a = some x) → Owns K A' H' vs os F
  | _, _, _, .nil, _ => .nil
  | _, _, _, .cons h r, k => .cons (Own.stay s h fun a m => k a (List.mem_append_left _ m)) (Owns.stay s r fun a m => k a (List.mem_append_right _ m))
end
/-- an owned footprint is tracked -/
theorem foot_mem {a : Addr} : ∀ {v : V} {o : O} {F : List Addr}, Own K A H v o F → a ∈ F → ∃ xs, H a = some (.lst xs) := by
  intro v o F h
  refine Own.rec (motive_1 := fun v o F _ => a ∈ F → ∃ xs, H a = some (.lst xs)) (motive_2 := fun vs os F _ => a ∈ F → ∃ xs, H a = some (.lst xs)) ?_ ?_ ?_ ?_ ?_ h
  · intro v d _ m; cases m
  · intro b vs os F e _ ih m
    rcases List.mem_cons.mp m with q | q
    · subst q; exact ⟨vs, e⟩
    · exact ih q
  · intro b vs os F _ _ ih m; exact ih m
  · intro m; cases m
  · intro v vs o os F G _ _ ih1 ih2 m
    rcases List.mem_append.mp m with q | q
    · exact ih1 q
    · exact ih2 q
theorem foots_mem {a : Addr} : ∀ {vs : List V} {os : List O} {F : List Addr}, Owns K A H vs os F → a ∈ F → ∃ xs, H a = some (.lst xs)
  | _, _, _, .nil, m => nomatch m
  | _, _, _, .cons h r, m => (List.mem_append.mp m).elim (fun q => foot_mem h q) fun q => foots_mem r q
mutual
/-- an owned thing is let go of: it is frozen from now on -/
theorem Own.freeze (hs : ∀ b, b ∈ A' → b ∈ A) : ∀ {v : V} {o : O} {F : List Addr}, Own K A H v o F → (∀ a ∈ F, a ∉ A') → Rp K A' H v o.toD
  | _, _, _, .fz h, _ => h.stay ⟨Kept.refl _ _, fun _ _ _ h => h, fun b m => .inl (hs b m)⟩
  | _, _, _, .ls h r, k => .lst (.inl ⟨.inl h, k _ List.mem_cons_self⟩) (Owns.freeze hs r fun a m => k a (List.mem_cons_of_mem _ m))
  | _, _, _, .tp h r, k => .tup h (Owns.freeze hs r k)
theorem Owns.freeze (hs : ∀ b, b ∈ A' → b ∈ A) : ∀ {vs : List V} {os : List O} {F : List Addr}, Owns K A H vs os F → (∀ a ∈ F, a ∉ A') → Rps K A' H vs (O.toDs os)
  | _, _, _, .nil, _ => .nil
  | _, _, _, .cons h r, k => .cons (Own.freeze hs h fun a m => k a (List.mem_append_left _ m)) (Owns.freeze hs r fun a m => k a (List.mem_append_right _ m))
end
mutual
theorem Rp.dp : ∀ {v : V} {d : PyData}, Rp K A H v d → Dp K H v d
  | _, _, .non => .non
  | _, _, .bl b => .bl b
  | _, _, .int i => .int i
  | _, _, .str x => .str x
  | _, _, .lst h r => .lst h.seq (Rps.dp r)
  | _, _, .tup h r => .tup h.seq (Rps.dp r)
theorem Rps.dp : ∀ {vs : List V} {ds : List PyData}, Rps K A H vs ds → DpAll K H vs ds
  | _, _, .nil => .nil
  | _, _, .cons h r => .cons (Rp.dp h) (Rps.dp r)
end
mutual
theorem Own.dp : ∀ {v : V} {o : O} {F : List Addr}, Own K A H v o F → Dp K H v o.toD
  | _, _, _, .fz h => h.dp
  | _, _, _, .ls h r => .lst (SqL.of h) (Owns.dp r)
  | _, _, _, .tp h r => .tup h.seq (Owns.dp r)
theorem Owns.dp : ∀ {vs : List V} {os : List O} {F : List Addr}, Owns K A H vs os F → DpAll K H vs (O.toDs os)
  | _, _, _, .nil => .nil
  | _, _, _, .cons h r => .cons (Own.dp h) (Owns.dp r)
end
theorem Rps.length : ∀ {vs : List V} {ds : List PyData}, Rps K A H vs ds → vs.length = ds.length
  | _, _, .nil => rfl
  | _, _, .cons _ r => by rw [List.length_cons, List.length_cons, Rps.length r]
theorem Owns.length : ∀ {vs : List V} {os : List O} {F : List Addr}, Owns K A H vs os F → vs.length = os.length
  | _, _, _, .nil => rfl
  | _, _, _, .cons _ r => by rw [List.length_cons, List.length_cons, Owns.length r]
theorem Rps.get : ∀ {vs : List V} {ds : List PyData} {i : Nat} {d : PyData}, Rps K A H vs ds → ds[i]? = some d → ∃ v, vs[i]? = some v ∧ Rp K A H v d
  | _, _, 0, _, .cons h _, e => by simp at e; subst e; exact ⟨_, rfl, h⟩
  | _, _, i + 1, _, .cons _ r, e => by
    obtain ⟨v, h1, h2⟩ := Rps.get (i := i) r (by simpa using e)
    exact ⟨v, by simpa using h1, h2⟩
theorem Rps.append : ∀ {vs ws : List V} {ds es : List PyData}, Rps K A H vs ds → Rps K A H ws es → Rps K A H (vs ++ ws) (ds ++ es)
  | _, _, _, _, .nil, s => s
  | _, _, _, _, .cons h r, s => .cons h (Rps.append r s)
theorem Rps.drop : ∀ {vs : List V} {ds : List PyData} (n : Nat), Rps K A H vs ds → Rps K A H (vs.drop n) (ds.drop n)
  | _, _, 0, r => r
  | _, _, _ + 1, .nil => .nil
  | _, _, n + 1, .cons _ r => Rps.drop n r
theorem Rps.take : ∀ {vs : List V} {ds : List PyData} (n : Nat), Rps K A H vs ds → Rps K A H (vs.take n) (ds.take n)
  | _, _, 0, _ => .nil
  | _, _, _ + 1, .nil => .nil
  | _, _, n + 1, .cons h r => .cons h (Rps.take n r)
theorem Rps.reverse : ∀ {vs : List V} {ds : List PyData}, Rps K A H vs ds → Rps K A H vs.reverse ds.reverse
  | _, _, .nil => .nil
  | _, _, .cons h r => by
    rw [List.reverse_cons, List.reverse_cons]
    exact Rps.append (Rps.reverse r) (.cons h .nil)
theorem Owns.append : ∀ {vs ws : List V} {os ps : List O} {F G : List Addr}, Owns K A H vs os F → Owns K A H ws ps G → Owns K A H (vs ++ ws) (os ++ ps) (F ++ G)
  | _, _, _, _, _, _, .nil, s => s
  | _, _, _, _, _, _, .cons h r, s => by
    rw [List.append_assoc]
    exact .cons h (Owns.append r s)
theorem Owns.of_frz : ∀ {vs : List V} {ds : List PyData}, Rps K A H vs ds → Owns K A H vs (ds.map O.fz) []
  | _, _, .nil => .nil
  | _, _, .cons h r => .cons (F := []) (G := []) (.fz h) (Owns.of_frz r)
end

/-! ### the items of a list or a tuple that are frozen -/
def allFz : List O → Option (List PyData)
  | [] => some []
  | .fz d :: os => (allFz os).map (d :: ·)
  | _ :: _ => none
theorem allFz_map : ∀ ds : List PyData, allFz (ds.map O.fz) = some ds
  | [] => rfl
  | d :: ds => by rw [List.map_cons, allFz, allFz_map ds]; rfl
theorem allFz_spec : ∀ {os : List O} {ds : List PyData}, allFz os = some ds → os = ds.map O.fz
  | [], _, e => by
    injection e with e; subst e; rfl
  | .fz d :: os, ds, e => by
    rw [allFz] at e
    cases q : allFz os with
    | none => rw [q] at e; cases e
    | some es =>
      rw [q] at e
      injection e with e
      subst e
      rw [allFz_spec q, List.map_cons]
  | .ls _ :: _, _, e => nomatch e
  | .tp _ :: _, _, e => nomatch e
/-- the frozen items of a list -/
def listOf : O → Option (List PyData)
  | .fz (.list ds) => some ds
  | .ls os => allFz os
  | _ => none
/-- the frozen items of a tuple -/
def tupOf : O → Option (List PyData)
  | .fz (.tuple ds) => some ds
  | .tp os => allFz os
  | _ => none
section
variable {K : PySem.W.Frag} {A : List Addr} {H : Hp}
theorem Owns.rps : ∀ {vs : List V} {ds : List PyData} {F : List Addr}, Owns K A H vs (ds.map O.fz) F → Rps K A H vs ds ∧ F = []
  | _, [], _, h => by cases h; exact ⟨.nil, rfl⟩
  | _, d :: ds, _, h => by
    rw [List.map_cons] at h
    cases h with
    | cons h1 h2 =>
      cases h1 with
      | fz q =>
        obtain ⟨r, e⟩ := Owns.rps h2
        subst e
        exact ⟨.cons q r, rfl⟩
theorem listOf_spec {o : O} {ds : List PyData} {v : V} {F : List Addr} (h : Own K A H v o F) (e : listOf o = some ds) : ∃ a vs, v = .ref a ∧ SqL K H a vs ∧ Rps K A H vs ds := by
  cases h with
  | fz h =>
    rename_i d
    cases d with
    | list es =>
      injection e with e; subst e
      cases h with
      | lst h r => exact ⟨_, _, rfl, h.seq, r⟩
    | _ => cases e
  | ls h r =>
    have q := allFz_spec (show allFz _ = some ds from e)
    subst q
    exact ⟨_, _, rfl, SqL.of h, (Owns.rps r).1⟩
  | tp h r => cases e
theorem tupOf_spec {o : O} {ds : List PyData} {v : V} {F : List Addr} (h : Own K A H v o F) (e : tupOf o = some ds) : ∃ a vs, v = .ref a ∧ TupR K H a vs ∧ Rps K A H vs ds := by
  cases h with
  | fz h =>
    rename_i d
    cases d with
    | tuple es =>
      injection e with e; subst e
      cases h with
      | tup h r => exact ⟨_, _, rfl, h, r⟩
    | _ => cases e
  | ls h r => cases e
  | tp h r =>
    have q := allFz_spec (show allFz _ = some ds from e)
    subst q
    exact ⟨_, _, rfl, h, (Owns.rps r).1⟩
end

/-! ### the slots of a frame -/
abbrev Env := List (Option O)
inductive Slots (K : PySem.W.Frag) (A : List Addr) (H : Hp) : St → Env → List Addr → Prop
  | nil : Slots K A H [] [] []
  | emp {x : Option V} {σ : St} {e : Env} {F : List Addr} : Slots K A H σ e F → Slots K A H (x :: σ) (none :: e) F
  | hold {v : V} {o : O} {σ : St} {e : Env} {F G : List Addr} : Own K A H v o G → Slots K A H σ e F → Slots K A H (some v :: σ) (some o :: e) (G ++ F)

/-- the frame's state: P is owned by others, F by the slots -/
structure SR (K : PySem.W.Frag) (P F : List Addr) (H : Hp) (σ : St) (e : Env) : Prop where
  nd : (P ++ F).Nodup
  pt : ∀ a ∈ P, ∃ o, H a = some o
  sl : Slots K (P ++ F) H σ e F

section
variable {K : PySem.W.Frag} {A A' P F : List Addr} {H H' : Hp} {σ : St} {e : Env}
theorem Slots.length : ∀ {σ : St} {e : Env} {F : List Addr}, Slots K A H σ e F → σ.length = e.length
  | _, _, _, .nil => rfl
  | _, _, _, .emp r => by rw [List.length_cons, List.length_cons, Slots.length r]
  | _, _, _, .hold _ r => by rw [List.length_cons, List.length_cons, Slots.length r]
theorem Slots.mem {a : Addr} : ∀ {σ : St} {e : Env} {F : List Addr}, Slots K A H σ e F → a ∈ F → ∃ xs, H a = some (.lst xs)
  | _, _, _, .nil, m => nomatch m
  | _, _, _, .emp r, m => Slots.mem r m
  | _, _, _, .hold h r, m => (List.mem_append.mp m).elim (fun q => foot_mem h q) fun q => Slots.mem r q
theorem Slots.stay (s : Stay A A' H H') : ∀ {σ : St} {e : Env} {F : List Addr}, Slots K A H σ e F → (∀ a ∈ F, ∀ x, H a = some x → H' a = some x) → Slots K A' H' σ e F
  | _, _, _, .nil, _ => .nil
  | _, _, _, .emp r, k => .emp (Slots.stay s r k)
  | _, _, _, .hold h r, k => .hold (h.stay s fun a m => k a (List.mem_append_left _ m)) (Slots.stay s r fun a m => k a (List.mem_append_right _ m))
theorem Slots.get : ∀ {σ : St} {e : Env} {F : List Addr} {i : Nat} {o : O}, Slots K A H σ e F → e[i]? = some (some o) → ∃ v G, σ[i]? = some (some v) ∧ Own K A H v o G ∧ ∀ a ∈ G, a ∈ F
  | _, _, _, 0, _, .hold h r, q => by
    simp at q; subst q
    exact ⟨_, _, rfl, h, fun a m => List.mem_append_left _ m⟩
  | _, _, _, 0, _, .emp r, q => by simp at q
  | _, _, _, i + 1, _, .emp r, q => by
    obtain ⟨v, G, h1, h2, h3⟩ := Slots.get (i := i) r (by simpa using q)
    exact ⟨v, G, by simpa using h1, h2, h3⟩
  | _, _, _, i + 1, _, .hold h r, q => by
    obtain ⟨v, G, h1, h2, h3⟩ := Slots.get (i := i) r (by simpa using q)
    exact ⟨v, G, by simpa using h1, h2, fun a m => List.mem_append_right _ (h3 a m)⟩
  | _, _, _, _, _, .nil, q => by simp at q
/-- a slot's value goes, another one comes (its footprint G is new among the others) -/
theorem Slots.put {v : V} {o : O} {G : List Addr} : ∀ {σ : St} {e : Env} {F : List Addr} {i : Nat}, Slots K A H σ e F → i < e.length → Own K A H v o G →
    ∃ F', Slots K A H (σ.set i (some v)) (e.set i (some o)) (F') ∧ ∃ L R, F' = L ++ G ++ R ∧ ∃ M, F = L ++ M ++ R
  | _, _, _, 0, .emp (F := R) r, _, h => ⟨_, .hold h r, [], R, rfl, [], rfl⟩
  | _, _, _, 0, .hold (F := R) (G := M) h0 r, _, h => ⟨_, .hold h r, [], R, rfl, M, rfl⟩
  | _, _, _, i + 1, .emp r, l, h => by
    obtain ⟨F', h1, L, R, e1, M, e2⟩ := Slots.put (i := i) r (by simpa using l) h
    exact ⟨F', .emp h1, L, R, e1, M, e2⟩
  | _, _, _, i + 1, .hold (G := M0) h0 r, l, h => by
    obtain ⟨F', h1, L, R, e1, M, e2⟩ := Slots.put (i := i) r (by simpa using l) h
    exact ⟨_, .hold h0 h1, M0 ++ L, R, by rw [e1]; simp, M, by rw [e2]; simp⟩
/-- a slot is let go of -/
theorem Slots.kill : ∀ {σ : St} {e : Env} {F : List Addr} (i : Nat), Slots K A H σ e F → ∃ F', Slots K A H σ (e.set i none) F' ∧ ∃ L M R, F' = L ++ R ∧ F = L ++ M ++ R
  | _, _, _, _, .nil => ⟨_, .nil, [], [], [], rfl, rfl⟩
  | _, _, _, 0, .emp (F := R) r => ⟨_, .emp r, [], [], R, rfl, rfl⟩
  | _, _, _, 0, .hold (F := R) (G := M) h r => ⟨_, .emp r, [], M, R, rfl, rfl⟩
  | _, _, _, i + 1, .emp r => by
    obtain ⟨F', h1, L, M, R, e1, e2⟩ := Slots.kill i r
    exact ⟨F', .emp h1, L, M, R, e1, e2⟩
  | _, _, _, i + 1, .hold (G := M0) h r => by
    obtain ⟨F', h1, L, M, R, e1, e2⟩ := Slots.kill i r
    exact ⟨_, .hold h h1, M0 ++ L, M, R, by rw [e1]; simp, by rw [e2]; simp⟩
theorem SR.tracked (s : SR K P F H σ e) {a : Addr} (m : a ∈ P ++ F) : ∃ o, H a = some o := by
  rcases List.mem_append.mp m with q | q
  · exact s.pt a q
  · obtain ⟨xs, h⟩ := s.sl.mem q
    exact ⟨_, h⟩
end
end Pu

end

-- PuB
section
set_option Elab.async false
set_option linter.all false
set_option maxRecDepth 100000
/-! Pu, part B: what an expression, an argument list, a block computes. -/
namespace Pu
open PySem PySem.Spec L2
open PyProof.Rows hiding St

/-- an expression's result: fresh (or frozen), or what a slot owns -/
abbrev Rs := Bool × O

/-- each owned thing is tracked -/
def Trk (A : List Addr) (H : Hp) : Prop := ∀ a ∈ A, ∃ o, H a = some o
theorem Trk.nil {H : Hp} : Trk [] H := fun _ m => (nomatch m)
theorem Trk.append {A B : List Addr} {H : Hp} (a : Trk A H) (b : Trk B H) : Trk (A ++ B) H := fun x m => (List.mem_append.mp m).elim (a x) (b x)
theorem Trk.same {A : List Addr} {H H' : Hp} (a : Trk A H) (s : Same H H') : Trk A H' := fun x m => let ⟨o, e⟩ := a x m; ⟨o, s x o e⟩

/-- new things alone -/
structure Frs (H : Hp) (R : List Addr) (H' : Hp) : Prop where
  same : Same H H'
  new : ∀ a ∈ R, H a = none
  nd : R.Nodup
  trk : Trk R H'
theorem Frs.refl (H : Hp) : Frs H [] H := ⟨Same.refl H, (fun _ m => nomatch m), List.nodup_nil, .nil⟩
theorem same_new {H : Hp} {p : Addr} {o : HO} (h : H p = none) : Same H (upd H p o) := fun b u e => by rw [upd_ne (ne_of_none e h)]; exact e
theorem Frs.one {H : Hp} {p : Addr} {o : HO} (h : H p = none) : Frs H [p] (upd H p o) :=
  ⟨same_new h, fun a m => by rw [List.mem_singleton] at m; subst m; exact h, List.nodup_cons.mpr ⟨(fun m => nomatch m), List.nodup_nil⟩, fun a m => by rw [List.mem_singleton] at m; subst m; exact ⟨_, upd_same⟩⟩
theorem Frs.fz1 {H : Hp} {p : Addr} {o : HO} (h : H p = none) : Frs H [] (upd H p o) :=
  ⟨same_new h, (fun a m => nomatch m), List.nodup_nil, .nil⟩
theorem Frs.of_same {H H' : Hp} (h : Same H H') : Frs H [] H' := ⟨h, (fun a m => nomatch m), List.nodup_nil, .nil⟩

/-- the value's tree, whoever owns it -/
def Sees (K : PySem.W.Frag) (A : List Addr) (H : Hp) (v : V) (o : O) : Prop := ∃ G, Own K A H v o G

structure Got (K : PySem.W.Frag) (P F : List Addr) (H : Hp) (r : Rs) (v : V) (R : List Addr) (H' : Hp) : Prop where
  frs : Frs H R H'
  own : ∃ G, Own K (R ++ (P ++ F)) H' v r.2 G ∧ ((r.1 = true ∧ G = R) ∨ (r.1 = false ∧ R = [] ∧ G.Nodup ∧ ∀ a ∈ G, a ∈ F))

section
variable {K : PySem.W.Frag} {A A' P F R R' : List Addr} {H H1 H' : Hp} {σ : St} {e : Env} {r : Rs} {v : V} {o : O}
theorem Frs.trans (a : Frs H R H1) (b : Frs H1 R' H') : Frs H (R ++ R') H' := by
  refine ⟨a.same.trans b.same, fun x m => ?_, ?_, (a.trk.same b.same).append b.trk⟩
  · rcases List.mem_append.mp m with m | m
    · exact a.new x m
    · exact a.same.free (b.new x m)
  · refine List.nodup_append.mpr ⟨a.nd, b.nd, fun x mx y my q => ?_⟩
    subst q
    obtain ⟨o, e⟩ := a.trk x mx
    rw [b.new x my] at e
    cases e
/-- A grows by what is new -/
theorem Stay.frs (f : Frs H R H') : Stay A (R ++ A) H H' := Stay.same f.same fun b m => (List.mem_append.mp m).elim (fun q => .inr (f.new b q)) .inl
theorem Stay.less (h : ∀ b, b ∈ A' → b ∈ A) : Stay A A' H H := Stay.same (Same.refl H) fun b m => .inl (h b m)
theorem Own.less {G : List Addr} (h : ∀ b, b ∈ A' → b ∈ A) (w : Own K A H v o G) : Own K A' H v o G := w.stay (Stay.less h) fun _ _ _ e => e
theorem Own.frs {G : List Addr} (f : Frs H R H') (w : Own K A H v o G) : Own K (R ++ A) H' v o G := w.stay (Stay.frs f) fun a _ x e => f.same a x e
theorem Rp.frs {d : PyData} (f : Frs H R H') (w : Rp K A H v d) : Rp K (R ++ A) H' v d := w.stay (Stay.frs f)
theorem Rp.less {d : PyData} (h : ∀ b, b ∈ A' → b ∈ A) (w : Rp K A H v d) : Rp K A' H v d := w.stay (Stay.less h)
theorem Rps.frs {vs : List V} {ds : List PyData} (f : Frs H R H') (w : Rps K A H vs ds) : Rps K (R ++ A) H' vs ds := w.stay (Stay.frs f)
theorem Rps.less {vs : List V} {ds : List PyData} (h : ∀ b, b ∈ A' → b ∈ A) (w : Rps K A H vs ds) : Rps K A' H vs ds := w.stay (Stay.less h)
theorem Sees.frs (f : Frs H R H') (w : Sees K A H v o) : Sees K (R ++ A) H' v o := let ⟨G, w⟩ := w; ⟨G, w.frs f⟩
theorem Sees.less (h : ∀ b, b ∈ A' → b ∈ A) (w : Sees K A H v o) : Sees K A' H v o := let ⟨G, w⟩ := w; ⟨G, w.less h⟩
theorem Got.sees (g : Got K P F H r v R H') : Sees K (R ++ (P ++ F)) H' v r.2 := let ⟨G, w, _⟩ := g.own; ⟨G, w⟩
theorem SR.trk (s : SR K P F H σ e) : Trk (P ++ F) H := fun _ m => s.tracked m
/-- the frame behind an expression: what is new is others' -/
theorem SR.frs (s : SR K P F H σ e) (f : Frs H R H') : SR K (R ++ P) F H' σ e := by
  refine ⟨?_, ?_, ?_⟩
  · rw [List.append_assoc]
    refine List.nodup_append.mpr ⟨f.nd, s.nd, fun x mx y my q => ?_⟩
    subst q
    obtain ⟨o, h⟩ := s.tracked my
    rw [f.new x mx] at h
    cases h
  · exact f.trk.append (Trk.same (fun a m => s.pt a m) f.same)
  · rw [List.append_assoc]
    exact s.sl.stay (Stay.frs f) fun a _ x e => f.same a x e
/-- a fresh result from one that isn't known to stay -/
theorem Got.fresh {o : O} (f : Frs H R H') (w : Own K (R ++ (P ++ F)) H' v o R) : Got K P F H (true, o) v R H' := ⟨f, R, w, .inl ⟨rfl, rfl⟩⟩
end

/-! ### outcomes -/
/-- an exception: its class's name, its own fields -/
structure Exn where
  cls : Str
  fs : List (Str × PyData)
inductive Rz (α : Type) where
  | ok (a : α)
  | ex (x : Exn)
  | bad
def Rz.bind {α β : Type} (z : Rz α) (k : α → Rz β) : Rz β := match z with
  | .ok a => k a
  | .ex x => .ex x
  | .bad => .bad
theorem Rz.bind_ok {α β : Type} (a : α) (k : α → Rz β) : (Rz.ok a).bind k = k a := rfl
theorem Rz.bind_ex {α β : Type} (x : Exn) (k : α → Rz β) : (Rz.ex x).bind k = .ex x := rfl
theorem Rz.bind_bad {α β : Type} (k : α → Rz β) : (Rz.bad).bind k = .bad := rfl
/-- a fresh tree, or none -/
def ofO : Option O → Rz Rs
  | some o => .ok (true, o)
  | none => .bad
def ofS : Option Rs → Rz Rs
  | some r => .ok r
  | none => .bad
/-- what is wished of an exception, at the frame's slots -/
abbrev ZX := Exn → St → Hp → Prop
abbrev Z0 : ZX := fun _ _ _ => False
abbrev Ev := Env → Rz Rs

/-! ### expressions -/
def Ret (K : PySem.W.Frag) (Z : ZX) (P F : List Addr) (H : Hp) (σ : St) (Q : VK) : Rz Rs → Prop
  | .ok r => ∀ v R H', Got K P F H r v R H' → Q v H'
  | .ex x => ∀ R H', Frs H R H' → Z x σ H'
  | .bad => False
def rdE (K : PySem.W.Frag) (Z : ZX) (f : Ev) : TE := fun σ H Q => ∃ P F e, SR K P F H σ e ∧ Ret K Z P F H σ Q (f e)
/-- tests -/
def RetT (K : PySem.W.Frag) (Z : ZX) (P F : List Addr) (H : Hp) (σ : St) (Q : Bool → Hp → Prop) : Rz Bool → Prop
  | .ok b => ∀ H', Same H H' → Q b H'
  | .ex x => ∀ R H', Frs H R H' → Z x σ H'
  | .bad => False
def rdT (K : PySem.W.Frag) (Z : ZX) (f : Env → Rz Bool) : TT := fun σ H Q => ∃ P F e, SR K P F H σ e ∧ RetT K Z P F H σ Q (f e)

section
variable {K : PySem.W.Frag} {Z : ZX} {P F R R' : List Addr} {H H1 H' : Hp} {σ : St} {e : Env} {Q Q1 : VK}
theorem Frs.under (f : Frs H R H1) (g : Frs H1 R' H') : Frs H R' H' := ⟨f.same.trans g.same, fun a m => f.same.free (g.new a m), g.nd, g.trk⟩
theorem Ret.after {z : Rz Rs} (h : Ret K Z P F H σ Q z) (f : Frs H R H1) : Ret K Z (R ++ P) F H1 σ Q z := by
  cases z with
  | ok r =>
    intro v R' H' g
    refine h v R' H' ⟨f.under g.frs, ?_⟩
    obtain ⟨G, w, q⟩ := g.own
    refine ⟨G, w.less fun b m => ?_, q⟩
    rcases List.mem_append.mp m with m | m
    · exact List.mem_append_left _ m
    · refine List.mem_append_right _ ?_
      rw [List.append_assoc]
      exact List.mem_append_right _ m
  | ex x => exact fun R' H' g => h R' H' (f.under g)
  | bad => exact h
theorem RetT.after {z : Rz Bool} {Q : Bool → Hp → Prop} (h : RetT K Z P F H σ Q z) (f : Frs H R H1) : RetT K Z (R ++ P) F H1 σ Q z := by
  cases z with
  | ok r => exact fun H' g => h H' (f.same.trans g)
  | ex x => exact fun R' H' g => h R' H' (f.under g)
  | bad => exact h
/-- one expression, then what its result leads to -/
theorem rd_bind {f : Ev} {k : Rs → Rz Rs} (s : SR K P F H σ e) (h : Ret K Z P F H σ Q ((f e).bind k))
    (hk : ∀ r v R H1, Got K P F H r v R H1 → SR K (R ++ P) F H1 σ e → Ret K Z (R ++ P) F H1 σ Q (k r) → Q1 v H1) : rdE K Z f σ H Q1 := by
  refine ⟨P, F, e, s, ?_⟩
  cases q : f e with
  | ok r =>
    rw [q] at h
    exact fun v R H1 g => hk r v R H1 g (s.frs g.frs) (Ret.after h g.frs)
  | ex x => rw [q] at h; exact h
  | bad => rw [q] at h; exact h
theorem rd_bindT {f : Ev} {k : Rs → Rz Bool} {Q : Bool → Hp → Prop} (s : SR K P F H σ e) (h : RetT K Z P F H σ Q ((f e).bind k))
    (hk : ∀ r v R H1, Got K P F H r v R H1 → SR K (R ++ P) F H1 σ e → RetT K Z (R ++ P) F H1 σ Q (k r) → Q1 v H1) : rdE K Z f σ H Q1 := by
  refine ⟨P, F, e, s, ?_⟩
  cases q : f e with
  | ok r =>
    rw [q] at h
    exact fun v R H1 g => hk r v R H1 g (s.frs g.frs) (RetT.after h g.frs)
  | ex x => rw [q] at h; exact h
  | bad => rw [q] at h; exact h
theorem rd_bindTT {f : Env → Rz Bool} {k : Bool → Rz Bool} {Q Q2 : Bool → Hp → Prop} (s : SR K P F H σ e) (h : RetT K Z P F H σ Q ((f e).bind k))
    (hk : ∀ b H1, Same H H1 → SR K P F H1 σ e → RetT K Z P F H1 σ Q (k b) → Q2 b H1) : rdT K Z f σ H Q2 := by
  refine ⟨P, F, e, s, ?_⟩
  cases q : f e with
  | ok b =>
    rw [q] at h
    exact fun H1 g => hk b H1 g (s.frs (R := []) (.of_same g)) (RetT.after (R := []) h (.of_same g))
  | ex x => rw [q] at h; exact h
  | bad => rw [q] at h; exact h
theorem rd_bindTE {f : Env → Rz Bool} {k : Bool → Rz Rs} {Q2 : Bool → Hp → Prop} (s : SR K P F H σ e) (h : Ret K Z P F H σ Q ((f e).bind k))
    (hk : ∀ b H1, Same H H1 → SR K P F H1 σ e → Ret K Z P F H1 σ Q (k b) → Q2 b H1) : rdT K Z f σ H Q2 := by
  refine ⟨P, F, e, s, ?_⟩
  cases q : f e with
  | ok b =>
    rw [q] at h
    exact fun H1 g => hk b H1 g (s.frs (R := []) (.of_same g)) (Ret.after (R := []) h (.of_same g))
  | ex x => rw [q] at h; exact h
  | bad => rw [q] at h; exact h
end

section
variable {X : Cx}
theorem pe_imp {ex : Expr} {t t' : TE} (h : PE X ex t) (i : ∀ σ H Q, t' σ H Q → t σ H Q) : PE X ex t' := ⟨fun pins s σ H Q I w => h.run pins s σ H Q I (i σ H Q w)⟩
theorem pt_imp {ex : Expr} {t t' : TT} (h : PT X ex t) (i : ∀ σ H Q, t' σ H Q → t σ H Q) : PT X ex t' := ⟨fun pins s σ H Q I w => h.run pins s σ H Q I (i σ H Q w)⟩
theorem pw_imp {ex : Expr} {t t' : TT} (h : PW X ex t) (i : ∀ σ H Q, t' σ H Q → t σ H Q) : PW X ex t' := ⟨fun wh pins s σ H Q I w => h.run wh pins s σ H Q I (i σ H Q w)⟩
theorem pa_imp {es : List Expr} {t t' : TA} (h : PA X es t) (i : ∀ σ H Q, t' σ H Q → t σ H Q) : PA X es t' := ⟨fun pos pins s σ H Q I w => h.run pos pins s σ H Q I (i σ H Q w)⟩
theorem ps_imp {st : Stmt} {t t' : TS} (h : PS X st t) (i : ∀ D σ H, t' D σ H → t D σ H) : PS X st t' := ⟨fun pins s σ H D I w => h.run pins s σ H D I (i D σ H w)⟩
theorem pss_imp {st : List Stmt} {t t' : TS} (h : PSs X st t) (i : ∀ D σ H, t' D σ H → t D σ H) : PSs X st t' := ⟨fun pins s σ H D I w => h.run pins s σ H D I (i D σ H w)⟩

/-! ### constants and slots -/
def eC (d : PyData) : Ev := fun _ => .ok (true, .fz d)
theorem rd_const {K : PySem.W.Frag} {Z : ZX} {v : V} {d : PyData} (hr : ∀ A H, Rp K A H v d) : ∀ σ H Q, rdE K Z (eC d) σ H Q → tC v σ H Q := by
  rintro σ H Q ⟨P, F, e, s, k⟩
  exact k v [] H (.fresh (.refl H) (.fz (hr _ _)))
def slotR : Option (Option O) → Rz Rs
  | some (some (.fz d)) => .ok (true, .fz d)
  | some (some o) => .ok (false, o)
  | _ => .bad
def eV (i : Nat) : Ev := fun e => slotR e[i]?
theorem Slots.getN {K : PySem.W.Frag} {A : List Addr} {H : Hp} : ∀ {σ : St} {e : Env} {F : List Addr} {i : Nat} {o : O}, Slots K A H σ e F → F.Nodup → e[i]? = some (some o) → ∃ v G, σ[i]? = some (some v) ∧ Own K A H v o G ∧ G.Nodup ∧ ∀ a ∈ G, a ∈ F
  | _, _, _, 0, _, .hold h r, nd, q => by
    simp at q; subst q
    exact ⟨_, _, rfl, h, (List.nodup_append.mp nd).1, fun a m => List.mem_append_left _ m⟩
  | _, _, _, 0, _, .emp r, _, q => by simp at q
  | _, _, _, i + 1, _, .emp r, nd, q => by
    obtain ⟨v, G, h1, h2, h3, h4⟩ := Slots.getN (i := i) r nd (by simpa using q)
    exact ⟨v, G, by simpa using h1, h2, h3, h4⟩
  | _, _, _, i + 1, _, .hold h r, nd, q => by
    obtain ⟨v, G, h1, h2, h3, h4⟩ := Slots.getN (i := i) r (List.nodup_append.mp nd).2.1 (by simpa using q)
    exact ⟨v, G, by simpa using h1, h2, h3, fun a m => List.mem_append_right _ (h4 a m)⟩
  | _, _, _, _, _, .nil, _, q => by simp at q
theorem Own.fz_nil {K : PySem.W.Frag} {A : List Addr} {H : Hp} {v : V} {d : PyData} {G : List Addr} (w : Own K A H v (.fz d) G) : G = [] ∧ Rp K A H v d := by
  cases w with
  | fz h => exact ⟨rfl, h⟩
theorem rd_var {K : PySem.W.Frag} {Z : ZX} {i : Nat} : ∀ σ H Q, rdE K Z (eV i) σ H Q → tVar i σ H Q := by
  rintro σ H Q ⟨P, F, e, s, k⟩
  have k' : Ret K Z P F H σ Q (slotR e[i]?) := k
  cases hs : e[i]? with
  | none => rw [hs] at k'; exact k'.elim
  | some oo =>
    rw [hs] at k'
    cases oo with
    | none => exact k'.elim
    | some o =>
      obtain ⟨v, G, h1, h2, h3, h4⟩ := s.sl.getN (List.nodup_append.mp s.nd).2.1 hs
      refine ⟨v, h1, ?_⟩
      cases o with
      | fz d =>
        obtain ⟨rfl, w⟩ := h2.fz_nil
        exact k' v [] H (.fresh (.refl H) (.fz w))
      | ls l => exact k' v [] H ⟨.refl H, G, h2, .inr ⟨rfl, rfl, h3, h4⟩⟩
      | tp l => exact k' v [] H ⟨.refl H, G, h2, .inr ⟨rfl, rfl, h3, h4⟩⟩
variable {Z : ZX}
theorem q_int {i : Int} {j : Nat} {pos : Pos} : PE X (.Constant (.int i) j pos) (rdE X.K Z (eC (.int i))) := pe_imp pe_int (rd_const fun _ _ => .int i)
theorem q_bl {b : Bool} {j : Nat} {pos : Pos} : PE X (.Constant (.bool b) j pos) (rdE X.K Z (eC (.bool b))) := pe_imp pe_bl (rd_const fun _ _ => .bl b)
theorem q_non {j : Nat} {pos : Pos} : PE X (.Constant .none j pos) (rdE X.K Z (eC .none)) := pe_imp pe_non (rd_const fun _ _ => .non)
theorem q_str {x : Str} {j : Nat} {pos : Pos} : PE X (.Constant (.str x) j pos) (rdE X.K Z (eC (.str x))) := pe_imp pe_str (rd_const fun _ _ => .str x)
theorem qv (i : Nat) {x : Str} {pos : Pos} (hN : X.N[i]? = some x := by rfl) (hv : Vis X.env.scope x := by first | exact Or.inl rfl | exact Or.inr (Or.inl rfl) | exact Or.inr (Or.inr rfl)) (hd : (x == ("__debug__" : Str)) = false := by decide)
    (hcd : (x == ("__classdict__" : Str)) = false := by decide) : PE X (.Name x pos) (rdE X.K Z (eV i)) := pe_imp (pe_var hN hv hd hcd) rd_var

/-! ### two values and a rule -/
/-- a rule on trees: g says what comes -/
def rP (K : PySem.W.Frag) (g : O → O → Option O) : R2 := fun x y H Q => ∃ A a b o, Trk A H ∧ Sees K A H x a ∧ Sees K A H y b ∧ g a b = some o ∧ ∀ v R H', Frs H R H' → Own K (R ++ A) H' v o R → Q v H'
def e2 (g : O → O → Option O) (fa fb : Ev) : Ev := fun e => (fa e).bind fun a => (fb e).bind fun b => ofO (g a.2 b.2)
theorem rd_two {K : PySem.W.Frag} {g : O → O → Option O} {fa fb : Ev} : ∀ σ H Q, rdE K Z (e2 g fa fb) σ H Q → tOp (rP K g) (rdE K Z fa) (rdE K Z fb) σ H Q := by
  rintro σ H Q ⟨P, F, e, s, k⟩
  refine rd_bind s k fun a x R1 H1 g1 s1 k1 => ?_
  refine rd_bind s1 k1 fun b y R2 H2 g2 s2 k2 => ?_
  cases hg : g a.2 b.2 with
  | none => rw [hg] at k2; exact k2.elim
  | some o =>
    rw [hg] at k2
    refine ⟨R2 ++ (R1 ++ P) ++ F, a.2, b.2, o, s2.trk, ?_, ?_, hg, fun v R H' f w => k2 v R H' (.fresh f w)⟩
    · have w := g1.sees.frs g2.frs
      rwa [← List.append_assoc R1, ← List.append_assoc R2] at w
    · have w := g2.sees
      rwa [← List.append_assoc R2] at w
variable {a b c : Expr} {fa fb fc : Ev} {pos : Pos}
theorem q_bin {op : Operator} {g : O → O → Option O} (ho : OpR X (binaryOp op) (rP X.K g)) (ha : PE X a (rdE X.K Z fa)) (hb : PE X b (rdE X.K Z fb)) : PE X (.BinOp a op b pos) (rdE X.K Z (e2 g fa fb)) :=
  pe_imp (pe_op ho ha hb) rd_two
theorem q_cmp {op : CmpOp} {g : O → O → Option O} (ho : OpR X (compareOp op) (rP X.K g)) (ha : PE X a (rdE X.K Z fa)) (hb : PE X b (rdE X.K Z fb)) (hm : behindInMarks op b = false) : PE X (.Compare a [op] [b] pos) (rdE X.K Z (e2 g fa fb)) :=
  pe_imp (pe_cmpR ho ha hb hm) rd_two
/-- a bool's truth -/
def blOf : Rs → Rz Bool
  | (_, .fz (.bool b)) => .ok b
  | _ => .bad
theorem blOf_some {K : PySem.W.Frag} {A : List Addr} {H : Hp} {r : Rs} {v : V} {G : List Addr} {P F : List Addr} {σ : St} {Q : Bool → Hp → Prop} (h : RetT K Z P F H σ Q (blOf r)) (w : Own K A H v r.2 G) : ∃ b, v = .bl b ∧ ∀ H', Same H H' → Q b H' := by
  obtain ⟨q, o⟩ := r
  cases w with
  | fz w =>
    cases w with
    | bl b => exact ⟨b, rfl, h⟩
    | _ => exact h.elim
  | ls _ _ => exact h.elim
  | tp _ _ => exact h.elim
def tst (f : Ev) : Env → Rz Bool := fun e => (f e).bind blOf
theorem rd_tst {K : PySem.W.Frag} {f : Ev} : ∀ σ H Q, rdT K Z (tst f) σ H Q → tB (rdE K Z f) σ H Q := by
  rintro σ H Q ⟨P, F, e, s, k⟩
  refine rd_bindT s k fun a x R1 H1 g1 s1 k1 => ?_
  obtain ⟨G, w, _⟩ := g1.own
  obtain ⟨b, e1, k2⟩ := blOf_some k1 w
  exact ⟨b, e1, k2 H1 (Same.refl _)⟩
theorem q_tval {ex : Expr} {f : Ev} (h : PE X ex (rdE X.K Z f)) (he : ∀ whole, isTrue ex X.env whole = (do let v ← whole; standAt ex.pos; holding [v] (truthy v)) := by intro _; rfl) : PT X ex (rdT X.K Z (tst f)) :=
  pt_imp (pt_val h he) rd_tst
theorem q_tcmp {op : CmpOp} {g : O → O → Option O} (ho : OpR X (compareOp op) (rP X.K g)) (ha : PE X a (rdE X.K Z fa)) (hb : PE X b (rdE X.K Z fb)) (hm : behindInMarks op b = false) : PT X (.Compare a [op] [b] pos) (rdT X.K Z (tst (e2 g fa fb))) :=
  pt_imp (pt_cmpR ho ha hb hm) fun σ H Q h => by
    obtain ⟨P, F, e, s, k⟩ := h
    refine rd_two σ H _ ?_
    exact rd_tst σ H Q ⟨P, F, e, s, k⟩

/-! ### and, or, not -/
variable {ta tb tc : Env → Rz Bool} {rest : List Expr}
def tAn (f g : Env → Rz Bool) : Env → Rz Bool := fun e => (f e).bind fun b => if b = true then g e else .ok false
def tOr' (f g : Env → Rz Bool) : Env → Rz Bool := fun e => (f e).bind fun b => if b = true then .ok true else g e
def tNo (f : Env → Rz Bool) : Env → Rz Bool := fun e => (f e).bind fun b => .ok (!b)
theorem q_and1 (ha : PT X a (rdT X.K Z ta)) : PW X (.BoolOp .And [a] pos) (rdT X.K Z ta) := pw_and1 ha
theorem q_or1 (ha : PT X a (rdT X.K Z ta)) : PW X (.BoolOp .Or [a] pos) (rdT X.K Z ta) := pw_or1 ha
theorem q_and (ha : PT X a (rdT X.K Z ta)) (hb : PW X (.BoolOp .And (b :: rest) pos) (rdT X.K Z tb)) : PW X (.BoolOp .And (a :: b :: rest) pos) (rdT X.K Z (tAn ta tb)) :=
  pw_imp (pw_and ha hb) fun σ H Q h => by
    obtain ⟨P, F, e, s, k⟩ := h
    refine rd_bindTT s k fun c H1 g1 s1 k1 => ?_
    cases c with
    | true => exact ⟨P, F, e, s1, k1⟩
    | false => exact k1 H1 (Same.refl _)
theorem q_or (ha : PT X a (rdT X.K Z ta)) (hb : PW X (.BoolOp .Or (b :: rest) pos) (rdT X.K Z tb)) : PW X (.BoolOp .Or (a :: b :: rest) pos) (rdT X.K Z (tOr' ta tb)) :=
  pw_imp (pw_or ha hb) fun σ H Q h => by
    obtain ⟨P, F, e, s, k⟩ := h
    refine rd_bindTT s k fun c H1 g1 s1 k1 => ?_
    cases c with
    | true => exact k1 H1 (Same.refl _)
    | false => exact ⟨P, F, e, s1, k1⟩
theorem q_not (ha : PT X a (rdT X.K Z ta)) : PT X (.UnaryOp .Not a pos) (rdT X.K Z (tNo ta)) :=
  pt_imp (pt_not ha) fun σ H Q h => by
    obtain ⟨P, F, e, s, k⟩ := h
    exact rd_bindTT s k fun c H1 g1 s1 k1 => k1 H1 (Same.refl _)
/-- as values -/
def eAn (f g : Ev) : Ev := fun e => (f e).bind fun r => (blOf r).bind fun b => if b = true then g e else .ok (true, .fz (.bool false))
def eOr (f g : Ev) : Ev := fun e => (f e).bind fun r => (blOf r).bind fun b => if b = true then .ok (true, .fz (.bool true)) else g e
def eNo (f : Ev) : Ev := fun e => (f e).bind fun r => (blOf r).bind fun b => .ok (true, .fz (.bool (!b)))
theorem blOf_bind {K : PySem.W.Frag} {A : List Addr} {H : Hp} {r : Rs} {v : V} {G : List Addr} {P F : List Addr} {σ : St} {Q : VK} {k : Bool → Rz Rs} (h : Ret K Z P F H σ Q ((blOf r).bind k)) (w : Own K A H v r.2 G) : ∃ b, v = .bl b ∧ Ret K Z P F H σ Q (k b) := by
  obtain ⟨q, o⟩ := r
  cases w with
  | fz w =>
    cases w with
    | bl b => exact ⟨b, rfl, h⟩
    | _ => exact h.elim
  | ls _ _ => exact h.elim
  | tp _ _ => exact h.elim
theorem Ret.fz {K : PySem.W.Frag} {P F : List Addr} {H : Hp} {σ : St} {Q : VK} {v : V} {d : PyData} (h : Ret K Z P F H σ Q (.ok (true, .fz d))) (w : ∀ A, Rp K A H v d) : Q v H := h v [] H (.fresh (.refl H) (.fz (w _)))
theorem q_one {op : BoolOp} {t : TE} (h : PE X a t) : PE X (.BoolOp op [a] pos) t := pe_one h
theorem q_vand (ha : PE X a (rdE X.K Z fa)) (hb : PE X (.BoolOp .And (b :: rest) pos) (rdE X.K Z fb)) : PE X (.BoolOp .And (a :: b :: rest) pos) (rdE X.K Z (eAn fa fb)) :=
  pe_imp (pe_and ha hb) fun σ H Q h => by
    obtain ⟨P, F, e, s, k⟩ := h
    refine rd_bind s k fun r v R H1 g1 s1 k1 => ?_
    obtain ⟨G, w, _⟩ := g1.own
    obtain ⟨c, rfl, k2⟩ := blOf_bind k1 w
    refine ⟨c, rfl, ?_⟩
    cases c with
    | true => exact ⟨_, F, e, s1, k2⟩
    | false => exact Ret.fz k2 fun A => .bl false
theorem q_vor (ha : PE X a (rdE X.K Z fa)) (hb : PE X (.BoolOp .Or (b :: rest) pos) (rdE X.K Z fb)) : PE X (.BoolOp .Or (a :: b :: rest) pos) (rdE X.K Z (eOr fa fb)) :=
  pe_imp (pe_or ha hb) fun σ H Q h => by
    obtain ⟨P, F, e, s, k⟩ := h
    refine rd_bind s k fun r v R H1 g1 s1 k1 => ?_
    obtain ⟨G, w, _⟩ := g1.own
    obtain ⟨c, rfl, k2⟩ := blOf_bind k1 w
    refine ⟨c, rfl, ?_⟩
    cases c with
    | false => exact ⟨_, F, e, s1, k2⟩
    | true => exact Ret.fz k2 fun A => .bl true
theorem q_vnot (ha : PE X a (rdE X.K Z fa)) : PE X (.UnaryOp .Not a pos) (rdE X.K Z (eNo fa)) :=
  pe_imp (pe_not ha) fun σ H Q h => by
    obtain ⟨P, F, e, s, k⟩ := h
    refine rd_bind s k fun r v R H1 g1 s1 k1 => ?_
    obtain ⟨G, w, _⟩ := g1.own
    obtain ⟨c, rfl, k2⟩ := blOf_bind k1 w
    exact ⟨c, rfl, Ret.fz k2 fun A => .bl _⟩
def eIf (t : Env → Rz Bool) (f g : Ev) : Ev := fun e => (t e).bind fun b => if b = true then f e else g e
theorem q_if {t : Expr} (ht : PT X t (rdT X.K Z ta)) (ha : PE X a (rdE X.K Z fa)) (hb : PE X b (rdE X.K Z fb)) : PE X (.IfExp t a b pos) (rdE X.K Z (eIf ta fa fb)) :=
  pe_imp (pe_ifExp ht ha hb) fun σ H Q h => by
    obtain ⟨P, F, e, s, k⟩ := h
    refine rd_bindTE s k fun c H1 g1 s1 k1 => ?_
    cases c with
    | true => exact ⟨P, F, e, s1, k1⟩
    | false => exact ⟨P, F, e, s1, k1⟩

/-! ### argument lists -/
def evs : List Ev → Env → Rz (List Rs)
  | [], _ => .ok []
  | f :: fs, e => (f e).bind fun r => (evs fs e).bind fun rs => .ok (r :: rs)
inductive GotL (K : PySem.W.Frag) (A F : List Addr) (H : Hp) : List V → List Rs → List Addr → Prop
  | nil : GotL K A F H [] [] []
  | cons {v : V} {vs : List V} {r : Rs} {rs : List Rs} {G R1 R2 : List Addr} : Own K A H v r.2 G → ((r.1 = true ∧ G = R1) ∨ (r.1 = false ∧ R1 = [] ∧ G.Nodup ∧ ∀ a ∈ G, a ∈ F)) → GotL K A F H vs rs R2 → GotL K A F H (v :: vs) (r :: rs) (R1 ++ R2)
def RetA (K : PySem.W.Frag) (Z : ZX) (P F : List Addr) (H : Hp) (σ : St) (Q : List V → Hp → Prop) : Rz (List Rs) → Prop
  | .ok rs => ∀ vs R H', Frs H R H' → GotL K (R ++ (P ++ F)) F H' vs rs R → Q vs H'
  | .ex x => ∀ R H', Frs H R H' → Z x σ H'
  | .bad => False
def rdA (K : PySem.W.Frag) (Z : ZX) (fs : List Ev) : TA := fun σ H Q => ∃ P F e, SR K P F H σ e ∧ RetA K Z P F H σ Q (evs fs e)
theorem GotL.stay {K : PySem.W.Frag} {A A' F : List Addr} {H H' : Hp} (s : Stay A A' H H') (k : Same H H') : ∀ {vs : List V} {rs : List Rs} {R : List Addr}, GotL K A F H vs rs R → GotL K A' F H' vs rs R
  | _, _, _, .nil => .nil
  | _, _, _, .cons h q r => .cons (h.stay s fun a _ x e => k a x e) q (GotL.stay s k r)
theorem q_nil : PA X [] (rdA X.K Z []) := pa_imp pa_nil fun σ H Q h => by
  obtain ⟨P, F, e, s, k⟩ := h
  exact k [] [] H (.refl H) .nil
theorem q_cons {es : List Expr} {fs : List Ev} (ha : PE X a (rdE X.K Z fa)) (hr : PA X es (rdA X.K Z fs)) (hs : starEach (a :: es) X.env = (false, eval a X.env) :: starEach es X.env := by rfl) : PA X (a :: es) (rdA X.K Z (fa :: fs)) :=
  pa_imp (pa_cons ha hr hs) fun σ H Q h => by
    obtain ⟨P, F, e, s, k⟩ := h
    have k' : RetA X.K Z P F H σ Q ((fa e).bind fun r => (evs fs e).bind fun rs => .ok (r :: rs)) := k
    refine ⟨P, F, e, s, ?_⟩
    cases q : fa e with
    | bad => rw [q] at k'; exact k'
    | ex x => rw [q] at k'; exact k'
    | ok r =>
      rw [q, Rz.bind_ok] at k'
      intro v R1 H1 g1
      refine ⟨R1 ++ P, F, e, s.frs g1.frs, ?_⟩
      cases q2 : evs fs e with
      | bad => rw [q2] at k'; exact k'
      | ex x =>
        rw [q2] at k'
        exact fun R H' f => k' R H' (g1.frs.under f)
      | ok rs =>
        rw [q2, Rz.bind_ok] at k'
        intro vs R2 H2 f2 gl
        refine k' (v :: vs) (R1 ++ R2) H2 (g1.frs.trans f2) ?_
        obtain ⟨G, w, c⟩ := g1.own
        have mm : ∀ b, b ∈ R1 ++ R2 ++ (P ++ F) → b ∈ R2 ++ (R1 ++ (P ++ F)) := fun b m => by
          simp only [List.mem_append] at m ⊢
          rcases m with (m | m) | (m | m)
          · exact .inr (.inl m)
          · exact .inl m
          · exact .inr (.inr (.inl m))
          · exact .inr (.inr (.inr m))
        refine .cons ((w.frs f2).less mm) c (gl.stay (Stay.less fun b m => ?_) (Same.refl _))
        have m' := mm b m
        simp only [List.mem_append] at m' ⊢
        rcases m' with m | m | m | m
        · exact .inl m
        · exact .inr (.inl (.inl m))
        · exact .inr (.inl (.inr m))
        · exact .inr (.inr m)
end
end Pu

end

-- PuC
section
set_option Elab.async false
set_option linter.all false
set_option maxRecDepth 100000
set_option maxHeartbeats 1000000
/-! Pu, part C: operators, comparisons, subscripts. -/
namespace Pu
open PySem PySem.Spec L2
open PyProof.Rows hiding St

section
variable {K : PySem.W.Frag} {A : List Addr} {H : Hp} {x y v : V} {o : O}
theorem Sees.int {i : Int} (h : Sees K A H x (.fz (.int i))) : x = .int i := by
  obtain ⟨G, w⟩ := h
  obtain ⟨_, w⟩ := w.fz_nil
  cases w; rfl
theorem Sees.bl {b : Bool} (h : Sees K A H x (.fz (.bool b))) : x = .bl b := by
  obtain ⟨G, w⟩ := h
  obtain ⟨_, w⟩ := w.fz_nil
  cases w; rfl
theorem Sees.str {z : Str} (h : Sees K A H x (.fz (.str z))) : x = .str z := by
  obtain ⟨G, w⟩ := h
  obtain ⟨_, w⟩ := w.fz_nil
  cases w; rfl
theorem Sees.dp (h : Sees K A H x o) : Dp K H x o.toD := let ⟨_, w⟩ := h; w.dp
theorem Sees.list {ds : List PyData} (h : Sees K A H x o) (e : listOf o = some ds) : ∃ a vs, x = .ref a ∧ SqL K H a vs ∧ Rps K A H vs ds := let ⟨_, w⟩ := h; listOf_spec w e
theorem Sees.tuple {ds : List PyData} (h : Sees K A H x o) (e : tupOf o = some ds) : ∃ a vs, x = .ref a ∧ TupR K H a vs ∧ Rps K A H vs ds := let ⟨_, w⟩ := h; tupOf_spec w e
theorem Sees.fz {d : PyData} (h : Sees K A H x (.fz d)) : Rp K A H x d := let ⟨_, w⟩ := h; w.fz_nil.2
end
mutual
theorem Dp.plain {K : PySem.W.Frag} {H : Hp} : ∀ (d : PyData) (v : V), Dp K H v d → d.plain = true
  | .none, _, _ => rfl
  | .bool _, _, _ => rfl
  | .int _, _, _ => rfl
  | .str _, _, _ => rfl
  | .list ds, _, h => by cases h with | lst _ r => rw [PyData.plain]; exact DpAll.plain ds _ r
  | .tuple ds, _, h => by cases h with | tup _ r => rw [PyData.plain]; exact DpAll.plain ds _ r
  | .dict _, _, h => by cases h
theorem DpAll.plain {K : PySem.W.Frag} {H : Hp} : ∀ (ds : List PyData) (vs : List V), DpAll K H vs ds → PyData.plainAll ds = true
  | [], _, _ => rfl
  | d :: ds, _, h => by
    cases h with
    | cons h r => rw [PyData.plainAll, Dp.plain d _ h, DpAll.plain ds _ r]; rfl
end

/-! ### new objects -/
section
variable {K : PySem.W.Frag} {A : List Addr} {H : Hp}
theorem lst_new {p : Addr} {vs : List V} {ds : List PyData} (hp : H p = none) (r : Rps K A H vs ds) : Own K ([p] ++ A) (upd H p (.lst vs)) (.ref p) (.ls (ds.map .fz)) [p] := by
  have q := Owns.of_frz (r.stay (A' := [p] ++ A) (Stay.frs (Frs.one (o := .lst vs) hp)))
  exact .ls upd_same q
theorem tup_new {p : Addr} {ob : Obj} {vs : List V} {ds : List PyData} (hp : H p = none) (hd : ob.dict = none) (r : Rps K A H vs ds) : Own K ([] ++ A) (upd H p (.frz ob (.tup vs))) (.ref p) (.fz (.tuple ds)) [] := by
  have q := r.stay (A' := [] ++ A) (Stay.frs (Frs.fz1 (o := .frz ob (.tup vs)) hp))
  exact .fz (.tup (.inl ⟨ob, upd_same, hd⟩) q)
end

/-- a new tuple's object -/
abbrev tupO (its : List Value) : Obj := { cls := .type "tuple", data := .seq its.toArray }
theorem laidT {X : Cx} {pins : List (Addr × Obj)} {σ : St} {H : Hp} {s : Shared} {its : List Value} {vs : List V} (I : Inv X pins σ H s) (r : Vals vs its) (z : vs.length ≤ sizeLine) (t' : Nat) :
    Inv X pins σ (upd H s.heap.objs.size (.frz (tupO its) (.tup vs))) { s with heap := s.heap.push (tupO its), toks := t' } :=
  I.laid (fun b u e => Heap.get?_push_of_some _ e) (Nat.le_refl _) ⟨Heap.get?_push_size _ rfl, z, its, r, IsTup.new _ _⟩

/-! ### joining rules -/
def orO (g1 g2 : O → O → Option O) : O → O → Option O := fun a b => match g1 a b with
  | some o => some o
  | none => g2 a b
def intO (f : Int → Int → Option PyData) : O → O → Option O
  | .fz (.int i), .fz (.int j) => (f i j).map .fz
  | _, _ => none
theorem intO_some {f : Int → Int → Option PyData} {a b o : O} (h : intO f a b = some o) : ∃ i j d, a = .fz (.int i) ∧ b = .fz (.int j) ∧ f i j = some d ∧ o = .fz d := by
  unfold intO at h
  split at h
  · rename_i i j
    cases q : f i j with
    | none => rw [q] at h; cases h
    | some d => rw [q] at h; injection h with h; exact ⟨i, j, d, rfl, rfl, q, h.symm⟩
  · cases h
section
variable {X : Cx}
theorem opOrP {f : Value → Value → Sem Value} {g1 g2 : O → O → Option O} (h1 : OpR X f (rP X.K g1)) (h2 : OpR X f (rP X.K g2)) : OpR X f (rP X.K (orO g1 g2)) := by
  intro pins s σ H x y v u Q I rx ry h
  obtain ⟨A, a, b, o, tk, sa, sb, hg, k⟩ := h
  unfold orO at hg
  cases q : g1 a b with
  | some o1 =>
    simp only [q] at hg
    exact h1 pins s σ H x y v u Q I rx ry ⟨A, a, b, o, tk, sa, sb, q.trans hg, k⟩
  | none =>
    simp only [q] at hg
    exact h2 pins s σ H x y v u Q I rx ry ⟨A, a, b, o, tk, sa, sb, hg, k⟩
/-- from a rule on ints -/
theorem opIntP {fn : Value → Value → Sem Value} {C : Int → Int → Prop} {g : Int → Int → V} {f : Int → Int → Option PyData} (h : OpR X fn (rI C g)) (hf : ∀ i j d, f i j = some d → C i j ∧ ∀ K A H, Rp K A H (g i j) d) : OpR X fn (rP X.K (intO f)) := by
  intro pins s σ H x y v u Q I rx ry ⟨A, a, b, o, tk, sa, sb, hg, k⟩
  obtain ⟨i, j, d, rfl, rfl, q, rfl⟩ := intO_some hg
  obtain ⟨c, w⟩ := hf i j d q
  exact h pins s σ H x y v u Q I rx ry ⟨i, j, sa.int, sb.int, c, k _ [] H (.refl H) (.fz (w _ _ _))⟩
theorem opIntP0 {fn : Value → Value → Sem Value} {g : Int → Int → V} {f : Int → Int → Option PyData} (h : OpR X fn (rI0 g)) (hf : ∀ i j d, f i j = some d → ∀ K A H, Rp K A H (g i j) d) : OpR X fn (rP X.K (intO f)) := by
  intro pins s σ H x y v u Q I rx ry ⟨A, a, b, o, tk, sa, sb, hg, k⟩
  obtain ⟨i, j, d, rfl, rfl, q, rfl⟩ := intO_some hg
  exact h pins s σ H x y v u Q I rx ry ⟨i, j, sa.int, sb.int, k _ [] H (.refl H) (.fz (hf i j d q _ _ _))⟩

/-! ### the operators -/
def addI : O → O → Option O := intO fun i j => some (.int (i + j))
def addS : O → O → Option O
  | .fz (.str i), .fz (.str j) => if i.length + j.length ≤ sizeLine then some (.fz (.str (i ++ j))) else none
  | _, _ => none
def addL : O → O → Option O := fun a b => match listOf a, listOf b with
  | some xs, some ys => if xs.length + ys.length ≤ sizeLine then some (.ls ((xs ++ ys).map .fz)) else none
  | _, _ => none
def addT : O → O → Option O := fun a b => match tupOf a, tupOf b with
  | some xs, some ys => if xs.length + ys.length ≤ sizeLine then some (.fz (.tuple (xs ++ ys))) else none
  | _, _ => none
def addO : O → O → Option O := orO addI (orO addL (orO addT addS))
theorem o_addI : OpR X (binaryOp .Add) (rP X.K addI) := opIntP0 op_add fun i j d e => by
  injection e with e; subst e; exact fun _ _ _ => .int _
theorem o_addS : OpR X (binaryOp .Add) (rP X.K addS) := by
  intro pins s σ H x y v u Q I rx ry ⟨A, a, b, o, tk, sa, sb, hg, k⟩
  unfold addS at hg
  split at hg
  · split at hg
    · rename_i i j hz
      injection hg with hg; subst hg
      exact op_add_str pins s σ H x y v u Q I rx ry ⟨i, j, sa.str, sb.str, hz, k _ [] H (.refl H) (.fz (.str _))⟩
    · cases hg
  · cases hg
theorem cat_lists {pins : List (Addr × Obj)} {s : Shared} {σ : St} {H : Hp} {l b : Addr} {xs ys : List V} {Q : VK} (I : Inv X pins σ H s) (hl : SqL X.K H l xs) (hb : SqL X.K H b ys) (hz : xs.length + ys.length ≤ sizeLine)
    (h : ∀ p, H p = none → Q (.ref p) (upd H p (.lst (xs ++ ys)))) : wpAny (model X.prog X.w) X.A (binaryOp .Add (.ref l) (.ref b)) (EP X pins σ Q) X.xe s := by
  obtain ⟨its, r1, ⟨⟨cls, dd, data, sl⟩, n, ho, hc, _, hd⟩, _⟩ := I.list hl
  obtain ⟨its2, r2, ⟨⟨cls2, dd2, data2, sl2⟩, n2, ho2, hc2, _, hd2⟩, _⟩ := I.list hb
  simp only at hc hd hc2 hd2
  subst hc hd hc2 hd2
  have e : its.toArray ++ its2.toArray = (its ++ its2).toArray := by simp
  have hz' : its.length + its2.length ≤ sizeLine := by rw [← r1.length, ← r2.length]; exact hz
  refine concat_meets ⟨_, ho, rfl⟩ ⟨_, ho2, rfl⟩ noFill_list_add seq_list_add PySem.F.slot_list_add PySem.F.entry_list_add (PySem.F.args_list_add_2 _ _) (list_addW l b its.toArray its2.toArray n n2 dd dd2 sl sl2 (by simpa using hz')) ⟨ho, ho2, ?_⟩
  rw [e]
  exact ⟨.ref _, _, I.lnew (t' := s.toks) (r1.append r2) (by rw [List.length_append]; exact hz), rfl, h _ I.fresh⟩
theorem o_addL : OpR X (binaryOp .Add) (rP X.K addL) := by
  intro pins s σ H x y v u Q I rx ry ⟨A, a, b, o, tk, sa, sb, hg, k⟩
  unfold addL at hg
  split at hg
  · rename_i xs ys e1 e2
    split at hg
    · rename_i hz
      injection hg with hg; subst hg
      obtain ⟨p, vs, rfl, h1, q1⟩ := sa.list e1
      obtain ⟨p2, ws, rfl, h2, q2⟩ := sb.list e2
      cases rx; cases ry
      refine cat_lists I h1 h2 (by rw [q1.length, q2.length]; exact hz) fun q hq => ?_
      exact k _ [q] _ (.one hq) (lst_new hq (q1.append q2))
    · cases hg
  · cases hg
theorem cat_tups {pins : List (Addr × Obj)} {s : Shared} {σ : St} {H : Hp} {a b : Addr} {xs ys : List V} {Q : VK} (I : Inv X pins σ H s) (ha : SqT X.K H a xs) (hb : SqT X.K H b ys) (hz : xs.length + ys.length ≤ sizeLine)
    (q0 : xs = [] → Q (.ref b) H) (q1 : ys = [] → Q (.ref a) H) (q2 : ∀ p (ob : Obj), H p = none → ob.dict = none → Q (.ref p) (upd H p (.frz ob (.tup (xs ++ ys))))) : wpAny (model X.prog X.w) X.A (binaryOp .Add (.ref a) (.ref b)) (EP X pins σ Q) X.xe s := by
  obtain ⟨its, r1, p1, _⟩ := I.tuple ha
  obtain ⟨its2, r2, p2, _⟩ := I.tuple hb
  by_cases hx : its = []
  · subst hx
    exact cat_tup0 p1 p2 ⟨.ref b, H, I, rfl, q0 (r1.nil_iff.mp rfl)⟩
  · refine HT.cat_tup p1 p2 hx (fun z => ⟨.ref a, H, I, rfl, q1 (r2.nil_iff.mp z)⟩) (fun z => ?_) (by rw [← r1.length, ← r2.length]; exact hz)
    exact ⟨.ref _, _, laidT I (r1.append r2) (by rw [List.length_append]; exact hz) s.toks, rfl, q2 _ _ (I.hok.fresh (Nat.le_refl _)) rfl⟩
theorem o_addT : OpR X (binaryOp .Add) (rP X.K addT) := by
  intro pins s σ H x y v u Q I rx ry ⟨A, a, b, o, tk, sa, sb, hg, k⟩
  unfold addT at hg
  split at hg
  · rename_i xs ys e1 e2
    split at hg
    · rename_i hz
      injection hg with hg; subst hg
      obtain ⟨p, vs, rfl, h1, q1⟩ := sa.tuple e1
      obtain ⟨p2, ws, rfl, h2, q2⟩ := sb.tuple e2
      cases rx; cases ry
      refine cat_tups I h1.seq h2.seq (by rw [q1.length, q2.length]; exact hz) (fun e => ?_) (fun e' => ?_) (fun q ob hq hd => ?_)
      · subst e
        have : xs = [] := List.eq_nil_of_length_eq_zero (by rw [← q1.length]; rfl)
        subst this
        exact k _ [] H (.refl H) (.fz (.tup h2 q2))
      · subst e'
        have : ys = [] := List.eq_nil_of_length_eq_zero (by rw [← q2.length]; rfl)
        subst this
        rw [List.append_nil] at k
        exact k _ [] H (.refl H) (.fz (.tup h1 q1))
      · exact k _ [] _ (.fz1 hq) (tup_new hq hd (q1.append q2))
    · cases hg
  · cases hg
theorem o_add : OpR X (binaryOp .Add) (rP X.K addO) := opOrP o_addI (opOrP o_addL (opOrP o_addT o_addS))
def subO : O → O → Option O := intO fun i j => some (.int (i - j))
theorem o_sub : OpR X (binaryOp .Sub) (rP X.K subO) := opIntP0 op_sub fun i j d e => by
  injection e with e; subst e; exact fun _ _ _ => .int _
/-- products: one factor small, or both not too great -/
def mulI : O → O → Option O := intO fun i j => if i.natAbs < 2 ^ 63 ∨ j.natAbs < 2 ^ 63 ∨ (i.natAbs < 2 ^ 2000 ∧ j.natAbs < 2 ^ 2000) then some (.int (i * j)) else none
theorem o_mulI : OpR X (binaryOp .Mult) (rP X.K mulI) := by
  intro pins s σ H x y v u Q I rx ry ⟨A, a, b, o, tk, sa, sb, hg, k⟩
  obtain ⟨i, j, d, rfl, rfl, q, rfl⟩ := intO_some hg
  split at q
  · rename_i c
    injection q with q; subst q
    have fin : Q (.int (i * j)) H := k _ [] H (.refl H) (.fz (.int _))
    rcases c with c | c | ⟨c1, c2⟩
    · exact op_mul pins s σ H x y v u Q I rx ry ⟨i, j, sa.int, sb.int, .inl ⟨by omega, by omega⟩, fin⟩
    · exact op_mul pins s σ H x y v u Q I rx ry ⟨i, j, sa.int, sb.int, .inr ⟨by omega, by omega⟩, fin⟩
    · exact op_mulW pins s σ H x y v u Q I rx ry ⟨i, j, sa.int, sb.int, wide_mul c1 c2 (by decide) (by decide) (by decide), fin⟩
  · cases q
def mulO : O → O → Option O := mulI
theorem o_mul : OpR X (binaryOp .Mult) (rP X.K mulO) := o_mulI
/-- // by a positive number -/
def fdivO : O → O → Option O := intO fun i j => if 0 < j ∧ j.natAbs < 2 ^ 2000 then some (.int (i / j)) else none
theorem o_fdiv : OpR X (binaryOp .FloorDiv) (rP X.K fdivO) := opIntP op_fdivW fun i j d e => by
  split at e
  · rename_i c
    injection e with e; subst e
    exact ⟨wide_div c.1 c.2 (by decide) (by decide), fun _ _ _ => .int _⟩
  · cases e
/-- % by a positive number -/
def modO : O → O → Option O := intO fun i j => if 0 < j then some (.int (i % j)) else none
theorem o_mod : OpR X (binaryOp .Mod) (rP X.K modO) := opIntP op_mod fun i j d e => by
  split at e
  · rename_i c
    injection e with e; subst e
    exact ⟨c, fun _ _ _ => .int _⟩
  · cases e
def powO : O → O → Option O := intO fun i j => if 0 ≤ j ∧ j ≤ 1000 ∧ i.natAbs < 2 ^ 63 then some (.int (i ^ j.toNat)) else none
theorem o_pow : OpR X (binaryOp .Pow) (rP X.K powO) := opIntP op_pow fun i j d e => by
  split at e
  · rename_i c
    injection e with e; subst e
    refine ⟨⟨c.1, by omega, by omega⟩, fun _ _ _ => .int _⟩
  · cases e
/-! ### comparisons -/
def dpOk (a b : PyData) : Bool := decide (min a.depth b.depth ≤ 40)
def eqO : O → O → Option O := fun a b => if dpOk a.toD b.toD = true then some (.fz (.bool (PyData.eqv a.toD b.toD))) else none
def neO : O → O → Option O := fun a b => if dpOk a.toD b.toD = true then some (.fz (.bool (!PyData.eqv a.toD b.toD))) else none
theorem dp_reads {pins : List (Addr × Obj)} {σ : St} {H : Hp} {s : Shared} {x : V} {u : Value} {o : O} {A : List Addr} (I : Inv X pins σ H s) (h : Sees X.K A H x o) (r : RelV x u) : o.toD.plain = true ∧ ∃ as, Reads s.heap u o.toD as :=
  ⟨Dp.plain _ _ h.dp, Dp.reads I _ _ _ h.dp r⟩
theorem o_eq (hu : X.A.units + 64 < cLine) : OpR X (compareOp .Eq) (rP X.K eqO) := by
  intro pins s σ H x y v u Q I rx ry ⟨A, a, b, o, tk, sa, sb, hg, k⟩
  unfold eqO at hg
  split at hg
  · rename_i c
    injection hg with hg; subst hg
    obtain ⟨p1, as, r1⟩ := dp_reads I sa rx
    obtain ⟨p2, bs, r2⟩ := dp_reads I sb ry
    have c' := of_decide_eq_true c
    exact SeqAt.eq_plain r1 r2 p1 p2 (by omega) ⟨.bl _, H, I, rfl, k _ [] H (.refl H) (.fz (.bl _))⟩
  · cases hg
theorem o_ne (hu : X.A.units + 64 < cLine) : OpR X (compareOp .NotEq) (rP X.K neO) := by
  intro pins s σ H x y v u Q I rx ry ⟨A, a, b, o, tk, sa, sb, hg, k⟩
  unfold neO at hg
  split at hg
  · rename_i c
    injection hg with hg; subst hg
    obtain ⟨p1, as, r1⟩ := dp_reads I sa rx
    obtain ⟨p2, bs, r2⟩ := dp_reads I sb ry
    have c' := of_decide_eq_true c
    exact SeqAt.ne_plain r1 r2 p1 p2 (by omega) ⟨.bl _, H, I, rfl, k _ [] H (.refl H) (.fz (.bl _))⟩
  · cases hg
/-- order: ints at once, other alike data -/
def ltI : O → O → Option O := intO fun i j => some (.bool (decide (i < j)))
def leI : O → O → Option O := intO fun i j => some (.bool (decide (i ≤ j)))
def gtI : O → O → Option O := intO fun i j => some (.bool (decide (j < i)))
def geI : O → O → Option O := intO fun i j => some (.bool (decide (j ≤ i)))
theorem o_ltI : OpR X (compareOp .Lt) (rP X.K ltI) := opIntP0 op_lt fun i j d e => by injection e with e; subst e; exact fun _ _ _ => .bl _
theorem o_leI : OpR X (compareOp .LtE) (rP X.K leI) := opIntP0 op_le fun i j d e => by injection e with e; subst e; exact fun _ _ _ => .bl _
theorem o_gtI : OpR X (compareOp .Gt) (rP X.K gtI) := opIntP0 op_gt fun i j d e => by injection e with e; subst e; exact fun _ _ _ => .bl _
theorem o_geI : OpR X (compareOp .GtE) (rP X.K geI) := opIntP0 op_ge fun i j d e => by injection e with e; subst e; exact fun _ _ _ => .bl _
def isNone : PyData → Bool
  | .none => true
  | _ => false
def ordOk (a b : PyData) : Bool := PySem.W.alike a b && !isNone a && dpOk a b
def ltD : O → O → Option O := fun a b => if ordOk a.toD b.toD = true then some (.fz (.bool (PySem.W.dataLt a.toD b.toD))) else none
def gtD : O → O → Option O := fun a b => if ordOk a.toD b.toD = true then some (.fz (.bool (PySem.W.dataLt b.toD a.toD))) else none
def leD : O → O → Option O := fun a b => if ordOk a.toD b.toD = true then some (.fz (.bool (!PySem.W.dataLt b.toD a.toD))) else none
def geD : O → O → Option O := fun a b => if ordOk a.toD b.toD = true then some (.fz (.bool (!PySem.W.dataLt a.toD b.toD))) else none
theorem ordOk_iff {a b : PyData} (h : ordOk a b = true) : PySem.W.alike a b = true ∧ a ≠ .none ∧ min a.depth b.depth ≤ 40 := by
  unfold ordOk at h
  rw [Bool.and_eq_true, Bool.and_eq_true] at h
  refine ⟨h.1.1, fun e => ?_, of_decide_eq_true h.2⟩
  rw [e] at h
  exact absurd h.1.2 (by decide)
theorem o_ltD (hu : X.A.units + 64 < cLine) : OpR X (compareOp .Lt) (rP X.K ltD) := by
  intro pins s σ H x y v u Q I rx ry ⟨A, a, b, o, tk, sa, sb, hg, k⟩
  unfold ltD at hg
  split at hg
  · rename_i c
    injection hg with hg; subst hg
    obtain ⟨p1, as, r1⟩ := dp_reads I sa rx
    obtain ⟨p2, bs, r2⟩ := dp_reads I sb ry
    obtain ⟨c1, c2, c3⟩ := ordOk_iff c
    exact PySem.W.lt_data r1 r2 c1 c2 (by omega) ⟨.bl _, H, I, rfl, k _ [] H (.refl H) (.fz (.bl _))⟩
  · cases hg
theorem o_gtD (hu : X.A.units + 64 < cLine) : OpR X (compareOp .Gt) (rP X.K gtD) := by
  intro pins s σ H x y v u Q I rx ry ⟨A, a, b, o, tk, sa, sb, hg, k⟩
  unfold gtD at hg
  split at hg
  · rename_i c
    injection hg with hg; subst hg
    obtain ⟨p1, as, r1⟩ := dp_reads I sa rx
    obtain ⟨p2, bs, r2⟩ := dp_reads I sb ry
    obtain ⟨c1, c2, c3⟩ := ordOk_iff c
    exact PySem.W.gt_data r1 r2 c1 c2 (by omega) ⟨.bl _, H, I, rfl, k _ [] H (.refl H) (.fz (.bl _))⟩
  · cases hg
theorem o_leD (hu : X.A.units + 64 < cLine) : OpR X (compareOp .LtE) (rP X.K leD) := by
  intro pins s σ H x y v u Q I rx ry ⟨A, a, b, o, tk, sa, sb, hg, k⟩
  unfold leD at hg
  split at hg
  · rename_i c
    injection hg with hg; subst hg
    obtain ⟨p1, as, r1⟩ := dp_reads I sa rx
    obtain ⟨p2, bs, r2⟩ := dp_reads I sb ry
    obtain ⟨c1, c2, c3⟩ := ordOk_iff c
    exact PySem.W.le_data r1 r2 c1 c2 (by omega) ⟨.bl _, H, I, rfl, k _ [] H (.refl H) (.fz (.bl _))⟩
  · cases hg
theorem o_geD (hu : X.A.units + 64 < cLine) : OpR X (compareOp .GtE) (rP X.K geD) := by
  intro pins s σ H x y v u Q I rx ry ⟨A, a, b, o, tk, sa, sb, hg, k⟩
  unfold geD at hg
  split at hg
  · rename_i c
    injection hg with hg; subst hg
    obtain ⟨p1, as, r1⟩ := dp_reads I sa rx
    obtain ⟨p2, bs, r2⟩ := dp_reads I sb ry
    obtain ⟨c1, c2, c3⟩ := ordOk_iff c
    exact PySem.W.ge_data r1 r2 c1 c2 (by omega) ⟨.bl _, H, I, rfl, k _ [] H (.refl H) (.fz (.bl _))⟩
  · cases hg
def ltO := orO ltI ltD
def gtO := orO gtI gtD
def leO := orO leI leD
def geO := orO geI geD
theorem o_lt (hu : X.A.units + 64 < cLine) : OpR X (compareOp .Lt) (rP X.K ltO) := opOrP o_ltI (o_ltD hu)
theorem o_gt (hu : X.A.units + 64 < cLine) : OpR X (compareOp .Gt) (rP X.K gtO) := opOrP o_gtI (o_gtD hu)
theorem o_le (hu : X.A.units + 64 < cLine) : OpR X (compareOp .LtE) (rP X.K leO) := opOrP o_leI (o_leD hu)
theorem o_ge (hu : X.A.units + 64 < cLine) : OpR X (compareOp .GtE) (rP X.K geO) := opOrP o_geI (o_geD hu)
/-! ### in, not in -/
def seqD (o : O) : Option (List PyData) := match o.toD with
  | .list ds => some ds
  | .tuple ds => some ds
  | _ => none
def inOk (ds : List PyData) (d : PyData) : Bool := decide (min (PyData.depthAll ds) d.depth ≤ 40)
def inD : O → O → Option O := fun a b => match seqD b with
  | some ds => if inOk ds a.toD = true then some (.fz (.bool (ds.any fun y => PyData.eqv y a.toD))) else none
  | none => none
def ninD : O → O → Option O := fun a b => match seqD b with
  | some ds => if inOk ds a.toD = true then some (.fz (.bool (!ds.any fun y => PyData.eqv y a.toD))) else none
  | none => none
theorem o_inD (hu : X.A.units + 64 < cLine) : OpR X (compareOp .In) (rP X.K inD) := by
  intro pins s σ H x y v u Q I rx ry ⟨A, a, b, o, tk, sa, sb, hg, k⟩
  unfold inD at hg
  split at hg
  · rename_i ds e
    split at hg
    · rename_i c
      injection hg with hg; subst hg
      obtain ⟨p1, as, r1⟩ := dp_reads I sa rx
      obtain ⟨p2, bs, r2⟩ := dp_reads I sb ry
      have c' := of_decide_eq_true c
      have fin : EP X pins σ Q (.bool (ds.any fun y => PyData.eqv y a.toD)) s := ⟨.bl _, H, I, rfl, k _ [] H (.refl H) (.fz (.bl _))⟩
      unfold seqD at e
      split at e
      · rename_i es q
        injection e with e; subst e
        rw [q] at r2 p2
        exact SeqAt.in_list_data r2 r1 p2 p1 (by omega) fin
      · rename_i es q
        injection e with e; subst e
        rw [q] at r2 p2
        exact SeqAt.in_tuple_data r2 r1 p2 p1 (by omega) fin
      · cases e
    · cases hg
  · cases hg
theorem o_ninD (hu : X.A.units + 64 < cLine) : OpR X (compareOp .NotIn) (rP X.K ninD) := by
  intro pins s σ H x y v u Q I rx ry ⟨A, a, b, o, tk, sa, sb, hg, k⟩
  unfold ninD at hg
  split at hg
  · rename_i ds e
    split at hg
    · rename_i c
      injection hg with hg; subst hg
      obtain ⟨p1, as, r1⟩ := dp_reads I sa rx
      obtain ⟨p2, bs, r2⟩ := dp_reads I sb ry
      have c' := of_decide_eq_true c
      have fin : EP X pins σ Q (.bool (!ds.any fun y => PyData.eqv y a.toD)) s := ⟨.bl _, H, I, rfl, k _ [] H (.refl H) (.fz (.bl _))⟩
      unfold seqD at e
      split at e
      · rename_i es q
        injection e with e; subst e
        rw [q] at r2 p2
        exact SeqAt.notIn_list_data r2 r1 p2 p1 (by omega) fin
      · rename_i es q
        injection e with e; subst e
        rw [q] at r2 p2
        exact SeqAt.notIn_tuple_data r2 r1 p2 p1 (by omega) fin
      · cases e
    · cases hg
  · cases hg
def inO := inD
def ninO := ninD
theorem o_in (hu : X.A.units + 64 < cLine) : OpR X (compareOp .In) (rP X.K inO) := o_inD hu
theorem o_nin (hu : X.A.units + 64 < cLine) : OpR X (compareOp .NotIn) (rP X.K ninO) := o_ninD hu
end
end Pu

end

-- PuD
section
set_option Elab.async false
set_option linter.all false
set_option maxRecDepth 100000
set_option maxHeartbeats 1000000
/-! Pu, part D: subscripts, slices, displays, calls of defs, statements. -/
namespace Pu
open PySem PySem.Spec L2
open PyProof.Rows hiding St

section
variable {K : PySem.W.Frag} {A : List Addr} {H : Hp}
theorem Rps.getV : ∀ {vs : List V} {ds : List PyData} {i : Nat} {d : PyData}, Rps K A H vs ds → ds[i]? = some d → ∃ v, vs[i]? = some v ∧ Rp K A H v d := Rps.get
theorem Owns.get : ∀ {vs : List V} {os : List O} {F : List Addr} {i : Nat} {o : O}, Owns K A H vs os F → F.Nodup → os[i]? = some o → ∃ v G, vs[i]? = some v ∧ Own K A H v o G ∧ G.Nodup ∧ ∀ a ∈ G, a ∈ F
  | _, _, _, 0, _, .cons h _, nd, e => by
    simp at e; subst e
    exact ⟨_, _, rfl, h, (List.nodup_append.mp nd).1, fun a m => List.mem_append_left _ m⟩
  | _, _, _, i + 1, _, .cons _ r, nd, e => by
    obtain ⟨v, G, h1, h2, h3, h4⟩ := Owns.get (i := i) r (List.nodup_append.mp nd).2.1 (by simpa using e)
    exact ⟨v, G, by simpa using h1, h2, h3, fun a m => List.mem_append_right _ (h4 a m)⟩
  | _, _, _, _, _, .nil, _, e => by simp at e
theorem atI_split {α : Type} {xs : List α} {i : Int} {v : α} (h : atI xs i = some v) : ∃ j, ixN xs.length i = some j ∧ xs[j]? = some v := by
  unfold atI at h
  cases q : ixN xs.length i with
  | none => rw [q] at h; cases h
  | some j => rw [q] at h; exact ⟨j, rfl, h⟩
theorem atI_of {α : Type} {xs : List α} {i : Int} {j : Nat} {v : α} (h : ixN xs.length i = some j) (e : xs[j]? = some v) : atI xs i = some v := by
  unfold atI; rw [h]; exact e
end

/-! ### a[i] -/
def itemO (q : Bool) : O → Option Rs
  | .fz d => some (true, .fz d)
  | o => if q = true then none else some (false, o)
def idxR : Rs → O → Option Rs
  | (_, .fz (.list ds)), .fz (.int i) => (atI ds i).map fun d => (true, .fz d)
  | (_, .fz (.tuple ds)), .fz (.int i) => (atI ds i).map fun d => (true, .fz d)
  | (_, .fz (.str z)), .fz (.int i) => if z.length ≤ sizeLine then (atI z.cps.toList i).map fun c => (true, .fz (.str ⟨#[c]⟩)) else none
  | (q, .ls os), .fz (.int i) => (atI os i).bind (itemO q)
  | (q, .tp os), .fz (.int i) => (atI os i).bind (itemO q)
  | _, _ => none
def eIx (fa fb : Ev) : Ev := fun e => (fa e).bind fun a => (fb e).bind fun b => ofS (idxR a b.2)
section
variable {X : Cx} {Z : ZX} {a b c : Expr} {fa fb fc : Ev} {pos : Pos}
theorem Ret.okS {K : PySem.W.Frag} {P F : List Addr} {H : Hp} {σ : St} {Q : VK} {o : Option Rs} (h : Ret K Z P F H σ Q (ofS o)) : ∃ r, o = some r ∧ Ret K Z P F H σ Q (.ok r) := by
  cases o with
  | none => exact h.elim
  | some r => exact ⟨r, rfl, h⟩
theorem Ret.okO {K : PySem.W.Frag} {P F : List Addr} {H : Hp} {σ : St} {Q : VK} {o : Option O} (h : Ret K Z P F H σ Q (ofO o)) : ∃ r, o = some r ∧ Ret K Z P F H σ Q (.ok (true, r)) := by
  cases o with
  | none => exact h.elim
  | some r => exact ⟨r, rfl, h⟩
/-- the item of what is seen -/
theorem item_got {K : PySem.W.Frag} {P F R1 : List Addr} {H0 H1 H : Hp} {σ : St} {Q : VK} {r : Rs} {v : V} {os : List O} {vs : List V} {G : List Addr} {i : Int} {rr : Rs}
    (w : Owns K (P ++ F) H vs os G) (nd : G.Nodup) (hq : r.1 = true ∨ ∀ a ∈ G, a ∈ F) (e : (atI os i).bind (itemO r.1) = some rr) (h : Ret K Z P F H σ Q (.ok rr)) : ∃ x, atI vs i = some x ∧ Q x H := by
  cases q : atI os i with
  | none => rw [q] at e; cases e
  | some o =>
    rw [q] at e
    obtain ⟨j, hj, ho⟩ := atI_split q
    obtain ⟨x, G', h1, h2, h3, h4⟩ := w.get nd ho
    refine ⟨x, atI_of (by rw [w.length]; exact hj) h1, ?_⟩
    cases o with
    | fz d =>
      injection e with e; subst e
      obtain ⟨_, z⟩ := h2.fz_nil
      exact h x [] H (.fresh (.refl H) (.fz z))
    | ls l =>
      have e' : (if r.1 = true then none else some (false, O.ls l)) = some rr := e
      split at e'
      · cases e'
      · rename_i hr
        injection e' with e'; subst e'
        exact h x [] H ⟨.refl H, G', h2, .inr ⟨rfl, rfl, h3, fun a m => (hq.resolve_left hr) a (h4 a m)⟩⟩
    | tp l =>
      have e' : (if r.1 = true then none else some (false, O.tp l)) = some rr := e
      split at e'
      · cases e'
      · rename_i hr
        injection e' with e'; subst e'
        exact h x [] H ⟨.refl H, G', h2, .inr ⟨rfl, rfl, h3, fun a m => (hq.resolve_left hr) a (h4 a m)⟩⟩
theorem rps_at {K : PySem.W.Frag} {A : List Addr} {H : Hp} {vs : List V} {ds : List PyData} {i : Int} {d : PyData} (r : Rps K A H vs ds) (e : atI ds i = some d) : ∃ v, atI vs i = some v ∧ Rp K A H v d := by
  obtain ⟨j, hj, hd⟩ := atI_split e
  obtain ⟨v, h1, h2⟩ := r.get hd
  exact ⟨v, atI_of (by rw [r.length]; exact hj) h1, h2⟩
theorem Got.nd {K : PySem.W.Frag} {P F R : List Addr} {H H' : Hp} {r : Rs} {v : V} (g : Got K P F H r v R H') : ∃ G, Own K (R ++ (P ++ F)) H' v r.2 G ∧ G.Nodup ∧ (r.1 = true ∨ ∀ a ∈ G, a ∈ F) := by
  obtain ⟨G, w, q⟩ := g.own
  rcases q with ⟨q, rfl⟩ | ⟨q, _, n, m⟩
  · exact ⟨_, w, g.frs.nd, .inl q⟩
  · exact ⟨G, w, n, .inr m⟩
theorem q_idx (ha : PE X a (rdE X.K Z fa)) (hb : PE X b (rdE X.K Z fb)) (hs : PlainIx b) : PE X (.Subscript a b pos) (rdE X.K Z (eIx fa fb)) :=
  pe_imp (pe_ix ix_seq ha hb hs) fun σ H Q h => by
    obtain ⟨P, F, e, s, k⟩ := h
    refine rd_bind s k fun r x R1 H1 g1 s1 k1 => ?_
    refine rd_bind s1 k1 fun t y R2 H2 g2 s2 k2 => ?_
    obtain ⟨rr, er, k3⟩ := k2.okS
    obtain ⟨G, w, nd, hq⟩ := g1.nd
    have w2 := w.frs g2.frs
    rw [← List.append_assoc R1, ← List.append_assoc R2] at w2
    have sy : Sees X.K (R2 ++ ((R1 ++ P) ++ F)) H2 y t.2 := g2.sees
    obtain ⟨q, o⟩ := r
    obtain ⟨q', o'⟩ := t
    unfold idxR at er
    split at er
    · rename_i ds i e1 e2
      cases e1; cases e2
      cases q : atI ds i with
      | none => rw [q] at er; cases er
      | some d =>
        rw [q] at er
        injection er with er; subst er
        obtain ⟨_, z⟩ := w2.fz_nil
        cases z with
        | lst hl rs =>
          obtain ⟨v, h1, h2⟩ := rps_at rs q
          exact .inl ⟨_, _, i, v, rfl, sy.int, hl.seq, h1, k3 v [] H2 (.fresh (.refl _) (.fz h2))⟩
    · rename_i ds i e1 e2
      cases e1; cases e2
      cases q : atI ds i with
      | none => rw [q] at er; cases er
      | some d =>
        rw [q] at er
        injection er with er; subst er
        obtain ⟨_, z⟩ := w2.fz_nil
        cases z with
        | tup hl rs =>
          obtain ⟨v, h1, h2⟩ := rps_at rs q
          exact .inr (.inl ⟨_, _, i, v, rfl, sy.int, hl.seq, h1, k3 v [] H2 (.fresh (.refl _) (.fz h2))⟩)
    · rename_i z i e1 e2
      cases e1; cases e2
      split at er
      · rename_i hz
        cases q : atI z.cps.toList i with
        | none => rw [q] at er; cases er
        | some c =>
          rw [q] at er
          injection er with er; subst er
          obtain ⟨_, w3⟩ := w2.fz_nil
          cases w3
          exact .inr (.inr ⟨z, i, c, rfl, sy.int, hz, q, k3 _ [] H2 (.fresh (.refl _) (.fz (.str _)))⟩)
      · cases er
    · rename_i q os i e1 e2
      cases e1; cases e2
      cases w2 with
      | ls hl ws =>
        obtain ⟨v, h1, h2⟩ := item_got (r := (q, .ls os)) (v := .non) (R1 := R1) (H0 := H) (H1 := H1) ws (List.nodup_cons.mp nd).2 (hq.imp id fun m a ma => m a (List.mem_cons_of_mem _ ma)) er k3
        exact .inl ⟨_, _, i, v, rfl, sy.int, SqL.of hl, h1, h2⟩
    · rename_i q os i e1 e2
      cases e1; cases e2
      cases w2 with
      | tp hl ws =>
        obtain ⟨v, h1, h2⟩ := item_got (r := (q, .tp os)) (v := .non) (R1 := R1) (H0 := H) (H1 := H1) ws nd hq er k3
        exact .inr (.inl ⟨_, _, i, v, rfl, sy.int, hl.seq, h1, h2⟩)
    · cases er

/-! ### -a -/
def negO : O → Option O
  | .fz (.int i) => some (.fz (.int (-i)))
  | _ => none
def e1 (g : O → Option O) (fa : Ev) : Ev := fun e => (fa e).bind fun a => ofO (g a.2)
theorem q_neg (ha : PE X a (rdE X.K Z fa)) : PE X (.UnaryOp .USub a pos) (rdE X.K Z (e1 negO fa)) :=
  pe_imp (pe_un un_neg ha) fun σ H Q h => by
    obtain ⟨P, F, e, s, k⟩ := h
    refine rd_bind s k fun r x R1 H1 g1 s1 k1 => ?_
    obtain ⟨o, eo, k2⟩ := k1.okO
    have sx := g1.sees
    unfold negO at eo
    split at eo
    · rename_i i hi
      injection eo with eo; subst eo
      rw [hi] at sx
      exact ⟨i, sx.int, k2.fz fun A => .int _⟩
    · cases eo

/-! ### displays -/
theorem evs_len : ∀ {fs : List Ev} {e : Env} {rs : List Rs}, evs fs e = .ok rs → rs.length = fs.length
  | [], _, _, h => by injection h with h; subst h; rfl
  | f :: fs, e, rs, h => by
    rw [evs] at h
    cases q : f e with
    | ok r =>
      rw [q, Rz.bind_ok] at h
      cases q2 : evs fs e with
      | ok rs' =>
        rw [q2, Rz.bind_ok] at h
        injection h with h; subst h
        rw [List.length_cons, List.length_cons, evs_len q2]
      | ex x => rw [q2] at h; cases h
      | bad => rw [q2] at h; cases h
    | ex x => rw [q] at h; cases h
    | bad => rw [q] at h; cases h
theorem GotL.length {K : PySem.W.Frag} {A F : List Addr} {H : Hp} : ∀ {vs : List V} {rs : List Rs} {R : List Addr}, GotL K A F H vs rs R → vs.length = rs.length
  | _, _, _, .nil => rfl
  | _, _, _, .cons _ _ r => by rw [List.length_cons, List.length_cons, GotL.length r]
/-- all are fresh -/
def freshL : List Rs → Option (List O)
  | [] => some []
  | (true, o) :: rs => (freshL rs).map (o :: ·)
  | (false, _) :: _ => none
theorem GotL.owns {K : PySem.W.Frag} {A F : List Addr} {H : Hp} : ∀ {vs : List V} {rs : List Rs} {R : List Addr} {os : List O}, GotL K A F H vs rs R → freshL rs = some os → Owns K A H vs os R
  | _, _, _, _, .nil, e => by injection e with e; subst e; exact .nil
  | _, (true, o) :: rs, _, os, .cons h q r, e => by
    rw [freshL] at e
    cases q2 : freshL rs with
    | none => rw [q2] at e; cases e
    | some os' =>
      rw [q2] at e
      injection e with e; subst e
      rcases q with ⟨_, rfl⟩ | ⟨q, _⟩
      · exact .cons h (r.owns q2)
      · cases q
  | _, (false, o) :: rs, _, os, .cons h q r, e => by cases e
def tupR (os : List O) : O := match allFz os with
  | some ds => .fz (.tuple ds)
  | none => .tp os
def oF {α : Type} : Option α → Rz α
  | some a => .ok a
  | none => .bad
def eTup (fs : List Ev) : Ev := fun e => (evs fs e).bind fun rs => (oF (freshL rs)).bind fun os => .ok (true, tupR os)
def eLst (fs : List Ev) : Ev := fun e => (evs fs e).bind fun rs => (oF (freshL rs)).bind fun os => .ok (true, .ls os)
/-- arguments, then what is made of them -/
theorem rd_args {K : PySem.W.Frag} {P F : List Addr} {H : Hp} {σ : St} {e : Env} {Q : VK} {Q1 : List V → Hp → Prop} {fs : List Ev} {k : List Rs → Rz Rs} (s : SR K P F H σ e) (h : Ret K Z P F H σ Q ((evs fs e).bind k))
    (hk : ∀ rs vs R H1, rs.length = fs.length → Frs H R H1 → GotL K (R ++ (P ++ F)) F H1 vs rs R → SR K (R ++ P) F H1 σ e → Ret K Z P F H σ Q (k rs) → Ret K Z (R ++ P) F H1 σ Q (k rs) → Q1 vs H1) : rdA K Z fs σ H Q1 := by
  refine ⟨P, F, e, s, ?_⟩
  cases q : evs fs e with
  | ok rs =>
    rw [q, Rz.bind_ok] at h
    exact fun vs R H1 f g => hk rs vs R H1 (evs_len q) f g (s.frs f) h (Ret.after h f)
  | ex x => rw [q] at h; exact h
  | bad => rw [q] at h; exact h
theorem freshL_ok {K : PySem.W.Frag} {P F : List Addr} {H : Hp} {σ : St} {Q : VK} {rs : List Rs} {k : List O → Rz Rs} (h : Ret K Z P F H σ Q ((oF (freshL rs)).bind k)) : ∃ os, freshL rs = some os ∧ Ret K Z P F H σ Q (k os) := by
  cases q : freshL rs with
  | none => rw [q] at h; exact h.elim
  | some os => rw [q] at h; exact ⟨os, rfl, h⟩
/-- the display of a tuple, its object told -/
def tTupF (t : TA) : TE := fun σ H Q => t σ H fun xs H1 => xs.length ≤ sizeLine ∧ ∀ p (ob : Obj), H1 p = none → ob.dict = none → Q (.ref p) (upd H1 p (.frz ob (.tup xs)))
theorem pe_tupF {es : List Expr} {t : TA} {x1} (h : PA X es t) : PE X (.Tuple es x1 pos) (tTupF t) := by
  refine ⟨fun pins s σ H Q I hq => ?_⟩
  refine wpAny_Tuple_spliced (thn (h.run pos pins s σ H _ I hq) fun us s1 ⟨xs, H1, I1, r, z, q⟩ => ⟨by rw [← r.length]; exact z, ?_⟩)
  exact ⟨.ref s1.heap.objs.size, _, laidT I1 r z s1.toks, rfl, q _ _ (I1.hok.fresh (Nat.le_refl _)) rfl⟩
theorem tupR_own {K : PySem.W.Frag} {A : List Addr} {H : Hp} {p : Addr} {ob : Obj} {vs : List V} {os : List O} {R : List Addr} (hp : H p = none) (hd : ob.dict = none) (w : Owns K A H vs os R) :
    Own K A (upd H p (.frz ob (.tup vs))) (.ref p) (tupR os) R := by
  have w2 := w.stay (A' := A) (Stay.same (same_new (o := .frz ob (.tup vs)) hp) fun b m => .inl m) fun a _ x e => same_new hp a x e
  unfold tupR
  split
  · rename_i ds e
    have e' := allFz_spec e
    subst e'
    obtain ⟨r, e2⟩ := w2.rps
    subst e2
    exact .fz (.tup (.inl ⟨ob, upd_same, hd⟩) r)
  · exact .tp (.inl ⟨ob, upd_same, hd⟩) w2
theorem q_tup {es : List Expr} {fs : List Ev} {x1} (h : PA X es (rdA X.K Z fs)) (hl : fs.length ≤ sizeLine := by decide) : PE X (.Tuple es x1 pos) (rdE X.K Z (eTup fs)) :=
  pe_imp (pe_tupF h) fun σ H Q h => by
    obtain ⟨P, F, e, s, k⟩ := h
    refine rd_args s k fun rs vs R H1 el f g s1 k0 k1 => ⟨by rw [g.length, el]; exact hl, fun p ob hp hd => ?_⟩
    obtain ⟨os, eo, k2⟩ := freshL_ok k0
    have w := tupR_own hp hd (g.owns eo)
    have f2 : Frs H R (upd H1 p (.frz ob (.tup vs))) := ⟨f.same.trans (same_new hp), f.new, f.nd, f.trk.same (same_new hp)⟩
    exact k2 _ R _ (.fresh f2 w)
theorem q_lst {es : List Expr} {fs : List Ev} (h : PA X es (rdA X.K Z fs)) (hl : fs.length ≤ sizeLine := by decide) : PE X (.List es pos) (rdE X.K Z (eLst fs)) :=
  pe_imp (pe_lst h) fun σ H Q h => by
    obtain ⟨P, F, e, s, k⟩ := h
    refine rd_args s k fun rs vs R H1 el f g s1 k0 k1 => ⟨by rw [g.length, el]; exact hl, fun p hp => ?_⟩
    obtain ⟨os, eo, k2⟩ := freshL_ok k0
    have w2 := (g.owns eo).stay (A' := p :: (R ++ (P ++ F))) (Stay.frs (R := [p]) (.one (o := .lst vs) hp)) fun a _ x e => same_new hp a x e
    have f2 : Frs H (p :: R) (upd H1 p (.lst vs)) := by
      refine ⟨f.same.trans (same_new hp), fun a m => ?_, ?_, fun a m => ?_⟩
      · rcases List.mem_cons.mp m with q | q
        · subst q; exact f.same.free hp
        · exact f.new a q
      · refine List.nodup_cons.mpr ⟨fun m => ?_, f.nd⟩
        obtain ⟨o, e⟩ := f.trk p m
        rw [hp] at e; cases e
      · rcases List.mem_cons.mp m with q | q
        · subst q; exact ⟨_, upd_same⟩
        · exact (f.trk.same (same_new hp)) a q
    exact k2 _ (p :: R) _ (.fresh f2 (.ls upd_same w2))
end

/-! ### what a def promises -/
/-- arguments that are handed on: fresh or frozen -/
def frzL : List Rs → Option (List PyData)
  | [] => some []
  | (true, o) :: rs => (frzL rs).map (o.toD :: ·)
  | (false, _) :: _ => none
theorem GotL.frz {K : PySem.W.Frag} {A A' F : List Addr} {H : Hp} (hs : ∀ b, b ∈ A' → b ∈ A) : ∀ {vs : List V} {rs : List Rs} {R : List Addr} {ds : List PyData}, GotL K A F H vs rs R → frzL rs = some ds → (∀ a ∈ R, a ∉ A') → Rps K A' H vs ds
  | _, _, _, _, .nil, e, _ => by injection e with e; subst e; exact .nil
  | _, (true, o) :: rs, _, ds, .cons h q r, e, hn => by
    rw [frzL] at e
    cases q2 : frzL rs with
    | none => rw [q2] at e; cases e
    | some ds' =>
      rw [q2] at e
      injection e with e; subst e
      rcases q with ⟨_, rfl⟩ | ⟨q, _⟩
      · exact .cons (h.freeze hs fun a m => hn a (List.mem_append_left _ m)) (r.frz hs q2 fun a m => hn a (List.mem_append_right _ m))
      · cases q
  | _, (false, o) :: rs, _, ds, .cons h q r, e, _ => by cases e
/-- a def of n arguments that gives f of them, and raises nothing -/
def spP (K : PySem.W.Frag) (n : Nat) (f : List PyData → Option O) : Sp := fun vs H Q _ => vs.length = n ∧ ∃ A ds o, A.Nodup ∧ Trk A H ∧ Rps K A H vs ds ∧ f ds = some o ∧
  ∀ v R H', Frs H R H' → Own K (R ++ A) H' v o R → Q v H'
def eCall (f : List PyData → Option O) (fs : List Ev) : Ev := fun e => (evs fs e).bind fun rs => (oF (frzL rs)).bind fun ds => ofO (f ds)
section
variable {X : Cx} {Z : ZX} {k : Nat} {f : Addr} {fd : FuncData} {ps : List Str} {x : Str} {p pos : Pos} {a : Expr} {es : List Expr} {fs : List Ev} {n : Nat} {fn : List PyData → Option O}
theorem rd_call {K : PySem.W.Frag} (hl : fs.length = n) : ∀ σ H Q, rdE K Z (eCall fn fs) σ H Q → tCall (spP K n fn) [] E0 (rdA K Z fs) σ H Q := fun σ H Q h => by
  obtain ⟨P, F, e, s, k⟩ := h
  refine rd_args s k fun rs vs R H1 el f g s1 k0 k1 => ?_
  rw [List.append_nil]
  refine ⟨by rw [g.length, el]; exact hl, P ++ F, ?_⟩
  cases q : frzL rs with
  | none => rw [q] at k0; exact k0.elim
  | some ds =>
    rw [q] at k0
    obtain ⟨o, eo, k2⟩ := Ret.okO (o := fn ds) k0
    refine ⟨ds, o, s.nd, s.trk.same f.same, g.frz (fun b m => List.mem_append_right _ m) q fun a m m' => ?_, eo, fun v R' H' f' w => ?_⟩
    · obtain ⟨u, hu⟩ := s.tracked m'
      rw [f.new a m] at hu; cases hu
    · exact k2 v R' H' (.fresh (f.under f') w)
theorem q_call (F : FnOk X.prog X.w X.K X.mg X.base CX0 k f fd ps (spP X.K n fn)) (hr : Room k X.A) (hg : Gl X x) (hm : X.mg x = some (.ref f)) (hk : PySem.W.keepIn X.K (.ref f) = true) (hb : Binds X.K fd ps [])
    (ha : PA X (a :: es) (rdA X.K Z fs)) (hl : fs.length = n := by rfl) (hdb : (x == ("__debug__" : Str)) = false := by decide) (he : starEach (a :: es) X.env = (false, eval a X.env) :: starEach es X.env := by rfl) (hpl : (backTo pos (starEach es X.env)).any (·.1) = false := by rfl) :
    PE X (.Call (.Name x p) (a :: es) [] pos) (rdE X.K Z (eCall fn fs)) :=
  pe_imp (pe_call F hr hg hm hk hb .nil pass0 ha hdb he hpl) (rd_call hl)
end

/-! ### statements -/
inductive Fl where
  | nx (e : Env) | rt (o : O) | bk (e : Env) | ct (e : Env) | er (x : Exn) (e : Env) | bad
abbrev Blk := Env → Fl
/-- from here to there: what isn't ours stands -/
def Evo (F : List Addr) (H : Hp) (F' : List Addr) (H' : Hp) : Prop := ∀ b o, H b = some o → b ∉ F → H' b = some o ∧ b ∉ F'
def Fin (K : PySem.W.Frag) (Z : ZX) (P F : List Addr) (H : Hp) (D : Ends) : Fl → Prop
  | .nx e => ∀ σ' F' H', Evo F H F' H' → SR K P F' H' σ' e → D.nx σ' H'
  | .rt o => ∀ v R H', Evo F H R H' → R.Nodup → Trk R H' → Own K (R ++ P) H' v o R → D.rt v H'
  | .bk e => ∀ σ' F' H', Evo F H F' H' → SR K P F' H' σ' e → D.bk σ' H'
  | .ct e => ∀ σ' F' H', Evo F H F' H' → SR K P F' H' σ' e → D.ct σ' H'
  | .er x e => ∀ σ' F' H', Evo F H F' H' → SR K P F' H' σ' e → Z x σ' H'
  | .bad => False
def rdS (K : PySem.W.Frag) (Z : ZX) (b : Blk) : TS := fun D σ H => ∃ P F e, SR K P F H σ e ∧ Fin K Z P F H D (b e)
section
variable {K : PySem.W.Frag} {Z : ZX} {P F F1 F' R : List Addr} {H H1 H' : Hp} {σ σ1 : St} {e e1 : Env} {D : Ends}
theorem Evo.refl : Evo F H F H := fun b o h n => ⟨h, n⟩
theorem Evo.trans (a : Evo F H F1 H1) (b : Evo F1 H1 F' H') : Evo F H F' H' := fun c o h n => let ⟨h1, n1⟩ := a c o h n; b c o h1 n1
theorem Evo.frs (f : Frs H R H') : Evo F H F H' := fun b o h n => ⟨f.same b o h, n⟩
theorem Evo.same (f : Same H H') : Evo F H F H' := fun b o h n => ⟨f b o h, n⟩
theorem Fin.after {z : Fl} (h : Fin K Z P F H D z) (v : Evo F H F1 H1) : Fin K Z P F1 H1 D z := by
  cases z with
  | nx e => exact fun σ' F' H' w s => h σ' F' H' (v.trans w) s
  | rt o => exact fun u R H' w nd t s => h u R H' (v.trans w) nd t s
  | bk e => exact fun σ' F' H' w s => h σ' F' H' (v.trans w) s
  | ct e => exact fun σ' F' H' w s => h σ' F' H' (v.trans w) s
  | er x e => exact fun σ' F' H' w s => h σ' F' H' (v.trans w) s
  | bad => exact h
/-- frozen things stay from state to state -/
theorem SR.stayE (s : SR K P F H σ e) (v : Evo F H F' H') : Stay (P ++ F) (P ++ F') H H' := by
  refine ⟨fun b o h n => (v b o h fun m => n (List.mem_append_right _ m)).1, fun b o u h => (v b _ h fun m => ?_).1, fun b m => ?_⟩
  · obtain ⟨xs, q⟩ := s.sl.mem m
    rw [h] at q; cases q
  · rcases List.mem_append.mp m with q | q
    · exact .inl (List.mem_append_left _ q)
    · cases h : H b with
      | none => exact .inr rfl
      | some o =>
        by_cases hb : b ∈ F
        · exact .inl (List.mem_append_right _ hb)
        · exact absurd q (v b o h hb).2
/-- the others' things are kept -/
theorem SR.weakP {P' : List Addr} (s : SR K (P' ++ P) F H σ e) : SR K P F H σ e :=
  ⟨by
    have := s.nd
    rw [List.append_assoc] at this
    exact (List.nodup_append.mp this).2.1, fun a m => s.pt a (List.mem_append_right _ m), s.sl.stay (Stay.less fun b m => by
      rcases List.mem_append.mp m with q | q
      · exact List.mem_append_left _ (List.mem_append_right _ q)
      · exact List.mem_append_right _ q) fun _ _ _ h => h⟩
theorem nodup_swap {P L M G R : List Addr} (h : ((G ++ P) ++ (L ++ M ++ R)).Nodup) : (P ++ (L ++ G ++ R)).Nodup := by
  rw [List.nodup_iff_count] at h ⊢
  intro a
  have := h a
  simp only [List.count_append] at this ⊢
  omega
theorem nodup_drop {P L M R : List Addr} (h : (P ++ (L ++ M ++ R)).Nodup) : (P ++ (L ++ R)).Nodup := by
  rw [List.nodup_iff_count] at h ⊢
  intro a
  have := h a
  simp only [List.count_append] at this ⊢
  omega
/-- a fresh thing goes into a slot -/
theorem SR.set {i : Nat} {v : V} {o : O} (s : SR K (R ++ P) F H σ e) (w : Own K (R ++ P ++ F) H v o R) : ∃ F', SR K P F' H (σ.set i (some v)) (e.set i (some o)) ∧ ∀ b ∈ F', b ∈ F ∨ b ∈ R := by
  by_cases hi : i < e.length
  · obtain ⟨F', h1, L, R', e1, M, e2⟩ := s.sl.put hi w
    refine ⟨F', ⟨?_, fun a m => s.pt a (List.mem_append_right _ m), h1.stay (Stay.less fun b m => ?_) fun _ _ _ h => h⟩, fun b m => ?_⟩
    · rw [e1]
      exact nodup_swap (by rw [← e2]; exact s.nd)
    · rw [e1] at m
      rw [e2]
      simp only [List.mem_append] at m ⊢
      rcases m with m | (m | m) | m
      · exact .inl (.inr m)
      · exact .inr (.inl (.inl m))
      · exact .inl (.inl m)
      · exact .inr (.inr m)
    · rw [e1] at m
      rw [e2]
      simp only [List.mem_append] at m ⊢
      rcases m with (m | m) | m
      · exact .inl (.inl (.inl m))
      · exact .inr m
      · exact .inl (.inr m)
  · rw [List.set_eq_of_length_le (by rw [s.sl.length]; omega), List.set_eq_of_length_le (by omega)]
    exact ⟨F, s.weakP, fun b m => .inl m⟩
end
end Pu

end

-- PuE
section
set_option Elab.async false
set_option linter.all false
set_option maxRecDepth 100000
set_option maxHeartbeats 1000000
/-! Pu, part E: statements, targets, loops, comprehensions. -/
namespace Pu
open PySem PySem.Spec L2
open PyProof.Rows hiding St

section
variable {K : PySem.W.Frag} {Z : ZX} {P F F1 F' R : List Addr} {H H1 H' : Hp} {σ σ1 : St} {e e1 : Env} {D : Ends} {Q : VK}
def bindS (z : Rz Rs) (e : Env) (k : Rs → Fl) : Fl := match z with
  | .ok r => k r
  | .ex x => .er x e
  | .bad => .bad
def bindB (z : Rz Bool) (e : Env) (k : Bool → Fl) : Fl := match z with
  | .ok r => k r
  | .ex x => .er x e
  | .bad => .bad
theorem SR.frsP (s : SR K P F H σ e) (f : Frs H R H1) : SR K P F H1 σ e := (s.frs f).weakP
theorem rd_stm {f : Ev} {k : Rs → Fl} {Q1 : VK} (s : SR K P F H σ e) (h : Fin K Z P F H D (bindS (f e) e k))
    (hk : ∀ r v R H1, Got K P F H r v R H1 → SR K (R ++ P) F H1 σ e → Fin K Z P F H D (k r) → Q1 v H1) : rdE K Z f σ H Q1 := by
  refine ⟨P, F, e, s, ?_⟩
  cases q : f e with
  | ok r =>
    rw [q] at h
    exact fun v R H1 g => hk r v R H1 g (s.frs g.frs) h
  | ex x => rw [q] at h; exact fun R H' f => h σ F H' (.frs f) (s.frsP f)
  | bad => rw [q] at h; exact h
theorem rd_stmB {t : Env → Rz Bool} {k : Bool → Fl} {Q1 : Bool → Hp → Prop} (s : SR K P F H σ e) (h : Fin K Z P F H D (bindB (t e) e k))
    (hk : ∀ b H1, Same H H1 → SR K P F H1 σ e → Fin K Z P F H1 D (k b) → Q1 b H1) : rdT K Z t σ H Q1 := by
  refine ⟨P, F, e, s, ?_⟩
  cases q : t e with
  | ok r =>
    rw [q] at h
    exact fun H1 g => hk r H1 g (s.frsP (R := []) (.of_same g)) (Fin.after h (.same g))
  | ex x => rw [q] at h; exact fun R H' f => h σ F H' (.frs f) (s.frsP f)
  | bad => rw [q] at h; exact h
theorem SR.A_eq : R ++ P ++ F = R ++ (P ++ F) := List.append_assoc _ _ _
/-- a frozen thing goes into a slot -/
theorem SR.setF {i : Nat} {v : V} {d : PyData} (s : SR K P F H σ e) (w : Rp K (P ++ F) H v d) : ∃ F', SR K P F' H (σ.set i (some v)) (e.set i (some (.fz d))) ∧ ∀ b ∈ F', b ∈ F := by
  obtain ⟨F', h, m⟩ := SR.set (R := []) (o := .fz d) (i := i) (v := v) s (.fz w)
  exact ⟨F', h, fun b q => (m b q).resolve_right (fun z => nomatch z)⟩
theorem Evo.sub (h : ∀ b ∈ F', b ∈ F) : Evo F H F' H := fun b o e n => ⟨e, fun m => n (h b m)⟩
theorem Evo.got (f : Frs H R H1) (h : ∀ b ∈ F', b ∈ F ∨ b ∈ R) : Evo F H F' H1 := fun b o e n => ⟨f.same b o e, fun m => (h b m).elim n fun q => by rw [f.new b q] at e; cases e⟩
/-- what is got is let go of -/
theorem Got.rp {r : Rs} {v : V} (g : Got K P F H r v R H') (s : SR K P F H σ e) (hr : r.1 = true) : Rp K (P ++ F) H' v r.2.toD := by
  obtain ⟨G, w, q⟩ := g.own
  rcases q with ⟨_, rfl⟩ | ⟨q, _⟩
  · refine w.freeze (fun b m => List.mem_append_right _ m) fun a m m' => ?_
    obtain ⟨o, h⟩ := s.tracked m'
    rw [g.frs.new a m] at h; cases h
  · rw [hr] at q; cases q
end

/-! ### targets -/
inductive Tg where
  | n (i : Nat)
  | t (l : List Tg)
mutual
def Tg.app : Tg → PyData → Env → Option Env
  | .n i, d, e => some (e.set i (some (.fz d)))
  | .t l, d, e => match d with
    | .tuple ds => Tg.apps l ds e
    | _ => none
def Tg.apps : List Tg → List PyData → Env → Option Env
  | [], ds, e => match ds with
    | [] => some e
    | _ :: _ => none
  | g :: gs, ds, e => match ds with
    | [] => none
    | d :: ds => match Tg.app g d e with
      | some e' => Tg.apps gs ds e'
      | none => none
end
theorem apps_nn (e : Env) : Tg.apps [] [] e = some e := rfl
theorem apps_nc (d : PyData) (ds : List PyData) (e : Env) : Tg.apps [] (d :: ds) e = none := rfl
theorem apps_cn (g : Tg) (gs : List Tg) (e : Env) : Tg.apps (g :: gs) [] e = none := rfl
theorem apps_cc (g : Tg) (gs : List Tg) (d : PyData) (ds : List PyData) (e : Env) : Tg.apps (g :: gs) (d :: ds) e = (match Tg.app g d e with
    | some e' => Tg.apps gs ds e'
    | none => none) := rfl
theorem app_n (i : Nat) (d : PyData) (e : Env) : Tg.app (.n i) d e = some (e.set i (some (.fz d))) := rfl
theorem app_t (l : List Tg) (d : PyData) (e : Env) : Tg.app (.t l) d e = (match d with
    | .tuple ds => Tg.apps l ds e
    | _ => none) := rfl
mutual
def Tg.slots : Tg → List Nat
  | .n i => [i]
  | .t l => Tg.slotss l
def Tg.slotss : List Tg → List Nat
  | [] => []
  | g :: gs => Tg.slots g ++ Tg.slotss gs
end
/-- frozen, or a tuple of frozen things that is just unpacked -/
def RpT (K : PySem.W.Frag) (A : List Addr) (H : Hp) (v : V) (d : PyData) : Prop :=
  Rp K A H v d ∨ ∃ a vs ds, v = .ref a ∧ SqT K H a vs ∧ d = .tuple ds ∧ Rps K A H vs ds
/-- nothing owned stands in the slot -/
def Lt (e : Env) (i : Nat) : Prop := ∀ o, e[i]? = some (some o) → ∃ d, o = .fz d
def AftG (K : PySem.W.Frag) (P F : List Addr) (H : Hp) (σ : St) (e : Env) (sl : List Nat) (e' : Env) (Q : St → Hp → Prop) : Prop :=
  ∀ σ' F', (∀ b ∈ F', b ∈ F) → ((∀ i ∈ sl, Lt e i) → F' = F) → SR K P F' H σ' e' → (∀ vs : List Nat, (∀ i ∈ sl, i ∈ vs) → wipe σ' vs = wipe σ vs) → Q σ' H
/-- a target that takes frozen things -/
def rdG (K : PySem.W.Frag) (T : Tg) : TG := fun v σ H Q => ∃ P F e d e', SR K P F H σ e ∧ Rp K (P ++ F) H v d ∧ T.app d e = some e' ∧ AftG K P F H σ e T.slots e' Q
/-- a target of several names takes passing tuples, too -/
def rdGt (K : PySem.W.Frag) (T : Tg) : TG := fun v σ H Q => ∃ P F e d e', SR K P F H σ e ∧ RpT K (P ++ F) H v d ∧ T.app d e = some e' ∧ AftG K P F H σ e T.slots e' Q
def rdGs (K : PySem.W.Frag) (l : List Tg) : TGs := fun vs σ H Q => ∃ P F e ds e', SR K P F H σ e ∧ Rps K (P ++ F) H vs ds ∧ Tg.apps l ds e = some e' ∧ AftG K P F H σ e (Tg.slotss l) e' Q
theorem wipe_at (σ : St) (j : Nat) : ∀ vs : List Nat, (wipe σ vs)[j]? = if j ∈ vs then (if j < σ.length then some none else none) else σ[j]?
  | [] => by simp [wipe]
  | v :: vs => by
    rw [wipe, List.getElem?_set, wipe_at σ j vs]
    by_cases hv : v = j
    · subst hv
      simp only [if_true, List.mem_cons, true_or, wipe_length]
    · simp only [if_neg hv, List.mem_cons]
      have : (j = v ∨ j ∈ vs) ↔ j ∈ vs := ⟨fun h => h.resolve_left fun q => hv q.symm, .inr⟩
      simp only [this]
theorem wipe_set {σ : St} {i : Nat} {x : Option V} {vs : List Nat} (h : i ∈ vs) : wipe (σ.set i x) vs = wipe σ vs := by
  refine List.ext_getElem? fun j => ?_
  rw [wipe_at, wipe_at]
  by_cases hj : j ∈ vs
  · simp only [if_pos hj, List.length_set]
  · simp only [if_neg hj]
    have : i ≠ j := fun q => hj (q ▸ h)
    rw [List.getElem?_set_ne this]
section
variable {X : Cx}
theorem pg_imp {tg : Expr} {t t' : TG} (h : PG X tg t) (i : ∀ v σ H Q, t' v σ H Q → t v σ H Q) : PG X tg t' := ⟨fun pins s σ H v u Q I r w => h.run pins s σ H v u Q I r (i v σ H Q w)⟩
theorem pgs_imp {tg : List Expr} {t t' : TGs} (h : PGs X tg t) (i : ∀ v σ H Q, t' v σ H Q → t v σ H Q) : PGs X tg t' := ⟨fun pins s σ H v u Q I r w => h.run pins s σ H v u Q I r (i v σ H Q w)⟩
theorem Slots.putL {K : PySem.W.Frag} {A : List Addr} {H : Hp} {v : V} {d : PyData} : ∀ {σ : St} {e : Env} {F : List Addr} {i : Nat}, Slots K A H σ e F → Lt e i → Rp K A H v d → Slots K A H (σ.set i (some v)) (e.set i (some (.fz d))) F
  | _, _, _, _, .nil, _, _ => .nil
  | _, _, _, 0, .emp (F := R) r, _, h => .hold (G := []) (.fz h) r
  | _, _, _, 0, .hold (o := o) (F := R) (G := M) h0 r, l, h => by
    obtain ⟨d', rfl⟩ := l o rfl
    obtain ⟨rfl, _⟩ := h0.fz_nil
    exact .hold (G := []) (.fz h) r
  | _, _, _, i + 1, .emp r, l, h => .emp (Slots.putL (i := i) r (fun o q => l o (by simpa using q)) h)
  | _, _, _, i + 1, .hold h0 r, l, h => .hold h0 (Slots.putL (i := i) r (fun o q => l o (by simpa using q)) h)
theorem lt_set {e : Env} {i j : Nat} {d : PyData} (h : Lt e j) : Lt (e.set i (some (.fz d))) j := fun o q => by
  rw [List.getElem?_set] at q
  split at q
  · split at q
    · injection q with q; injection q with q; exact ⟨d, q.symm⟩
    · cases q
  · exact h o q
mutual
theorem app_lt {j : Nat} : ∀ {T : Tg} {d : PyData} {e e' : Env}, T.app d e = some e' → Lt e j → Lt e' j
  | .n i, d, e, e', h, l => by
    rw [app_n] at h
    injection h with h; subst h
    exact lt_set l
  | .t ts, d, e, e', h, l => by
    rw [app_t] at h
    split at h
    · exact apps_lt h l
    · cases h
theorem apps_lt {j : Nat} : ∀ {Ts : List Tg} {ds : List PyData} {e e' : Env}, Tg.apps Ts ds e = some e' → Lt e j → Lt e' j
  | [], [], e, e', h, l => by injection h with h; subst h; exact l
  | [], _ :: _, e, e', h, l => by cases h
  | g :: gs, [], e, e', h, l => by cases h
  | g :: gs, d :: ds, e, e', h, l => by
    rw [apps_cc] at h
    cases q : g.app d e with
    | none => rw [q] at h; cases h
    | some e1 => rw [q] at h; exact apps_lt h (app_lt q l)
end
theorem g_name {i : Nat} {x : Str} {pos : Pos} (hN : X.N.Nodup) (hi : X.N[i]? = some x := by rfl) (hx : Loc X.env.scope x := by first | exact Or.inl rfl | exact Or.inr rfl)
    (hf : X.fn x = true ∨ X.env.scope.names.lookup x = some .local := by first | exact .inl rfl | exact .inr rfl | assumption) : PG X (.Name x pos) (rdG X.K (.n i)) :=
  pg_imp (pg_name hN hi hx hf) fun v σ H Q ⟨P, F, e, d, e', s, w, h, k⟩ => by
    have h' : some (e.set i (some (O.fz d))) = some e' := by rw [← h, Tg.app]
    injection h' with h'; subst h'
    by_cases l : Lt e i
    · exact k _ F (fun _ m => m) (fun _ => rfl) ⟨s.nd, s.pt, s.sl.putL l w⟩ fun vs hv => wipe_set (hv i (by simp [Tg.slots]))
    · obtain ⟨F', s', m⟩ := s.setF (i := i) w
      exact k _ F' m (fun q => absurd (q i (by simp [Tg.slots])) l) s' fun vs hv => wipe_set (hv i (by simp [Tg.slots]))
theorem rps_nil_of {K : PySem.W.Frag} {A : List Addr} {H : Hp} {vs : List V} (h : Rps K A H vs []) : vs = [] := by cases h; rfl
theorem gs_nil : PGs X [] (rdGs X.K []) := pgs_imp pgs_nil fun vs σ H Q ⟨P, F, e, ds, e', s, w, h, k⟩ => by
  cases ds with
  | cons d ds => cases h
  | nil =>
    injection h with h; subst h
    exact ⟨rps_nil_of w, k σ F (fun _ m => m) (fun _ => rfl) s fun _ _ => rfl⟩
theorem Evo.ofSub {P F F' : List Addr} {H : Hp} (h : ∀ b ∈ F', b ∈ F) : Stay (P ++ F) (P ++ F') H H := Stay.less fun b m => by
  rcases List.mem_append.mp m with q | q
  · exact List.mem_append_left _ q
  · exact List.mem_append_right _ (h b q)
theorem gs_cons {ex : Expr} {es : List Expr} {T : Tg} {Ts : List Tg} (h1 : PG X ex (rdG X.K T)) (h2 : PGs X es (rdGs X.K Ts))
    (hs : (assignEach (ex :: es) X.env).map (·.2) = assign ex X.env :: (assignEach es X.env).map (·.2) := by rfl) : PGs X (ex :: es) (rdGs X.K (T :: Ts)) :=
  pgs_imp (pgs_cons h1 h2 hs) fun vs σ H Q ⟨P, F, e, ds, e', s, w, h, k⟩ => by
    cases w with
    | nil => cases h
    | @cons v vs d ds w ws =>
      rw [apps_cc] at h
      cases q : T.app d e with
      | none => simp only [q] at h; cases h
      | some e1 =>
        simp only [q] at h
        refine ⟨v, vs, rfl, P, F, e, d, e1, s, w, q, fun σ1 F1 m1 n1 s1 hw => ?_⟩
        refine ⟨P, F1, e1, ds, e', s1, ws.stay (Evo.ofSub m1), h, fun σ2 F2 m2 n2 s2 hw2 => ?_⟩
        refine k σ2 F2 (fun b m => m1 b (m2 b m)) (fun l => ?_) s2 fun vs hv => ?_
        · rw [n2 fun i m => app_lt q (l i (by rw [Tg.slotss]; exact List.mem_append_right _ m)), n1 fun i m => l i (by rw [Tg.slotss]; exact List.mem_append_left _ m)]
        rw [hw2 vs fun i m => hv i (by rw [Tg.slotss]; exact List.mem_append_right _ m), hw vs fun i m => hv i (by rw [Tg.slotss]; exact List.mem_append_left _ m)]
theorem Rps.len {K : PySem.W.Frag} {A : List Addr} {H : Hp} {vs : List V} {ds : List PyData} (h : Rps K A H vs ds) : vs.length = ds.length := h.length
theorem apps_len : ∀ {l : List Tg} {ds : List PyData} {e e' : Env}, Tg.apps l ds e = some e' → ds.length = l.length
  | [], [], e, e', h => rfl
  | [], _ :: _, e, e', h => by cases h
  | g :: gs, [], e, e', h => by cases h
  | g :: gs, d :: ds, e, e', h => by
    rw [apps_cc] at h
    cases q : g.app d e with
    | none => rw [q] at h; cases h
    | some e1 =>
      rw [q] at h
      rw [List.length_cons, List.length_cons, apps_len h]
theorem g_tupT {es : List Expr} {k : Nat} {Ts : List Tg} {pos : Pos} (hc : X.calm = true) (h : PGs X es (rdGs X.K Ts)) (hn : (assignEach es X.env).length = Ts.length := by rfl) (hst : (assignEach es X.env).findIdx? (·.1) = none := by rfl) :
    PG X (.Tuple es k pos) (rdGt X.K (.t Ts)) :=
  pg_imp (pg_tup hc h hn hst) fun v σ H Q ⟨P, F, e, d, e', s, w, h, k⟩ => by
    rw [app_t] at h
    have fin : ∀ a vs ds, v = .ref a → SqT X.K H a vs → Rps X.K (P ++ F) H vs ds → d = .tuple ds → gTup X.K Ts.length (rdGs X.K Ts) v σ H Q := fun a vs ds e1 e2 e3 e4 => by
      subst e4
      simp only at h
      refine ⟨a, vs, e1, e2, by rw [e3.length, apps_len h], P, F, e, ds, e', s, e3, h, fun σ1 F1 m1 n1 s1 hw => k σ1 F1 m1 (fun l => n1 fun i m => l i (by rw [Tg.slots]; exact m)) s1 fun vs hv => hw vs fun i m => hv i (by rw [Tg.slots]; exact m)⟩
    rcases w with w | ⟨a, vs, ds, e1, e2, e3, e4⟩
    · cases w with
      | tup ht r => exact fin _ _ _ rfl ht.seq r rfl
      | _ => cases h
    · exact fin a vs ds e1 e2 e4 e3
theorem g_strong {tg : Expr} {T : Tg} (h : PG X tg (rdGt X.K T)) : PG X tg (rdG X.K T) := pg_imp h fun v σ H Q ⟨P, F, e, d, e', s, w, h, k⟩ => ⟨P, F, e, d, e', s, .inl w, h, k⟩
theorem g_tup {es : List Expr} {k : Nat} {Ts : List Tg} {pos : Pos} (hc : X.calm = true) (h : PGs X es (rdGs X.K Ts)) (hn : (assignEach es X.env).length = Ts.length := by rfl) (hst : (assignEach es X.env).findIdx? (·.1) = none := by rfl) :
    PG X (.Tuple es k pos) (rdG X.K (.t Ts)) := g_strong (g_tupT hc h hn hst)

/-! ### blocks -/
variable {Z : ZX} {st : Stmt} {rest : List Stmt} {b c : Blk} {pos : Pos} {ex : Expr} {f fa fb : Ev}
def sNil : Blk := fun e => .nx e
def sSq (b c : Blk) : Blk := fun e => match b e with
  | .nx e' => c e'
  | r => r
theorem q_snil : PSs X [] (rdS X.K Z sNil) := pss_imp pss_nil fun D σ H ⟨P, F, e, s, h⟩ => h σ F H Evo.refl s
theorem q_seq (h1 : PS X st (rdS X.K Z b)) (h2 : PSs X rest (rdS X.K Z c)) : PSs X (st :: rest) (rdS X.K Z (sSq b c)) :=
  pss_imp (pss_cons h1 h2) fun D σ H ⟨P, F, e, s, h⟩ => by
    refine ⟨P, F, e, s, ?_⟩
    unfold sSq at h
    cases q : b e with
    | nx e1 =>
      rw [q] at h
      exact fun σ' F' H' v s' => ⟨P, F', e1, s', Fin.after h v⟩
    | rt o => rw [q] at h; exact h
    | bk e => rw [q] at h; exact h
    | ct e => rw [q] at h; exact h
    | er x e => rw [q] at h; exact h
    | bad => rw [q] at h; exact h
theorem q_sone (h1 : PS X st (rdS X.K Z b)) : PSs X [st] (rdS X.K Z b) := pss_one h1
def sPass : Blk := fun e => .nx e
def sBk : Blk := fun e => .bk e
def sCt : Blk := fun e => .ct e
theorem q_pass : PS X (.Pass pos) (rdS X.K Z sPass) := ps_imp ps_pass fun D σ H ⟨P, F, e, s, h⟩ => h σ F H Evo.refl s
theorem q_break : PS X (.Break pos) (rdS X.K Z sBk) := ps_imp ps_break fun D σ H ⟨P, F, e, s, h⟩ => h σ F H Evo.refl s
theorem q_continue : PS X (.Continue pos) (rdS X.K Z sCt) := ps_imp ps_continue fun D σ H ⟨P, F, e, s, h⟩ => h σ F H Evo.refl s
/-- unreached -/
def sNo : Blk := fun _ => .bad
theorem q_no : PS X st (rdS X.K Z sNo) := ps_imp ps_never fun D σ H ⟨P, F, e, s, h⟩ => h
def sIf (t : Env → Rz Bool) (b c : Blk) : Blk := fun e => bindB (t e) e fun k => if k = true then b e else c e
theorem q_sif {t : Expr} {ft : Env → Rz Bool} {sa sb : List Stmt} (ht : PT X t (rdT X.K Z ft)) (ha : PSs X sa (rdS X.K Z b)) (hb : PSs X sb (rdS X.K Z c)) : PS X (.If t sa sb pos) (rdS X.K Z (sIf ft b c)) :=
  ps_imp (ps_if ht ha hb) fun D σ H ⟨P, F, e, s, h⟩ => rd_stmB s h fun k H1 g s1 h1 => by
    cases k with
    | true => exact ⟨P, F, e, s1, h1⟩
    | false => exact ⟨P, F, e, s1, h1⟩
/-- the value goes into the slot, ours -/
def sSet (i : Nat) (f : Ev) : Blk := fun e => bindS (f e) e fun r => if r.1 = true then .nx (e.set i (some r.2)) else .bad
theorem q_set {i : Nat} {x : Str} {pos' : Pos} (hN : X.N.Nodup) (he : PE X ex (rdE X.K Z f)) (hi : X.N[i]? = some x := by rfl) (hx : Loc X.env.scope x := by first | exact Or.inl rfl | exact Or.inr rfl)
    (hs : swapsWith ex (some (.Name x pos')) pos.line X.env = pure false := by rfl) (hf : X.fn x = true ∨ X.env.scope.names.lookup x = some .local := by first | exact .inl rfl | exact .inr rfl | assumption) :
    PS X (.Assign [.Name x pos'] ex pos) (rdS X.K Z (sSet i f)) :=
  ps_imp (ps_set hN hi hx he hs hf) fun D σ H ⟨P, F, e, s, h⟩ => rd_stm s h fun r v R H1 g s1 h1 => by
    cases hr : r.1 with
    | false => rw [if_neg (by rw [hr]; decide)] at h1; exact h1.elim
    | true =>
      rw [if_pos hr] at h1
      obtain ⟨G, w, q⟩ := g.own
      rcases q with ⟨_, rfl⟩ | ⟨q, _⟩
      · rw [← List.append_assoc] at w
        obtain ⟨F', s2, m⟩ := s1.set (i := i) w
        exact h1 _ F' H1 (Evo.got g.frs m) s2
      · rw [hr] at q; cases q
/-- the value's targets take it, frozen -/
def sAsg (T : Tg) (f : Ev) : Blk := fun e => bindS (f e) e fun r => if r.1 = true then (match T.app r.2.toD e with
  | some e' => .nx e'
  | none => .bad) else .bad
theorem q_asg {tg : Expr} {T : Tg} (he : PE X ex (rdE X.K Z f)) (hg : PG X tg (rdG X.K T)) (hs : swapsWithSole [tg] ex pos.line X.env = pure false := by rfl) (hw : swappedStores [tg] ex X.env = pure none := by rfl) (h1 : (assignEach [tg] X.env).map (·.2) = [assign tg X.env] := by rfl) :
    PS X (.Assign [tg] ex pos) (rdS X.K Z (sAsg T f)) :=
  ps_imp (ps_asg he hg hs hw h1) fun D σ H ⟨P, F, e, s, h⟩ => rd_stm s h fun r v R H1 g s1 h1 => by
    cases hr : r.1 with
    | false => rw [if_neg (by rw [hr]; decide)] at h1; exact h1.elim
    | true =>
      rw [if_pos hr] at h1
      cases q : T.app r.2.toD e with
      | none => rw [q] at h1; exact h1.elim
      | some e' =>
        rw [q] at h1
        exact ⟨P, F, e, _, e', s1.weakP, g.rp s hr, q, fun σ' F' m _ s' _ => h1 σ' F' H1 ((Evo.frs g.frs).trans (Evo.sub m)) s'⟩
/-- one name takes the value, frozen -/
def sFz (i : Nat) (f : Ev) : Blk := fun e => bindS (f e) e fun r => if r.1 = true then .nx (e.set i (some (.fz r.2.toD))) else .bad
theorem sFz_eq (i : Nat) (f : Ev) : sAsg (.n i) f = sFz i f := rfl
theorem q_fz {i : Nat} {x : Str} {pos' : Pos} (hN : X.N.Nodup) (he : PE X ex (rdE X.K Z f)) (hi : X.N[i]? = some x := by rfl) (hx : Loc X.env.scope x := by first | exact Or.inl rfl | exact Or.inr rfl)
    (hs : swapsWith ex (some (.Name x pos')) pos.line X.env = pure false := by rfl) (hf : X.fn x = true ∨ X.env.scope.names.lookup x = some .local := by first | exact .inl rfl | exact .inr rfl | assumption) :
    PS X (.Assign [.Name x pos'] ex pos) (rdS X.K Z (sFz i f)) :=
  ps_imp (ps_set hN hi hx he hs hf) fun D σ H ⟨P, F, e, s, h⟩ => rd_stm s h fun r v R H1 g s1 h1 => by
    cases hr : r.1 with
    | false => rw [if_neg (by rw [hr]; decide)] at h1; exact h1.elim
    | true =>
      rw [if_pos hr] at h1
      obtain ⟨F', s2, m⟩ := SR.setF (i := i) s1.weakP (g.rp s hr)
      exact h1 _ F' H1 ((Evo.frs g.frs).trans (Evo.sub m)) s2
/-- a slot's thing is frozen from now on -/
def frzE (i : Nat) (e : Env) : Env := match e[i]? with
  | some (some o) => e.set i (some (.fz o.toD))
  | _ => e
def sThaw (i : Nat) (b : Blk) : Blk := fun e => b (frzE i e)
theorem Slots.fzAt {K : PySem.W.Frag} {A : List Addr} {H : Hp} : ∀ {σ : St} {e : Env} {F : List Addr} {i : Nat} {o : O}, Slots K A H σ e F → e[i]? = some (some o) →
    ∃ L G R, F = L ++ G ++ R ∧ ∀ A' : List Addr, (∀ b ∈ A', b ∈ A) → (∀ b ∈ G, b ∉ A') → Slots K A' H σ (e.set i (some (.fz o.toD))) (L ++ R)
  | _, _, _, 0, _, .hold (F := R) (G := G) h r, q => by
    simp at q; subst q
    exact ⟨[], G, R, rfl, fun A' hs hn => .hold (G := []) (.fz (h.freeze hs hn)) (r.stay (Stay.less hs) fun _ _ _ e => e)⟩
  | _, _, _, 0, _, .emp r, q => by simp at q
  | _, _, _, i + 1, _, .emp r, q => by
    obtain ⟨L, G, R, e1, h1⟩ := Slots.fzAt (i := i) r (by simpa using q)
    exact ⟨L, G, R, e1, fun A' hs hn => .emp (h1 A' hs hn)⟩
  | _, _, _, i + 1, _, .hold (G := M) h r, q => by
    obtain ⟨L, G, R, e1, h1⟩ := Slots.fzAt (i := i) r (by simpa using q)
    refine ⟨M ++ L, G, R, by rw [e1]; simp, fun A' hs hn => ?_⟩
    have w := Slots.hold (h.less hs) (h1 A' hs hn)
    rw [List.append_assoc]
    exact w
  | _, _, _, _, _, .nil, q => by simp at q
theorem SR.frzE {K : PySem.W.Frag} {P F : List Addr} {H : Hp} {σ : St} {e : Env} (i : Nat) (s : SR K P F H σ e) : ∃ F', SR K P F' H σ (Pu.frzE i e) ∧ ∀ b ∈ F', b ∈ F := by
  unfold Pu.frzE
  split
  · rename_i o ho
    obtain ⟨L, G, R, e1, h1⟩ := s.sl.fzAt ho
    have nd : (P ++ (L ++ G ++ R)).Nodup := by rw [← e1]; exact s.nd
    refine ⟨L ++ R, ⟨nodup_drop nd, s.pt, h1 _ (fun b m => ?_) fun b m m' => ?_⟩, fun b m => ?_⟩
    · rw [e1]
      simp only [List.mem_append] at m ⊢
      rcases m with m | m | m
      · exact .inl m
      · exact .inr (.inl (.inl m))
      · exact .inr (.inr m)
    · rw [List.nodup_iff_count] at nd
      have c := nd b
      have c1 := List.count_pos_iff.mpr m
      have c2 := List.count_pos_iff.mpr m'
      simp only [List.count_append] at c c2
      omega
    · rw [e1]
      simp only [List.mem_append] at m ⊢
      rcases m with m | m
      · exact .inl (.inl m)
      · exact .inr m
  · exact ⟨F, s, fun _ m => m⟩
/-- ahead of a statement some slots are frozen -/
def sFr (l : List Nat) (b : Blk) : Blk := fun e => b (l.foldl (fun e i => Pu.frzE i e) e)
theorem SR.frzL {K : PySem.W.Frag} {P : List Addr} {H : Hp} {σ : St} : ∀ (l : List Nat) {F : List Addr} {e : Env}, SR K P F H σ e → ∃ F', SR K P F' H σ (l.foldl (fun e i => Pu.frzE i e) e) ∧ ∀ b ∈ F', b ∈ F
  | [], F, e, s => ⟨F, s, fun _ m => m⟩
  | i :: l, F, e, s => by
    obtain ⟨F1, s1, m1⟩ := s.frzE i
    obtain ⟨F2, s2, m2⟩ := SR.frzL l s1
    exact ⟨F2, s2, fun b m => m1 b (m2 b m)⟩
theorem q_fr (l : List Nat) (h : PS X st (rdS X.K Z b)) : PS X st (rdS X.K Z (sFr l b)) := ps_imp h fun D σ H ⟨P, F, e, s, h⟩ => by
  obtain ⟨F', s', m⟩ := s.frzL l
  exact ⟨P, F', _, s', Fin.after h (Evo.sub m)⟩
def sDrop (f : Ev) : Blk := fun e => bindS (f e) e fun _ => .nx e
theorem q_drop (he : PE X ex (rdE X.K Z f)) (hs : swapsWith ex none pos.line X.env = pure false := by rfl) : PS X (.Expr ex pos) (rdS X.K Z (sDrop f)) :=
  ps_imp (ps_expr he hs) fun D σ H ⟨P, F, e, s, h⟩ => rd_stm s h fun r v R H1 g s1 h1 => h1 _ _ _ (Evo.frs g.frs) s1.weakP
def sRet (f : Ev) : Blk := fun e => bindS (f e) e fun r => .rt r.2
theorem q_ret (he : PE X ex (rdE X.K Z f)) : PS X (.Return (some ex) pos) (rdS X.K Z (sRet f)) :=
  ps_imp (ps_ret he) fun D σ H ⟨P, F, e, s, h⟩ => rd_stm s h fun r v R H1 g s1 h1 => by
    obtain ⟨G, w, q⟩ := g.own
    rcases q with ⟨_, rfl⟩ | ⟨_, rfl, nd, m⟩
    · refine h1 v G H1 (fun b o e n => ⟨g.frs.same b o e, fun q => by rw [g.frs.new b q] at e; cases e⟩) g.frs.nd g.frs.trk (w.less fun b m => ?_)
      rcases List.mem_append.mp m with q | q
      · exact List.mem_append_left _ q
      · exact List.mem_append_right _ (List.mem_append_left _ q)
    · refine h1 v G H1 (fun b o e n => ⟨g.frs.same b o e, fun q => n (m b q)⟩) nd (fun a q => Trk.same s.trk g.frs.same a (List.mem_append_right _ (m a q))) (w.less fun b q => ?_)
      rcases List.mem_append.mp q with q | q
      · exact List.mem_append_right _ (List.mem_append_right _ (m b q))
      · exact List.mem_append_right _ (List.mem_append_left _ q)
def sRetN : Blk := fun _ => .rt (.fz .none)
theorem q_retN : PS X (.Return none pos) (rdS X.K Z sRetN) := ps_imp ps_retN fun D σ H ⟨P, F, e, s, h⟩ =>
  h .non [] H (fun b o e n => ⟨e, fun q => nomatch q⟩) List.nodup_nil Trk.nil (.fz .non)

/-! ### while -/
def whileN (t : Env → Rz Bool) (b : Blk) : Nat → Blk
  | 0, _ => .bad
  | n + 1, e => bindB (t e) e fun k => if k = true then (match b e with
    | .nx e' => whileN t b n e'
    | .ct e' => whileN t b n e'
    | .bk e' => .nx e'
    | r => r) else .nx e
theorem q_while {t : Expr} {ft : Env → Rz Bool} {body : List Stmt} (n : Nat) (hp : PassesOwn (model X.prog X.w) X.A X.env X.xe) (ht : PT X t (rdT X.K Z ft)) (hb : PSs X body (rdS X.K Z b)) : PS X (.While t body [] pos) (rdS X.K Z (whileN ft b n)) :=
  ps_imp (ps_while hp ht hb) fun D σ H h => by
    refine ⟨fun m σ H => rdS X.K Z (whileN ft b m) D σ H, ⟨n, h⟩, fun m σ H ⟨P, F, e, s, h⟩ => ?_⟩
    cases m with
    | zero => exact h.elim
    | succ m =>
      rw [whileN] at h
      refine rd_stmB s h fun k H1 g s1 h1 => ?_
      cases k with
      | false => exact h1 σ F H1 Evo.refl s1
      | true =>
        rw [if_pos rfl] at h1 ⊢
        refine ⟨rdS X.K Z (whileN ft b m) D, fun σ' H' w => ⟨m, Nat.lt_succ_self m, w⟩, P, F, e, s1, ?_⟩
        cases q : b e with
        | nx e1 => rw [q] at h1; exact fun σ' F' H' v s' => ⟨P, F', e1, s', Fin.after h1 v⟩
        | ct e1 => rw [q] at h1; exact fun σ' F' H' v s' => ⟨P, F', e1, s', Fin.after h1 v⟩
        | bk e1 => rw [q] at h1; exact h1
        | rt o => rw [q] at h1; exact h1
        | er x e => rw [q] at h1; exact h1
        | bad => rw [q] at h1; exact h1

/-! ### what is walked -/
/-- J yields ds, wherever what is frozen stands -/
def IterOk (K : PySem.W.Frag) (wk : Bool) (J : It) (ds : List PyData) (P F : List Addr) (H : Hp) : Prop :=
  ∀ A' H', Stay (P ++ F) A' H H' → ∀ i : Nat, (i < ds.length → J.go i H' ∧ ∀ x H2, J.yld i H' x H2 → Same H' H2 ∧ ∃ d, ds[i]? = some d ∧ (wk = false → Rp K A' H2 x d) ∧ RpT K A' H2 x d) ∧ (ds.length ≤ i → J.stop i H')
def rdI (K : PySem.W.Frag) (Z : ZX) (wk : Bool) (its : Env → Rz (List PyData)) : TI := fun σ H R => ∃ P F e, SR K P F H σ e ∧ (match its e with
  | .ok ds => ∀ J H1, Same H H1 → IterOk K wk J ds P F H1 → R J H1
  | .ex x => ∀ R' H', Frs H R' H' → Z x σ H'
  | .bad => False)
theorem pi_imp {tg it : Expr} {t t' : TI} (h : PI X tg it t) (i : ∀ σ H R, t' σ H R → t σ H R) : PI X tg it t' := ⟨fun pins s σ H R I w => h.run pins s σ H R I (i σ H R w)⟩
def forL (T : Tg) (b : Blk) : List PyData → Blk
  | [], e => .nx e
  | d :: ds, e => match T.app d e with
    | none => .bad
    | some e1 => match b e1 with
      | .nx e' => forL T b ds e'
      | .ct e' => forL T b ds e'
      | .bk e' => .nx e'
      | r => r
def sFor (T : Tg) (its : Env → Rz (List PyData)) (b : Blk) : Blk := fun e => match its e with
  | .ok ds => forL T b ds e
  | .ex x => .er x e
  | .bad => .bad
theorem rd_for {K : PySem.W.Frag} {wk : Bool} {T : Tg} {its : Env → Rz (List PyData)} {g : TG} (hg : ∀ v σ H Q, (∃ P F e d e', SR K P F H σ e ∧ (wk = false → Rp K (P ++ F) H v d) ∧ RpT K (P ++ F) H v d ∧ T.app d e = some e' ∧ AftG K P F H σ e T.slots e' Q) → g v σ H Q) :
    ∀ D σ H, rdS K Z (sFor T its b) D σ H → tFor (rdI K Z wk its) g (rdS K Z b) D σ H := fun D σ H ⟨P, F, e, s, h⟩ => by
  refine ⟨P, F, e, s, ?_⟩
  unfold sFor at h
  cases q : its e with
  | bad => rw [q] at h; exact h
  | ex x => rw [q] at h; exact fun R H' f => h σ F H' (.frs f) (s.frsP f)
  | ok ds =>
    rw [q] at h
    intro J H1 hs ok
    have s1 := s.frsP (.of_same hs)
    refine ⟨fun i m σ' H' => m = ds.length - i ∧ i ≤ ds.length ∧ ∃ F' e', Evo F H1 F' H' ∧ SR K P F' H' σ' e' ∧ Fin K Z P F' H' D (forL T b (ds.drop i) e'), ⟨ds.length, by simp, Nat.zero_le _, F, e, Evo.refl, s1, by rw [List.drop_zero]; exact Fin.after h (.same hs)⟩, ?_⟩
    rintro i m σ' H' ⟨rfl, hi, F', e', ev, s', h'⟩
    have st := s1.stayE ev
    obtain ⟨o1, o2⟩ := ok _ H' st i
    by_cases hlt : i < ds.length
    · refine .inr ⟨(o1 hlt).1, ?_⟩
      rw [List.drop_eq_getElem_cons hlt, forL] at h'
      refine ⟨fun σ2 H2 => ∃ F2 e2, Evo F H1 F2 H2 ∧ SR K P F2 H2 σ2 e2 ∧ Fin K Z P F2 H2 D (forL T b (ds.drop (i + 1)) e2), fun σ2 H2 ⟨F2, e2, ev2, s2, h2⟩ => ⟨ds.length - (i + 1), by omega, rfl, hlt, F2, e2, ev2, s2, h2⟩, fun x H2 hy => ?_⟩
      obtain ⟨hs2, d, hd, w1, w2⟩ := (o1 hlt).2 x H2 hy
      have ed : ds[i] = d := by
        rw [List.getElem?_eq_getElem hlt] at hd
        exact Option.some.inj hd
      rw [ed] at h'
      have s2 := s'.frsP (.of_same hs2)
      cases q2 : T.app d e' with
      | none => rw [q2] at h'; exact h'.elim
      | some e1 =>
        rw [q2] at h'
        refine hg x σ' H2 _ ⟨P, F', e', d, e1, s2, w1, w2, q2, fun σ3 F3 m3 _ s3 _ => ?_⟩
        have ev3 : Evo F H1 F3 H2 := (ev.trans (.same hs2)).trans (.sub m3)
        have ev4 : Evo F' H' F3 H2 := (Evo.same hs2).trans (.sub m3)
        refine ⟨P, F3, e1, s3, ?_⟩
        simp only at h'
        cases q3 : b e1 with
        | nx e5 => rw [q3] at h'; exact fun σ5 F5 H5 v5 s5 => ⟨F5, e5, ev3.trans v5, s5, Fin.after h' (ev4.trans v5)⟩
        | ct e5 => rw [q3] at h'; exact fun σ5 F5 H5 v5 s5 => ⟨F5, e5, ev3.trans v5, s5, Fin.after h' (ev4.trans v5)⟩
        | bk e5 => rw [q3] at h'; exact fun σ5 F5 H5 v5 s5 => h' σ5 F5 H5 (ev4.trans v5) s5
        | rt o => rw [q3] at h'; exact Fin.after (z := .rt o) h' ev4
        | er x5 e5 => rw [q3] at h'; exact Fin.after (z := .er x5 e5) h' ev4
        | bad => rw [q3] at h'; exact h'
    · have hi' : i = ds.length := by omega
      refine .inl ⟨o2 (by omega), ?_⟩
      rw [hi', List.drop_length, forL] at h'
      exact h' σ' F' H' Evo.refl s'
/-- a loop whose items are frozen things -/
theorem q_for {tg it : Expr} {T : Tg} {its : Env → Rz (List PyData)} {body : List Stmt} (hp : PassesOwn (model X.prog X.w) X.A X.env X.xe) (hc : X.calm = true) (hi : PI X tg it (rdI X.K Z false its)) (hg : PG X tg (rdG X.K T)) (hb : PSs X body (rdS X.K Z b))
    (hs : ∀ x, foldedSetIterable it X.env x = pure x := by intro _; rfl) : PS X (.For tg it body [] pos) (rdS X.K Z (sFor T its b)) :=
  ps_imp (ps_for hp hc hi hg hb hs) (rd_for fun v σ H Q ⟨P, F, e, d, e', s, w1, w2, h, k⟩ => ⟨P, F, e, d, e', s, w1 rfl, h, k⟩)
/-- a loop whose items are passing tuples -/
theorem q_forT {tg it : Expr} {T : Tg} {its : Env → Rz (List PyData)} {body : List Stmt} (hp : PassesOwn (model X.prog X.w) X.A X.env X.xe) (hc : X.calm = true) (hi : PI X tg it (rdI X.K Z true its)) (hg : PG X tg (rdGt X.K T)) (hb : PSs X body (rdS X.K Z b))
    (hs : ∀ x, foldedSetIterable it X.env x = pure x := by intro _; rfl) : PS X (.For tg it body [] pos) (rdS X.K Z (sFor T its b)) :=
  ps_imp (ps_for hp hc hi hg hb hs) (rd_for fun v σ H Q ⟨P, F, e, d, e', s, w1, w2, h, k⟩ => ⟨P, F, e, d, e', s, w2, h, k⟩)

/-! ### the walked things: lists and tuples, ranges -/
def seqI (r : Rs) : Option (List PyData) := if r.1 = true then seqD r.2 else none
def iSeq (f : Ev) : Env → Rz (List PyData) := fun e => (f e).bind fun r => oF (seqI r)
def tSeqI (K : PySem.W.Frag) (tl : TE) : TI := fun σ H R => tl σ H fun x H1 => ∃ a, x = .ref a ∧ (((∃ xs, SqL K H1 a xs) ∧ R (Itl K a) H1) ∨ ((∃ xs, SqT K H1 a xs) ∧ R (Itt K a) H1))
theorem pi_any {tg l : Expr} {tl : TE} (hl : PE X l tl) : PI X tg l (tSeqI X.K tl) := by
  refine ⟨fun pins s σ H R I h => ?_⟩
  refine thn (hl.run pins s σ H _ I h) fun v s1 ⟨x, H1, I1, r1, q1⟩ => ?_
  obtain ⟨a, e, q⟩ := q1
  subst e
  cases r1
  rcases q with ⟨⟨xs, hq⟩, q⟩ | ⟨⟨xs, hq⟩, q⟩
  · obtain ⟨its, rv, p, hz⟩ := I1.list hq
    refine wpAny_pyIter_list p.isList ?_
    refine ⟨s1.heap.objs.size, [s1.heap.objs.size], _, _, H1, rfl, I1.kept (t' := s1.toks) fun b o e => Heap.get?_push_of_some _ e, turn_list a _, ⟨_, Heap.get?_push_size _ rfl, rfl, rfl⟩, fun b hb => ?_, q⟩
    have e : b = s1.heap.objs.size := by simpa using hb
    subst e
    exact I1.fpOk (Nat.le_refl _) (I1.hok.fresh (Nat.le_refl _))
  · obtain ⟨its, rv, p, hz⟩ := I1.tuple hq
    refine wpAny_pyIter_tuple p ?_
    refine ⟨s1.heap.objs.size, [s1.heap.objs.size], _, _, H1, rfl, I1.kept (t' := s1.toks) fun b o e => Heap.get?_push_of_some _ e, turn_tuple a _, ⟨_, Heap.get?_push_size _ rfl, rfl, rfl⟩, fun b hb => ?_, q⟩
    have e : b = s1.heap.objs.size := by simpa using hb
    subst e
    exact I1.fpOk (Nat.le_refl _) (I1.hok.fresh (Nat.le_refl _))
theorem iter_list {K : PySem.W.Frag} {P F : List Addr} {H : Hp} {a : Addr} {vs : List V} {ds : List PyData} (h : LstR K (P ++ F) H a vs) (r : Rps K (P ++ F) H vs ds) : IterOk K false (Itl K a) ds P F H := fun A' H' st i => by
  have h' := h.stay st
  have r' := r.stay st
  refine ⟨fun hi => ?_, fun hi => ⟨vs, h'.seq, by rw [r.length]; exact hi⟩⟩
  obtain ⟨v, hv, w⟩ := r'.get (List.getElem?_eq_getElem hi)
  refine ⟨⟨vs, v, h'.seq, hv⟩, fun x H2 ⟨e, hx⟩ => ?_⟩
  subst e
  have hx' := hx vs h'.seq
  rw [hv] at hx'
  injection hx' with hx'; subst hx'
  exact ⟨Same.refl _, _, List.getElem?_eq_getElem hi, fun _ => w, .inl w⟩
theorem iter_tup {K : PySem.W.Frag} {P F : List Addr} {H : Hp} {a : Addr} {vs : List V} {ds : List PyData} (h : TupR K H a vs) (r : Rps K (P ++ F) H vs ds) : IterOk K false (Itt K a) ds P F H := fun A' H' st i => by
  have h' := h.kept st.frz
  have r' := r.stay st
  refine ⟨fun hi => ?_, fun hi => ⟨vs, h'.seq, by rw [r.length]; exact hi⟩⟩
  obtain ⟨v, hv, w⟩ := r'.get (List.getElem?_eq_getElem hi)
  refine ⟨⟨vs, v, h'.seq, hv⟩, fun x H2 ⟨e, hx⟩ => ?_⟩
  subst e
  have hx' := hx vs h'.seq
  rw [hv] at hx'
  injection hx' with hx'; subst hx'
  exact ⟨Same.refl _, _, List.getElem?_eq_getElem hi, fun _ => w, .inl w⟩
theorem q_iseq {tg l : Expr} (hl : PE X l (rdE X.K Z f)) : PI X tg l (rdI X.K Z false (iSeq f)) := pi_imp (pi_any hl) fun σ H R ⟨P, F, e, s, h⟩ => by
  refine ⟨P, F, e, s, ?_⟩
  unfold iSeq at h
  cases q : f e with
  | bad => rw [q] at h; exact h
  | ex x => rw [q] at h; exact h
  | ok r =>
    rw [q, Rz.bind_ok] at h
    intro v R1 H1 g
    cases q2 : seqI r with
    | none => rw [q2] at h; exact h.elim
    | some ds =>
      rw [q2] at h
      unfold seqI at q2
      split at q2
      · rename_i hr
        have w := g.rp s hr
        unfold seqD at q2
        split at q2
        · rename_i es q3
          injection q2 with q2; subst q2
          rw [q3] at w
          cases w with
          | lst hl rs => exact ⟨_, rfl, .inl ⟨⟨_, hl.seq⟩, h _ H1 g.frs.same (iter_list hl rs)⟩⟩
        · rename_i es q3
          injection q2 with q2; subst q2
          rw [q3] at w
          cases w with
          | tup hl rs => exact ⟨_, rfl, .inr ⟨⟨_, hl.seq⟩, h _ H1 g.frs.same (iter_tup hl rs)⟩⟩
        · cases q2
      · cases q2
def rngD (lo : Int) (n : Nat) : List PyData := (List.range n).map fun i => .int (lo + (i : Nat))
theorem iter_rng {K : PySem.W.Frag} {P F : List Addr} {H : Hp} {lo : Int} {n : Nat} : IterOk K false (Itr lo n) (rngD lo n) P F H := fun A' H' st i => by
  have hl : (rngD lo n).length = n := by simp [rngD]
  refine ⟨fun hi => ⟨by rw [hl] at hi; exact hi, fun x H2 ⟨e, hx⟩ => ?_⟩, fun hi => by rw [hl] at hi; exact hi⟩
  subst e hx
  exact ⟨Same.refl _, .int (lo + i), by rw [hl] at hi; simp [rngD, hi], fun _ => .int _, .inl (.int _)⟩
def okR (i : Int) : Bool := decide (-(2 ^ 62) ≤ i ∧ i < 2 ^ 62)
def rng1 : List Rs → Option (List PyData)
  | [(_, .fz (.int j))] => if okR j = true then some (rngD 0 j.toNat) else none
  | _ => none
def rng2 : List Rs → Option (List PyData)
  | [(_, .fz (.int i)), (_, .fz (.int j))] => if (okR i && okR j) = true then some (rngD i (j - i).toNat) else none
  | _ => none
def iArg (g : List Rs → Option (List PyData)) (fs : List Ev) : Env → Rz (List PyData) := fun e => (evs fs e).bind fun rs => oF (g rs)
theorem rd_iarg {K : PySem.W.Frag} {wk : Bool} {g : List Rs → Option (List PyData)} {fs : List Ev} {R : It → Hp → Prop} {Q1 : List V → Hp → Prop} {σ : St} {H : Hp}
    (h : rdI K Z wk (iArg g fs) σ H R)
    (hk : ∀ P F rs vs R1 H1 ds e, SR K P F H σ e → Frs H R1 H1 → GotL K (R1 ++ (P ++ F)) F H1 vs rs R1 → g rs = some ds → (∀ J H2, Same H H2 → IterOk K wk J ds P F H2 → R J H2) → Q1 vs H1) : rdA K Z fs σ H Q1 := by
  obtain ⟨P, F, e, s, h⟩ := h
  refine ⟨P, F, e, s, ?_⟩
  unfold iArg at h
  cases q : evs fs e with
  | bad => rw [q] at h; exact h
  | ex x => rw [q] at h; exact h
  | ok rs =>
    rw [q, Rz.bind_ok] at h
    intro vs R1 H1 f gl
    cases q2 : g rs with
    | none => rw [q2] at h; exact h.elim
    | some ds =>
      rw [q2] at h
      exact hk P F rs vs R1 H1 ds e s f gl q2 h
theorem q_rng1 {tg a : Expr} {p pos : Pos} {fs : List Ev} (hg : Gl X "range") (hm : X.mg "range" = none) (ha : PA X [a] (rdA X.K Z fs)) (hs : starEach [a] X.env = [(false, eval a X.env)] := by rfl) :
    PI X tg (.Call (.Name "range" p) [a] [] pos) (rdI X.K Z false (iArg rng1 fs)) := pi_imp (pi_range1 hg hm ha hs) fun σ H R h => by
  refine rd_iarg h fun P F rs vs R1 H1 ds e s f gl q k => ?_
  unfold rng1 at q
  split at q
  · rename_i j
    split at q
    · rename_i c
      injection q with q; subst q
      cases gl with
      | cons w _ r =>
        cases r
        obtain ⟨_, w⟩ := w.fz_nil
        cases w
        have c' := of_decide_eq_true c
        exact ⟨j, rfl, c'.1, c'.2, k _ H1 f.same iter_rng⟩
    · cases q
  · cases q
theorem q_rng2 {tg a b : Expr} {p pos : Pos} {fs : List Ev} (hg : Gl X "range") (hm : X.mg "range" = none) (ha : PA X [a, b] (rdA X.K Z fs)) (hs : starEach [a, b] X.env = [(false, eval a X.env), (false, eval b X.env)] := by rfl) (hs2 : starEach [b] X.env = [(false, eval b X.env)] := by rfl) :
    PI X tg (.Call (.Name "range" p) [a, b] [] pos) (rdI X.K Z false (iArg rng2 fs)) := pi_imp (pi_range2 hg hm ha hs hs2) fun σ H R h => by
  refine rd_iarg h fun P F rs vs R1 H1 ds e s f gl q k => ?_
  unfold rng2 at q
  split at q
  · rename_i _ i _ j
    split at q
    · rename_i c
      injection q with q; subst q
      rw [Bool.and_eq_true] at c
      have c1 := of_decide_eq_true c.1
      have c2 := of_decide_eq_true c.2
      cases gl with
      | cons w _ r =>
        cases r with
        | cons w' _ r =>
          cases r
          obtain ⟨_, w⟩ := w.fz_nil
          obtain ⟨_, w'⟩ := w'.fz_nil
          cases w; cases w'
          exact ⟨i, j, rfl, ⟨c1.1, c1.2, c2.1, c2.2⟩, k _ H1 f.same iter_rng⟩
    · cases q
  · cases q
end
end Pu

end

-- PuF
section
set_option Elab.async false
set_option linter.all false
set_option maxRecDepth 100000
set_option maxHeartbeats 1000000
/-! Pu, part F: comprehensions, a def's promise, built-ins by name. -/
namespace Pu
open PySem PySem.Spec L2
open PyProof.Rows hiding St

/-! ### comprehensions -/
def wipeE (e : Env) : List Nat → Env
  | [] => e
  | v :: vs => (wipeE e vs).set v none
theorem Slots.killW {K : PySem.W.Frag} {A : List Addr} {H : Hp} {x : Option V} : ∀ {σ : St} {e : Env} {F : List Addr} (i : Nat), Slots K A H σ e F → ∃ F', Slots K A H (σ.set i x) (e.set i none) F' ∧ ∃ L M R, F' = L ++ R ∧ F = L ++ M ++ R
  | _, _, _, _, .nil => ⟨_, .nil, [], [], [], rfl, rfl⟩
  | _, _, _, 0, .emp (F := R) r => ⟨_, .emp r, [], [], R, rfl, rfl⟩
  | _, _, _, 0, .hold (F := R) (G := M) h r => ⟨_, .emp r, [], M, R, rfl, rfl⟩
  | _, _, _, i + 1, .emp r => by
    obtain ⟨F', h1, L, M, R, e1, e2⟩ := Slots.killW i r
    exact ⟨F', .emp h1, L, M, R, e1, e2⟩
  | _, _, _, i + 1, .hold (G := M0) h r => by
    obtain ⟨F', h1, L, M, R, e1, e2⟩ := Slots.killW i r
    exact ⟨_, .hold h h1, M0 ++ L, M, R, by rw [e1]; simp, by rw [e2]; simp⟩
theorem nodup_kill {P L M R : List Addr} (h : (P ++ (L ++ M ++ R)).Nodup) : ((M ++ P) ++ (L ++ R)).Nodup := by
  rw [List.nodup_iff_count] at h ⊢
  intro a
  have := h a
  simp only [List.count_append] at this ⊢
  omega
theorem SR.killW {K : PySem.W.Frag} {P F : List Addr} {H : Hp} {σ : St} {e : Env} {x : Option V} (i : Nat) (s : SR K P F H σ e) : ∃ M F', SR K (M ++ P) F' H (σ.set i x) (e.set i none) ∧ ∀ b, b ∈ (M ++ P) ++ F' ↔ b ∈ P ++ F := by
  obtain ⟨F', h1, L, M, R, e1, e2⟩ := s.sl.killW (x := x) i
  subst e1 e2
  have mm : ∀ b, b ∈ (M ++ P) ++ (L ++ R) ↔ b ∈ P ++ (L ++ M ++ R) := fun b => by
    simp only [List.mem_append]
    constructor
    · rintro ((m | m) | (m | m))
      · exact .inr (.inl (.inr m))
      · exact .inl m
      · exact .inr (.inl (.inl m))
      · exact .inr (.inr m)
    · rintro (m | ((m | m) | m))
      · exact .inl (.inr m)
      · exact .inr (.inl m)
      · exact .inl (.inl m)
      · exact .inr (.inr m)
  refine ⟨M, L ++ R, ⟨nodup_kill s.nd, fun a m => ?_, h1.stay (Stay.less fun b m => (mm b).mp m) fun _ _ _ h => h⟩, mm⟩
  rcases List.mem_append.mp m with q | q
  · exact s.tracked (List.mem_append_right _ (List.mem_append_left _ (List.mem_append_right _ q)))
  · exact s.pt a q
theorem SR.wipe {K : PySem.W.Frag} {H : Hp} {σ : St} {e : Env} : ∀ (vs : List Nat) {P F : List Addr}, SR K P F H σ e → ∃ M F', SR K (M ++ P) F' H (wipe σ vs) (wipeE e vs) ∧ ∀ b, b ∈ (M ++ P) ++ F' ↔ b ∈ P ++ F
  | [], P, F, s => ⟨[], F, s, fun b => Iff.rfl⟩
  | v :: vs, P, F, s => by
    obtain ⟨M, F', s1, m1⟩ := SR.wipe vs s
    obtain ⟨M2, F2, s2, m2⟩ := s1.killW (x := none) v
    refine ⟨M2 ++ M, F2, by rw [List.append_assoc]; exact s2, fun b => ?_⟩
    have := (m2 b).trans (m1 b)
    rwa [← List.append_assoc M2] at this

theorem wipeE_length (e : Env) : ∀ vs : List Nat, (wipeE e vs).length = e.length
  | [] => rfl
  | v :: vs => by rw [wipeE, List.length_set, wipeE_length e vs]
theorem wipeE_lt {e : Env} {i : Nat} : ∀ {vs : List Nat}, i ∈ vs → Lt (wipeE e vs) i
  | v :: vs, m => fun o q => by
    rw [wipeE, List.getElem?_set] at q
    split at q
    · split at q
      · cases q
      · cases q
    · rename_i hv
      exact wipeE_lt ((List.mem_cons.mp m).resolve_left fun z => hv z.symm) o q
def lcL (T : Tg) (tt : Env → Rz Bool) (f : Ev) (e : Env) : List PyData → Option (List O)
  | [] => some []
  | d :: ds => match T.app d e with
    | none => none
    | some e1 => match tt e1 with
      | .ok true => match f e1 with
        | .ok (true, o) => (lcL T tt f e ds).map (o :: ·)
        | _ => none
      | .ok false => lcL T tt f e ds
      | _ => none
def eLc (T : Tg) (its : Env → Rz (List PyData)) (tt : Env → Rz Bool) (f : Ev) (vs : List Nat) : Ev := fun e => match its e with
  | .ok ds => if ds.length ≤ sizeLine then (match lcL T tt f (wipeE e vs) ds with
    | some os => .ok (true, .ls os)
    | none => .bad) else .bad
  | .ex x => .ex x
  | .bad => .bad
def tYes' : Env → Rz Bool := fun _ => .ok true
section
variable {X : Cx} {Z : ZX}
theorem pts_yes {Z : ZX} : PTs X [] (rdT X.K Z tYes') := ⟨fun pins s σ H Q I h => pts_nil.run pins s σ H Q I (by obtain ⟨P, F, e, s, k⟩ := h; exact k H (Same.refl H))⟩
theorem pts_q {c : Expr} {t : Env → Rz Bool} (h : PT X c (rdT X.K Z t)) : PTs X [c] (rdT X.K Z t) := pts_one h
theorem rd_lc {K : PySem.W.Frag} {wk : Bool} {T : Tg} {its : Env → Rz (List PyData)} {tt : Env → Rz Bool} {f : Ev} {vs : List Nat} {g : TG} (hsl : ∀ i ∈ T.slots, i ∈ vs)
    (hg : ∀ v σ H Q, (∃ P F e d e', SR K P F H σ e ∧ (wk = false → Rp K (P ++ F) H v d) ∧ RpT K (P ++ F) H v d ∧ T.app d e = some e' ∧ AftG K P F H σ e T.slots e' Q) → g v σ H Q) :
    ∀ σ H Q, rdE K Z (eLc T its tt f vs) σ H Q → tLc (rdI K Z wk its) g (rdT K Z0 tt) (rdE K Z0 f) vs σ H Q := fun σ H Q ⟨P, F, e, s, h⟩ => by
  refine ⟨P, F, e, s, ?_⟩
  unfold eLc at h
  cases q : its e with
  | bad => rw [q] at h; exact h
  | ex x => rw [q] at h; exact h
  | ok ds =>
    rw [q] at h
    simp only at h
    intro J H1 hs1 ok D hD
    by_cases hz : ds.length ≤ sizeLine
    · rw [if_pos hz] at h
      have s1 := s.frsP (.of_same hs1)
      refine ⟨fun i m H' => m = ds.length - i ∧ i ≤ ds.length ∧ ∃ acc os G, Frs H1 (D :: G) H' ∧ H' D = some (.lst acc) ∧ Owns K ((D :: G) ++ (P ++ F)) H' acc os G ∧ os.length ≤ i ∧
        ∃ os2, lcL T tt f (wipeE e vs) (ds.drop i) = some os2 ∧ ∀ v R H2, Got K P F H (true, .ls (os ++ os2)) v R H2 → Q v H2, ?_, ?_⟩
      · refine ⟨ds.length, by simp, Nat.zero_le _, [], [], [], .one hD, upd_same, .nil, Nat.le_refl _, ?_⟩
        rw [List.drop_zero]
        cases q2 : lcL T tt f (wipeE e vs) ds with
        | none => rw [q2] at h; exact h.elim
        | some os2 => rw [q2] at h; exact ⟨os2, rfl, h⟩
      · rintro i m H' ⟨rfl, hi, acc, os, G, fr, hDl, ow, hlen, os2, hl, hk⟩
        obtain ⟨o1, o2⟩ := ok _ H' (Stay.frs fr) i
        by_cases hlt : i < ds.length
        · refine .inr ⟨(o1 hlt).1, fun H3 => ∃ acc os G, Frs H1 (D :: G) H3 ∧ H3 D = some (.lst acc) ∧ Owns K ((D :: G) ++ (P ++ F)) H3 acc os G ∧ os.length ≤ i + 1 ∧
            ∃ os2, lcL T tt f (wipeE e vs) (ds.drop (i + 1)) = some os2 ∧ ∀ v R H2, Got K P F H (true, .ls (os ++ os2)) v R H2 → Q v H2,
            fun H3 w => ⟨ds.length - (i + 1), by omega, rfl, hlt, w⟩, fun x H2 hy => ?_⟩
          obtain ⟨hs2, d, hd, w1, w2⟩ := (o1 hlt).2 x H2 hy
          have ed : ds[i] = d := by
            rw [List.getElem?_eq_getElem hlt] at hd
            exact Option.some.inj hd
          rw [List.drop_eq_getElem_cons hlt, lcL, ed] at hl
          have fr2 : Frs H1 (D :: G) H2 := ⟨fr.same.trans hs2, fr.new, fr.nd, fr.trk.same hs2⟩
          have sA := s1.frs fr2
          obtain ⟨M, Fw, sW, mW⟩ := sA.wipe vs
          have mW' : ∀ b, b ∈ (M ++ ((D :: G) ++ P)) ++ Fw → b ∈ (D :: G) ++ (P ++ F) := fun b m => by
            have := (mW b).mp m
            rwa [List.append_assoc] at this
          cases q2 : T.app d (wipeE e vs) with
          | none => rw [q2] at hl; cases hl
          | some e1 =>
            rw [q2] at hl
            simp only at hl
            refine hg x _ H2 _ ⟨_, Fw, _, d, e1, sW, fun hw => (w1 hw).less mW', ?_, q2, fun σ3 F3 m3 n3 s3 hw3 => ⟨?_, ?_⟩⟩
            · rcases w2 with w2 | ⟨a, xs, es, h1, h2, h3, h4⟩
              · exact .inl (w2.less mW')
              · exact .inr ⟨a, xs, es, h1, h2, h3, h4.less mW'⟩
            · have wi : wipe (wipe σ vs) vs = wipe σ vs := List.ext_getElem? fun j => by
                rw [wipe_at, wipe_at, wipe_length]
                split <;> rfl
              rw [hw3 vs hsl, wi]
            · have eF : F3 = Fw := n3 fun i m => wipeE_lt (hsl i m)
              refine ⟨_, F3, e1, s3, ?_⟩
              cases q3 : tt e1 with
              | bad => rw [q3] at hl; cases hl
              | ex x => rw [q3] at hl; cases hl
              | ok b =>
                rw [q3] at hl
                intro H4 hs4
                have fr4 : Frs H1 (D :: G) H4 := ⟨fr2.same.trans hs4, fr2.new, fr2.nd, fr2.trk.same hs4⟩
                have ow4 : Owns K ((D :: G) ++ (P ++ F)) H4 acc os G := ow.stay (Stay.same (hs2.trans hs4) fun b m => .inl m) fun a _ x e => (hs2.trans hs4) a x e
                have hD4 : H4 D = some (.lst acc) := hs4 _ _ (hs2 _ _ hDl)
                cases b with
                | false =>
                  rw [if_neg (by decide)]
                  exact ⟨acc, os, G, fr4, hD4, ow4, by omega, os2, hl, hk⟩
                | true =>
                  rw [if_pos rfl]
                  have s4 := s3.frsP (.of_same hs4)
                  refine ⟨_, F3, e1, s4, ?_⟩
                  cases q4 : f e1 with
                  | bad => rw [q4] at hl; cases hl
                  | ex x => rw [q4] at hl; cases hl
                  | ok r =>
                    rw [q4] at hl
                    obtain ⟨fl, o⟩ := r
                    cases fl with
                    | false => cases hl
                    | true =>
                      simp only at hl
                      intro y R5 H5 g5
                      cases q5 : lcL T tt f (wipeE e vs) (ds.drop (i + 1)) with
                      | none => rw [q5] at hl; cases hl
                      | some os3 =>
                        rw [q5] at hl
                        injection hl with hl; subst hl
                        have hD5 : H5 D = some (.lst acc) := g5.frs.same _ _ hD4
                        have lz : acc.length < sizeLine := by
                          rw [ow.length]
                          exact Nat.lt_of_le_of_lt hlen (Nat.lt_of_lt_of_le hlt hz)
                        refine ⟨acc, hD5, lz, ?_⟩
                        obtain ⟨Gy, wy, hy5⟩ := g5.own
                        rcases hy5 with ⟨_, rfl⟩ | ⟨q, _⟩
                        · have mP : ∀ b, b ∈ D :: G → b ∈ (M ++ ((D :: G) ++ P)) ++ F3 := fun b m => List.mem_append_left _ (List.mem_append_right _ (List.mem_append_left _ m))
                          have fr5 : Frs H1 ((D :: G) ++ Gy) H5 := fr4.trans ⟨g5.frs.same, g5.frs.new, g5.frs.nd, g5.frs.trk⟩
                          have nD : ∀ a ∈ Gy, a ≠ D := fun a m q => by
                            subst q
                            rw [g5.frs.new a m] at hD4; cases hD4
                          have nDG : ∀ a ∈ G, a ≠ D := fun a m q => by
                            subst q
                            exact (List.nodup_cons.mp fr.nd).1 m
                          -- the new item goes behind the list's items
                          have st5 : Stay ((D :: G) ++ (P ++ F)) ((D :: (G ++ Gy)) ++ (P ++ F)) H4 (upd H5 D (.lst (acc ++ [y]))) := by
                            refine ⟨fun b o e n => ?_, fun b o u e => ?_, fun b m => ?_⟩
                            · rw [upd_ne (fun q => n (by rw [q]; exact List.mem_append_left _ List.mem_cons_self))]
                              exact g5.frs.same b o e
                            · rw [upd_ne (fun q => by rw [q, hD4] at e; cases e)]
                              exact g5.frs.same b _ e
                            · simp only [List.mem_append, List.mem_cons] at m ⊢
                              rcases m with (m | m | m) | m
                              · exact .inl (.inl (.inl m))
                              · exact .inl (.inl (.inr m))
                              · exact .inr (g5.frs.new b m)
                              · exact .inl (.inr m)
                          have ow5 := ow4.stay st5 fun a m x e => by
                            rw [upd_ne (nDG a m)]
                            exact g5.frs.same a x e
                          have wy5 : Own K ((D :: (G ++ Gy)) ++ (P ++ F)) (upd H5 D (.lst (acc ++ [y]))) y o Gy := by
                            refine wy.stay ⟨fun b u e n => ?_, fun b u v e => ?_, fun b m => ?_⟩ fun a m x e => ?_
                            · rw [upd_ne (fun q => n (by rw [q]; exact List.mem_append_right _ (mP D List.mem_cons_self)))]
                              exact e
                            · rw [upd_ne (fun q => by rw [q, hD5] at e; cases e)]
                              exact e
                            · simp only [List.mem_append, List.mem_cons] at m
                              rcases m with (m | m | m) | m
                              · exact .inl (List.mem_append_right _ (mP b (by rw [m]; exact List.mem_cons_self)))
                              · exact .inl (List.mem_append_right _ (mP b (List.mem_cons_of_mem _ m)))
                              · exact .inl (List.mem_append_left _ m)
                              · have : b ∈ (M ++ ((D :: G) ++ P)) ++ Fw := (mW b).mpr (by
                                  simp only [List.mem_append] at m ⊢
                                  rcases m with m | m
                                  · exact .inl (.inr m)
                                  · exact .inr m)
                                rcases List.mem_append.mp this with z | z
                                · exact .inl (List.mem_append_right _ (List.mem_append_left _ z))
                                · exact .inl (List.mem_append_right _ (List.mem_append_right _ (by rw [eF]; exact z)))
                            · rw [upd_ne (nD a m)]
                              exact e
                          refine ⟨acc ++ [y], os ++ [o], G ++ Gy, ?_, upd_same, ?_, ?_, os3, rfl, ?_⟩
                          · refine ⟨fun b u e => ?_, fun a m => fr5.new a (by simpa using m), by simpa using fr5.nd, fun a m => ?_⟩
                            · rw [upd_ne (fun q => by rw [q, fr.new D List.mem_cons_self] at e; cases e)]
                              exact fr5.same b u e
                            · by_cases hq : a = D
                              · rw [hq]; exact ⟨_, upd_same⟩
                              · rw [upd_ne hq]
                                exact fr5.trk a (by simpa using m)
                          · have := ow5.append (.cons wy5 .nil)
                            simpa using this
                          · rw [List.length_append, List.length_singleton]; omega
                          · intro v R H2 gg
                            refine hk v R H2 ?_
                            simpa using gg
                        · cases q
        · have hi' : i = ds.length := by omega
          refine .inl ⟨o2 (by omega), ?_⟩
          rw [hi', List.drop_length, lcL] at hl
          injection hl with hl; subst hl
          refine hk (.ref D) (D :: G) H' ?_
          rw [List.append_nil]
          have fr0 : Frs H (D :: G) H' := ⟨hs1.trans fr.same, fun a m => hs1.free (fr.new a m), fr.nd, fr.trk⟩
          exact .fresh fr0 (.ls hDl ow)
    · rw [if_neg hz] at h
      exact h.elim
variable {pos spos : Pos} {tg it elt : Expr} {T : Tg} {its : Env → Rz (List PyData)} {tt : Env → Rz Bool} {f : Ev} {scope : Scope} {own : List (Str × Nat)} {ifs : List Expr}
/-- [elt for tg in it if ..] -/
theorem q_lc (hc : X.calm = true) (hN : X.N.Nodup) (hi : PI X tg it (rdI X.K Z false its)) (ok : BlkOk X.N X.env.scope scope own)
    (hg : ∀ (s : Shared) (H : Hp) (C : Addr) (cl : List (Str × Addr)) (fp : List Addr), PG (X.blk s H scope (compEnvC scope cl C X.env) fp) tg (rdG X.K T))
    (ht : ∀ (s : Shared) (H : Hp) (C : Addr) (cl : List (Str × Addr)) (fp : List Addr), PTs (X.blk s H scope (compEnvC scope cl C X.env) fp) ifs (rdT X.K Z0 tt))
    (he : ∀ (s : Shared) (H : Hp) (C : Addr) (cl : List (Str × Addr)) (fp : List Addr), PE (X.blk s H scope (compEnvC scope cl C X.env) fp) elt (rdE X.K Z0 f))
    (hsl : ∀ i ∈ T.slots, i ∈ own.map (·.2) := by decide) (hs : ∀ x, foldedSetIterable it X.env x = pure x := by intro _; rfl) :
    PE X (.ListComp elt [⟨tg, it, ifs, 0⟩] scope pos) (rdE X.K Z (eLc T its tt f (own.map (·.2)))) :=
  pe_imp (pe_lc hc hN hi ok hg ht he hs) (rd_lc hsl fun v σ H Q ⟨P, F, e, d, e', s, w1, w2, h, k⟩ => ⟨P, F, e, d, e', s, w1 rfl, h, k⟩)
theorem q_lcT (hc : X.calm = true) (hN : X.N.Nodup) (hi : PI X tg it (rdI X.K Z true its)) (ok : BlkOk X.N X.env.scope scope own)
    (hg : ∀ (s : Shared) (H : Hp) (C : Addr) (cl : List (Str × Addr)) (fp : List Addr), PG (X.blk s H scope (compEnvC scope cl C X.env) fp) tg (rdGt X.K T))
    (ht : ∀ (s : Shared) (H : Hp) (C : Addr) (cl : List (Str × Addr)) (fp : List Addr), PTs (X.blk s H scope (compEnvC scope cl C X.env) fp) ifs (rdT X.K Z0 tt))
    (he : ∀ (s : Shared) (H : Hp) (C : Addr) (cl : List (Str × Addr)) (fp : List Addr), PE (X.blk s H scope (compEnvC scope cl C X.env) fp) elt (rdE X.K Z0 f))
    (hsl : ∀ i ∈ T.slots, i ∈ own.map (·.2) := by decide) (hs : ∀ x, foldedSetIterable it X.env x = pure x := by intro _; rfl) :
    PE X (.ListComp elt [⟨tg, it, ifs, 0⟩] scope pos) (rdE X.K Z (eLc T its tt f (own.map (·.2)))) :=
  pe_imp (pe_lc hc hN hi ok hg ht he hs) (rd_lc hsl fun v σ H Q ⟨P, F, e, d, e', s, w1, w2, h, k⟩ => ⟨P, F, e, d, e', s, w2, h, k⟩)
/-- name = [..] on one line: the name takes it, ours; or frozen -/
theorem rd_store {t : TE} {i : Nat} {ev : Ev} (hr : ∀ σ H Q, rdE X.K Z ev σ H Q → t σ H Q) : (∀ D σ H, rdS X.K Z (sSet i ev) D σ H → tAsg t (gName i) D σ H) ∧ (∀ D σ H, rdS X.K Z (sFz i ev) D σ H → tAsg t (gName i) D σ H) := by
  refine ⟨fun D σ H ⟨P, F, e, s, h⟩ => hr σ H _ (rd_stm s h fun r v R H1 g s1 h1 => ?_), fun D σ H ⟨P, F, e, s, h⟩ => hr σ H _ (rd_stm s h fun r v R H1 g s1 h1 => ?_)⟩
  · cases hr : r.1 with
    | false => rw [if_neg (by rw [hr]; decide)] at h1; exact h1.elim
    | true =>
      rw [if_pos hr] at h1
      obtain ⟨G, w, q⟩ := g.own
      rcases q with ⟨_, rfl⟩ | ⟨q, _⟩
      · rw [← List.append_assoc] at w
        obtain ⟨F', s2, m⟩ := s1.set (i := i) w
        exact h1 _ F' H1 (Evo.got g.frs m) s2
      · rw [hr] at q; cases q
  · cases hr : r.1 with
    | false => rw [if_neg (by rw [hr]; decide)] at h1; exact h1.elim
    | true =>
      rw [if_pos hr] at h1
      obtain ⟨F', s2, m⟩ := SR.setF (i := i) s1.weakP (g.rp s hr)
      exact h1 _ F' H1 ((Evo.frs g.frs).trans (Evo.sub m)) s2
variable {i : Nat} {y : Str} {py : Pos}
theorem q_fzLc (hc : X.calm = true) (hN : X.N.Nodup) (hi : PI X tg it (rdI X.K Z false its)) (ok : BlkOk X.N X.env.scope scope own)
    (hg : ∀ (s : Shared) (H : Hp) (C : Addr) (cl : List (Str × Addr)) (fp : List Addr), PG (X.blk s H scope (compEnvC scope cl C X.env) fp) tg (rdG X.K T))
    (ht : ∀ (s : Shared) (H : Hp) (C : Addr) (cl : List (Str × Addr)) (fp : List Addr), PTs (X.blk s H scope (compEnvC scope cl C X.env) fp) ifs (rdT X.K Z0 tt))
    (he : ∀ (s : Shared) (H : Hp) (C : Addr) (cl : List (Str × Addr)) (fp : List Addr), PE (X.blk s H scope (compEnvC scope cl C X.env) fp) elt (rdE X.K Z0 f))
    (hsw : swapsWith (.ListComp elt [⟨tg, it, ifs, 0⟩] scope pos) (some (.Name y py)) spos.line X.env = pure true)
    (hsl : ∀ i ∈ T.slots, i ∈ own.map (·.2) := by decide) (hy : X.N[i]? = some y := by rfl) (hyl : X.env.scope.names.lookup y = some .local := by rfl) (hs : ∀ x, foldedSetIterable it X.env x = pure x := by intro _; rfl) :
    PS X (.Assign [.Name y py] (.ListComp elt [⟨tg, it, ifs, 0⟩] scope pos) spos) (rdS X.K Z (sFz i (eLc T its tt f (own.map (·.2))))) :=
  ps_imp (ps_setLc hc hN hy hyl hsw hi ok hg ht he hs) (rd_store (rd_lc hsl fun v σ H Q ⟨P, F, e, d, e', s, w1, w2, h, k⟩ => ⟨P, F, e, d, e', s, w1 rfl, h, k⟩)).2
theorem q_setLc (hc : X.calm = true) (hN : X.N.Nodup) (hi : PI X tg it (rdI X.K Z false its)) (ok : BlkOk X.N X.env.scope scope own)
    (hg : ∀ (s : Shared) (H : Hp) (C : Addr) (cl : List (Str × Addr)) (fp : List Addr), PG (X.blk s H scope (compEnvC scope cl C X.env) fp) tg (rdG X.K T))
    (ht : ∀ (s : Shared) (H : Hp) (C : Addr) (cl : List (Str × Addr)) (fp : List Addr), PTs (X.blk s H scope (compEnvC scope cl C X.env) fp) ifs (rdT X.K Z0 tt))
    (he : ∀ (s : Shared) (H : Hp) (C : Addr) (cl : List (Str × Addr)) (fp : List Addr), PE (X.blk s H scope (compEnvC scope cl C X.env) fp) elt (rdE X.K Z0 f))
    (hsw : swapsWith (.ListComp elt [⟨tg, it, ifs, 0⟩] scope pos) (some (.Name y py)) spos.line X.env = pure true)
    (hsl : ∀ i ∈ T.slots, i ∈ own.map (·.2) := by decide) (hy : X.N[i]? = some y := by rfl) (hyl : X.env.scope.names.lookup y = some .local := by rfl) (hs : ∀ x, foldedSetIterable it X.env x = pure x := by intro _; rfl) :
    PS X (.Assign [.Name y py] (.ListComp elt [⟨tg, it, ifs, 0⟩] scope pos) spos) (rdS X.K Z (sSet i (eLc T its tt f (own.map (·.2))))) :=
  ps_imp (ps_setLc hc hN hy hyl hsw hi ok hg ht he hs) (rd_store (rd_lc hsl fun v σ H Q ⟨P, F, e, d, e', s, w1, w2, h, k⟩ => ⟨P, F, e, d, e', s, w1 rfl, h, k⟩)).1
theorem q_fzLcT (hc : X.calm = true) (hN : X.N.Nodup) (hi : PI X tg it (rdI X.K Z true its)) (ok : BlkOk X.N X.env.scope scope own)
    (hg : ∀ (s : Shared) (H : Hp) (C : Addr) (cl : List (Str × Addr)) (fp : List Addr), PG (X.blk s H scope (compEnvC scope cl C X.env) fp) tg (rdGt X.K T))
    (ht : ∀ (s : Shared) (H : Hp) (C : Addr) (cl : List (Str × Addr)) (fp : List Addr), PTs (X.blk s H scope (compEnvC scope cl C X.env) fp) ifs (rdT X.K Z0 tt))
    (he : ∀ (s : Shared) (H : Hp) (C : Addr) (cl : List (Str × Addr)) (fp : List Addr), PE (X.blk s H scope (compEnvC scope cl C X.env) fp) elt (rdE X.K Z0 f))
    (hsw : swapsWith (.ListComp elt [⟨tg, it, ifs, 0⟩] scope pos) (some (.Name y py)) spos.line X.env = pure true)
    (hsl : ∀ i ∈ T.slots, i ∈ own.map (·.2) := by decide) (hy : X.N[i]? = some y := by rfl) (hyl : X.env.scope.names.lookup y = some .local := by rfl) (hs : ∀ x, foldedSetIterable it X.env x = pure x := by intro _; rfl) :
    PS X (.Assign [.Name y py] (.ListComp elt [⟨tg, it, ifs, 0⟩] scope pos) spos) (rdS X.K Z (sFz i (eLc T its tt f (own.map (·.2))))) :=
  ps_imp (ps_setLc hc hN hy hyl hsw hi ok hg ht he hs) (rd_store (rd_lc hsl fun v σ H Q ⟨P, F, e, d, e', s, w1, w2, h, k⟩ => ⟨P, F, e, d, e', s, w2, h, k⟩)).2
end

/-! ### a def keeps its promise -/
def startE (n : Nat) (ds : List PyData) : Env := ds.map (fun d => some (.fz d)) ++ List.replicate (n - ds.length) none
def runB (n : Nat) (b : Blk) (ds : List PyData) : Option O := match b (startE n ds) with
  | .rt o => some o
  | .nx _ => some (.fz .none)
  | _ => none
section
variable {K : PySem.W.Frag} {A : List Addr} {H : Hp}
theorem slots_none : ∀ n : Nat, Slots K A H (List.replicate n none) (List.replicate n none) []
  | 0 => .nil
  | n + 1 => .emp (slots_none n)
theorem slots_start : ∀ {vs : List V} {ds : List PyData} (n : Nat), Rps K A H vs ds → Slots K A H (vs.map some ++ List.replicate n none) (ds.map (fun d => some (.fz d)) ++ List.replicate n none) []
  | _, _, n, .nil => slots_none n
  | _, _, n, .cons h r => .hold (G := []) (.fz h) (slots_start n r)
variable {P : Program} {w : World} {mg : Str → Option Value} {base : Heap} {x qual : Str} {st : Stmt} {f : Addr} {fd : FuncData} {N ps : List Str} {k n : Nat} {b : Blk}
theorem fn_ok (F : Fun K x qual st f fd) (S : FnScope N ps (defScope st)) (hn : ps.length = n)
    (hbody : ∀ (cdv : Value) (A : Around) (outer : List PySem.Env) (s : Shared) (H : Hp) (E : XK), Room k (A.deeper (envOfC qual (defScope st) s.heap.objs.size f cdv)) →
      PSs (cxOf CX0 P w K mg base N qual (defScope st) f cdv A outer s H E).nox (defBody st) (rdS K Z0 b)) : FnOk P w K mg base CX0 (k + 1) f fd ps (spP K n (runB N.length b)) := by
  refine F.ok S (fun vs H Q E h => h.1.trans hn.symm) fun cdv A outer s H vs Q E hr h => ⟨_, hbody cdv A outer s H E hr, ?_⟩
  obtain ⟨hl, A', ds, o, nd, tk, rs, e, k⟩ := h
  have el : (vs.map some : St).length = vs.length := List.length_map _
  refine ⟨A', [], startE N.length ds, ⟨by rw [List.append_nil]; exact nd, tk, ?_⟩, ?_⟩
  · unfold L2.start startE
    rw [rs.length, List.append_nil]
    exact slots_start _ rs
  · unfold runB at e
    cases q : b (startE N.length ds) with
    | rt o' =>
      rw [q] at e
      injection e with e; subst e
      exact fun v R H' ev nd' tk' w => k v R H' ⟨fun c u hc => (ev c u hc (fun m => nomatch m)).1, fun a m => by
        cases hq : H a with
        | none => rfl
        | some u => exact absurd m (ev a u hq (fun m => nomatch m)).2, nd', tk'⟩ w
    | nx e1 =>
      rw [q] at e
      injection e with e; subst e
      exact fun σ' F' H' ev s' => k .non [] H' (.of_same fun c u hc => (ev c u hc (fun m => nomatch m)).1) (.fz .non)
    | bk _ => rw [q] at e; cases e
    | ct _ => rw [q] at e; cases e
    | er _ _ => rw [q] at e; cases e
    | bad => rw [q] at e; cases e
end

/-! ### built-ins by name -/
inductive SeesL (K : PySem.W.Frag) (A : List Addr) (H : Hp) : List V → List O → Prop
  | nil : SeesL K A H [] []
  | cons {v : V} {vs : List V} {o : O} {os : List O} : Sees K A H v o → SeesL K A H vs os → SeesL K A H (v :: vs) (o :: os)
theorem GotL.sees {K : PySem.W.Frag} {A F : List Addr} {H : Hp} : ∀ {vs : List V} {rs : List Rs} {R : List Addr}, GotL K A F H vs rs R → SeesL K A H vs (rs.map (·.2))
  | _, _, _, .nil => .nil
  | _, _, _, .cons h _ r => .cons ⟨_, h⟩ (GotL.sees r)
def rB (K : PySem.W.Frag) (g : List O → Option O) : List V → Hp → VK → Prop := fun vs H Q => ∃ A os o, Trk A H ∧ SeesL K A H vs os ∧ g os = some o ∧ ∀ v R H', Frs H R H' → Own K (R ++ A) H' v o R → Q v H'
def eB (g : List O → Option O) (fs : List Ev) : Ev := fun e => (evs fs e).bind fun rs => ofO (g (rs.map (·.2)))
section
variable {X : Cx} {Z : ZX} {x : Str} {p pos : Pos} {a b : Expr} {es : List Expr} {fs : List Ev} {fa fb : Ev} {id T : String} {g : List O → Option O}
theorem rd_B {K : PySem.W.Frag} : ∀ σ H Q, rdE K Z (eB g fs) σ H Q → tCB (rB K g) (rdA K Z fs) σ H Q := fun σ H Q ⟨P, F, e, s, k⟩ => by
  refine rd_args s k fun rs vs R H1 el f gl s1 k0 k1 => ?_
  obtain ⟨o, eo, k2⟩ := k1.okO
  exact ⟨R ++ (P ++ F), _, o, by have := s1.trk; rwa [List.append_assoc] at this, gl.sees, eo, fun v R' H' f' w => k2 v R' H' (.fresh f' (by rw [List.append_assoc R P F]; exact w))⟩
theorem q_callB (hc : CallR X (.builtin id) (rB X.K g)) (hg : Gl X x) (hm : X.mg x = none) (hv : bootBuiltins x = some (.builtin id)) (ha : PA X (a :: es) (rdA X.K Z fs)) (hn : x ≠ "__name__" := by decide) (hdb : (x == ("__debug__" : Str)) = false := by decide)
    (hs : starEach (a :: es) X.env = (false, eval a X.env) :: starEach es X.env := by rfl) (hpl : (backTo pos (starEach es X.env)).any (·.1) = false := by rfl) : PE X (.Call (.Name x p) (a :: es) [] pos) (rdE X.K Z (eB g fs)) :=
  pe_imp (pe_callB hc hg hm hv ha hn hdb hs hpl) rd_B
theorem q_callTy (hc : CallR X (.type T) (rB X.K g)) (hg : Gl X x) (hm : X.mg x = none) (hv : bootBuiltins x = some (.type T)) (ha : PA X (a :: es) (rdA X.K Z fs)) (hn : x ≠ "__name__" := by decide) (hdb : (x == ("__debug__" : Str)) = false := by decide)
    (hs : starEach (a :: es) X.env = (false, eval a X.env) :: starEach es X.env := by rfl) (hpl : (backTo pos (starEach es X.env)).any (·.1) = false := by rfl) : PE X (.Call (.Name x p) (a :: es) [] pos) (rdE X.K Z (eB g fs)) :=
  pe_imp (pe_callTy hc hg hm hv ha hn hdb hs hpl) rd_B
end
end Pu

end

-- PuG
section
set_option Elab.async false
set_option linter.all false
set_option maxRecDepth 100000
set_option maxHeartbeats 1000000
/-! Pu, part G: built-ins. -/
namespace Pu
open PySem PySem.Spec L2
open PyProof.Rows hiding St

section
variable {X : Cx} {Z : ZX}
/-! ### len -/
def lenO : List O → Option O
  | [o] => match o.toD with
    | .list ds => some (.fz (.int ds.length))
    | .tuple ds => some (.fz (.int ds.length))
    | .str z => if z.length ≤ sizeLine then some (.fz (.int z.length)) else none
    | _ => none
  | _ => none
theorem DpAll.length {K : PySem.W.Frag} {H : Hp} : ∀ {vs : List V} {ds : List PyData}, DpAll K H vs ds → vs.length = ds.length
  | _, _, .nil => rfl
  | _, _, .cons _ r => by rw [List.length_cons, List.length_cons, DpAll.length r]
theorem c_len : CallR X (.builtin "len") (rB X.K lenO) := by
  intro pins s σ H xs us Q I r ⟨A, os, o, tk, se, e, k⟩
  unfold lenO at e
  split at e
  · rename_i o1
    cases se with
    | cons h r2 =>
      cases r2
      have d := h.dp
      split at e
      · rename_i ds q
        injection e with e; subst e
        rw [q] at d
        cases d with
        | lst hl rs => exact call_len pins s σ H _ us Q I r ⟨_, ds.length, rfl, .inl ⟨_, hl, (DpAll.length rs).symm⟩, k _ [] H (.refl H) (.fz (.int _))⟩
      · rename_i ds q
        injection e with e; subst e
        rw [q] at d
        cases d with
        | tup hl rs => exact call_len pins s σ H _ us Q I r ⟨_, ds.length, rfl, .inr ⟨_, hl, (DpAll.length rs).symm⟩, k _ [] H (.refl H) (.fz (.int _))⟩
      · rename_i z q
        rw [q] at d
        cases d
        split at e
        · rename_i hz
          injection e with e; subst e
          exact call_len pins s σ H _ us Q I r ⟨_, z.length, rfl, ⟨hz, rfl⟩, k _ [] H (.refl H) (.fz (.int _))⟩
        · cases e
      · cases e
  · cases e
/-! ### int(flag), int(n) -/
def toInt : List O → Option O
  | [.fz (.int i)] => some (.fz (.int i))
  | [.fz (.bool b)] => some (.fz (.int (if b then 1 else 0)))
  | _ => none
theorem c_int : CallR X (.type "int") (rB X.K toInt) := by
  intro pins s σ H xs us Q I r ⟨A, os, o, tk, se, e, k⟩
  unfold toInt at e
  split at e
  · injection e with e; subst e
    cases se with
    | cons h r2 =>
      cases r2
      have := h.int; subst this
      exact call_int1 pins s σ H _ us Q I r (.inl ⟨_, rfl, k _ [] H (.refl H) (.fz (.int _))⟩)
  · injection e with e; subst e
    cases se with
    | cons h r2 =>
      cases r2
      have := h.bl; subst this
      exact call_int1 pins s σ H _ us Q I r (.inr ⟨_, rfl, k _ [] H (.refl H) (.fz (.int _))⟩)
  · cases e
/-! ### isinstance(x, T) -/
theorem ki_call (T : String) (f : PyData → Bool) (rule : ∀ {prog : Program} {w : World} {A : Around} {E : Value → Shared → Prop} {s : Shared} {v : Value} {d : PyData} {as : List Addr} {Q : Value → Shared → Prop}, Reads s.heap v d as → (∀ tk, s.toks ≤ tk → Q (.bool (f d)) { s with toks := tk }) →
    wpAny (model prog w) A (call (.builtin "isinstance") [v, .type T]) Q E s) : CallR X (.builtin "isinstance") (fun vs H Q => ∃ x d, vs = [x, .ty T] ∧ Dp X.K H x d ∧ Q (.bl (f d)) H) := by
  intro pins s σ H xs us Q I r ⟨x, d, e, dp, q⟩
  subst e
  obtain ⟨u, w', rfl, r1, r2⟩ := vals2 r
  cases r2
  obtain ⟨as, rd⟩ := Dp.reads I d x u dp r1
  exact rule rd fun tk _ => ⟨.bl _, H, I.tok tk, rfl, q⟩
def eIs (f : PyData → Bool) (fa : Ev) : Ev := fun e => (fa e).bind fun a => .ok (true, .fz (.bool (f a.2.toD)))
theorem q_isinst {T : String} {f : PyData → Bool} {fa : Ev} {a : Expr} {y : Str} {p pos pos' : Pos} (hc : CallR X (.builtin "isinstance") (fun vs H Q => ∃ x d, vs = [x, .ty T] ∧ Dp X.K H x d ∧ Q (.bl (f d)) H)) (ha : PE X a (rdE X.K Z fa))
    (hgi : Gl X "isinstance") (hmi : X.mg "isinstance" = none) (hg : Gl X y) (hm : X.mg y = none) (hv : bootBuiltins y = some (.type T)) (hs : starEach [a, .Name y pos'] X.env = (false, eval a X.env) :: starEach [.Name y pos'] X.env := by rfl)
    (hn : y ≠ "__name__" := by decide) (hd : (y == ("__debug__" : Str)) = false := by decide) :
    PE X (.Call (.Name "isinstance" p) [a, .Name y pos'] [] pos) (rdE X.K Z (eIs f fa)) :=
  pe_imp (pe_callB hc hgi hmi (by decide +kernel) (pa_cons ha (pa_cons (pe_bltn (v := .ty T) hg hm hv rfl hn hd) pa_nil) hs) (by decide) (by decide) hs rfl) fun σ H Q ⟨P, F, e, s, k⟩ => by
    refine rd_bind s k fun r x R1 H1 g1 s1 k1 => ?_
    exact ⟨x, _, rfl, g1.sees.dp, k1.fz fun A => .bl _⟩
theorem i_int : CallR X (.builtin "isinstance") (fun vs H Q => ∃ x d, vs = [x, .ty "int"] ∧ Dp X.K H x d ∧ Q (.bl (PyData.isInt d)) H) := ki_call "int" _ fun r h => PySem.W.isinstance_int_data r h
theorem i_bool : CallR X (.builtin "isinstance") (fun vs H Q => ∃ x d, vs = [x, .ty "bool"] ∧ Dp X.K H x d ∧ Q (.bl (PyData.isBool d)) H) := ki_call "bool" _ fun r h => PySem.W.isinstance_bool_data r h
theorem i_list : CallR X (.builtin "isinstance") (fun vs H Q => ∃ x d, vs = [x, .ty "list"] ∧ Dp X.K H x d ∧ Q (.bl (PyData.isList d)) H) := ki_call "list" _ fun r h => PySem.W.isinstance_list_data r h
theorem i_tuple : CallR X (.builtin "isinstance") (fun vs H Q => ∃ x d, vs = [x, .ty "tuple"] ∧ Dp X.K H x d ∧ Q (.bl (PyData.isTuple d)) H) := ki_call "tuple" _ fun r h => PySem.W.isinstance_tuple_data r h
theorem i_str : CallR X (.builtin "isinstance") (fun vs H Q => ∃ x d, vs = [x, .ty "str"] ∧ Dp X.K H x d ∧ Q (.bl (PyData.isStr d)) H) := ki_call "str" _ fun r h => PySem.W.isinstance_str_data r h
end
theorem rps_ints {K : PySem.W.Frag} {A : List Addr} {H : Hp} : ∀ ns : List Int, Rps K A H (ns.map V.int) (ns.map PyData.int)
  | [] => .nil
  | n :: ns => .cons (.int n) (rps_ints ns)
/-- the law's promise at the head -/
theorem law_start {K : PySem.W.Frag} {f : List PyData → Option O} {H : Hp} {a : Addr} {ns : List Int} (hl : ns.length ≤ 63) (hm : f [.list (ns.map .int)] = some (.fz (.bool true))) (hO : Only H) (hS : SqL K H a (ns.map V.int)) :
    spP K 1 f [.ref a] H (fun v _ => v = .bl true) fun _ _ _ => False := by
  refine ⟨rfl, [], [.list (ns.map .int)], _, List.nodup_nil, Trk.nil, .cons (.lst ?_ (rps_ints ns)) .nil, hm, fun v R H' f w => ?_⟩
  · rcases hS with h | h
    · exact .inl ⟨h, fun m => nomatch m⟩
    · exact .inr h
  · obtain ⟨_, w⟩ := w.fz_nil
    cases w; rfl
end Pu

end

-- PuS
section
set_option linter.all false
set_option maxRecDepth 100000
/-! Pu, part S: what the evaluator says, for simp. -/
namespace Pu
open PySem L2
@[simp] theorem bind_ok' {α β : Type} (a : α) (k : α → Rz β) : (Rz.ok a).bind k = k a := rfl
@[simp] theorem bind_ex' {α β : Type} (x : Exn) (k : α → Rz β) : (Rz.ex x : Rz α).bind k = .ex x := rfl
@[simp] theorem bind_bad' {α β : Type} (k : α → Rz β) : (Rz.bad : Rz α).bind k = .bad := rfl
@[simp] theorem ofO_some (o : O) : ofO (some o) = .ok (true, o) := rfl
@[simp] theorem ofO_none : ofO none = .bad := rfl
@[simp] theorem ofS_some (o : Rs) : ofS (some o) = .ok o := rfl
@[simp] theorem ofS_none : ofS none = .bad := rfl
@[simp] theorem oF_some {α : Type} (o : α) : oF (some o) = .ok o := rfl
@[simp] theorem oF_none {α : Type} : oF (none : Option α) = .bad := rfl
@[simp] theorem eC_eq (d : PyData) (e : Env) : eC d e = .ok (true, .fz d) := rfl
@[simp] theorem eV_eq (i : Nat) (e : Env) : eV i e = slotR e[i]? := rfl
@[simp] theorem slotR_fz (d : PyData) : slotR (some (some (.fz d))) = .ok (true, .fz d) := rfl
@[simp] theorem slotR_ls (d : List O) : slotR (some (some (.ls d))) = .ok (false, .ls d) := rfl
@[simp] theorem slotR_tp (d : List O) : slotR (some (some (.tp d))) = .ok (false, .tp d) := rfl
@[simp] theorem e2_eq (g : O → O → Option O) (fa fb : Ev) (e : Env) : e2 g fa fb e = (fa e).bind fun a => (fb e).bind fun b => ofO (g a.2 b.2) := rfl
@[simp] theorem e1_eq (g : O → Option O) (fa : Ev) (e : Env) : e1 g fa e = (fa e).bind fun a => ofO (g a.2) := rfl
@[simp] theorem eIx_eq (fa fb : Ev) (e : Env) : eIx fa fb e = (fa e).bind fun a => (fb e).bind fun b => ofS (idxR a b.2) := rfl
@[simp] theorem tst_eq (f : Ev) (e : Env) : tst f e = (f e).bind blOf := rfl
@[simp] theorem blOf_b (q : Bool) (b : Bool) : blOf (q, .fz (.bool b)) = .ok b := rfl
@[simp] theorem tAn_eq (f g : Env → Rz Bool) (e : Env) : tAn f g e = (f e).bind fun b => if b = true then g e else .ok false := rfl
@[simp] theorem tOr_eq (f g : Env → Rz Bool) (e : Env) : tOr' f g e = (f e).bind fun b => if b = true then .ok true else g e := rfl
@[simp] theorem tNo_eq (f : Env → Rz Bool) (e : Env) : tNo f e = (f e).bind fun b => .ok (!b) := rfl
@[simp] theorem eAn_eq (f g : Ev) (e : Env) : eAn f g e = (f e).bind fun r => (blOf r).bind fun b => if b = true then g e else .ok (true, .fz (.bool false)) := rfl
@[simp] theorem eOr_eq (f g : Ev) (e : Env) : eOr f g e = (f e).bind fun r => (blOf r).bind fun b => if b = true then .ok (true, .fz (.bool true)) else g e := rfl
@[simp] theorem eNo_eq (f : Ev) (e : Env) : eNo f e = (f e).bind fun r => (blOf r).bind fun b => .ok (true, .fz (.bool (!b))) := rfl
@[simp] theorem eIf_eq (t : Env → Rz Bool) (f g : Ev) (e : Env) : eIf t f g e = (t e).bind fun b => if b = true then f e else g e := rfl
@[simp] theorem evs_nil (e : Env) : evs [] e = .ok [] := rfl
@[simp] theorem evs_cons (f : Ev) (fs : List Ev) (e : Env) : evs (f :: fs) e = (f e).bind fun r => (evs fs e).bind fun rs => .ok (r :: rs) := rfl
@[simp] theorem eCall_eq (f : List PyData → Option O) (fs : List Ev) (e : Env) : eCall f fs e = (evs fs e).bind fun rs => (oF (frzL rs)).bind fun ds => ofO (f ds) := rfl
@[simp] theorem frzL_nil : frzL [] = some [] := rfl
@[simp] theorem frzL_cons (o : O) (rs : List Rs) : frzL ((true, o) :: rs) = (frzL rs).map (o.toD :: ·) := rfl
@[simp] theorem freshL_nil : freshL [] = some [] := rfl
@[simp] theorem freshL_cons (o : O) (rs : List Rs) : freshL ((true, o) :: rs) = (freshL rs).map (o :: ·) := rfl
@[simp] theorem eTup_eq (fs : List Ev) (e : Env) : eTup fs e = (evs fs e).bind fun rs => (oF (freshL rs)).bind fun os => .ok (true, tupR os) := rfl
@[simp] theorem eLst_eq (fs : List Ev) (e : Env) : eLst fs e = (evs fs e).bind fun rs => (oF (freshL rs)).bind fun os => .ok (true, .ls os) := rfl
@[simp] theorem tupR_eq (os : List O) : tupR os = (match allFz os with
  | some ds => .fz (.tuple ds)
  | none => .tp os) := rfl
@[simp] theorem allFz_nil : allFz [] = some [] := rfl
@[simp] theorem allFz_cons (d : PyData) (os : List O) : allFz (.fz d :: os) = (allFz os).map (d :: ·) := rfl
@[simp] theorem allFz_ls (d : List O) (os : List O) : allFz (.ls d :: os) = none := rfl
@[simp] theorem allFz_tp (d : List O) (os : List O) : allFz (.tp d :: os) = none := rfl
@[simp] theorem allFz_map' (ds : List PyData) : allFz (ds.map O.fz) = some ds := allFz_map ds
@[simp] theorem toD_fz (d : PyData) : (O.fz d).toD = d := rfl
@[simp] theorem toD_ls (l : List O) : (O.ls l).toD = .list (O.toDs l) := rfl
@[simp] theorem toD_tp (l : List O) : (O.tp l).toD = .tuple (O.toDs l) := rfl
@[simp] theorem toDs_nil : O.toDs [] = [] := rfl
@[simp] theorem toDs_cons (o : O) (os : List O) : O.toDs (o :: os) = o.toD :: O.toDs os := rfl
@[simp] theorem toDs_fz' (ds : List PyData) : O.toDs (ds.map O.fz) = ds := toDs_fz ds
@[simp] theorem eB_eq (g : List O → Option O) (fs : List Ev) (e : Env) : eB g fs e = (evs fs e).bind fun rs => ofO (g (rs.map (·.2))) := rfl
@[simp] theorem eIs_eq (f : PyData → Bool) (fa : Ev) (e : Env) : eIs f fa e = (fa e).bind fun a => .ok (true, .fz (.bool (f a.2.toD))) := rfl
-- statements
@[simp] theorem bindS_ok (r : Rs) (e : Env) (k : Rs → Fl) : bindS (.ok r) e k = k r := rfl
@[simp] theorem bindB_ok (b : Bool) (e : Env) (k : Bool → Fl) : bindB (.ok b) e k = k b := rfl
@[simp] theorem sSq_eq (b c : Blk) (e : Env) : sSq b c e = (match b e with
  | .nx e' => c e'
  | r => r) := rfl
@[simp] theorem sNil_eq (e : Env) : sNil e = .nx e := rfl
@[simp] theorem sPass_eq (e : Env) : sPass e = .nx e := rfl
@[simp] theorem sNo_eq (e : Env) : sNo e = .bad := rfl
@[simp] theorem sIf_eq (t : Env → Rz Bool) (b c : Blk) (e : Env) : sIf t b c e = bindB (t e) e fun k => if k = true then b e else c e := rfl
@[simp] theorem sSet_eq (i : Nat) (f : Ev) (e : Env) : sSet i f e = bindS (f e) e fun r => if r.1 = true then .nx (e.set i (some r.2)) else .bad := rfl
@[simp] theorem sFz_eq' (i : Nat) (f : Ev) (e : Env) : sFz i f e = bindS (f e) e fun r => if r.1 = true then .nx (e.set i (some (.fz r.2.toD))) else .bad := rfl
@[simp] theorem sAsg_eq (T : Tg) (f : Ev) (e : Env) : sAsg T f e = bindS (f e) e fun r => if r.1 = true then (match T.app r.2.toD e with
  | some e' => .nx e'
  | none => .bad) else .bad := rfl
@[simp] theorem sRet_eq (f : Ev) (e : Env) : sRet f e = bindS (f e) e fun r => .rt r.2 := rfl
@[simp] theorem sRetN_eq (e : Env) : sRetN e = .rt (.fz .none) := rfl
@[simp] theorem sDrop_eq (f : Ev) (e : Env) : sDrop f e = bindS (f e) e fun _ => .nx e := rfl
@[simp] theorem sFor_eq (T : Tg) (its : Env → Rz (List PyData)) (b : Blk) (e : Env) : sFor T its b e = (match its e with
  | .ok ds => forL T b ds e
  | .ex x => .er x e
  | .bad => .bad) := rfl
@[simp] theorem forL_nil (T : Tg) (b : Blk) (e : Env) : forL T b [] e = .nx e := rfl
theorem forL_cons (T : Tg) (b : Blk) (d : PyData) (ds : List PyData) (e : Env) : forL T b (d :: ds) e = (match T.app d e with
    | none => .bad
    | some e1 => match b e1 with
      | .nx e' => forL T b ds e'
      | .ct e' => forL T b ds e'
      | .bk e' => .nx e'
      | r => r) := rfl
@[simp] theorem app_n' (i : Nat) (d : PyData) (e : Env) : (Tg.n i).app d e = some (e.set i (some (.fz d))) := rfl
@[simp] theorem app_t' (l : List Tg) (ds : List PyData) (e : Env) : (Tg.t l).app (.tuple ds) e = Tg.apps l ds e := rfl
@[simp] theorem apps_nil' (e : Env) : Tg.apps [] [] e = some e := rfl
@[simp] theorem apps_cons' (g : Tg) (gs : List Tg) (d : PyData) (ds : List PyData) (e : Env) : Tg.apps (g :: gs) (d :: ds) e = (match Tg.app g d e with
    | some e' => Tg.apps gs ds e'
    | none => none) := rfl
@[simp] theorem iSeq_eq (f : Ev) (e : Env) : iSeq f e = (f e).bind fun r => oF (seqI r) := rfl
@[simp] theorem iArg_eq (g : List Rs → Option (List PyData)) (fs : List Ev) (e : Env) : iArg g fs e = (evs fs e).bind fun rs => oF (g rs) := rfl
@[simp] theorem seqI_t (o : O) : seqI (true, o) = seqD o := rfl
@[simp] theorem seqD_l (ds : List PyData) : seqD (.fz (.list ds)) = some ds := rfl
@[simp] theorem seqD_t (ds : List PyData) : seqD (.fz (.tuple ds)) = some ds := rfl
@[simp] theorem seqD_ls (os : List O) : seqD (.ls os) = some (O.toDs os) := rfl
@[simp] theorem seqD_tp (os : List O) : seqD (.tp os) = some (O.toDs os) := rfl
@[simp] theorem rng1_eq (q : Bool) (j : Int) : rng1 [(q, .fz (.int j))] = if okR j = true then some (rngD 0 j.toNat) else none := rfl
@[simp] theorem rng2_eq (q q' : Bool) (i j : Int) : rng2 [(q, .fz (.int i)), (q', .fz (.int j))] = if (okR i && okR j) = true then some (rngD i (j - i).toNat) else none := rfl
@[simp] theorem eLc_eq (T : Tg) (its : Env → Rz (List PyData)) (tt : Env → Rz Bool) (f : Ev) (vs : List Nat) (e : Env) : eLc T its tt f vs e = (match its e with
  | .ok ds => if ds.length ≤ sizeLine then (match lcL T tt f (wipeE e vs) ds with
    | some os => .ok (true, .ls os)
    | none => .bad) else .bad
  | .ex x => .ex x
  | .bad => .bad) := rfl
@[simp] theorem wipeE_nil (e : Env) : wipeE e [] = e := rfl
@[simp] theorem wipeE_cons (e : Env) (v : Nat) (vs : List Nat) : wipeE e (v :: vs) = (wipeE e vs).set v none := rfl
@[simp] theorem lcL_nil (T : Tg) (tt : Env → Rz Bool) (f : Ev) (e : Env) : lcL T tt f e [] = some [] := rfl
theorem lcL_cons (T : Tg) (tt : Env → Rz Bool) (f : Ev) (e : Env) (d : PyData) (ds : List PyData) : lcL T tt f e (d :: ds) = (match T.app d e with
    | none => none
    | some e1 => match tt e1 with
      | .ok true => match f e1 with
        | .ok (true, o) => (lcL T tt f e ds).map (o :: ·)
        | _ => none
      | .ok false => lcL T tt f e ds
      | _ => none) := rfl
@[simp] theorem tYes_eq (e : Env) : tYes' e = .ok true := rfl
-- operators on numbers
@[simp] theorem addO_int (i j : Int) : addO (.fz (.int i)) (.fz (.int j)) = some (.fz (.int (i + j))) := rfl
@[simp] theorem subO_int (i j : Int) : subO (.fz (.int i)) (.fz (.int j)) = some (.fz (.int (i - j))) := rfl
theorem mulO_int (i j : Int) : mulO (.fz (.int i)) (.fz (.int j)) = (if i.natAbs < 2 ^ 63 ∨ j.natAbs < 2 ^ 63 ∨ (i.natAbs < 2 ^ 2000 ∧ j.natAbs < 2 ^ 2000) then some (PyData.int (i * j)) else none).map .fz := rfl
theorem mulO_l (i j : Int) (h : i.natAbs < 2 ^ 63) : mulO (.fz (.int i)) (.fz (.int j)) = some (.fz (.int (i * j))) := by rw [mulO_int, if_pos (.inl h)]; rfl
theorem mulO_r (i j : Int) (h : j.natAbs < 2 ^ 63) : mulO (.fz (.int i)) (.fz (.int j)) = some (.fz (.int (i * j))) := by rw [mulO_int, if_pos (.inr (.inl h))]; rfl
theorem mulO_w (i j : Int) (h : i.natAbs < 2 ^ 2000) (h' : j.natAbs < 2 ^ 2000) : mulO (.fz (.int i)) (.fz (.int j)) = some (.fz (.int (i * j))) := by rw [mulO_int, if_pos (.inr (.inr ⟨h, h'⟩))]; rfl
theorem fdivO_int (i j : Int) (h : 0 < j) (h' : j.natAbs < 2 ^ 2000) : fdivO (.fz (.int i)) (.fz (.int j)) = some (.fz (.int (i / j))) := by
  show (if 0 < j ∧ j.natAbs < 2 ^ 2000 then some (PyData.int (i / j)) else none).map O.fz = _
  rw [if_pos ⟨h, h'⟩]; rfl
theorem modO_int (i j : Int) (h : 0 < j) : modO (.fz (.int i)) (.fz (.int j)) = some (.fz (.int (i % j))) := by
  show (if 0 < j then some (PyData.int (i % j)) else none).map O.fz = _
  rw [if_pos h]; rfl
theorem powO_int (i j : Int) (h : 0 ≤ j ∧ j ≤ 1000 ∧ i.natAbs < 2 ^ 63) : powO (.fz (.int i)) (.fz (.int j)) = some (.fz (.int (i ^ j.toNat))) := by
  show (if 0 ≤ j ∧ j ≤ 1000 ∧ i.natAbs < 2 ^ 63 then some (PyData.int (i ^ j.toNat)) else none).map O.fz = _
  rw [if_pos h]; rfl
@[simp] theorem ltO_int (i j : Int) : ltO (.fz (.int i)) (.fz (.int j)) = some (.fz (.bool (decide (i < j)))) := rfl
@[simp] theorem leO_int (i j : Int) : leO (.fz (.int i)) (.fz (.int j)) = some (.fz (.bool (decide (i ≤ j)))) := rfl
@[simp] theorem gtO_int (i j : Int) : gtO (.fz (.int i)) (.fz (.int j)) = some (.fz (.bool (decide (j < i)))) := rfl
@[simp] theorem geO_int (i j : Int) : geO (.fz (.int i)) (.fz (.int j)) = some (.fz (.bool (decide (j ≤ i)))) := rfl
@[simp] theorem negO_int (i : Int) : negO (.fz (.int i)) = some (.fz (.int (-i))) := rfl
@[simp] theorem lenO_list (ds : List PyData) : lenO [.fz (.list ds)] = some (.fz (.int ds.length)) := rfl
@[simp] theorem lenO_tup (ds : List PyData) : lenO [.fz (.tuple ds)] = some (.fz (.int ds.length)) := rfl
@[simp] theorem lenO_ls (os : List O) : lenO [.ls os] = some (.fz (.int (O.toDs os).length)) := rfl
@[simp] theorem toInt_i (i : Int) : toInt [.fz (.int i)] = some (.fz (.int i)) := rfl
@[simp] theorem toInt_b (b : Bool) : toInt [.fz (.bool b)] = some (.fz (.int (if b then 1 else 0))) := rfl
theorem eqO_int (i j : Int) : eqO (.fz (.int i)) (.fz (.int j)) = some (.fz (.bool (i == j))) := by
  show (if dpOk (.int i) (.int j) = true then _ else _) = _
  rw [if_pos (by unfold dpOk; simp [PyData.depth])]; simp [PyData.eqv]
theorem neO_int (i j : Int) : neO (.fz (.int i)) (.fz (.int j)) = some (.fz (.bool (!(i == j)))) := by
  show (if dpOk (.int i) (.int j) = true then _ else _) = _
  rw [if_pos (by unfold dpOk; simp [PyData.depth])]; simp [PyData.eqv]
theorem atI_nat' {α : Type} (xs : List α) (k : Nat) : atI xs (k : Int) = xs[k]? := by
  unfold atI ixN
  rw [if_pos (Int.natCast_nonneg k)]
  by_cases h : k < xs.length
  · rw [if_pos (by omega)]; simp
  · rw [if_neg (by omega), List.getElem?_eq_none (by omega)]; rfl
@[simp] theorem atI_zero {α : Type} (xs : List α) : atI xs 0 = xs[0]? := atI_nat' xs 0
@[simp] theorem atI_1 {α : Type} (xs : List α) : atI xs 1 = xs[1]? := atI_nat' xs 1
@[simp] theorem atI_2 {α : Type} (xs : List α) : atI xs 2 = xs[2]? := atI_nat' xs 2
@[simp] theorem atI_3 {α : Type} (xs : List α) : atI xs 3 = xs[3]? := atI_nat' xs 3
@[simp] theorem atI_4 {α : Type} (xs : List α) : atI xs 4 = xs[4]? := atI_nat' xs 4
@[simp] theorem atI_5 {α : Type} (xs : List α) : atI xs 5 = xs[5]? := atI_nat' xs 5
@[simp] theorem atI_6 {α : Type} (xs : List α) : atI xs 6 = xs[6]? := atI_nat' xs 6
@[simp] theorem atI_7 {α : Type} (xs : List α) : atI xs 7 = xs[7]? := atI_nat' xs 7
@[simp] theorem atI_8 {α : Type} (xs : List α) : atI xs 8 = xs[8]? := atI_nat' xs 8
@[simp] theorem atI_9 {α : Type} (xs : List α) : atI xs 9 = xs[9]? := atI_nat' xs 9
@[simp] theorem atI_10 {α : Type} (xs : List α) : atI xs 10 = xs[10]? := atI_nat' xs 10
@[simp] theorem atI_last' {α : Type} (xs : List α) : atI xs (-1) = xs.getLast? := by
  rw [List.getLast?_eq_getElem?]
  unfold atI ixN
  rw [if_neg (by decide)]
  cases xs with
  | nil => rfl
  | cons x xs =>
    have e1 : (-((x :: xs).length : Int)) ≤ -1 := by rw [List.length_cons]; omega
    have e2 : (-1 + ((x :: xs).length : Int)).toNat = (x :: xs).length - 1 := by rw [List.length_cons]; omega
    rw [if_pos e1, e2]; rfl
@[simp] theorem idxR_list (q : Bool) (ds : List PyData) (i : Int) : idxR (q, .fz (.list ds)) (.fz (.int i)) = (atI ds i).map fun d => (true, .fz d) := rfl
@[simp] theorem idxR_tup (q : Bool) (ds : List PyData) (i : Int) : idxR (q, .fz (.tuple ds)) (.fz (.int i)) = (atI ds i).map fun d => (true, .fz d) := rfl
@[simp] theorem idxR_ls (q : Bool) (os : List O) (i : Int) : idxR (q, .ls os) (.fz (.int i)) = (atI os i).bind (itemO q) := rfl
@[simp] theorem idxR_tp (q : Bool) (os : List O) (i : Int) : idxR (q, .tp os) (.fz (.int i)) = (atI os i).bind (itemO q) := rfl
@[simp] theorem itemO_fz (q : Bool) (d : PyData) : itemO q (.fz d) = some (true, .fz d) := rfl
@[simp] theorem itemO_ls (os : List O) : itemO false (.ls os) = some (false, .ls os) := rfl
@[simp] theorem itemO_tp (os : List O) : itemO false (.tp os) = some (false, .tp os) := rfl
end Pu

end

-- K24D
section
set_option Elab.async false
set_option linter.all false
set_option maxRecDepth 100000
set_option maxHeartbeats 4000000
namespace Law
open PySem L2 Pu
def b__law_number : Blk :=
  (sSq (sFz 2 (eIx (eLst [(eC (.int 3)), (e2 powO (eC (.int 10)) (eC (.int 20))), (e2 powO (eC (.int 10)) (eC (.int 58)))]) (e2 modO (eV 0) (eC (.int 3)))))
  (sSq (sIf (tst (e2 eqO (e2 modO (e2 fdivO (eV 0) (eC (.int 3))) (eC (.int 2))) (eC (.int 0)))) (sRet (e2 subO (e2 modO (e2 fdivO (eV 0) (eC (.int 6))) (e2 addO (e2 mulO (eC (.int 2)) (eV 2)) (eC (.int 1)))) (eV 2))) sNil)
  (sSq (sFz 3 (e2 addO (e2 addO (e2 addO (e2 modO (e2 fdivO (eV 0) (eC (.int 3))) (e2 powO (eC (.int 10)) (eC (.int 58)))) (e2 mulO (e2 mulO (eC (.int 7)) (eV 1)) (eV 1))) (eV 1)) (eC (.int 1))))
  (sSq (sFor (.n 4) (iArg rng1 [(e2 addO (eC (.int 3)) (eV 1))]) (sFz 3 (e2 modO (e2 mulO (eV 3) (e2 powO (eC (.int 48271)) (eC (.int 3)))) (e2 addO (e2 powO (eC (.int 10)) (eC (.int 60))) (eC (.int 7))))))
  (sRet (e2 subO (e2 modO (eV 3) (e2 addO (e2 mulO (eC (.int 2)) (eV 2)) (eC (.int 1)))) (eV 2)))))))
def f__law_number (l : List PyData) : Option O := runB 5 b__law_number l
def b__law_cell_at : Blk :=
  (sSq (sIf (tst (e2 ltO (eV 1) (eB lenO [(eV 0)]))) (sRet (eIx (eV 0) (eV 1))) sNil)
  (sRet (eC (.int 0))))
def f__law_cell_at (l : List PyData) : Option O := runB 2 b__law_cell_at l
def b__law_point : Blk :=
  (sRet (eTup [(eCall f__law_number [(eCall f__law_cell_at [(eV 0), (e2 mulO (eC (.int 2)) (eV 1))]), (eV 1)]), (eCall f__law_number [(eCall f__law_cell_at [(eV 0), (e2 addO (e2 mulO (eC (.int 2)) (eV 1)) (eC (.int 1)))]), (e2 addO (eV 1) (eC (.int 5)))])]))
def f__law_point (l : List PyData) : Option O := runB 2 b__law_point l
def b__law_third : Blk :=
  (sSq (sFz 3 (eCall f__law_cell_at [(eV 2), (eC (.int 6))]))
  (sSq (sFz 4 (e2 subO (e2 modO (e2 fdivO (eV 3) (eC (.int 9))) (eC (.int 11))) (eC (.int 5))))
  (sSq (sFz 5 (eTup [(e2 addO (eIx (eV 0) (eC (.int 0))) (e2 mulO (eV 4) (e2 subO (eIx (eV 1) (eC (.int 0))) (eIx (eV 0) (eC (.int 0)))))), (e2 addO (eIx (eV 0) (eC (.int 1))) (e2 mulO (eV 4) (e2 subO (eIx (eV 1) (eC (.int 1))) (eIx (eV 0) (eC (.int 1))))))]))
  (sSq (sIf (tst (e2 eqO (e2 modO (eV 3) (eC (.int 3))) (eC (.int 0)))) (sRet (eCall f__law_point [(eV 2), (eC (.int 2))])) sNil)
  (sSq (sIf (tst (e2 eqO (e2 modO (eV 3) (eC (.int 3))) (eC (.int 1)))) (sRet (eV 5)) sNil)
  (sRet (eTup [(e2 subO (e2 addO (eIx (eV 5) (eC (.int 0))) (e2 modO (e2 fdivO (eV 3) (eC (.int 3))) (eC (.int 3)))) (eC (.int 1))), (e2 addO (eIx (eV 5) (eC (.int 1))) (eC (.int 1)))])))))))
def f__law_third (l : List PyData) : Option O := runB 6 b__law_third l
def b__law_sign : Blk :=
  (sSq (sFz 3 (e2 subO (e2 mulO (eIx (eV 0) (eC (.int 0))) (eIx (eV 1) (eC (.int 1)))) (e2 mulO (eIx (eV 1) (eC (.int 0))) (eIx (eV 0) (eC (.int 1))))))
  (sSq (sFz 3 (e2 subO (e2 addO (eV 3) (e2 mulO (eIx (eV 1) (eC (.int 0))) (eIx (eV 2) (eC (.int 1))))) (e2 mulO (eIx (eV 2) (eC (.int 0))) (eIx (eV 1) (eC (.int 1))))))
  (sSq (sFz 3 (e2 subO (e2 addO (eV 3) (e2 mulO (eIx (eV 2) (eC (.int 0))) (eIx (eV 0) (eC (.int 1))))) (e2 mulO (eIx (eV 0) (eC (.int 0))) (eIx (eV 2) (eC (.int 1))))))
  (sRet (e2 subO (eB toInt [(e2 gtO (eV 3) (eC (.int 0)))]) (eB toInt [(e2 ltO (eV 3) (eC (.int 0)))]))))))
def f__law_sign (l : List PyData) : Option O := runB 4 b__law_sign l
def b_side_of : Blk :=
  (sSq (sFz 3 (e2 subO (e2 mulO (e2 subO (eIx (eV 1) (eC (.int 0))) (eIx (eV 0) (eC (.int 0)))) (e2 subO (eIx (eV 2) (eC (.int 1))) (eIx (eV 0) (eC (.int 1))))) (e2 mulO (e2 subO (eIx (eV 2) (eC (.int 0))) (eIx (eV 0) (eC (.int 0)))) (e2 subO (eIx (eV 1) (eC (.int 1))) (eIx (eV 0) (eC (.int 1)))))))
  (sSq (sIf (tst (e2 gtO (eV 3) (eC (.int 0)))) (sRet (eC (.int 1))) sNil)
  (sSq (sIf (tst (e2 ltO (eV 3) (eC (.int 0)))) (sRet (e1 negO (eC (.int 1)))) sNil)
  (sRet (eC (.int 0))))))
def f_side_of (l : List PyData) : Option O := runB 4 b_side_of l
def b__law_whole : Blk :=
  (sRet (eAn (eIs PyData.isInt (eV 0)) (eNo (eIs PyData.isBool (eV 0)))))
def f__law_whole (l : List PyData) : Option O := runB 1 b__law_whole l
def b_law : Blk :=
  (sSq (sFz 1 (eCall f__law_point [(eV 0), (eC (.int 0))]))
  (sSq (sFz 2 (eCall f__law_point [(eV 0), (eC (.int 1))]))
  (sSq (sFz 3 (eCall f__law_third [(eV 1), (eV 2), (eV 0)]))
  (sSq (sFz 4 (eCall f__law_sign [(eV 1), (eV 2), (eV 3)]))
  (sSq (sFz 5 (eCall f__law_point [(eV 0), (eC (.int 4))]))
  (sSq (sFz 6 (eLc (.t [(.n 12), (.n 13)]) (iSeq (eTup [(eV 1), (eV 2), (eV 3)])) tYes' (eTup [(e2 addO (eV 12) (eIx (eV 5) (eC (.int 0)))), (e2 addO (eV 13) (eIx (eV 5) (eC (.int 1))))]) [12, 13]))
  (sSq (sFor (.t [(.n 7), (.n 8), (.n 9), (.n 10)]) (iSeq (eTup [(eTup [(eV 1), (eV 2), (eV 3), (eV 4)]), (eTup [(eV 2), (eV 3), (eV 1), (eV 4)]), (eTup [(eV 2), (eV 1), (eV 3), (e2 subO (eC (.int 0)) (eV 4))])])) (sSq (sFz 11 (eCall f_side_of [(eV 7), (eV 8), (eV 9)]))
  (sIf (tOr' (tNo (tst (eCall f__law_whole [(eV 11)]))) (tst (e2 neO (eV 11) (eV 10)))) (sRet (eC (.bool false))) sNil)))
  (sRet (e2 eqO (eCall f_side_of [(eIx (eV 6) (eC (.int 0))), (eIx (eV 6) (eC (.int 1))), (eIx (eV 6) (eC (.int 2)))]) (eV 4))))))))))
def f_law (l : List PyData) : Option O := runB 14 b_law l
end Law

end

-- K24M
section
set_option linter.all false
set_option maxRecDepth 100000
set_option maxHeartbeats 4000000
set_option exponentiation.threshold 3000
namespace Law
open PySem L2 Pu
theorem cell_at (ns : List Int) (k : Nat) : f__law_cell_at [.list (ns.map .int), .int k] = some (.fz (.int (ns.getD k 0))) := by
  unfold f__law_cell_at runB b__law_cell_at
  by_cases h : k < ns.length
  · simp [startE, h, atI_nat']
  · simp [startE, h]
def numBody : Blk := (sFz 3 (e2 modO (e2 mulO (eV 3) (e2 powO (eC (.int 48271)) (eC (.int 3)))) (e2 addO (e2 powO (eC (.int 10)) (eC (.int 60))) (eC (.int 7)))))
theorem pow1 : powO (.fz (.int 48271)) (.fz (.int 3)) = some (.fz (.int (48271 ^ 3))) := powO_int _ _ (by decide)
theorem pow2 : powO (.fz (.int 10)) (.fz (.int 60)) = some (.fz (.int (10 ^ 60))) := powO_int _ _ (by decide)
theorem pow3 : powO (.fz (.int 10)) (.fz (.int 20)) = some (.fz (.int (10 ^ 20))) := powO_int _ _ (by decide)
theorem pow4 : powO (.fz (.int 10)) (.fz (.int 58)) = some (.fz (.int (10 ^ 58))) := powO_int _ _ (by decide)
theorem num_loop (c k z : PyData) : ∀ (ds : List PyData) (n : Int) (x : Option O), ∃ m y, forL (.n 4) numBody ds [some (.fz c), some (.fz k), some (.fz z), some (.fz (.int n)), x] = .nx [some (.fz c), some (.fz k), some (.fz z), some (.fz (.int m)), y]
  | [], n, x => ⟨n, x, rfl⟩
  | d :: ds, n, x => by
    obtain ⟨m, y, h⟩ := num_loop c k z ds (n * 48271 ^ 3 % (10 ^ 60 + 7)) (some (.fz d))
    refine ⟨m, y, ?_⟩
    rw [forL_cons, ← h]
    simp [numBody, pow1, pow2, mulO_r, modO_int]
theorem size_at (c : Int) : ∃ z : Int, 0 < z ∧ z ≤ 10 ^ 58 ∧ ([PyData.int 3, .int 100000000000000000000, .int 10000000000000000000000000000000000000000000000000000000000] : List PyData)[(c % 3).toNat]? = some (.int z) ∧ atI [O.fz (.int 3), .fz (.int 100000000000000000000), .fz (.int 10000000000000000000000000000000000000000000000000000000000)] (c % 3) = some (.fz (.int z)) := by
  have h : c % 3 = 0 ∨ c % 3 = 1 ∨ c % 3 = 2 := by omega
  rcases h with h | h | h <;> rw [h]
  · exact ⟨3, by decide, by decide, rfl, rfl⟩
  · exact ⟨100000000000000000000, by decide, by decide, rfl, rfl⟩
  · exact ⟨10000000000000000000000000000000000000000000000000000000000, by decide, by decide, rfl, rfl⟩
theorem emod_abs {x z : Int} (h0 : 0 < z) (h1 : z ≤ 10 ^ 58) : (x % (2 * z + 1) - z).natAbs ≤ 10 ^ 58 := by
  have a := Int.emod_nonneg x (show 2 * z + 1 ≠ 0 by omega)
  have b := Int.emod_lt_of_pos x (show 0 < 2 * z + 1 by omega)
  omega
theorem number (c k : Int) (h0 : 0 ≤ k) (h1 : k ≤ 20) : ∃ n : Int, f__law_number [.int c, .int k] = some (.fz (.int n)) ∧ n.natAbs ≤ 10 ^ 58 := by
  obtain ⟨z, z0, z1, _, hz⟩ := size_at c
  have m3 : modO (.fz (.int c)) (.fz (.int 3)) = some (.fz (.int (c % 3))) := modO_int _ _ (by decide)
  have d3 : fdivO (.fz (.int c)) (.fz (.int 3)) = some (.fz (.int (c / 3))) := fdivO_int _ _ (by decide) (by decide)
  have d6 : fdivO (.fz (.int c)) (.fz (.int 6)) = some (.fz (.int (c / 6))) := fdivO_int _ _ (by decide) (by decide)
  have m2 : mulO (.fz (.int 2)) (.fz (.int z)) = some (.fz (.int (2 * z))) := mulO_l _ _ (by decide)
  have mm : ∀ x, modO (.fz (.int x)) (.fz (.int (2 * z + 1))) = some (.fz (.int (x % (2 * z + 1)))) := fun x => modO_int _ _ (by omega)
  have m7 : mulO (.fz (.int 7)) (.fz (.int k)) = some (.fz (.int (7 * k))) := mulO_l _ _ (by decide)
  have m8 : mulO (.fz (.int (7 * k))) (.fz (.int k)) = some (.fz (.int (7 * k * k))) := mulO_l _ _ (by omega)
  have m9 : ∀ x, modO (.fz (.int x)) (.fz (.int 2)) = some (.fz (.int (x % 2))) := fun x => modO_int _ _ (by decide)
  have m10 : ∀ x, modO (.fz (.int x)) (.fz (.int 10000000000000000000000000000000000000000000000000000000000)) = some (.fz (.int (x % 10000000000000000000000000000000000000000000000000000000000))) := fun x => modO_int _ _ (by decide)
  have ok : okR (3 + k) = true := by unfold okR; exact decide_eq_true (by omega)
  unfold f__law_number runB b__law_number
  by_cases h : c / 3 % 2 = 0
  · refine ⟨_, ?_, emod_abs (x := c / 6) z0 z1⟩
    simp [startE, pow3, pow4, m3, d3, d6, m9, hz, eqO_int, h, m2, mm]
  · obtain ⟨m, y, hl⟩ := num_loop (.int c) (.int k) (.int z) (rngD 0 (3 + k).toNat) (c / 3 % 10 ^ 58 + 7 * k * k + k + 1) none
    refine ⟨_, ?_, emod_abs (x := m) z0 z1⟩
    have hl' := hl
    unfold numBody at hl'
    simp [startE, pow3, pow4, m3, d3, d6, m9, hz, eqO_int, h, m2, mm, m7, m8, m10, ok] at hl' ⊢
    simp [hl', mm, m2]
/-- a point of two numbers -/
def pt (x y : Int) : PyData := .tuple [.int x, .int y]
theorem point (ns : List Int) (k : Int) (h0 : 0 ≤ k) (h1 : k ≤ 10) : ∃ x y : Int, f__law_point [.list (ns.map .int), .int k] = some (.fz (pt x y)) ∧ x.natAbs ≤ 10 ^ 58 ∧ y.natAbs ≤ 10 ^ 58 := by
  obtain ⟨n, rfl⟩ : ∃ n : Nat, k = n := ⟨k.toNat, by omega⟩
  have c1 := cell_at ns (2 * n)
  have c2 := cell_at ns (2 * n + 1)
  obtain ⟨x, hx, bx⟩ := number (ns.getD (2 * n) 0) n h0 (by omega)
  obtain ⟨y, hy, by'⟩ := number (ns.getD (2 * n + 1) 0) (n + 5) (by omega) (by omega)
  have m2 : mulO (.fz (.int 2)) (.fz (.int n)) = some (.fz (.int (2 * n))) := mulO_l _ _ (by decide)
  refine ⟨x, y, ?_, bx, by'⟩
  unfold f__law_point runB b__law_point
  have e1 : ((2 * n : Nat) : Int) = 2 * (n : Int) := by omega
  have e2 : ((2 * n + 1 : Nat) : Int) = 2 * (n : Int) + 1 := by omega
  rw [e1] at c1
  rw [e2] at c2
  generalize ns.getD (2 * n) 0 = p at c1 hx
  generalize ns.getD (2 * n + 1) 0 = q at c2 hy
  simp [startE, m2, c1, c2, hx, hy, pt]
theorem third (ns : List Int) (ax ay bx by' : Int) (h1 : ax.natAbs ≤ 10 ^ 58) (h2 : ay.natAbs ≤ 10 ^ 58) (h3 : bx.natAbs ≤ 10 ^ 58) (h4 : by'.natAbs ≤ 10 ^ 58) :
    ∃ x y : Int, f__law_third [pt ax ay, pt bx by', .list (ns.map .int)] = some (.fz (pt x y)) ∧ x.natAbs ≤ 10 ^ 61 ∧ y.natAbs ≤ 10 ^ 61 := by
  have c := cell_at ns 6
  obtain ⟨x, y, hp, b1, b2⟩ := point ns 2 (by decide) (by decide)
  generalize ns.getD 6 0 = c6 at c
  have d9 : fdivO (.fz (.int c6)) (.fz (.int 9)) = some (.fz (.int (c6 / 9))) := fdivO_int _ _ (by decide) (by decide)
  have d3 : fdivO (.fz (.int c6)) (.fz (.int 3)) = some (.fz (.int (c6 / 3))) := fdivO_int _ _ (by decide) (by decide)
  have m11 : ∀ x, modO (.fz (.int x)) (.fz (.int 11)) = some (.fz (.int (x % 11))) := fun x => modO_int _ _ (by decide)
  have m3 : ∀ x, modO (.fz (.int x)) (.fz (.int 3)) = some (.fz (.int (x % 3))) := fun x => modO_int _ _ (by decide)
  have mu : ∀ x, mulO (.fz (.int (c6 / 9 % 11 - 5))) (.fz (.int x)) = some (.fz (.int ((c6 / 9 % 11 - 5) * x))) := fun x => mulO_l _ _ (by omega)
  have bd : ∀ p q : Int, p.natAbs ≤ 10 ^ 58 → q.natAbs ≤ 10 ^ 58 → (p + (c6 / 9 % 11 - 5) * (q - p)).natAbs ≤ 10 ^ 60 := fun p q hp hq => by
    have g1 : (c6 / 9 % 11 - 5).natAbs ≤ 5 := by omega
    have g2 : (q - p).natAbs ≤ 2 * 10 ^ 58 := by omega
    have g3 : ((c6 / 9 % 11 - 5) * (q - p)).natAbs ≤ 5 * (2 * 10 ^ 58) := by
      rw [Int.natAbs_mul]
      exact Nat.mul_le_mul g1 g2
    omega
  have B1 := bd ax bx h1 h3
  have B2 := bd ay by' h2 h4
  unfold f__law_third runB b__law_third
  by_cases q0 : c6 % 3 = 0
  · refine ⟨x, y, ?_, by omega, by omega⟩
    have c' : f__law_cell_at [PyData.list (List.map PyData.int ns), PyData.int 6] = some (O.fz (PyData.int c6)) := c
    unfold pt at hp
    simp [startE, c', d9, d3, m11, m3, mu, pt, eqO_int, q0, hp]
  · have c' : f__law_cell_at [PyData.list (List.map PyData.int ns), PyData.int 6] = some (O.fz (PyData.int c6)) := c
    by_cases q1 : c6 % 3 = 1
    · refine ⟨_, _, ?_, Nat.le_trans B1 (by decide), Nat.le_trans B2 (by decide)⟩
      simp [startE, c', d9, d3, m11, m3, mu, pt, eqO_int, q1]
    · refine ⟨ax + (c6 / 9 % 11 - 5) * (bx - ax) + c6 / 3 % 3 - 1, ay + (c6 / 9 % 11 - 5) * (by' - ay) + 1, ?_, by omega, by omega⟩
      simp [startE, c', d9, d3, m11, m3, mu, pt, eqO_int, q0, q1]
def sgn (t : Int) : Int := if 0 < t then 1 else if t < 0 then -1 else 0
def turn (ax ay bx by' cx cy : Int) : Int := (bx - ax) * (cy - ay) - (cx - ax) * (by' - ay)
theorem mulW {i j : Int} (hi : i.natAbs < 10 ^ 70) (hj : j.natAbs < 10 ^ 70) : mulO (.fz (.int i)) (.fz (.int j)) = some (.fz (.int (i * j))) :=
  mulO_w _ _ (Nat.lt_of_lt_of_le hi (by decide)) (Nat.lt_of_lt_of_le hj (by decide))
theorem side (ax ay bx by' cx cy : Int) (h1 : ax.natAbs ≤ 10 ^ 62) (h2 : ay.natAbs ≤ 10 ^ 62) (h3 : bx.natAbs ≤ 10 ^ 62) (h4 : by'.natAbs ≤ 10 ^ 62) (h5 : cx.natAbs ≤ 10 ^ 62) (h6 : cy.natAbs ≤ 10 ^ 62) :
    f_side_of [pt ax ay, pt bx by', pt cx cy] = some (.fz (.int (sgn (turn ax ay bx by' cx cy)))) := by
  have m1 : mulO (.fz (.int (bx - ax))) (.fz (.int (cy - ay))) = some (.fz (.int ((bx - ax) * (cy - ay)))) := mulW (by omega) (by omega)
  have m2 : mulO (.fz (.int (cx - ax))) (.fz (.int (by' - ay))) = some (.fz (.int ((cx - ax) * (by' - ay)))) := mulW (by omega) (by omega)
  unfold f_side_of runB b_side_of
  have e : (bx - ax) * (cy - ay) - (cx - ax) * (by' - ay) = turn ax ay bx by' cx cy := rfl
  simp [startE, pt, m1, m2, e]
  generalize turn ax ay bx by' cx cy = t
  unfold sgn
  by_cases p : 0 < t
  · simp [p]
  · by_cases q : t < 0
    · simp [p, q]
    · simp [p, q]
theorem turn_area (ax ay bx by' cx cy : Int) : ax * by' - bx * ay + bx * cy - cx * by' + cx * ay - ax * cy = turn ax ay bx by' cx cy := by
  unfold turn
  grind
theorem signs (ax ay bx by' cx cy : Int) (h1 : ax.natAbs ≤ 10 ^ 62) (h2 : ay.natAbs ≤ 10 ^ 62) (h3 : bx.natAbs ≤ 10 ^ 62) (h4 : by'.natAbs ≤ 10 ^ 62) (h5 : cx.natAbs ≤ 10 ^ 62) (h6 : cy.natAbs ≤ 10 ^ 62) :
    f__law_sign [pt ax ay, pt bx by', pt cx cy] = some (.fz (.int (sgn (turn ax ay bx by' cx cy)))) := by
  have m1 : mulO (.fz (.int ax)) (.fz (.int by')) = some (.fz (.int (ax * by'))) := mulW (by omega) (by omega)
  have m2 : mulO (.fz (.int bx)) (.fz (.int ay)) = some (.fz (.int (bx * ay))) := mulW (by omega) (by omega)
  have m3 : mulO (.fz (.int bx)) (.fz (.int cy)) = some (.fz (.int (bx * cy))) := mulW (by omega) (by omega)
  have m4 : mulO (.fz (.int cx)) (.fz (.int by')) = some (.fz (.int (cx * by'))) := mulW (by omega) (by omega)
  have m5 : mulO (.fz (.int cx)) (.fz (.int ay)) = some (.fz (.int (cx * ay))) := mulW (by omega) (by omega)
  have m6 : mulO (.fz (.int ax)) (.fz (.int cy)) = some (.fz (.int (ax * cy))) := mulW (by omega) (by omega)
  unfold f__law_sign runB b__law_sign
  simp [startE, pt, m1, m2, m3, m4, m5, m6, turn_area]
  generalize turn ax ay bx by' cx cy = t
  unfold sgn
  by_cases p : 0 < t
  · simp [p, show ¬ t < 0 by omega]
  · by_cases q : t < 0
    · simp [p, q]
    · simp [p, q]
theorem whole (n : Int) : f__law_whole [.int n] = some (.fz (.bool true)) := by
  unfold f__law_whole runB b__law_whole
  simp [startE, PyData.isInt, PyData.isBool]
theorem turn_cyc (ax ay bx by' cx cy : Int) : turn bx by' cx cy ax ay = turn ax ay bx by' cx cy := by unfold turn; grind
theorem turn_swap (ax ay bx by' cx cy : Int) : turn bx by' ax ay cx cy = -turn ax ay bx by' cx cy := by unfold turn; grind
theorem turn_move (ax ay bx by' cx cy u v : Int) : turn (ax + u) (ay + v) (bx + u) (by' + v) (cx + u) (cy + v) = turn ax ay bx by' cx cy := by unfold turn; grind
theorem sgn_neg (t : Int) : sgn (-t) = 0 - sgn t := by unfold sgn; split <;> split <;> (try split) <;> (try split) <;> omega
theorem main_law (ns : List Int) (hl : ns.length ≤ 63) (hb : ∀ z ∈ ns, Builtin.Int.intBits z ≤ 1048576) : f_law [.list (ns.map .int)] = some (.fz (.bool true)) := by
  obtain ⟨ax, ay, ha, a1, a2⟩ := point ns 0 (by decide) (by decide)
  obtain ⟨bx, by', hb', b1, b2⟩ := point ns 1 (by decide) (by decide)
  obtain ⟨cx, cy, hc, c1, c2⟩ := third ns ax ay bx by' a1 a2 b1 b2
  obtain ⟨u, v, hs, s1, s2⟩ := point ns 4 (by decide) (by decide)
  have S := signs ax ay bx by' cx cy (by omega) (by omega) (by omega) (by omega) (by omega) (by omega)
  have E1 := side ax ay bx by' cx cy (by omega) (by omega) (by omega) (by omega) (by omega) (by omega)
  have E2 := side bx by' cx cy ax ay (by omega) (by omega) (by omega) (by omega) (by omega) (by omega)
  have E3 := side bx by' ax ay cx cy (by omega) (by omega) (by omega) (by omega) (by omega) (by omega)
  have E4 := side (ax + u) (ay + v) (bx + u) (by' + v) (cx + u) (cy + v) (by omega) (by omega) (by omega) (by omega) (by omega) (by omega)
  rw [turn_cyc] at E2
  rw [turn_swap, sgn_neg] at E3
  rw [turn_move] at E4
  generalize sgn (turn ax ay bx by' cx cy) = t at *
  unfold pt at *
  unfold f_law runB b_law
  simp [startE, ha, hb', hc, hs, S, E1, E2, E3, E4, forL_cons, lcL_cons, whole, eqO_int, neO_int, sizeLine]
end Law

end

-- K24W
section
set_option Elab.async false
set_option linter.all false
set_option maxRecDepth 100000
set_option maxHeartbeats 4000000
namespace Law
open PySem L2 Pu
def top (i : Nat) : Stmt := PySem.Challenge.pw_threetrees_k24_sides_of_points.main.body.getD i (.Pass ⟨0, 0, 0, 0⟩)
abbrev s__law_number : Stmt := top 5
abbrev N__law_number : List Str := ["_law_cell", "_law_k", "_law_size", "_law_number_here", "_law_turn"]
theorem sc__law_number : FnScope N__law_number ["_law_cell", "_law_k"] (defScope s__law_number) := ⟨rfl, rfl, rfl, by decide +kernel, rfl, by decide +kernel, by decide +kernel⟩
abbrev s__law_cell_at : Stmt := top 3
abbrev N__law_cell_at : List Str := ["_law_script", "_law_k"]
theorem sc__law_cell_at : FnScope N__law_cell_at ["_law_script", "_law_k"] (defScope s__law_cell_at) := ⟨rfl, rfl, rfl, by decide +kernel, rfl, by decide +kernel, by decide +kernel⟩
abbrev s__law_point : Stmt := top 6
abbrev N__law_point : List Str := ["_law_script", "_law_k"]
theorem sc__law_point : FnScope N__law_point ["_law_script", "_law_k"] (defScope s__law_point) := ⟨rfl, rfl, rfl, by decide +kernel, rfl, by decide +kernel, by decide +kernel⟩
abbrev s__law_third : Stmt := top 8
abbrev N__law_third : List Str := ["_law_a", "_law_b", "_law_script", "_law_cell", "_law_many", "_law_place"]
theorem sc__law_third : FnScope N__law_third ["_law_a", "_law_b", "_law_script"] (defScope s__law_third) := ⟨rfl, rfl, rfl, by decide +kernel, rfl, by decide +kernel, by decide +kernel⟩
abbrev s__law_sign : Stmt := top 7
abbrev N__law_sign : List Str := ["_law_a", "_law_b", "_law_c", "_law_area"]
theorem sc__law_sign : FnScope N__law_sign ["_law_a", "_law_b", "_law_c"] (defScope s__law_sign) := ⟨rfl, rfl, rfl, by decide +kernel, rfl, by decide +kernel, by decide +kernel⟩
abbrev s_side_of : Stmt := top 1
abbrev N_side_of : List Str := ["a", "b", "c", "turn"]
theorem sc_side_of : FnScope N_side_of ["a", "b", "c"] (defScope s_side_of) := ⟨rfl, rfl, rfl, by decide +kernel, rfl, by decide +kernel, by decide +kernel⟩
abbrev s__law_whole : Stmt := top 4
abbrev N__law_whole : List Str := ["_law_found"]
theorem sc__law_whole : FnScope N__law_whole ["_law_found"] (defScope s__law_whole) := ⟨rfl, rfl, rfl, by decide +kernel, rfl, by decide +kernel, by decide +kernel⟩
abbrev s_law : Stmt := top 9
abbrev N_law : List Str := ["_law_script", "_law_a", "_law_b", "_law_c", "_law_due", "_law_shift", "_law_moved", "_law_one", "_law_two", "_law_three", "_law_sign_here", "_law_found", "_law_x", "_law_y"]
theorem sc_law : FnScope N_law ["_law_script"] (defScope s_law) := ⟨rfl, rfl, rfl, by decide +kernel, rfl, by decide +kernel, by decide +kernel⟩
structure Txt (K : PySem.W.Frag) (mg : Str → Option Value) : Prop where
  n_bool : mg "bool" = none
  n_int : mg "int" = none
  n_isinstance : mg "isinstance" = none
  n_len : mg "len" = none
  n_range : mg "range" = none
  ok : True
section
variable {P : Program} {w : World} {K : PySem.W.Frag} {mg : Str → Option Value} {base : Heap}
structure At (K : PySem.W.Frag) (mg : Str → Option Value) (n : Str) (st : Stmt) (ps : List Str) (f : Addr) (fd : FuncData) : Prop where
  F : Fun K n n st f fd
  m : mg n = some (.ref f)
  b : Binds K fd ps []
theorem ok__law_number (T : Txt K mg)  {a : Addr} {d : FuncData} (A : At K mg "_law_number" s__law_number ["_law_cell", "_law_k"] a d) : FnOk P w K mg base CX0 1 a d ["_law_cell", "_law_k"] (spP K 2 f__law_number) :=
  fn_ok A.F sc__law_number rfl fun cdv A outer s H E hr => by
    have hu := hr.units
    unfold b__law_number
    exact (q_seq (q_fz sc__law_number.nd (q_idx (q_lst (q_cons q_int (q_cons (q_bin o_pow q_int q_int) (q_cons (q_bin o_pow q_int q_int) q_nil)))) (q_bin o_mod (qv 0) q_int) (fun _ _ => rfl)))
      (q_seq (q_sif (q_tcmp (o_eq hu) (q_bin o_mod (q_bin o_fdiv (qv 0) q_int) q_int) q_int (nomark _)) (q_sone (q_ret (q_bin o_sub (q_bin o_mod (q_bin o_fdiv (qv 0) q_int) (q_bin o_add (q_bin o_mul q_int (qv 2)) q_int)) (qv 2)))) q_snil)
      (q_seq (q_fz sc__law_number.nd (q_bin o_add (q_bin o_add (q_bin o_add (q_bin o_mod (q_bin o_fdiv (qv 0) q_int) (q_bin o_pow q_int q_int)) (q_bin o_mul (q_bin o_mul q_int (qv 1)) (qv 1))) (qv 1)) q_int))
      (q_seq (q_for PassesOwn.never rfl (q_rng1 rfl T.n_range (q_cons (q_bin o_add q_int (qv 1)) q_nil)) (g_name sc__law_number.nd) (q_sone (q_fz sc__law_number.nd (q_bin o_mod (q_bin o_mul (qv 3) (q_bin o_pow q_int q_int)) (q_bin o_add (q_bin o_pow q_int q_int) q_int)))))
      (q_sone (q_ret (q_bin o_sub (q_bin o_mod (qv 3) (q_bin o_add (q_bin o_mul q_int (qv 2)) q_int)) (qv 2))))))))
theorem ok__law_cell_at (T : Txt K mg)  {a : Addr} {d : FuncData} (A : At K mg "_law_cell_at" s__law_cell_at ["_law_script", "_law_k"] a d) : FnOk P w K mg base CX0 1 a d ["_law_script", "_law_k"] (spP K 2 f__law_cell_at) :=
  fn_ok A.F sc__law_cell_at rfl fun cdv A outer s H E hr => by
    have hu := hr.units
    unfold b__law_cell_at
    exact (q_seq (q_sif (q_tcmp (o_lt hu) (qv 1) (q_callB c_len (by rfl) T.n_len (by decide +kernel) (q_cons (qv 0) q_nil)) (nomark _)) (q_sone (q_ret (q_idx (qv 0) (qv 1) (fun _ _ => rfl)))) q_snil)
      (q_sone (q_ret q_int)))
theorem ok__law_point (T : Txt K mg) {a__law_number : Addr} {d__law_number : FuncData} (A__law_number : At K mg "_law_number" s__law_number ["_law_cell", "_law_k"] a__law_number d__law_number) (G__law_number : FnOk P w K mg base CX0 1 a__law_number d__law_number ["_law_cell", "_law_k"] (spP K 2 f__law_number)) {a__law_cell_at : Addr} {d__law_cell_at : FuncData} (A__law_cell_at : At K mg "_law_cell_at" s__law_cell_at ["_law_script", "_law_k"] a__law_cell_at d__law_cell_at) (G__law_cell_at : FnOk P w K mg base CX0 1 a__law_cell_at d__law_cell_at ["_law_script", "_law_k"] (spP K 2 f__law_cell_at)) {a : Addr} {d : FuncData} (A : At K mg "_law_point" s__law_point ["_law_script", "_law_k"] a d) : FnOk P w K mg base CX0 2 a d ["_law_script", "_law_k"] (spP K 2 f__law_point) :=
  fn_ok A.F sc__law_point rfl fun cdv A outer s H E hr => by
    have hu := hr.units
    unfold b__law_point
    exact (q_sone (q_ret (q_tup (q_cons (q_call G__law_number (hr.mono (by decide)) rfl A__law_number.m A__law_number.F.kp A__law_number.b (q_cons (q_call G__law_cell_at (hr.mono (by decide)) rfl A__law_cell_at.m A__law_cell_at.F.kp A__law_cell_at.b (q_cons (qv 0) (q_cons (q_bin o_mul q_int (qv 1)) q_nil))) (q_cons (qv 1) q_nil))) (q_cons (q_call G__law_number (hr.mono (by decide)) rfl A__law_number.m A__law_number.F.kp A__law_number.b (q_cons (q_call G__law_cell_at (hr.mono (by decide)) rfl A__law_cell_at.m A__law_cell_at.F.kp A__law_cell_at.b (q_cons (qv 0) (q_cons (q_bin o_add (q_bin o_mul q_int (qv 1)) q_int) q_nil))) (q_cons (q_bin o_add (qv 1) q_int) q_nil))) q_nil)))))
theorem ok__law_third (T : Txt K mg) {a__law_cell_at : Addr} {d__law_cell_at : FuncData} (A__law_cell_at : At K mg "_law_cell_at" s__law_cell_at ["_law_script", "_law_k"] a__law_cell_at d__law_cell_at) (G__law_cell_at : FnOk P w K mg base CX0 1 a__law_cell_at d__law_cell_at ["_law_script", "_law_k"] (spP K 2 f__law_cell_at)) {a__law_point : Addr} {d__law_point : FuncData} (A__law_point : At K mg "_law_point" s__law_point ["_law_script", "_law_k"] a__law_point d__law_point) (G__law_point : FnOk P w K mg base CX0 2 a__law_point d__law_point ["_law_script", "_law_k"] (spP K 2 f__law_point)) {a : Addr} {d : FuncData} (A : At K mg "_law_third" s__law_third ["_law_a", "_law_b", "_law_script"] a d) : FnOk P w K mg base CX0 3 a d ["_law_a", "_law_b", "_law_script"] (spP K 3 f__law_third) :=
  fn_ok A.F sc__law_third rfl fun cdv A outer s H E hr => by
    have hu := hr.units
    unfold b__law_third
    exact (q_seq (q_fz sc__law_third.nd (q_call G__law_cell_at (hr.mono (by decide)) rfl A__law_cell_at.m A__law_cell_at.F.kp A__law_cell_at.b (q_cons (qv 2) (q_cons q_int q_nil))))
      (q_seq (q_fz sc__law_third.nd (q_bin o_sub (q_bin o_mod (q_bin o_fdiv (qv 3) q_int) q_int) q_int))
      (q_seq (q_fz sc__law_third.nd (q_tup (q_cons (q_bin o_add (q_idx (qv 0) q_int (fun _ _ => rfl)) (q_bin o_mul (qv 4) (q_bin o_sub (q_idx (qv 1) q_int (fun _ _ => rfl)) (q_idx (qv 0) q_int (fun _ _ => rfl))))) (q_cons (q_bin o_add (q_idx (qv 0) q_int (fun _ _ => rfl)) (q_bin o_mul (qv 4) (q_bin o_sub (q_idx (qv 1) q_int (fun _ _ => rfl)) (q_idx (qv 0) q_int (fun _ _ => rfl))))) q_nil))))
      (q_seq (q_sif (q_tcmp (o_eq hu) (q_bin o_mod (qv 3) q_int) q_int (nomark _)) (q_sone (q_ret (q_call G__law_point (hr.mono (by decide)) rfl A__law_point.m A__law_point.F.kp A__law_point.b (q_cons (qv 2) (q_cons q_int q_nil))))) q_snil)
      (q_seq (q_sif (q_tcmp (o_eq hu) (q_bin o_mod (qv 3) q_int) q_int (nomark _)) (q_sone (q_ret (qv 5))) q_snil)
      (q_sone (q_ret (q_tup (q_cons (q_bin o_sub (q_bin o_add (q_idx (qv 5) q_int (fun _ _ => rfl)) (q_bin o_mod (q_bin o_fdiv (qv 3) q_int) q_int)) q_int) (q_cons (q_bin o_add (q_idx (qv 5) q_int (fun _ _ => rfl)) q_int) q_nil))))))))))
theorem ok__law_sign (T : Txt K mg)  {a : Addr} {d : FuncData} (A : At K mg "_law_sign" s__law_sign ["_law_a", "_law_b", "_law_c"] a d) : FnOk P w K mg base CX0 1 a d ["_law_a", "_law_b", "_law_c"] (spP K 3 f__law_sign) :=
  fn_ok A.F sc__law_sign rfl fun cdv A outer s H E hr => by
    have hu := hr.units
    unfold b__law_sign
    exact (q_seq (q_fz sc__law_sign.nd (q_bin o_sub (q_bin o_mul (q_idx (qv 0) q_int (fun _ _ => rfl)) (q_idx (qv 1) q_int (fun _ _ => rfl))) (q_bin o_mul (q_idx (qv 1) q_int (fun _ _ => rfl)) (q_idx (qv 0) q_int (fun _ _ => rfl)))))
      (q_seq (q_fz sc__law_sign.nd (q_bin o_sub (q_bin o_add (qv 3) (q_bin o_mul (q_idx (qv 1) q_int (fun _ _ => rfl)) (q_idx (qv 2) q_int (fun _ _ => rfl)))) (q_bin o_mul (q_idx (qv 2) q_int (fun _ _ => rfl)) (q_idx (qv 1) q_int (fun _ _ => rfl)))))
      (q_seq (q_fz sc__law_sign.nd (q_bin o_sub (q_bin o_add (qv 3) (q_bin o_mul (q_idx (qv 2) q_int (fun _ _ => rfl)) (q_idx (qv 0) q_int (fun _ _ => rfl)))) (q_bin o_mul (q_idx (qv 0) q_int (fun _ _ => rfl)) (q_idx (qv 2) q_int (fun _ _ => rfl)))))
      (q_sone (q_ret (q_bin o_sub (q_callTy c_int (by rfl) T.n_int (by decide +kernel) (q_cons (q_cmp (o_gt hu) (qv 3) q_int (nomark _)) q_nil)) (q_callTy c_int (by rfl) T.n_int (by decide +kernel) (q_cons (q_cmp (o_lt hu) (qv 3) q_int (nomark _)) q_nil))))))))
theorem ok_side_of (T : Txt K mg)  {a : Addr} {d : FuncData} (A : At K mg "side_of" s_side_of ["a", "b", "c"] a d) : FnOk P w K mg base CX0 1 a d ["a", "b", "c"] (spP K 3 f_side_of) :=
  fn_ok A.F sc_side_of rfl fun cdv A outer s H E hr => by
    have hu := hr.units
    unfold b_side_of
    exact (q_seq (q_fz sc_side_of.nd (q_bin o_sub (q_bin o_mul (q_bin o_sub (q_idx (qv 1) q_int (fun _ _ => rfl)) (q_idx (qv 0) q_int (fun _ _ => rfl))) (q_bin o_sub (q_idx (qv 2) q_int (fun _ _ => rfl)) (q_idx (qv 0) q_int (fun _ _ => rfl)))) (q_bin o_mul (q_bin o_sub (q_idx (qv 2) q_int (fun _ _ => rfl)) (q_idx (qv 0) q_int (fun _ _ => rfl))) (q_bin o_sub (q_idx (qv 1) q_int (fun _ _ => rfl)) (q_idx (qv 0) q_int (fun _ _ => rfl))))))
      (q_seq (q_sif (q_tcmp (o_gt hu) (qv 3) q_int (nomark _)) (q_sone (q_ret q_int)) q_snil)
      (q_seq (q_sif (q_tcmp (o_lt hu) (qv 3) q_int (nomark _)) (q_sone (q_ret (q_neg q_int))) q_snil)
      (q_sone (q_ret q_int)))))
theorem ok__law_whole (T : Txt K mg)  {a : Addr} {d : FuncData} (A : At K mg "_law_whole" s__law_whole ["_law_found"] a d) : FnOk P w K mg base CX0 1 a d ["_law_found"] (spP K 1 f__law_whole) :=
  fn_ok A.F sc__law_whole rfl fun cdv A outer s H E hr => by
    have hu := hr.units
    unfold b__law_whole
    exact (q_sone (q_ret (q_vand (q_isinst i_int (qv 0) rfl T.n_isinstance rfl T.n_int (by decide +kernel)) (q_one (q_vnot (q_isinst i_bool (qv 0) rfl T.n_isinstance rfl T.n_bool (by decide +kernel)))))))
theorem ok_law (T : Txt K mg) {a__law_point : Addr} {d__law_point : FuncData} (A__law_point : At K mg "_law_point" s__law_point ["_law_script", "_law_k"] a__law_point d__law_point) (G__law_point : FnOk P w K mg base CX0 2 a__law_point d__law_point ["_law_script", "_law_k"] (spP K 2 f__law_point)) {a__law_third : Addr} {d__law_third : FuncData} (A__law_third : At K mg "_law_third" s__law_third ["_law_a", "_law_b", "_law_script"] a__law_third d__law_third) (G__law_third : FnOk P w K mg base CX0 3 a__law_third d__law_third ["_law_a", "_law_b", "_law_script"] (spP K 3 f__law_third)) {a__law_sign : Addr} {d__law_sign : FuncData} (A__law_sign : At K mg "_law_sign" s__law_sign ["_law_a", "_law_b", "_law_c"] a__law_sign d__law_sign) (G__law_sign : FnOk P w K mg base CX0 1 a__law_sign d__law_sign ["_law_a", "_law_b", "_law_c"] (spP K 3 f__law_sign)) {a_side_of : Addr} {d_side_of : FuncData} (A_side_of : At K mg "side_of" s_side_of ["a", "b", "c"] a_side_of d_side_of) (G_side_of : FnOk P w K mg base CX0 1 a_side_of d_side_of ["a", "b", "c"] (spP K 3 f_side_of)) {a__law_whole : Addr} {d__law_whole : FuncData} (A__law_whole : At K mg "_law_whole" s__law_whole ["_law_found"] a__law_whole d__law_whole) (G__law_whole : FnOk P w K mg base CX0 1 a__law_whole d__law_whole ["_law_found"] (spP K 1 f__law_whole)) {a : Addr} {d : FuncData} (A : At K mg "law" s_law ["_law_script"] a d) : FnOk P w K mg base CX0 4 a d ["_law_script"] (spP K 1 f_law) :=
  fn_ok A.F sc_law rfl fun cdv A outer s H E hr => by
    have hu := hr.units
    unfold b_law
    exact (q_seq (q_fz sc_law.nd (q_call G__law_point (hr.mono (by decide)) rfl A__law_point.m A__law_point.F.kp A__law_point.b (q_cons (qv 0) (q_cons q_int q_nil))))
      (q_seq (q_fz sc_law.nd (q_call G__law_point (hr.mono (by decide)) rfl A__law_point.m A__law_point.F.kp A__law_point.b (q_cons (qv 0) (q_cons q_int q_nil))))
      (q_seq (q_fz sc_law.nd (q_call G__law_third (hr.mono (by decide)) rfl A__law_third.m A__law_third.F.kp A__law_third.b (q_cons (qv 1) (q_cons (qv 2) (q_cons (qv 0) q_nil)))))
      (q_seq (q_fz sc_law.nd (q_call G__law_sign (hr.mono (by decide)) rfl A__law_sign.m A__law_sign.F.kp A__law_sign.b (q_cons (qv 1) (q_cons (qv 2) (q_cons (qv 3) q_nil)))))
      (q_seq (q_fz sc_law.nd (q_call G__law_point (hr.mono (by decide)) rfl A__law_point.m A__law_point.F.kp A__law_point.b (q_cons (qv 0) (q_cons q_int q_nil))))
      (q_seq (q_fzLc (own := [("_law_x", 12), ("_law_y", 13)]) rfl sc_law.nd (q_iseq (q_tup (q_cons (qv 1) (q_cons (qv 2) (q_cons (qv 3) q_nil))))) (blkOk_by (N := N_law) (sc := defScope s_law) (by decide +kernel)) (fun _ _ _ _ _ => (g_tup rfl (gs_cons (g_name sc_law.nd) (gs_cons (g_name sc_law.nd) gs_nil)))) (fun _ _ _ _ _ => pts_yes) (fun _ _ _ _ _ => (q_tup (q_cons (q_bin o_add (qv 12) (q_idx (qv 5) q_int (fun _ _ => rfl))) (q_cons (q_bin o_add (qv 13) (q_idx (qv 5) q_int (fun _ _ => rfl))) q_nil)))) (sw_true rfl rfl rfl (by decide +kernel)))
      (q_seq (q_for PassesOwn.never rfl (q_iseq (q_tup (q_cons (q_tup (q_cons (qv 1) (q_cons (qv 2) (q_cons (qv 3) (q_cons (qv 4) q_nil))))) (q_cons (q_tup (q_cons (qv 2) (q_cons (qv 3) (q_cons (qv 1) (q_cons (qv 4) q_nil))))) (q_cons (q_tup (q_cons (qv 2) (q_cons (qv 1) (q_cons (qv 3) (q_cons (q_bin o_sub q_int (qv 4)) q_nil))))) q_nil))))) (g_tup rfl (gs_cons (g_name sc_law.nd) (gs_cons (g_name sc_law.nd) (gs_cons (g_name sc_law.nd) (gs_cons (g_name sc_law.nd) gs_nil))))) (q_seq (q_fz sc_law.nd (q_call G_side_of (hr.mono (by decide)) rfl A_side_of.m A_side_of.F.kp A_side_of.b (q_cons (qv 7) (q_cons (qv 8) (q_cons (qv 9) q_nil)))))
      (q_sone (q_sif (PW.pt (q_or (q_not (q_tval (q_call G__law_whole (hr.mono (by decide)) rfl A__law_whole.m A__law_whole.F.kp A__law_whole.b (q_cons (qv 11) q_nil)))) (q_or1 (q_tcmp (o_ne hu) (qv 11) (qv 10) (nomark _))))) (q_sone (q_ret q_bl)) q_snil))))
      (q_sone (q_ret (q_cmp (o_eq hu) (q_call G_side_of (hr.mono (by decide)) rfl A_side_of.m A_side_of.F.kp A_side_of.b (q_cons (q_idx (qv 6) q_int (fun _ _ => rfl)) (q_cons (q_idx (qv 6) q_int (fun _ _ => rfl)) (q_cons (q_idx (qv 6) q_int (fun _ _ => rfl)) q_nil)))) (qv 4) (nomark _)))))))))))
end
def spLaw (K : PySem.W.Frag) : Sp := spP K 1 f_law
theorem all_mk {l : PySem.W.OpenLaw} {w : World} {K : PySem.W.Frag} {h : Heap} {mg : Str → Option Value} {fa : Addr} (X : K.In h) (G : h.Ns mainGlobals mg) (hfa : mg "law" = some (.ref fa))
    {a0 : Addr} {od0 an0 : Option Addr} {sl0 : Array (Option Value)} {oc0 kV0 dc0 pm0 cd0 ct0 : Value} {a1 : Addr} {od1 an1 : Option Addr} {sl1 : Array (Option Value)} {oc1 kV1 dc1 pm1 cd1 ct1 : Value} {a2 : Addr} {od2 an2 : Option Addr} {sl2 : Array (Option Value)} {oc2 kV2 dc2 pm2 cd2 ct2 : Value} {a3 : Addr} {od3 an3 : Option Addr} {sl3 : Array (Option Value)} {oc3 kV3 dc3 pm3 cd3 ct3 : Value} {a4 : Addr} {od4 an4 : Option Addr} {sl4 : Array (Option Value)} {oc4 kV4 dc4 pm4 cd4 ct4 : Value} {a5 : Addr} {od5 an5 : Option Addr} {sl5 : Array (Option Value)} {oc5 kV5 dc5 pm5 cd5 ct5 : Value} {a6 : Addr} {od6 an6 : Option Addr} {sl6 : Array (Option Value)} {oc6 kV6 dc6 pm6 cd6 ct6 : Value} {a7 : Addr} {od7 an7 : Option Addr} {sl7 : Array (Option Value)} {oc7 kV7 dc7 pm7 cd7 ct7 : Value}
    (g0 : PySem.W.nsIn K mainGlobals "_law_number" = some (some (.ref a0))) (l0 : K.lookup a0 = some ⟨oc0, od0, .func (PySem.W.fnOf "_law_number" "_law_number" (defArgs s__law_number) (defBody s__law_number) (defScope s__law_number) .none kV0 dc0 pm0 an0 cd0 ct0), sl0⟩) (c0 : PySem.W.codeIn K cd0 "_law_number" = true) (k0 : PySem.W.keepIn K (.ref a0) = true)
    (g1 : PySem.W.nsIn K mainGlobals "_law_cell_at" = some (some (.ref a1))) (l1 : K.lookup a1 = some ⟨oc1, od1, .func (PySem.W.fnOf "_law_cell_at" "_law_cell_at" (defArgs s__law_cell_at) (defBody s__law_cell_at) (defScope s__law_cell_at) .none kV1 dc1 pm1 an1 cd1 ct1), sl1⟩) (c1 : PySem.W.codeIn K cd1 "_law_cell_at" = true) (k1 : PySem.W.keepIn K (.ref a1) = true)
    (g2 : PySem.W.nsIn K mainGlobals "_law_point" = some (some (.ref a2))) (l2 : K.lookup a2 = some ⟨oc2, od2, .func (PySem.W.fnOf "_law_point" "_law_point" (defArgs s__law_point) (defBody s__law_point) (defScope s__law_point) .none kV2 dc2 pm2 an2 cd2 ct2), sl2⟩) (c2 : PySem.W.codeIn K cd2 "_law_point" = true) (k2 : PySem.W.keepIn K (.ref a2) = true)
    (g3 : PySem.W.nsIn K mainGlobals "_law_third" = some (some (.ref a3))) (l3 : K.lookup a3 = some ⟨oc3, od3, .func (PySem.W.fnOf "_law_third" "_law_third" (defArgs s__law_third) (defBody s__law_third) (defScope s__law_third) .none kV3 dc3 pm3 an3 cd3 ct3), sl3⟩) (c3 : PySem.W.codeIn K cd3 "_law_third" = true) (k3 : PySem.W.keepIn K (.ref a3) = true)
    (g4 : PySem.W.nsIn K mainGlobals "_law_sign" = some (some (.ref a4))) (l4 : K.lookup a4 = some ⟨oc4, od4, .func (PySem.W.fnOf "_law_sign" "_law_sign" (defArgs s__law_sign) (defBody s__law_sign) (defScope s__law_sign) .none kV4 dc4 pm4 an4 cd4 ct4), sl4⟩) (c4 : PySem.W.codeIn K cd4 "_law_sign" = true) (k4 : PySem.W.keepIn K (.ref a4) = true)
    (g5 : PySem.W.nsIn K mainGlobals "side_of" = some (some (.ref a5))) (l5 : K.lookup a5 = some ⟨oc5, od5, .func (PySem.W.fnOf "side_of" "side_of" (defArgs s_side_of) (defBody s_side_of) (defScope s_side_of) .none kV5 dc5 pm5 an5 cd5 ct5), sl5⟩) (c5 : PySem.W.codeIn K cd5 "side_of" = true) (k5 : PySem.W.keepIn K (.ref a5) = true)
    (g6 : PySem.W.nsIn K mainGlobals "_law_whole" = some (some (.ref a6))) (l6 : K.lookup a6 = some ⟨oc6, od6, .func (PySem.W.fnOf "_law_whole" "_law_whole" (defArgs s__law_whole) (defBody s__law_whole) (defScope s__law_whole) .none kV6 dc6 pm6 an6 cd6 ct6), sl6⟩) (c6 : PySem.W.codeIn K cd6 "_law_whole" = true) (k6 : PySem.W.keepIn K (.ref a6) = true)
    (g7 : PySem.W.nsIn K mainGlobals "law" = some (some (.ref a7))) (l7 : K.lookup a7 = some ⟨oc7, od7, .func (PySem.W.fnOf "law" "law" (defArgs s_law) (defBody s_law) (defScope s_law) .none kV7 dc7 pm7 an7 cd7 ct7), sl7⟩) (c7 : PySem.W.codeIn K cd7 "law" = true) (k7 : PySem.W.keepIn K (.ref a7) = true)
    (z_bool : PySem.W.nsIn K mainGlobals "bool" = some none)
    (z_int : PySem.W.nsIn K mainGlobals "int" = some none)
    (z_isinstance : PySem.W.nsIn K mainGlobals "isinstance" = some none)
    (z_len : PySem.W.nsIn K mainGlobals "len" = some none)
    (z_range : PySem.W.nsIn K mainGlobals "range" = some none)
    : ∃ fd : FuncData, (∀ (s : Shared) (v : Value), BindsTo s fd ⟨[v], []⟩ [("_law_script", v)]) ∧ ∀ base : Heap, K.In base → base.Ns mainGlobals mg → FnOk l.prog w K mg base CX0 4 fa fd ["_law_script"] (spLaw K) := by
  have e := hfa.symm.trans (PySem.W.mg_of X G g7)
  cases e
  have T : Txt K mg := ⟨PySem.W.mg_none_of X G z_bool, PySem.W.mg_none_of X G z_int, PySem.W.mg_none_of X G z_isinstance, PySem.W.mg_none_of X G z_len, PySem.W.mg_none_of X G z_range, trivial⟩
  have F0 := fun_mk (st := s__law_number) l0 c0 k0
  have A0 : At K mg "_law_number" s__law_number ["_law_cell", "_law_k"] _ _ := ⟨F0, PySem.W.mg_of X G g0, F0.binds (ps := ["_law_cell", "_law_k"]) fun _ _ _ _ _ _ us hl => match us, hl with | [_, _], _ => rfl⟩
  have F1 := fun_mk (st := s__law_cell_at) l1 c1 k1
  have A1 : At K mg "_law_cell_at" s__law_cell_at ["_law_script", "_law_k"] _ _ := ⟨F1, PySem.W.mg_of X G g1, F1.binds (ps := ["_law_script", "_law_k"]) fun _ _ _ _ _ _ us hl => match us, hl with | [_, _], _ => rfl⟩
  have F2 := fun_mk (st := s__law_point) l2 c2 k2
  have A2 : At K mg "_law_point" s__law_point ["_law_script", "_law_k"] _ _ := ⟨F2, PySem.W.mg_of X G g2, F2.binds (ps := ["_law_script", "_law_k"]) fun _ _ _ _ _ _ us hl => match us, hl with | [_, _], _ => rfl⟩
  have F3 := fun_mk (st := s__law_third) l3 c3 k3
  have A3 : At K mg "_law_third" s__law_third ["_law_a", "_law_b", "_law_script"] _ _ := ⟨F3, PySem.W.mg_of X G g3, F3.binds (ps := ["_law_a", "_law_b", "_law_script"]) fun _ _ _ _ _ _ us hl => match us, hl with | [_, _, _], _ => rfl⟩
  have F4 := fun_mk (st := s__law_sign) l4 c4 k4
  have A4 : At K mg "_law_sign" s__law_sign ["_law_a", "_law_b", "_law_c"] _ _ := ⟨F4, PySem.W.mg_of X G g4, F4.binds (ps := ["_law_a", "_law_b", "_law_c"]) fun _ _ _ _ _ _ us hl => match us, hl with | [_, _, _], _ => rfl⟩
  have F5 := fun_mk (st := s_side_of) l5 c5 k5
  have A5 : At K mg "side_of" s_side_of ["a", "b", "c"] _ _ := ⟨F5, PySem.W.mg_of X G g5, F5.binds (ps := ["a", "b", "c"]) fun _ _ _ _ _ _ us hl => match us, hl with | [_, _, _], _ => rfl⟩
  have F6 := fun_mk (st := s__law_whole) l6 c6 k6
  have A6 : At K mg "_law_whole" s__law_whole ["_law_found"] _ _ := ⟨F6, PySem.W.mg_of X G g6, F6.binds (ps := ["_law_found"]) fun _ _ _ _ _ _ us hl => match us, hl with | [_], _ => rfl⟩
  have F7 := fun_mk (st := s_law) l7 c7 k7
  have A7 : At K mg "law" s_law ["_law_script"] _ _ := ⟨F7, PySem.W.mg_of X G g7, F7.binds (ps := ["_law_script"]) fun _ _ _ _ _ _ us hl => match us, hl with | [_], _ => rfl⟩
  exact ⟨PySem.W.fnOf "law" "law" (defArgs s_law) (defBody s_law) (defScope s_law) .none kV7 dc7 pm7 an7 cd7 ct7, fun s v => .of_eq rfl, fun base _ _ => by
    have G0 : FnOk l.prog w K mg base CX0 1 _ _ ["_law_cell", "_law_k"] (spP K 2 f__law_number) := ok__law_number T  A0
    have G1 : FnOk l.prog w K mg base CX0 1 _ _ ["_law_script", "_law_k"] (spP K 2 f__law_cell_at) := ok__law_cell_at T  A1
    have G2 : FnOk l.prog w K mg base CX0 2 _ _ ["_law_script", "_law_k"] (spP K 2 f__law_point) := ok__law_point T A0 G0 A1 G1 A2
    have G3 : FnOk l.prog w K mg base CX0 3 _ _ ["_law_a", "_law_b", "_law_script"] (spP K 3 f__law_third) := ok__law_third T A1 G1 A2 G2 A3
    have G4 : FnOk l.prog w K mg base CX0 1 _ _ ["_law_a", "_law_b", "_law_c"] (spP K 3 f__law_sign) := ok__law_sign T  A4
    have G5 : FnOk l.prog w K mg base CX0 1 _ _ ["a", "b", "c"] (spP K 3 f_side_of) := ok_side_of T  A5
    have G6 : FnOk l.prog w K mg base CX0 1 _ _ ["_law_found"] (spP K 1 f__law_whole) := ok__law_whole T  A6
    have G7 : FnOk l.prog w K mg base CX0 4 _ _ ["_law_script"] (spP K 1 f_law) := ok_law T A2 G2 A3 G3 A4 G4 A5 G5 A6 G6 A7
    exact G7⟩
theorem walk {l : PySem.W.OpenLaw} {q : Program} {loose : List Str} {XP : (Str → Option Value) → Heap → Prop} {YP : World → Heap → Prop} {d : DefRec} {K : Params → PySem.W.Frag} (hn : l.most = some 63) (hdf : d.params.defaults = [])
    (hmain : ∀ ns : List Int, ns.length ≤ 63 → (∀ z ∈ ns, Builtin.Int.intBits z ≤ 1048576) → f_law [.list (ns.map .int)] = some (.fz (.bool true)))
    (hY : ∀ (w : World) (h : Heap), YP w h → (K w.params).In h)
    (F : ∀ (w : World) (mg : Str → Option Value) (fa : Addr) (h : Heap), (K w.params).In h → h.Ns mainGlobals mg → mg d.name = some (.ref fa) →
      ∃ fd : FuncData, (∀ (s : Shared) (u : Value), BindsTo s fd ⟨[u], []⟩ [("_law_script", u)]) ∧ ∀ base : Heap, (K w.params).In base → base.Ns mainGlobals mg → FnOk l.prog w (K w.params) mg base CX0 4 fa fd ["_law_script"] (spLaw (K w.params))) :
    PySem.W.WalkO q loose XP YP l.row.toRowW d [] (fun f vs => PySem.call f vs) :=
  L2.walk_ofB (n := 63) (k := 4) (x := "_law_script") (CX := fun _ => CX0) (sp := fun w => spLaw (K w.params)) hn (by decide) hdf ⟨rfl, by decide, by decide⟩ hY F (fun w H a ns hl hb hO hS => law_start hl (hmain ns hl hb) hO hS) fun _ _ _ _ _ z => z
end Law
open PySem PySem.W PyProof.Rows in
set_option maxRecDepth 100000 in
set_option maxHeartbeats 0 in
theorem PySem.Challenge.cw_threetrees_k24_sides_of_points_holds : PySem.Challenge.rw_threetrees_k24_sides_of_points.Holds := by
  w_on; o_law; k_head; (case hw => w_witness2)
  k_fill
  refine Law.walk (l := PySem.Challenge.rw_threetrees_k24_sides_of_points) rfl rfl Law.main_law (fun w h Y => PySem.W.kIn_of Y) ?F
  case F =>
    intro w mg fa h KX G hmg
    refine' Law.all_mk KX G hmg ?pug0 ?pul0 ?puc0 ?puk0 ?pug1 ?pul1 ?puc1 ?puk1 ?pug2 ?pul2 ?puc2 ?puk2 ?pug3 ?pul3 ?puc3 ?puk3 ?pug4 ?pul4 ?puc4 ?puk4 ?pug5 ?pul5 ?puc5 ?puk5 ?pug6 ?pul6 ?puc6 ?puk6 ?pug7 ?pul7 ?puc7 ?puk7 ?puz_bool ?puz_int ?puz_isinstance ?puz_len ?puz_range
    (case pug0 => k_is)
    (case pul0 => k_is)
    (case puc0 => k_is)
    (case puk0 => k_is)
    (case pug1 => k_is)
    (case pul1 => k_is)
    (case puc1 => k_is)
    (case puk1 => k_is)
    (case pug2 => k_is)
    (case pul2 => k_is)
    (case puc2 => k_is)
    (case puk2 => k_is)
    (case pug3 => k_is)
    (case pul3 => k_is)
    (case puc3 => k_is)
    (case puk3 => k_is)
    (case pug4 => k_is)
    (case pul4 => k_is)
    (case puc4 => k_is)
    (case puk4 => k_is)
    (case pug5 => k_is)
    (case pul5 => k_is)
    (case puc5 => k_is)
    (case puk5 => k_is)
    (case pug6 => k_is)
    (case pul6 => k_is)
    (case puc6 => k_is)
    (case puk6 => k_is)
    (case pug7 => k_is)
    (case pul7 => k_is)
    (case puc7 => k_is)
    (case puk7 => k_is)
    (case puz_bool => k_is)
    (case puz_int => k_is)
    (case puz_isinstance => k_is)
    (case puz_len => k_is)
    (case puz_range => k_is)

end
